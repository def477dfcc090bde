import PyProof.Rows.All
import Wide.All
import OpenK.AllK
import Wide.FinOn
import KE.KStateDown
import Lean
import HandS.ForMost
import HandS.Exc
import HandS.TryOnly
import HandS.ExcOwn
import HandS.WordsExc
import HandS.Defaults
import HandS.Wide
import HandS.IsInst
import HandS.Star
import HandS.Property
import HandS.Flow
import HandS.Style
import HandS.Codes
import HandS.Head0
import HandS.Head1
import HandS.Head2
import HandS.HeadEnd
import HandS.HeadHook1
import HandS.HeadHook2
import PySem.Challenge.RW_ringindexes_k05_counters_stepped
set_option Elab.async false
set_option linter.all false
set_option maxRecDepth 100000
set_option maxHeartbeats 4000000
/-! GEN A: the head's facts as a list of Bool functions of the written part. -/
namespace Rg
open PySem PySem.Spec PyProof.Rows L2
abbrev Fct := PySem.W.Frag → Bool
/-- one def of the text: where it stands behind the top, what it is -/
structure DefM where
  loc : PySem.W.Frag → Addr
  name : Str
  qual : Str
  params : Arguments
  body : List Stmt
  scope : Scope
  dfl : List He.Dv
  kwd : List (Str × He.Dv)
abbrev SeenF : Type := Option (Str × Str × Arguments × FuncBody × Scope × (Addr × List (Str × Addr) × Addr))
def fnAt (K : PySem.W.Frag) (a : Addr) : Option FuncData := (K.lookup a).bind fun o => match o.data with
  | .func fd => some fd
  | _ => none
def DefM.seen (K : PySem.W.Frag) (d : DefM) : SeenF := (fnAt K (d.loc K)).map fun fd => (fd.name, fd.qualname, fd.params, fd.body, fd.scope, (fd.globals, fd.closure, fd.builtins))
def DefM.val (d : DefM) : SeenF := some (d.name, d.qual, d.params, .stmts d.body, d.scope, (mainGlobals, [], builtinsNs))
def DefM.dvs (K : PySem.W.Frag) (d : DefM) : List V := d.dfl.map (He.Dv.v K)
def DefM.kws (K : PySem.W.Frag) (d : DefM) : List (Str × V) := d.kwd.map fun q => (q.1, q.2.v K)
def DefM.ok (K : PySem.W.Frag) (d : DefM) : Bool := PySem.W.keepIn K (.ref (d.loc K)) && ((fnAt K (d.loc K)).any fun fd =>
  PySem.W.codeIn K fd.code d.qual && (He.dflB K fd.defaults (d.dvs K) && He.kwdB K fd.kwdefaults (d.kws K)))
theorem DefM.funD {K : PySem.W.Frag} {d : DefM} (e : d.seen K = d.val) (c : d.ok K = true) : ∃ fd, FunD K d.name d.qual d.params d.body d.scope (d.dvs K) (d.kws K) (d.loc K) fd := by
  obtain ⟨kp, c⟩ := Bool.and_eq_true_iff.mp c
  unfold DefM.seen DefM.val at e
  obtain ⟨fd, hf, e⟩ := Option.map_eq_some_iff.mp e
  rw [hf] at c
  simp only [Option.any_some, Bool.and_eq_true] at c
  obtain ⟨c1, c2, c3⟩ := c
  obtain ⟨o, ho, hd⟩ := Option.bind_eq_some_iff.mp hf
  obtain ⟨oc, od, dt, osl⟩ := o
  cases dt <;> first | cases hd | skip
  obtain ⟨n1, n2, n3, n4, n5, n6, n7, n8, n9, n10, n11, n12, n13, n14, n15⟩ := fd
  simp only [Prod.mk.injEq] at e
  obtain ⟨h1, h2, h3, h4, h5, h6, h7, h8⟩ := e
  subst h1 h2 h3 h4 h5 h6 h7 h8
  exact ⟨_, ⟨oc, od, n8, n9, n10, n11, n12, n13, n14, osl, rfl, ho, c1, He.dflB_ok c2, He.kwdB_ok c3⟩, kp⟩
/-- a property's getter and setter, a static method's def -/
def pgA (C f : Str) (K : PySem.W.Frag) : Addr := match PySem.W.recIn K (He.ma K (He.ga K C) f) "property" with
  | some (.ref g :: _) => g
  | _ => 0
def psA (C f : Str) (K : PySem.W.Frag) : Addr := match PySem.W.recIn K (He.ma K (He.ga K C) f) "property" with
  | some (_ :: .ref g :: _) => g
  | _ => 0
def smA (C f : Str) (K : PySem.W.Frag) : Addr := match PySem.W.recIn K (He.ma K (He.ga K C) f) "staticmethod" with
  | some (.ref g :: _) => g
  | _ => 0
abbrev AlM : Type := Bool × List SeenF
def obsM (fs : List Fct) (fn : List DefM) (K : PySem.W.Frag) : AlM := ((fs.all fun f => f K) && fn.all fun d => d.ok K, fn.map fun d => d.seen K)
def valM (fn : List DefM) : AlM := (true, fn.map DefM.val)
def SaysM (fs : List Fct) (fn : List DefM) (K : PySem.W.Frag) : Prop := obsM fs fn K = valM fn
def obsMG (n : Nat) (fs : List Fct) (fn : List DefM) (g : Addr → Option Obj) : AlM := obsM fs fn (He.frG g (He.asD g n))
def hookM (n : Nat) (fs : List Fct) (fn : List DefM) : PySem.W.Hook :=
  { α := AlM, obs := fun s => obsMG n fs fn s.heap.get?, val := fun _ => valM fn,
    says := fun _ h => ∃ K : PySem.W.Frag, K.In h ∧ SaysM fs fn K,
    of := fun _ _ e => ⟨_, He.frG_in, e⟩,
    keeps := fun _ _ _ z k => z.elim fun K q => ⟨K, PySem.W.Frag.In.keeps q.1 k, q.2⟩ }
theorem obsMG_eq {n : Nat} {fs : List Fct} {fn : List DefM} {g : Addr → Option Obj} {s : Shared} (h : ∀ a, g a = s.heap.get? a) :
    obsMG n fs fn g = (hookM n fs fn).obs s := by
  have q : g = s.heap.get? := funext h
  subst q
  rfl
theorem SaysM.fact {fs : List Fct} {fn : List DefM} {K : PySem.W.Frag} (c : SaysM fs fn K) (i : Nat) {f : Fct} (h : fs[i]? = some f) : f K = true := by
  have c0 : ((fs.all fun f => f K) && fn.all fun d => d.ok K) = true := congrArg (fun z : AlM => z.1) c
  exact List.all_eq_true.mp (Bool.and_eq_true_iff.mp c0).1 f (List.mem_of_getElem? h)
theorem SaysM.dfn {fs : List Fct} {fn : List DefM} {K : PySem.W.Frag} (c : SaysM fs fn K) (i : Nat) {d : DefM} (h : fn[i]? = some d) :
    ∃ fd, FunD K d.name d.qual d.params d.body d.scope (d.dvs K) (d.kws K) (d.loc K) fd := by
  have c0 : ((fs.all fun f => f K) && fn.all fun d => d.ok K) = true := congrArg (fun z : AlM => z.1) c
  have c1 : fn.map (fun d => d.seen K) = fn.map DefM.val := congrArg (fun z : AlM => z.2) c
  have c2 := congrArg (fun l : List SeenF => l[i]?) c1
  simp only [List.getElem?_map, h, Option.map_some, Option.some.injEq] at c2
  exact DefM.funD c2 (List.all_eq_true.mp (Bool.and_eq_true_iff.mp c0).2 d (List.mem_of_getElem? h))
/-- what the top has left -/
structure Top (fs : List Fct) (fn : List DefM) (K : PySem.W.Frag) (mg : Str → Option Value) : Prop where
  c : SaysM fs fn K
  ex : ∃ h : Heap, K.In h ∧ h.Ns mainGlobals mg
section
variable {fs : List Fct} {fn : List DefM} {K : PySem.W.Frag} {mg : Str → Option Value}
theorem Top.glo (T : Top fs fn K mg) {x : Str} (i : Nat) (h : fs[i]? = some (He.Fa.glo x).ok) : mg x = some (.ref (He.ga K x)) :=
  T.ex.elim fun _ q => He.glo_ok q.1 q.2 (T.c.fact i h)
theorem Top.free (T : Top fs fn K mg) {x : Str} (i : Nat) (h : fs[i]? = some (He.Fa.free x).ok) : mg x = none :=
  T.ex.elim fun _ q => He.free_ok q.1 q.2 (T.c.fact i h)
theorem Top.int (T : Top fs fn K mg) {x : Str} {n : Int} (i : Nat) (h : fs[i]? = some (He.Fa.int x n).ok) : ∃ t, mg x = some (.int n t) :=
  T.ex.elim fun _ q => He.int_ok q.1 q.2 (T.c.fact i h)
theorem Top.str (T : Top fs fn K mg) {x z : Str} (i : Nat) (h : fs[i]? = some (He.Fa.str x z).ok) : ∃ t, mg x = some (.str z t) :=
  T.ex.elim fun _ q => He.str_ok q.1 q.2 (T.c.fact i h)
theorem Top.cls (T : Top fs fn K mg) {x : Str} (i : Nat) (h : fs[i]? = some (He.Fa.cls x).ok) : Cls K (He.ga K x) := He.cls_ok (T.c.fact i h)
theorem Top.noat (T : Top fs fn K mg) {x f : Str} (i : Nat) (h : fs[i]? = some (He.Fa.noat x f).ok) : NoAttr K (He.ga K x) f := He.noat_ok (T.c.fact i h)
theorem Top.meth (T : Top fs fn K mg) {x m : Str} (i : Nat) (h : fs[i]? = some (He.Fa.meth x m).ok) : Meth K (He.ga K x) m (He.ma K (He.ga K x) m) := He.meth_ok (T.c.fact i h)
theorem Top.mkr (T : Top fs fn K mg) {x : Str} (i : Nat) (h : fs[i]? = some (He.Fa.mkr x).ok) : Mk K (He.ga K x) (He.ma K (He.ga K x) "__init__") := He.mkr_ok (T.c.fact i h)
end
/-- a def's promise with all that a caller wants -/
structure Has (P : Program) (w : World) (K : PySem.W.Frag) (mg : Str → Option Value) (base : Heap) (CX : CXT) (k : Nat) (f : Addr) (ps : List Str) (dvs : List V) (sp : Sp) : Prop where
  ex : ∃ (fd : FuncData) (ds : List Value), FnOk P w K mg base CX k f fd ps sp ∧ Binds K fd ps ds ∧ Vals dvs ds
  kp : PySem.W.keepIn K (.ref f) = true
end Rg
/-! GEN B: calls by Has; the bodies' rules. -/
namespace Rg
open PySem PySem.Spec PyProof.Rows L2
section
variable {P : Program} {w : World} {K : PySem.W.Frag} {mg : Str → Option Value} {base : Heap} {x qual : Str} {params : Arguments} {body : List Stmt} {scope : Scope} {dvs : List V} {kws : List (Str × V)} {f : Addr} {fd : FuncData} {N ps : List Str} {k : Nat} {sp : Sp}
abbrev BindsAll (x qual : Str) (params : Arguments) (body : List Stmt) (scope : Scope) (ps : List Str) : Prop :=
  ∀ (kV doc pm : Value) (an : Option Addr) (cdv ct : Value) (us : List Value), us.length = ps.length → bindArgs (PySem.W.fnOf x qual params body scope .none kV doc pm an cdv ct) ⟨us, []⟩ = pure (ps.zip us)
/-- a def that lets nothing out -/
theorem Has.of0 (F : FunD K x qual params body scope [] kws f fd) (S : FnScope N ps scope) (b : BindsAll x qual params body scope ps) (len : ∀ vs H Q E, sp vs H Q E → vs.length = ps.length)
    (go : ∀ (cdv : Value) (A : Around) (outer : List Env) (s : Shared) (H : Hp) (vs : List V) (Q : VK) (E : XK), Room k (A.deeper (envOfC qual scope s.heap.objs.size f cdv)) → sp vs H Q E →
      ∃ t, PSs (cxOf CX0 P w K mg base N qual scope f cdv A outer s H E).nox body t ∧ t { nx := fun _ H' => Q .non H', rt := Q } (start N vs) H) : Has P w K mg base CX0 (k + 1) f ps [] sp :=
  ⟨⟨fd, [], F.ok S len fun cdv A outer s H vs Q E hr h => (go cdv A outer s H vs Q E hr h).elim fun t z => ⟨t, z.1.nox, z.2⟩, F.bindsN b, .nil⟩, F.kp⟩
theorem fn0 (F : FunD K x qual params body scope [] kws f fd) (S : FnScope N ps scope) (len : ∀ vs H Q E, sp vs H Q E → vs.length = ps.length)
    (go : ∀ (cdv : Value) (A : Around) (outer : List Env) (s : Shared) (H : Hp) (vs : List V) (Q : VK) (E : XK), Room k (A.deeper (envOfC qual scope s.heap.objs.size f cdv)) → sp vs H Q E →
      ∃ t, PSs (cxOf CX0 P w K mg base N qual scope f cdv A outer s H E).nox body t ∧ t { nx := fun _ H' => Q .non H', rt := Q } (start N vs) H) : FnOk P w K mg base CX0 (k + 1) f fd ps sp :=
  F.ok S len fun cdv A outer s H vs Q E hr h => (go cdv A outer s H vs Q E hr h).elim fun t z => ⟨t, z.1.nox, z.2⟩
/-- a def that may raise -/
theorem Has.ofX (F : FunD K x qual params body scope [] kws f fd) (S : FnScope N ps scope) (b : BindsAll x qual params body scope ps) (len : ∀ vs H Q E, sp vs H Q E → vs.length = ps.length)
    (go : ∀ (cdv : Value) (A : Around) (outer : List Env) (s : Shared) (H : Hp) (vs : List V) (Q : VK) (E : XK), Room k (A.deeper (envOfC qual scope s.heap.objs.size f cdv)) → sp vs H Q E →
      ∃ t, PSs (cxOf (L2.CX P w) P w K mg base N qual scope f cdv A outer s H E) body t ∧ t { nx := fun _ H' => Q .non H', rt := Q } (start N vs) H) : Has P w K mg base (L2.CX P w) (k + 1) f ps [] sp :=
  ⟨⟨fd, [], F.ok S len go, F.bindsN b, .nil⟩, F.kp⟩
theorem Has.mono {CX : CXT} {j : Nat} (h : Has P w K mg base CX j f ps dvs sp) (l : j ≤ k) : Has P w K mg base CX k f ps dvs sp :=
  ⟨h.ex.elim fun fd z => z.elim fun ds q => ⟨fd, ds, q.1.mono l, q.2⟩, h.kp⟩
theorem Has.imp {CX : CXT} {sp' : Sp} (h : Has P w K mg base CX k f ps dvs sp) (l : ∀ vs H Q E, sp' vs H Q E → sp vs H Q E) : Has P w K mg base CX k f ps dvs sp' :=
  ⟨h.ex.elim fun fd z => z.elim fun ds q => ⟨fd, ds, q.1.imp l, q.2⟩, h.kp⟩
end
section
variable {X : Cx} {CX : CXT} {k j : Nat} {f C : Addr} {ps : List Str} {sp : Sp} {dvs : List V} {E : XK} {x m : Str} {p pos apos : Pos} {e o : Expr} {es : List Expr} {ta : TE} {t : TA}
theorem pe_callH (G : Has X.prog X.w X.K X.mg X.base CX k f ps dvs sp) (hr : Room j X.A) (hm : X.mg x = some (.ref f)) (hx : Passes CX X E) (ha : PA X (e :: es) t) (hkj : k ≤ j := by decide) (hg : Gl X x := by rfl) (hdb : (x == ("__debug__" : Str)) = false := by decide)
    (he : starEach (e :: es) X.env = (false, eval e X.env) :: starEach es X.env := by rfl) (hpl : (backTo pos (starEach es X.env)).any (·.1) = false := by rfl) :
    PE X (.Call (.Name x p) (e :: es) [] pos) (tCall sp dvs E t) := by
  obtain ⟨fd, ds, g1, g2, g3⟩ := G.ex
  exact pe_call g1 (hr.mono hkj) hg hm G.kp g2 g3 hx ha hdb he hpl
theorem pe_call0H (G : Has X.prog X.w X.K X.mg X.base CX k f ps dvs sp) (hr : Room j X.A) (hm : X.mg x = some (.ref f)) (hx : Passes CX X E) (hkj : k ≤ j := by decide) (hg : Gl X x := by rfl) (hdb : (x == ("__debug__" : Str)) = false := by decide) :
    PE X (.Call (.Name x p) [] [] pos) (tCall sp dvs E tNil) := by
  obtain ⟨fd, ds, g1, g2, g3⟩ := G.ex
  exact pe_call0 g1 (hr.mono hkj) hg hm G.kp g2 g3 hx hdb
theorem pe_methH {pl : Sem Bool} (he : PE X o ta) (c : Cls X.K C) (hm : Meth X.K C m f) (G : Has X.prog X.w X.K X.mg X.base CX k f ps dvs sp) (hr : Room j X.A) (hx : Passes CX X E) (ha : PA X (e :: es) t) (hkj : k ≤ j := by decide)
    (hst : starEach (e :: es) X.env = (false, eval e X.env) :: starEach es X.env := by rfl) (hpl : (backTo pos (starEach es X.env)).any (·.1) = false := by rfl)
    (ht : eval (.Call (.Attribute o m apos) (e :: es) [] pos) X.env = (eval o X.env >>= fun ov => standAt apos.atName >>= fun _ => holding [ov] (getMethod ov m pl) >>= fun z => callWith pos z.1 z.2 (backTo pos (starEach (e :: es) X.env)) (backToKw pos (keywordEach [] X.env))) := by rfl) :
    PE X (.Call (.Attribute o m apos) (e :: es) [] pos) (tMeth C m sp dvs E ta t) := by
  obtain ⟨fd, ds, g1, g2, g3⟩ := G.ex
  exact pe_meth (pl := pl) he c hm g1 (hr.mono hkj) g2 g3 hx ha hst hpl ht
theorem pe_meth0H {pl : Sem Bool} (he : PE X o ta) (c : Cls X.K C) (hm : Meth X.K C m f) (G : Has X.prog X.w X.K X.mg X.base CX k f ps dvs sp) (hr : Room j X.A) (hx : Passes CX X E) (hkj : k ≤ j := by decide)
    (ht : eval (.Call (.Attribute o m apos) [] [] pos) X.env = (eval o X.env >>= fun ov => standAt apos.atName >>= fun _ => holding [ov] (getMethod ov m pl) >>= fun z => callWith pos z.1 z.2 (backTo pos (starEach [] X.env)) (backToKw pos (keywordEach [] X.env))) := by rfl) :
    PE X (.Call (.Attribute o m apos) [] [] pos) (tMeth C m sp dvs E ta tNil) := by
  obtain ⟨fd, ds, g1, g2, g3⟩ := G.ex
  exact pe_meth0 (pl := pl) he c hm g1 (hr.mono hkj) g2 g3 hx ht
theorem pe_makeH (M : Mk X.K C f) (G : Has X.prog X.w X.K X.mg X.base CX k f ps dvs sp) (hr : Room j X.A) (hm : X.mg x = some (.ref C)) (hx : Passes CX X E) (ha : PA X (e :: es) t) (hkj : k + 1 ≤ j := by decide) (hg : Gl X x := by rfl) (hdb : (x == ("__debug__" : Str)) = false := by decide)
    (he : starEach (e :: es) X.env = (false, eval e X.env) :: starEach es X.env := by rfl) (hpl : (backTo pos (starEach es X.env)).any (·.1) = false := by rfl) :
    PE X (.Call (.Name x p) (e :: es) [] pos) (tMake C sp dvs E t) := by
  obtain ⟨fd, ds, g1, g2, g3⟩ := G.ex
  exact pe_make M g1 (hr.mono hkj) hg hm g2 g3 hx ha hdb he hpl
theorem pe_make0H (M : Mk X.K C f) (G : Has X.prog X.w X.K X.mg X.base CX k f ps dvs sp) (hr : Room j X.A) (hm : X.mg x = some (.ref C)) (hx : Passes CX X E) (hkj : k + 1 ≤ j := by decide) (hg : Gl X x := by rfl) (hdb : (x == ("__debug__" : Str)) = false := by decide) :
    PE X (.Call (.Name x p) [] [] pos) (tMake C sp dvs E tNil) := by
  obtain ⟨fd, ds, g1, g2, g3⟩ := G.ex
  exact pe_make0 M g1 (hr.mono hkj) hg hm g2 g3 hx hdb
end
/-! ### numbers -/
theorem atI_of {α : Type} {xs : List α} {i : Int} {v : α} (h0 : 0 ≤ i) (h : xs[i.toNat]? = some v) : atI xs i = some v := by
  have e : ((i.toNat : Nat) : Int) = i := Int.toNat_of_nonneg h0
  rw [← e]
  exact atI_nat h
theorem bits_of {m : Int} {n : Nat} (h0 : 0 < m) (h : m < 2 ^ n) : m.natAbs < 2 ^ n := by
  have e : (m.natAbs : Int) = m := Int.natAbs_of_nonneg (Int.le_of_lt h0)
  have q : ((m.natAbs : Nat) : Int) < ((2 ^ n : Nat) : Int) := by rw [e, Int.natCast_pow]; exact h
  exact Int.ofNat_lt.mp q
end Rg
namespace Rg
open PySem PySem.Spec PyProof.Rows L2
/-! ### tests -/
theorem ifD {c A B : Prop} [Decidable c] (h1 : c → A) (h2 : ¬ c → B) : if decide c = true then A else B := by
  by_cases h : c
  · rw [if_pos (decide_eq_true h)]
    exact h1 h
  · rw [if_neg (fun z => h (of_decide_eq_true z))]
    exact h2 h
theorem ifN {c A B : Prop} [Decidable c] (h1 : ¬ c → A) (h2 : c → B) : if (!decide c) = true then A else B := by
  by_cases h : c
  · rw [decide_eq_true h, if_neg (by decide)]
    exact h2 h
  · rw [decide_eq_false h, if_pos (by decide)]
    exact h1 h
theorem ifB {c : Bool} {A B : Prop} (h1 : c = true → A) (h2 : c = false → B) : if c = true then A else B := by
  cases c
  · rw [if_neg (by decide)]
    exact h2 rfl
  · rw [if_pos rfl]
    exact h1 rfl
theorem ifY {c : Bool} {A B : Prop} (h : c = true) (h1 : A) : if c = true then A else B := by
  rw [if_pos h]
  exact h1
theorem ifF {c : Bool} {A B : Prop} (h : c = false) (h1 : B) : if c = true then A else B := by
  rw [h, if_neg (by decide)]
  exact h1
theorem emod_rng {a m : Int} (h : 0 < m) : 0 ≤ a % m ∧ a % m < m := ⟨Int.emod_nonneg _ (by omega), Int.emod_lt_of_pos _ h⟩
theorem mul_small {i j : Int} (h0 : 0 ≤ i) (h : i < 2 ^ 64) : CMul i j := .inl ⟨by omega, h⟩
theorem abs_nn (i : Int) : 0 ≤ if i < 0 then -i else i := by split <;> omega
end Rg
namespace Rg
theorem lenk {n : Nat} (h : Nat.ble n 1000 = true) : n ≤ PySem.sizeLine := Nat.le_trans (Nat.le_of_ble_eq_true h) (by decide)
end Rg
namespace Rg
open PySem PySem.Spec PyProof.Rows L2
/-- a law's promise: a list of at most 63 ints is handed in, True comes out -/
def sp_law (K : PySem.W.Frag) : Sp := fun vs H Q _ => ∃ (a : Addr) (ns : List Int), vs = [.ref a] ∧ SqL K H a (ns.map V.int) ∧ ns.length ≤ 63 ∧ ∀ H', Q (.bl true) H'
end Rg
namespace Rg
open PySem PySem.Spec PyProof.Rows L2
section
variable {P : Program} {w : World} {K : PySem.W.Frag} {mg : Str → Option Value} {base : Heap} {x qual : Str} {params : Arguments} {body : List Stmt} {scope : Scope} {dvs dv : List V} {kws : List (Str × V)} {f : Addr} {fd : FuncData} {N ps : List Str} {k : Nat} {sp : Sp}
/-- a def with defaults, of which dv fill up -/
theorem Has.ofXd (F : FunD K x qual params body scope dvs kws f fd) (S : FnScope N ps scope) (b : ∃ ds, Vals dv ds ∧ Binds K fd ps ds) (len : ∀ vs H Q E, sp vs H Q E → vs.length = ps.length)
    (go : ∀ (cdv : Value) (A : Around) (outer : List Env) (s : Shared) (H : Hp) (vs : List V) (Q : VK) (E : XK), Room k (A.deeper (envOfC qual scope s.heap.objs.size f cdv)) → sp vs H Q E →
      ∃ t, PSs (cxOf (L2.CX P w) P w K mg base N qual scope f cdv A outer s H E) body t ∧ t { nx := fun _ H' => Q .non H', rt := Q } (start N vs) H) : Has P w K mg base (L2.CX P w) (k + 1) f ps dv sp :=
  ⟨b.elim fun ds z => ⟨fd, ds, F.ok S len go, z.2, z.1⟩, F.kp⟩
theorem Has.of0d (F : FunD K x qual params body scope dvs kws f fd) (S : FnScope N ps scope) (b : ∃ ds, Vals dv ds ∧ Binds K fd ps ds) (len : ∀ vs H Q E, sp vs H Q E → vs.length = ps.length)
    (go : ∀ (cdv : Value) (A : Around) (outer : List Env) (s : Shared) (H : Hp) (vs : List V) (Q : VK) (E : XK), Room k (A.deeper (envOfC qual scope s.heap.objs.size f cdv)) → sp vs H Q E →
      ∃ t, PSs (cxOf CX0 P w K mg base N qual scope f cdv A outer s H E).nox body t ∧ t { nx := fun _ H' => Q .non H', rt := Q } (start N vs) H) : Has P w K mg base CX0 (k + 1) f ps dv sp :=
  ⟨b.elim fun ds z => ⟨fd, ds, F.ok S len fun cdv A outer s H vs Q E hr h => (go cdv A outer s H vs Q E hr h).elim fun t z => ⟨t, z.1.nox, z.2⟩, z.2, z.1⟩, F.kp⟩
end
end Rg
/-! GEN C: operators that an own class defines. -/
namespace Rg
open PySem PySem.Spec PyProof.Rows L2
/-- a special name of the class at C is the def at f -/
structure Dun (K : PySem.W.Frag) (C : Addr) (m : Str) (f : Addr) : Prop where
  at_ : PySem.W.findIn K (.ref C) m = some (some (.ref f))
  fn : PySem.W.isFn K (.ref f) = true
theorem Dun.of {K : PySem.W.Frag} {C f : Addr} {m : Str} (h : Meth K C m f) : Dun K C m f := ⟨h.1, h.2⟩
section
variable {X : Cx} {CX : CXT} {k j : Nat} {f C : Addr} {ps : List Str} {sp : Sp} {dvs : List V} {E : XK} {pins : List (Addr × Obj)} {σ : L2.St} {H : Hp} {s : Shared}
theorem ins_at {a dx : Addr} {fs : List (Str × V)} (I : Inv X pins σ H s) (h : H a = some (.ins C dx fs)) : ∃ ox od, PySem.W.InstAt s.heap a ox C od := by
  obtain ⟨mA, O, _⟩ := ins_get I.hok h
  obtain ⟨od, J, _⟩ := O.look
  exact ⟨_, _, J⟩
/-- a def runs, called by the machine at A (one or two levels in) -/
theorem run_at {A : Around} {Q : VK} {us : List Value} {vs : List V} (G : Has X.prog X.w X.K X.mg X.base CX k f ps dvs sp) (hr : Room k A) (he : Env0 X.prog X.w X.K X.mg X.base A X.stack s H) (hx : Passes CX X E)
    (I : Inv X pins σ H s) (r : Vals vs us) (h : sp (vs ++ dvs) H Q E) : wpAny (model X.prog X.w) A (call (.ref f) us) (EP X pins σ Q) X.xe s := by
  obtain ⟨fd, ds, g1, g2, g3⟩ := G.ex
  have q := r.append g3
  have hl : (us ++ ds).length = ps.length := q.length ▸ g1.len _ _ _ _ h
  refine wpAny_call (codeAny_mono (g1.run A X.stack s H ⟨us, []⟩ (us ++ ds) (vs ++ dvs) Q E hr he (g2 s us I.kIn hl) q h) fun z s' hz => ?_)
  match z, hz with
  | .error e, hz => exact hx pins σ H s e s' I hz
  | .ok (.ret u), hz => exact I.after hz
  | .ok .next, hz => exact False.elim hz
  | .ok .brk, hz => exact False.elim hz
  | .ok .cont, hz => exact False.elim hz
theorem run_here {Q : VK} {us : List Value} {vs : List V} (G : Has X.prog X.w X.K X.mg X.base CX k f ps dvs sp) (hr : Room j X.A) (hkj : k ≤ j) (hx : Passes CX X E)
    (I : Inv X pins σ H s) (r : Vals vs us) (h : sp (vs ++ dvs) H Q E) : wpAny (model X.prog X.w) X.A (call (.ref f) us) (EP X pins σ Q) X.xe s := run_at G (hr.mono hkj) I.env0 hx I r h
theorem ep_cmp {Q : VK} {u : Value} {s' : Shared} (h : EP X pins σ Q u s') : PySem.W.CmpBack (EP X pins σ Q) u s' := by
  cases u with
  | notImplemented =>
    obtain ⟨v, H', _, r, _⟩ := h
    cases v <;> first | exact (nomatch r) | (obtain ⟨_, r⟩ := r; cases r)
  | _ => exact h
/-- len(o) -/
def rLenO (C : Addr) (sp : Sp) (dvs : List V) (E : XK) : List V → Hp → VK → Prop := fun xs H Q => ∃ a dx fs, xs = [.ref a] ∧ H a = some (.ins C dx fs) ∧ sp (.ref a :: dvs) H (fun v H' => ∃ n : Int, v = .int n ∧ 0 ≤ n ∧ n < 2 ^ 63 ∧ Q v H') E
theorem call_lenO (d : Dun X.K C "__len__" f) (G : Has X.prog X.w X.K X.mg X.base CX k f ps dvs sp) (hr : Room j X.A) (hx : Passes CX X E) (hkj : k + 1 ≤ j := by decide) : CallR X (.builtin "len") (rLenO C sp dvs E) := by
  intro pins s σ H xs us Q I r h
  obtain ⟨a, dx, fs, rfl, ha, h⟩ := h
  obtain ⟨u, rfl, rfl⟩ := vals1 r
  obtain ⟨ox, od, J⟩ := ins_at I ha
  obtain ⟨m, F⟩ := I.fr
  refine PySem.W.len_K F I.mod.kin J d.at_ d.fn (wpAny_mono (run_at (vs := [.ref a]) G (Room.in1 (hr.mono hkj)) I.env0.in1 hx I (.cons rfl .nil) h) (fun u s' z => ?_) fun _ _ z => z)
  obtain ⟨v, H', I', rv, n, rfl, n0, n1, q⟩ := z
  obtain ⟨t, rfl⟩ := rv
  exact ⟨⟨n0, n1⟩, .int n, H', I'.tok _, ⟨_, rfl⟩, q⟩
/-- the truth of o -/
def rTruO (C : Addr) (sp : Sp) (dvs : List V) (E : XK) : V → Hp → (Bool → Hp → Prop) → Prop := fun x H Q => ∃ a dx fs, x = .ref a ∧ H a = some (.ins C dx fs) ∧ sp (.ref a :: dvs) H (fun v H' => ∃ b, v = .bl b ∧ Q b H') E
theorem tru_at {A : Around} {a dx : Addr} {fs : List (Str × V)} {Q : Bool → Hp → Prop} (d : Dun X.K C "__bool__" f) (G : Has X.prog X.w X.K X.mg X.base CX k f ps dvs sp) (hr : Room k A) (he : Env0 X.prog X.w X.K X.mg X.base A X.stack s H) (hx : Passes CX X E)
    (I : Inv X pins σ H s) (ha : H a = some (.ins C dx fs)) (h : sp (.ref a :: dvs) H (fun v H' => ∃ b, v = .bl b ∧ Q b H') E) :
    wpAny (model X.prog X.w) A (truthy (.ref a)) (TP X pins σ Q) X.xe s := by
  obtain ⟨ox, od, J⟩ := ins_at I ha
  obtain ⟨m, F⟩ := I.fr
  refine PySem.W.truthy_K F I.mod.kin J d.at_ d.fn (wpAny_mono (run_at (vs := [.ref a]) G hr he hx I (.cons rfl .nil) h) (fun u s' z => ?_) fun _ _ z => z)
  obtain ⟨v, H', I', rv, b, rfl, q⟩ := z
  cases rv
  exact ⟨H', I', q⟩
theorem tru_own (d : Dun X.K C "__bool__" f) (G : Has X.prog X.w X.K X.mg X.base CX k f ps dvs sp) (hr : Room j X.A) (hx : Passes CX X E) (hkj : k ≤ j := by decide) : TruR X (rTruO C sp dvs E) := by
  intro pins s σ H x v Q I r h
  obtain ⟨a, dx, fs, rfl, ha, h⟩ := h
  cases r
  exact tru_at d G (hr.mono hkj) I.env0 hx I ha h
theorem new_boolO {prog : Program} {w : World} (x : Value) : MeetsIn prog w (Builtin.«bool.__new__» ⟨[.type "bool", x], []⟩)
    (fun A R s => wpAny (model prog w) A.in1 (truthy x) (fun b s1 => R (.ok (.ret (.bool b))) s1) (fun e s1 => R (.error e) s1) s) :=
  .of_wp fun A R s h => by
    obtain ⟨hp, g, d, tk, os⟩ := s
    have f1 := F.conv_sub_bool
    repeat (any_goals (first | assumption | (with_reducible refine wpAny_mono h (fun b s1 z => ?_) (fun _ _ z => z)) | wp_step))
    all_goals exact ⟨_, rfl, z⟩
/-- bool(o) -/
def rBoolO (C : Addr) (sp : Sp) (dvs : List V) (E : XK) : List V → Hp → VK → Prop := fun xs H Q => ∃ a dx fs, xs = [.ref a] ∧ H a = some (.ins C dx fs) ∧ sp (.ref a :: dvs) H (fun v H' => ∃ b, v = .bl b ∧ Q (.bl b) H') E
theorem call_boolO (d : Dun X.K C "__bool__" f) (G : Has X.prog X.w X.K X.mg X.base CX k f ps dvs sp) (hr : Room j X.A) (hx : Passes CX X E) (hkj : k + 2 ≤ j := by decide) : CallR X (.type "bool") (rBoolO C sp dvs E) := by
  intro pins s σ H xs us Q I r h
  obtain ⟨a, dx, fs, rfl, ha, h⟩ := h
  obtain ⟨u, rfl, rfl⟩ := vals1 r
  have rm : Room k X.A.in1.in1 := Room.in1 (Room.in1 (hr.mono hkj))
  refine callType_newIn F.called_bool F.newNe_bool (F.typeCall_bool_1 _) (F.newCall_bool_1 _) (fun obj => F.args_object_init_2 obj _) F.entry_bool_new (new_boolO _) ?_
  refine wpAny_mono (tru_at (Q := fun b H' => Q (.bl b) H') d G rm I.env0.in1.in1 hx I ha h) (fun b s' z => ?_) fun _ _ z => z
  obtain ⟨H', I', q⟩ := z
  exact ⟨rfl, .bl b, H', I', rfl, q⟩
/-- x in o -/
def rInO (C : Addr) (sp : Sp) (dvs : List V) (E : XK) : R2 := fun x y H Q => ∃ a dx fs, y = .ref a ∧ H a = some (.ins C dx fs) ∧ sp (.ref a :: x :: dvs) H (fun v H' => ∃ b, v = .bl b ∧ Q (.bl b) H') E
theorem op_inO (d : Dun X.K C "__contains__" f) (G : Has X.prog X.w X.K X.mg X.base CX k f ps dvs sp) (hr : Room j X.A) (hx : Passes CX X E) (hkj : k ≤ j := by decide) : OpR X (compareOp .In) (rInO C sp dvs E) := by
  intro pins s σ H x y v u Q I rx ry h
  obtain ⟨a, dx, fs, rfl, ha, h⟩ := h
  cases ry
  obtain ⟨ox, od, J⟩ := ins_at I ha
  obtain ⟨m, F⟩ := I.fr
  refine PySem.W.in_K F I.mod.kin J d.at_ d.fn (wpAny_mono (run_here (vs := [.ref a, x]) G hr hkj hx I (.cons rfl (.cons rx .nil)) h) (fun u s' z => ?_) fun _ _ z => z)
  obtain ⟨z, H', I', rz, b, rfl, q⟩ := z
  cases rz
  exact wpAny_pure ⟨.bl b, H', I', rfl, q⟩
end
end Rg
/-! GEN D: data compared. -/
namespace Rg
open PySem PySem.Spec PyProof.Rows L2
theorem shp_ints (ns : List Int) : SeqAt.shaped (.list (ns.map PyData.int)) = true := by
  have a : ∀ l : List Int, PyData.canLayAll0 (l.map PyData.int) = true ∧ PyData.depthAll (l.map PyData.int) = 0 := by
    intro l
    induction l with
    | nil => exact ⟨rfl, rfl⟩
    | cons x r ih =>
      refine ⟨?_, ?_⟩
      · rw [List.map_cons, PyData.canLayAll0, ih.1]
        rfl
      · rw [List.map_cons, PyData.depthAll, ih.2]
        rfl
  unfold SeqAt.shaped
  rw [PyData.canLay0, (a ns).1, PyData.depth, (a ns).2]
  rfl
theorem dp_all {K : PySem.W.Frag} {H : Hp} : ∀ ns : List Int, DpAll K H (ns.map V.int) (ns.map PyData.int)
  | [] => .nil
  | x :: r => .cons (.int x) (dp_all r)
theorem dp_ints {K : PySem.W.Frag} {H : Hp} {a : Addr} {ns : List Int} (h : SqL K H a (ns.map V.int)) : Dp K H (.ref a) (.list (ns.map PyData.int)) := .lst h (dp_all ns)
theorem dp_nil {K : PySem.W.Frag} {H : Hp} {a : Addr} (h : SqL K H a []) : Dp K H (.ref a) (.list []) := .lst h .nil
theorem eqv_all : ∀ ns ms : List Int, PyData.eqvAll (ns.map PyData.int) (ms.map PyData.int) = decide (ns = ms)
  | [], [] => rfl
  | [], _ :: _ => rfl
  | _ :: _, [] => rfl
  | x :: r, y :: t => by
    rw [List.map_cons, List.map_cons, PyData.eqvAll, PyData.eqv, eqv_all r t]
    by_cases h : x = y
    · subst h
      simp
    · simp [h]
theorem eqv_ints (ns ms : List Int) : PyData.eqv (.list (ns.map PyData.int)) (.list (ms.map PyData.int)) = decide (ns = ms) := by rw [PyData.eqv, eqv_all]
theorem eqv_nil (ns : List Int) : PyData.eqv (.list (ns.map PyData.int)) (.list []) = decide (ns = []) := eqv_ints ns []
/-- all that was tracked stays, but at l -/
def Chg (l : Addr) (o : HO) (H H' : Hp) : Prop := H' l = some o ∧ ∀ b u, H b = some u → b ≠ l → H' b = some u
theorem Same.new {H : Hp} {p : Addr} {o : HO} (h : H p = none) : Same H (upd H p o) := fun b u e => (upd_ne (ne_of_none e h)).trans e
theorem Same.mut {H H' : Hp} {p : Addr} {o : HO} (e : Same H H') (h : H p = none) : Same H (upd H' p o) := fun b u z => (upd_ne (ne_of_none z h)).trans (e b u z)
theorem Same.at_ {H H' : Hp} (e : Same H H') {p : Addr} {o : HO} (h : H p = some o) : H' p = some o := e p o h
theorem Same.chg {H H' H'' : Hp} {p : Addr} {o : HO} (e : Same H H') (c : Chg p o H' H'') (h : H p = none) : Same H H'' := fun b u z => c.2 b u (e b u z) (ne_of_none z h)
theorem Chg.ne {H H' : Hp} {p q : Addr} {o u : HO} (c : Chg p o H H') (h : H q = some u) (n : q ≠ p) : H' q = some u := c.2 q u h n
theorem scal_same (v : V) (h : flatV v = true) (hb : ∀ b, v ≠ .flt b) (hr : ∀ a, v ≠ .ref a) : scal v v = true := by
  cases v <;> first | rfl | (exact absurd rfl (hb _)) | (exact absurd rfl (hr _)) | cases h
end Rg
namespace Rg
open PySem PySem.Spec PyProof.Rows L2
theorem seq0 {n : Nat} : seqIndex? 0 (n + 1) = some 0 := by
  have h := seqIndex_of (k := 0) (n := n + 1) (by omega) (by omega)
  simpa using h
end Rg
namespace Rg
open PySem PySem.Spec PyProof.Rows L2
/-- all stays but at the places ws -/
def Stay (ws : List Addr) (H H' : Hp) : Prop := ∀ b u, H b = some u → b ∉ ws → H' b = some u
theorem Stay.refl (ws : List Addr) (H : Hp) : Stay ws H H := fun _ _ h _ => h
theorem Stay.same {ws : List Addr} {H H' H'' : Hp} (a : Stay ws H H') (b : Same H' H'') : Stay ws H H'' := fun c u h n => b c u (a c u h n)
theorem Stay.upd {ws : List Addr} {H H' : Hp} {p : Addr} {o : HO} (a : Stay ws H H') (h : p ∈ ws) : Stay ws H (L2.upd H' p o) := fun c u z n => (upd_ne (fun e : c = p => n (by rw [e]; exact h))).trans (a c u z n)
theorem Stay.new {ws : List Addr} {H H' : Hp} {p : Addr} {o : HO} (a : Stay ws H H') (h : H' p = none) : Stay ws H (L2.upd H' p o) := fun c u z n => (upd_ne (ne_of_none (a c u z n) h)).trans (a c u z n)
theorem Stay.chg {ws : List Addr} {H H' H'' : Hp} {p : Addr} {o : HO} (a : Stay ws H H') (c : Chg p o H' H'') (h : p ∈ ws) : Stay ws H H'' := fun b u z n => c.2 b u (a b u z n) (fun e : b = p => n (by rw [e]; exact h))
theorem Stay.at_ {ws : List Addr} {H H' : Hp} (a : Stay ws H H') {p : Addr} {o : HO} (h : H p = some o) (n : p ∉ ws) : H' p = some o := a p o h n
theorem Same.seqT {K : PySem.W.Frag} {H H' : Hp} {a : Addr} {xs : List V} (e : Same H H') (h : SqT K H a xs) : SqT K H' a xs := by
  rcases h with (h | ⟨o, h⟩) | h
  · exact .inl (.inl (e _ _ h))
  · exact .inl (.inr ⟨o, e _ _ h⟩)
  · exact .inr h
end Rg
namespace Rg
open PySem PySem.Spec PyProof.Rows L2
theorem fr_same {H H' : Hp} {p : Addr} {o : HO} (e : L2.upd H p o = H') (h : H p = none) : Same H H' := e ▸ Same.new h
theorem fr_at {H H' : Hp} {p : Addr} {o : HO} (e : L2.upd H p o = H') : H' p = some o := e ▸ upd_same
end Rg
namespace Rg
open PySem PySem.Spec PyProof.Rows L2
theorem eqv_pair (a b c d : Int) : PyData.eqv (.tuple [.int a, .int b]) (.tuple [.int c, .int d]) = decide (a = c ∧ b = d) := by
  rw [PyData.eqv, PyData.eqvAll, PyData.eqvAll, PyData.eqvAll, PyData.eqv, PyData.eqv]
  by_cases h : a = c <;> by_cases h2 : b = d <;> simp [h, h2]
theorem dp_pair {K : PySem.W.Frag} {H : Hp} {t : Addr} {a b : Int} (h : H t = some (.tup [.int a, .int b])) : Dp K H (.ref t) (.tuple [.int a, .int b]) := .tup (SqT.of h) (.cons (.int a) (.cons (.int b) .nil))
end Rg
/-! GEN E: operators by own classes, the operands of two kinds; kinds of values. -/
namespace Rg
open PySem PySem.Spec PyProof.Rows L2
/-- a plain instance stands there -/
abbrev PlainAt (h : Heap) (x : Addr) : Prop := ∃ o, h.get? x = some o ∧ o.data = .plain
theorem meets_no (nm : String) (f : Int → Int → Sem Fin) (k : Int) (t : Tok) (x : Addr) : Meets (Builtin.Int.intBinary nm f false ⟨[.int k t, .ref x], []⟩) (fun _ R s => PlainAt s.heap x ∧ R (.ok (.ret .notImplemented)) s) :=
  Meets.of_wp fun prog w A R s hs => by
    obtain ⟨⟨o, ho, hd⟩, hq⟩ := hs
    obtain ⟨hp, g, d, tk, os⟩ := s
    unfold Builtin.Int.intBinary
    refine wpAny_bind (wpAny_of_eq (a := (Value.int k t, [Value.ref x])) (by rfl) ?_)
    refine wpAny_bind (wpAny_of_eq (a := k) (by rfl) ?_)
    refine wpAny_bind ?_
    show wpAny _ _ (load x >>= _) _ _ _
    refine wpAny_bind (wpAny_load ho ?_)
    rw [hd]
    refine wpAny_pure ?_
    exact wpAny_bind (wpAny_rule (wpAny_pure ⟨_, rfl, hq⟩))
theorem meets_noB (nm : String) (f : Int → Int → Sem Fin) (b : Bool) (x : Addr) : Meets (Builtin.Int.intBinary nm f false ⟨[.bool b, .ref x], []⟩) (fun _ R s => PlainAt s.heap x ∧ R (.ok (.ret .notImplemented)) s) :=
  Meets.of_wp fun prog w A R s hs => by
    obtain ⟨⟨o, ho, hd⟩, hq⟩ := hs
    obtain ⟨hp, g, d, tk, os⟩ := s
    unfold Builtin.Int.intBinary
    refine wpAny_bind (wpAny_of_eq (a := (Value.bool b, [Value.ref x])) (by rfl) ?_)
    refine wpAny_bind (wpAny_of_eq (a := if b then 1 else 0) (by cases b <;> rfl) ?_)
    refine wpAny_bind ?_
    show wpAny _ _ (load x >>= _) _ _ _
    refine wpAny_bind (wpAny_load ho ?_)
    rw [hd]
    refine wpAny_pure ?_
    exact wpAny_bind (wpAny_rule (wpAny_pure ⟨_, rfl, hq⟩))
end Rg
namespace Rg
open PySem PySem.Spec PyProof.Rows L2 PySem.W
section
variable {prog : Program} {w : World} {A : Around} {E : Value → Shared → Prop} {s : Shared} {K : Frag} {x C f g : Addr} {ox : Obj} {od : Option Obj} {T : String}
def numB (fo ro : Option Value) : Bool := (fo.isSome && !isSeqSlot fo) || (ro.isSome && !isSeqSlot ro)
/-- a op o, a of a built-in type that declines, o of an own class with the reflected method -/
theorem refl_at {op : Operator} {a : Value} {fo ro : Option Value} {Q : Value → Shared → Prop} (X : K.In s.heap) (I : InstAt s.heap x ox C od) (ta : Looks (model prog w) s.heap (typeOf a) (.type T)) (hc : selfFirst K C = true)
    (hs : findIn K (.ref C) (PySem.dunder op.info.2) = some (some (.ref g))) (hr : findIn K (.ref C) (dunderR op.info.2) = some (some (.ref f))) (hf : isFn K (.ref f) = true)
    (h1 : findIn K (.type T) (PySem.dunder op.info.2) = some fo) (h2 : findIn K (.type T) (dunderR op.info.2) = some ro) (hsub : subIn K (.ref C) (.type T) = some false)
    (no : numB fo ro = true → ∀ (Q : Option Value → Shared → Prop), Q none s → wpAny (model prog w) A (tryMethod a (PySem.dunder op.info.2) (.ref x)) Q E s)
    (h : wpAny (model prog w) A (call (.ref f) [.ref x, a]) (PySem.W.CmpBack Q) E s) : wpAny (model prog w) A (binaryOp op a (.ref x)) Q E s := by
  obtain ⟨cd, rest, hcd, hm⟩ := ksp_first hc
  rcases hi : op.info with ⟨sym, nm'⟩
  rw [hi] at hs hr h1 h2 no
  dsimp only at hs hr h1 h2 no
  have two := ksp_try X I hr hf h
  obtain ⟨hh, gg, d, tt, os⟩ := s
  have A1 : Looks (model prog w) hh (typeOf a) (.type T) := ta
  have A2 : Looks (model prog w) hh (typeOf (.ref x)) (.ref C) := I.type
  have A3 : Looks (model prog w) hh (fillsNumberSlot (.type T) nm') (numB fo ro) := ksp_fillsT X h1 h2
  have A4 : Looks (model prog w) hh (fillsNumberSlot (.ref C) nm') true := fills_K X hcd hm hs
  have A5 : Looks (model prog w) hh (isSubtype (.ref C) (.type T)) false := looks_subIn X hsub
  have A6 : Looks (model prog w) hh (numberSlotInPython (.type T) nm') false := Looks.of_pure rfl
  have ne : (Value.type T == Value.ref C) = false := Bool.eq_false_iff.mpr fun q => by cases beq_iff_eq.mp q
  simp only [binaryOp, hi]
  refine wpAny_holding (wpAny_bind ?_)
  unfold binaryOp1
  refine wpAny_bind (A1.at (wpAny_bind (A2.at (wpAny_bind (A3.at ?_)))))
  simp only [ne, Bool.false_eq_true, if_false]
  generalize numB fo ro = lf at A3 no
  cases lf with
  | false =>
    ksp_lk
    refine wpAny_mono two (fun r s' z => ?_) fun _ _ e => e
    obtain ⟨v, rfl, hq⟩ := z
    ksp_lk
    exact hq
  | true =>
    ksp_lk
    refine no rfl _ ?_
    ksp_lk
    refine wpAny_mono two (fun r s' z => ?_) fun _ _ e => e
    obtain ⟨v, rfl, hq⟩ := z
    ksp_lk
    exact hq
/-- o op b, b of a built-in type as it stands in the heap -/
theorem left_at {op : Operator} {b : Value} {fo ro rc : Option Value} {Q : Value → Shared → Prop} (X : K.In s.heap) (I : InstAt s.heap x ox C od) (tb : Looks (model prog w) s.heap (typeOf b) (.type T)) (hc : selfFirst K C = true)
    (hs : findIn K (.ref C) (PySem.dunder op.info.2) = some (some (.ref f))) (hf : isFn K (.ref f) = true) (hr : findIn K (.ref C) (dunderR op.info.2) = some rc) (hp : rc = none ∨ ∃ g : Addr, rc = some (.ref g))
    (h1 : findIn K (.type T) (PySem.dunder op.info.2) = some fo) (h2 : findIn K (.type T) (dunderR op.info.2) = some ro) (hsub : subIn K (.type T) (.ref C) = some false)
    (h : wpAny (model prog w) A (call (.ref f) [.ref x, b]) (PySem.W.CmpBack Q) E s) : wpAny (model prog w) A (binaryOp op (.ref x) b) Q E s := by
  obtain ⟨cd, rest, hcd, hm⟩ := ksp_first hc
  rcases hi : op.info with ⟨sym, nm'⟩
  rw [hi] at hs hr h1 h2
  dsimp only at hs hr h1 h2
  have two := ksp_try X I hs hf h
  obtain ⟨hh, gg, d, tt, os⟩ := s
  have A1 : Looks (model prog w) hh (typeOf (.ref x)) (.ref C) := I.type
  have A2 : Looks (model prog w) hh (typeOf b) (.type T) := tb
  have A3 : Looks (model prog w) hh (fillsNumberSlot (.ref C) nm') true := fills_K X hcd hm hs
  have A4 : Looks (model prog w) hh (fillsNumberSlot (.type T) nm') (numB fo ro) := ksp_fillsT X h1 h2
  have A5 : Looks (model prog w) hh (isSubtype (.type T) (.ref C)) false := looks_subIn X hsub
  have A6 : Looks (model prog w) hh (numberSlotInPython (.ref C) nm') true := ksp_inPy X hs hr hp
  have A7 : Looks (model prog w) hh (numberSlotInPython (.type T) nm') false := Looks.of_pure rfl
  have A8 : Looks (model prog w) hh (typeLookup (.type T) (dunderR nm')) ro := looks_findIn X h2
  have ne : (Value.ref C == Value.type T) = false := Bool.eq_false_iff.mpr fun q => by cases beq_iff_eq.mp q
  simp only [binaryOp, hi]
  refine wpAny_holding (wpAny_bind ?_)
  unfold binaryOp1
  refine wpAny_bind (A1.at (wpAny_bind (A2.at (wpAny_bind (A3.at ?_)))))
  simp only [ne, Bool.false_eq_true, if_false]
  generalize numB fo ro = lf at A4
  cases lf with
  | false =>
    ksp_lk
    refine wpAny_mono two (fun r s' z => ?_) fun _ _ e => e
    obtain ⟨v, rfl, hq⟩ := z
    ksp_lk
    exact hq
  | true =>
    ksp_lk
    refine wpAny_mono two (fun r s' z => ?_) fun _ _ e => e
    obtain ⟨v, rfl, hq⟩ := z
    ksp_lk
    exact hq
end
end Rg
namespace Rg
open PySem PySem.Spec PyProof.Rows L2 PySem.W
section
variable {prog : Program} {w : World} {A : Around} {E : Value → Shared → Prop} {s : Shared} {K : Frag} {x C f : Addr} {ox : Obj} {od : Option Obj} {b tb : Value}
theorem check_ne (X : K.In s.heap) (I : InstAt s.heap x ox C od) (ho : subIn K (.ref C) (.type "object") = some true) {M : Model} {Q : Unit → Shared → Prop} (q : Q () s) :
    wpAny M A (checkBuiltinCall "object.__ne__" ⟨[.ref x, b], []⟩) Q E s := by
  have k : argsOk "object.__ne__" ⟨[.ref x, b], []⟩ := F.cmpArgs_ne _ _
  simp only [checkBuiltinCall, F.cmpKind_ne, F.cmpSplit_ne]
  refine wpAny_bind ?_
  unfold isInstance
  refine wpAny_bind (I.type.here ((looks_subIn X ho).here ?_))
  cases e : Manifest.signature? "object.__ne__" with
  | none => exact wpAny_pure q
  | some sig =>
    simp only [argsOk, e] at k
    have k2 : Bind.checkArgs "object.__ne__" sig ⟨[.ref x, b], []⟩ = pure () := k
    show wpAny M A (Bind.checkArgs "object.__ne__" sig ⟨[.ref x, b], []⟩) Q E s
    rw [k2]
    exact wpAny_pure q
/-- o != b where the class has __eq__ alone -/
theorem ne_at {Q : Value → Shared → Prop} (hu : A.units + 1 < cLine) (X : K.In s.heap) (I : InstAt s.heap x ox C od) (hb : Looks (model prog w) s.heap (typeOf b) tb) (hn : notFirst K C tb = true)
    (hne : findIn K (.ref C) "__ne__" = some (some (.builtin "object.__ne__"))) (ho : subIn K (.ref C) (.type "object") = some true) (he : findIn K (.ref C) "__eq__" = some (some (.ref f))) (hf : isFn K (.ref f) = true)
    (h : wpAny (model prog w) A.in1 (call (.ref f) [.ref x, b]) (PySem.W.BoolBack fun z s' => Q (.bool (!z)) s') E s) : wpAny (model prog w) A (richCompare .NotEq (.ref x) b) Q E s := by
  have S : Slot "object" "__ne__" "object.__ne__" := F.cmp_object.ne
  have two : wpAny (model prog w) A (tryCompare (.ref x) "__ne__" b) (fun r s' => ∃ z : Bool, r = some (.bool (!z)) ∧ Q (.bool (!z)) s') E s := by
    unfold tryCompare
    refine wpAny_bind ?_
    simp only [callSpecialIfBound?, bindSpecialIfBound?]
    refine wpAny_holding (wpAny_bind (wpAny_bind (wpAny_bind (I.type.here ((looks_findIn X hne).here ?_)))))
    simp only [S.bind]
    refine wpAny_bind (wpAny_askSetting (wpAny_ite ?_))
    have fin : wpAny (model prog w) A (call (.builtin "object.__ne__") ([.ref x] ++ [b]) >>= fun v => pure (some v)) (fun r s' => wpAny (model prog w) A (match r with | some .notImplemented | none => pure none | some v => pure (some v)) (fun r s' => ∃ z : Bool, r = some (.bool (!z)) ∧ Q (.bool (!z)) s') E s') E s := by
      refine wpAny_bind (wpAny_call (codeAny_call_builtin S.plain F.cmpEntry_ne (check_ne X I ho ?_)))
      unfold Builtin.«object.__ne__»
      refine wpAny_bind (wpAny_of_eq (a := (Value.ref x, [b])) (by rfl) ?_)
      refine wpAny_bind (wpAny_cRoomFor hu ?_)
      refine wpAny_bind (ifBound_K X I he hf (wpAny_mono h (fun v s' z => ?_) fun _ _ z => z))
      cases v <;> first | exact z.elim | skip
      refine wpAny_bind (wpAny_pure ?_)
      exact wpAny_pure (wpAny_pure (wpAny_pure ⟨_, rfl, z⟩))
    split
    · exact wpAny_bind (wpAny_pure (wpAny_pure fin))
    · exact wpAny_tryCatch (wpAny_bind (wpAny_pure (wpAny_pure fin)))
  unfold richCompare
  simp only [oneThing_ref]
  refine wpAny_holding (wpAny_bind (wpAny_cRoomFor (by omega) ?_))
  refine wpAny_bind (I.type.here (wpAny_bind (hb.here ?_)))
  split
  · rename_i q
    have e : subIn K tb (.ref C) = some false := by
      rcases Bool.or_eq_true_iff.mp hn with z | z
      · rw [beq_iff_eq.mp z] at q
        simp at q
      · exact beq_iff_eq.mp z
    refine wpAny_bind ((looks_subIn X e).here ?_)
    simp only [Bool.false_eq_true, if_false]
    refine wpAny_bind (wpAny_mono two (fun r s' z => ?_) fun _ _ z => z)
    obtain ⟨v, rfl, hq⟩ := z
    exact wpAny_pure hq
  · refine wpAny_bind (wpAny_pure ?_)
    simp only [Bool.false_eq_true, if_false]
    refine wpAny_bind (wpAny_mono two (fun r s' z => ?_) fun _ _ z => z)
    obtain ⟨v, rfl, hq⟩ := z
    exact wpAny_pure hq
end
end Rg
namespace Rg
open PySem PySem.Spec PyProof.Rows L2
/-- a value of a built-in type -/
inductive Bt (H : Hp) : V → String → Prop where
  | non : Bt H .non "NoneType"
  | bl (x : Bool) : Bt H (.bl x) "bool"
  | int (i : Int) : Bt H (.int i) "int"
  | str (x : Str) : Bt H (.str x) "str"
  | lst {a : Addr} {xs : List V} (e : H a = some (.lst xs)) : Bt H (.ref a) "list"
  | tup {a : Addr} {xs : List V} (e : H a = some (.tup xs)) : Bt H (.ref a) "tuple"
  | dK {a : Addr} {kvs : List (Key × V)} (e : H a = some (.dK kvs)) : Bt H (.ref a) "dict"
def btNames : List String := ["NoneType", "bool", "int", "str", "list", "tuple", "dict"]
theorem Bt.mem {H : Hp} {v : V} {T : String} (h : Bt H v T) : T ∈ btNames := by cases h <;> decide
theorem Bt.ty {K : PySem.W.Frag} {H : Hp} {v : V} {T : String} (h : Bt H v T) : TyX K H v (.type T) := by
  cases h with
  | non => exact .base .non
  | bl x => exact .base (.bl x)
  | int x => exact .base (.int x)
  | str x => exact .base (.str x)
  | lst e => exact .base (.lst e)
  | tup e => exact .base (.tup e)
  | dK e => exact .base (.dK e)
theorem Bt.same {H H' : Hp} {v : V} {T : String} (h : Bt H v T) (s : Same H H') : Bt H' v T := by
  cases h with
  | non => exact .non
  | bl x => exact .bl x
  | int x => exact .int x
  | str x => exact .str x
  | lst e => exact .lst (s _ _ e)
  | tup e => exact .tup (s _ _ e)
  | dK e => exact .dK (s _ _ e)
theorem looks_cls {M : Model} {h : Heap} {a : Addr} {o : Obj} {t : Value} (ho : h.get? a = some o) (hc : o.cls = t) : PySem.W.Looks M h (typeOf (.ref a)) t := by
  intro A Q E s k q
  subst hc
  unfold typeOf
  refine wpAny_bind (wpAny_loadPart (k _ _ ho) ?_)
  exact wpAny_pure q
section
variable {X : Cx} {pins : List (Addr × Obj)} {σ : L2.St} {H : Hp} {s : Shared}
theorem Bt.looks {v : V} {u : Value} {T : String} {M : Model} (h : Bt H v T) (I : Inv X pins σ H s) (r : RelV v u) : PySem.W.Looks M s.heap (typeOf u) (.type T) := by
  cases h with
  | non => cases r; exact PySem.W.Looks.of_pure rfl
  | bl x => cases r; exact PySem.W.Looks.of_pure rfl
  | int x => obtain ⟨t, rfl⟩ := r; exact PySem.W.Looks.of_pure rfl
  | str x => obtain ⟨t, rfl⟩ := r; exact PySem.W.Looks.of_pure rfl
  | lst e =>
    cases r
    obtain ⟨_, its, n, _, g⟩ := I.hok _ _ e
    exact looks_cls g rfl
  | tup e =>
    cases r
    obtain ⟨_, its, _, o, g, c, _⟩ := I.hok _ _ e
    exact looks_cls g c
  | dK e =>
    cases r
    obtain ⟨_, _, vs, _, o, es, ep, g, c, _⟩ := I.hok _ _ e
    exact looks_cls g c.1
end
end Rg
namespace Rg
open PySem PySem.Spec PyProof.Rows L2
/-! ### facts of an own class's operators, as Bool functions of the written part -/
def ma' (K : PySem.W.Frag) (C : Str) (m : Str) : Addr := He.ma K (He.ga K C) m
def dunF (C m : Str) : Fct := fun K => decide (PySem.W.findIn K (.ref (He.ga K C)) m = some (some (.ref (He.ma K (He.ga K C) m)))) && PySem.W.isFn K (.ref (He.ma K (He.ga K C) m))
theorem dunF_ok {C m : Str} {K : PySem.W.Frag} (h : dunF C m K = true) : Dun K (He.ga K C) m (He.ma K (He.ga K C) m) := by
  obtain ⟨a, b⟩ := Bool.and_eq_true_iff.mp h
  exact ⟨of_decide_eq_true a, b⟩
def refOk : Option (Option Value) → Bool
  | some none => true
  | some (some (.ref _)) => true
  | _ => false
def binF (C : Str) (op : Operator) : Fct := fun K => (PySem.W.selfFirst K (He.ga K C) && refOk (PySem.W.findIn K (.ref (He.ga K C)) (dunderR op.info.2))) && (dunF C (PySem.dunder op.info.2) K &&
  btNames.all fun T => ((PySem.W.findIn K (.type T) (PySem.dunder op.info.2)).isSome && (PySem.W.findIn K (.type T) (dunderR op.info.2)).isSome) && decide (PySem.W.subIn K (.type T) (.ref (He.ga K C)) = some false))
structure BinX (K : PySem.W.Frag) (C : Addr) (op : Operator) (f : Addr) : Prop where
  sf : PySem.W.selfFirst K C = true
  rc : ∃ rc, PySem.W.findIn K (.ref C) (dunderR op.info.2) = some rc ∧ (rc = none ∨ ∃ g : Addr, rc = some (.ref g))
  d : Dun K C (PySem.dunder op.info.2) f
  t : ∀ T ∈ btNames, (∃ fo, PySem.W.findIn K (.type T) (PySem.dunder op.info.2) = some fo) ∧ (∃ ro, PySem.W.findIn K (.type T) (dunderR op.info.2) = some ro) ∧ PySem.W.subIn K (.type T) (.ref C) = some false
theorem refOk_ok {o : Option (Option Value)} (h : refOk o = true) : ∃ rc, o = some rc ∧ (rc = none ∨ ∃ g : Addr, rc = some (.ref g)) := by
  match o, h with
  | some none, _ => exact ⟨none, rfl, .inl rfl⟩
  | some (some (.ref g)), _ => exact ⟨_, rfl, .inr ⟨g, rfl⟩⟩
theorem binF_ok {C : Str} {op : Operator} {K : PySem.W.Frag} (h : binF C op K = true) : BinX K (He.ga K C) op (He.ma K (He.ga K C) (PySem.dunder op.info.2)) := by
  obtain ⟨a, b⟩ := Bool.and_eq_true_iff.mp h
  obtain ⟨a1, a2⟩ := Bool.and_eq_true_iff.mp a
  obtain ⟨b1, b2⟩ := Bool.and_eq_true_iff.mp b
  refine ⟨a1, refOk_ok a2, dunF_ok b1, fun T hT => ?_⟩
  obtain ⟨c, d⟩ := Bool.and_eq_true_iff.mp (List.all_eq_true.mp b2 T hT)
  obtain ⟨c1, c2⟩ := Bool.and_eq_true_iff.mp c
  exact ⟨Option.isSome_iff_exists.mp c1, Option.isSome_iff_exists.mp c2, of_decide_eq_true d⟩
/-- the second operand: a thing of a built-in type, or an instance of the same class -/
def Opr (C : Addr) (H : Hp) (y : V) : Prop := (∃ T, Bt H y T) ∨ ∃ b dy gs, y = .ref b ∧ H b = some (.ins C dy gs)
def rBin (C : Addr) (sp : Sp) (E : XK) : R2 := fun x y H Q => ∃ a dx fs, x = .ref a ∧ H a = some (.ins C dx fs) ∧ Opr C H y ∧ sp [x, y] H Q E
section
variable {X : Cx} {CX : CXT} {k j : Nat} {f C : Addr} {ps : List Str} {sp : Sp} {E : XK}
theorem op_bin {op : Operator} (d : BinX X.K C op f) (G : Has X.prog X.w X.K X.mg X.base CX k f ps [] sp) (hr : Room j X.A) (hx : Passes CX X E) (hkj : k ≤ j := by decide) : OpR X (binaryOp op) (rBin C sp E) := by
  intro pins s σ H x y v u Q I rx ry h
  obtain ⟨a, dx, fs, rfl, ha, o, h⟩ := h
  cases rx
  obtain ⟨ox, od, J⟩ := ins_at I ha
  have go := run_here (vs := [.ref a, y]) (us := [.ref a, u]) G hr hkj hx I (.cons rfl (.cons ry .nil)) h
  have go2 := wpAny_mono go (fun v s' z => ep_cmp z) fun _ _ z => z
  rcases o with ⟨T, b⟩ | ⟨b, dy, gs, rfl, hb⟩
  · obtain ⟨⟨fo, h1⟩, ⟨ro, h2⟩, h3⟩ := d.t T b.mem
    obtain ⟨rc, r1, r2⟩ := d.rc
    exact left_at I.kIn J (b.looks I ry) d.sf d.d.at_ d.d.fn r1 r2 h1 h2 h3 go2
  · cases ry
    obtain ⟨oy, oe, J2⟩ := ins_at I hb
    obtain ⟨m, F⟩ := I.fr
    exact PySem.W.binop_K F I.mod.kin J J2.type d.sf d.d.at_ d.d.fn go2
/-! ### reflected -/
structure Decl (op : Operator) (id : String) : Prop where
  si : Slot "int" (PySem.dunder op.info.2) id
  sb : Slot "bool" (PySem.dunder op.info.2) id
  en : ∃ (nm : String) (f : Int → Int → Sem Fin), entryFor table id = some (Builtin.Int.intBinary nm f false)
  ar : ∀ a b : Value, argsOk id ⟨[a, b], []⟩
theorem decl_add : Decl .Add "int.__add__" := ⟨F.slot_int_add, F.slot_bool_add, ⟨_, _, F.entry_int_add⟩, fun a b => F.args_int_add_2 a b⟩
theorem decl_sub : Decl .Sub "int.__sub__" := ⟨F.slot_int_sub, F.slot_bool_sub, ⟨_, _, F.entry_int_sub⟩, fun a b => F.args_int_sub_2 a b⟩
theorem decl_mul : Decl .Mult "int.__mul__" := ⟨F.slot_int_mul, F.slot_bool_mul, ⟨_, _, F.entry_int_mul⟩, fun a b => F.args_int_mul_2 a b⟩
theorem Decl.no {op : Operator} {id : String} {prog : Program} {w : World} {A : Around} {E : Value → Shared → Prop} {s : Shared} {v : V} {u : Value} {T : String} {x : Addr} {H : Hp} {Q : Option Value → Shared → Prop} (d : Decl op id) (hT : T = "int" ∨ T = "bool") (b : Bt H v T) (r : RelV v u) (hx : PlainAt s.heap x) (q : Q none s) :
    wpAny (model prog w) A (tryMethod u (PySem.dunder op.info.2) (.ref x)) Q E s := by
  obtain ⟨nm, f, en⟩ := d.en
  cases b with
  | int n =>
    obtain ⟨t, rfl⟩ := r
    exact wpAny_tryMethod_declines (T := "int") (by exact rfl) d.si (call_meets d.si (by exact rfl) en (d.ar _ _) (meets_no nm f n t x) ⟨hx, rfl, q⟩)
  | bl z =>
    cases r
    exact wpAny_tryMethod_declines (T := "bool") (by exact rfl) d.sb (call_meets d.sb (by exact rfl) en (d.ar _ _) (meets_noB nm f z x) ⟨hx, rfl, q⟩)
  | _ => rcases hT with e | e <;> exact absurd e (by decide)
def refF (C : Str) (op : Operator) : Fct := fun K => (PySem.W.selfFirst K (He.ga K C) && dunF C (dunderR op.info.2) K) && (dunF C (PySem.dunder op.info.2) K &&
  btNames.all fun T => match PySem.W.findIn K (.type T) (PySem.dunder op.info.2), PySem.W.findIn K (.type T) (dunderR op.info.2) with
    | some fo, some ro => decide (PySem.W.subIn K (.ref (He.ga K C)) (.type T) = some false) && (!numB fo ro || (decide (T = "int") || decide (T = "bool")))
    | _, _ => false)
structure RefX (K : PySem.W.Frag) (C : Addr) (op : Operator) (f : Addr) : Prop where
  sf : PySem.W.selfFirst K C = true
  g : ∃ g : Addr, PySem.W.findIn K (.ref C) (PySem.dunder op.info.2) = some (some (.ref g))
  d : Dun K C (dunderR op.info.2) f
  t : ∀ T ∈ btNames, ∃ fo ro, PySem.W.findIn K (.type T) (PySem.dunder op.info.2) = some fo ∧ PySem.W.findIn K (.type T) (dunderR op.info.2) = some ro ∧ PySem.W.subIn K (.ref C) (.type T) = some false ∧ (numB fo ro = true → T = "int" ∨ T = "bool")
theorem refF_ok {C : Str} {op : Operator} {K : PySem.W.Frag} (h : refF C op K = true) : RefX K (He.ga K C) op (He.ma K (He.ga K C) (dunderR op.info.2)) := by
  obtain ⟨a, b⟩ := Bool.and_eq_true_iff.mp h
  obtain ⟨a1, a2⟩ := Bool.and_eq_true_iff.mp a
  obtain ⟨b1, b2⟩ := Bool.and_eq_true_iff.mp b
  refine ⟨a1, ⟨_, (dunF_ok b1).at_⟩, dunF_ok a2, fun T hT => ?_⟩
  have z := List.all_eq_true.mp b2 T hT
  cases e1 : PySem.W.findIn K (.type T) (PySem.dunder op.info.2) with
  | none => simp only [e1] at z; cases z
  | some fo =>
    cases e2 : PySem.W.findIn K (.type T) (dunderR op.info.2) with
    | none => simp only [e1, e2] at z; cases z
    | some ro =>
      simp only [e1, e2, Bool.and_eq_true, Bool.or_eq_true, decide_eq_true_eq, Bool.not_eq_true'] at z
      refine ⟨fo, ro, rfl, rfl, z.1, fun q => ?_⟩
      rcases z.2 with y | y
      · rw [y] at q; cases q
      · exact y
def rRef (C : Addr) (sp : Sp) (E : XK) : R2 := fun x y H Q => ∃ a dx fs T, y = .ref a ∧ H a = some (.ins C dx fs) ∧ Bt H x T ∧ sp [y, x] H Q E
theorem op_ref {op : Operator} {id : String} (dc : Decl op id) (d : RefX X.K C op f) (G : Has X.prog X.w X.K X.mg X.base CX k f ps [] sp) (hr : Room j X.A) (hx : Passes CX X E) (hkj : k ≤ j := by decide) : OpR X (binaryOp op) (rRef C sp E) := by
  intro pins s σ H x y v u Q I rx ry h
  obtain ⟨a, dx, fs, T, rfl, ha, b, h⟩ := h
  cases ry
  obtain ⟨ox, od, J, pd⟩ := StX.insC_at (C := C) I (.inr ⟨dx, fs, ha⟩)
  have go := run_here (vs := [.ref a, x]) (us := [.ref a, v]) G hr hkj hx I (.cons rfl (.cons rx .nil)) h
  have go2 := wpAny_mono go (fun v s' z => ep_cmp z) fun _ _ z => z
  obtain ⟨fo, ro, h1, h2, h3, h4⟩ := d.t T b.mem
  obtain ⟨g, hg⟩ := d.g
  exact refl_at I.kIn J (b.looks I rx) d.sf hg d.d.at_ d.d.fn h1 h2 h3 (fun z Q q => dc.no (h4 z) b rx ⟨ox, J.at_, pd⟩ q) go2
/-! ### comparisons -/
def cmpF (C : Str) (op : CmpOp) : Fct := fun K => dunF C (cmpInfo op).2.1 K && btNames.all fun T => PySem.W.notFirst K (He.ga K C) (.type T)
structure CmpX (K : PySem.W.Frag) (C : Addr) (op : CmpOp) (f : Addr) : Prop where
  d : Dun K C (cmpInfo op).2.1 f
  t : ∀ T ∈ btNames, PySem.W.notFirst K C (.type T) = true
theorem cmpF_ok {C : Str} {op : CmpOp} {K : PySem.W.Frag} (h : cmpF C op K = true) : CmpX K (He.ga K C) op (He.ma K (He.ga K C) (cmpInfo op).2.1) := by
  obtain ⟨a, b⟩ := Bool.and_eq_true_iff.mp h
  exact ⟨dunF_ok a, fun T hT => List.all_eq_true.mp b T hT⟩
theorem rich_own {op : CmpOp} {pins : List (Addr × Obj)} {s : Shared} {σ : L2.St} {H : Hp} {x y : V} {v u : Value} {Q : VK} (d : CmpX X.K C op f) (G : Has X.prog X.w X.K X.mg X.base CX k f ps [] sp) (hr : Room j X.A) (hx : Passes CX X E) (hkj : k ≤ j)
    (I : Inv X pins σ H s) (rx : RelV x v) (ry : RelV y u) (h : rBin C sp E x y H Q) : wpAny (model X.prog X.w) X.A (richCompare op v u) (EP X pins σ Q) X.xe s := by
  obtain ⟨a, dx, fs, rfl, ha, o, h⟩ := h
  cases rx
  obtain ⟨ox, od, J⟩ := ins_at I ha
  obtain ⟨m, F⟩ := I.fr
  have go := run_here (vs := [.ref a, y]) (us := [.ref a, u]) G hr hkj hx I (.cons rfl (.cons ry .nil)) h
  have go2 := wpAny_mono go (fun v s' z => ep_cmp z) fun _ _ z => z
  rcases o with ⟨T, b⟩ | ⟨b, dy, gs, rfl, hb⟩
  · exact PySem.W.cmp_K hr.units0 F I.mod.kin J (b.looks I ry) (d.t T b.mem) d.d.at_ d.d.fn go2
  · cases ry
    obtain ⟨oy, oe, J2⟩ := ins_at I hb
    exact PySem.W.cmp_K hr.units0 F I.mod.kin J J2.type (by unfold PySem.W.notFirst; simp) d.d.at_ d.d.fn go2
theorem op_eqO (d : CmpX X.K C .Eq f) (G : Has X.prog X.w X.K X.mg X.base CX k f ps [] sp) (hr : Room j X.A) (hx : Passes CX X E) (hkj : k ≤ j := by decide) : OpR X (compareOp .Eq) (rBin C sp E) :=
  fun pins s σ H x y v u Q I rx ry h => rich_own d G hr hx hkj I rx ry h
theorem op_ltO (d : CmpX X.K C .Lt f) (G : Has X.prog X.w X.K X.mg X.base CX k f ps [] sp) (hr : Room j X.A) (hx : Passes CX X E) (hkj : k ≤ j := by decide) : OpR X (compareOp .Lt) (rBin C sp E) :=
  fun pins s σ H x y v u Q I rx ry h => rich_own d G hr hx hkj I rx ry h
theorem op_leO (d : CmpX X.K C .LtE f) (G : Has X.prog X.w X.K X.mg X.base CX k f ps [] sp) (hr : Room j X.A) (hx : Passes CX X E) (hkj : k ≤ j := by decide) : OpR X (compareOp .LtE) (rBin C sp E) :=
  fun pins s σ H x y v u Q I rx ry h => rich_own d G hr hx hkj I rx ry h
theorem op_gtO (d : CmpX X.K C .Gt f) (G : Has X.prog X.w X.K X.mg X.base CX k f ps [] sp) (hr : Room j X.A) (hx : Passes CX X E) (hkj : k ≤ j := by decide) : OpR X (compareOp .Gt) (rBin C sp E) :=
  fun pins s σ H x y v u Q I rx ry h => rich_own d G hr hx hkj I rx ry h
theorem op_geO (d : CmpX X.K C .GtE f) (G : Has X.prog X.w X.K X.mg X.base CX k f ps [] sp) (hr : Room j X.A) (hx : Passes CX X E) (hkj : k ≤ j := by decide) : OpR X (compareOp .GtE) (rBin C sp E) :=
  fun pins s σ H x y v u Q I rx ry h => rich_own d G hr hx hkj I rx ry h
def neF (C : Str) : Fct := fun K => (decide (PySem.W.findIn K (.ref (He.ga K C)) "__ne__" = some (some (.builtin "object.__ne__"))) && decide (PySem.W.subIn K (.ref (He.ga K C)) (.type "object") = some true)) && cmpF C .Eq K
structure NeX (K : PySem.W.Frag) (C : Addr) (f : Addr) : Prop where
  n : PySem.W.findIn K (.ref C) "__ne__" = some (some (.builtin "object.__ne__"))
  o : PySem.W.subIn K (.ref C) (.type "object") = some true
  c : CmpX K C .Eq f
theorem neF_ok {C : Str} {K : PySem.W.Frag} (h : neF C K = true) : NeX K (He.ga K C) (He.ma K (He.ga K C) "__eq__") := by
  obtain ⟨a, b⟩ := Bool.and_eq_true_iff.mp h
  obtain ⟨a1, a2⟩ := Bool.and_eq_true_iff.mp a
  exact ⟨of_decide_eq_true a1, of_decide_eq_true a2, cmpF_ok b⟩
theorem op_neO (d : NeX X.K C f) (G : Has X.prog X.w X.K X.mg X.base CX k f ps [] sp) (hr : Room j X.A) (hx : Passes CX X E) (hkj : k + 1 ≤ j := by decide) : OpR X (compareOp .NotEq) (fun x y H Q => rBin C sp E x y H fun v H' => ∃ b, v = .bl b ∧ Q (.bl (!b)) H') := by
  intro pins s σ H x y v u Q I rx ry h
  obtain ⟨a, dx, fs, rfl, ha, o, h⟩ := h
  cases rx
  obtain ⟨ox, od, J⟩ := ins_at I ha
  have go := run_at (vs := [.ref a, y]) (us := [.ref a, u]) G (Room.in1 (hr.mono hkj)) I.env0.in1 hx I (.cons rfl (.cons ry .nil)) h
  have go2 : wpAny (model X.prog X.w) X.A.in1 (call (.ref f) [.ref a, u]) (PySem.W.BoolBack fun z s' => EP X pins σ Q (.bool (!z)) s') X.xe s := wpAny_mono go (fun v s' z => by
    obtain ⟨w, H', I', rw', b, rfl, q⟩ := z
    cases rw'
    exact ⟨.bl (!b), H', I', rfl, q⟩) fun _ _ z => z
  have hu : X.A.units + 1 < cLine := hu_of hr
  rcases o with ⟨T, b⟩ | ⟨b, dy, gs, rfl, hb⟩
  · exact ne_at hu I.kIn J (b.looks I ry) (d.c.t T b.mem) d.n d.o d.c.d.at_ d.c.d.fn go2
  · cases ry
    obtain ⟨oy, oe, J2⟩ := ins_at I hb
    exact ne_at hu I.kIn J J2.type (by unfold PySem.W.notFirst; simp) d.n d.o d.c.d.at_ d.c.d.fn go2
/-! ### minus, in place, items, calls -/
theorem un_negO (d : Dun X.K C "__neg__" f) (G : Has X.prog X.w X.K X.mg X.base CX k f ps [] sp) (hr : Room j X.A) (hx : Passes CX X E) (hkj : k ≤ j := by decide) : UnR X (unaryOp .USub) (fun x H Q => ∃ a dx fs, x = .ref a ∧ H a = some (.ins C dx fs) ∧ sp [x] H Q E) := by
  intro pins s σ H x v Q I rx h
  obtain ⟨a, dx, fs, rfl, ha, h⟩ := h
  cases rx
  obtain ⟨ox, od, J⟩ := ins_at I ha
  obtain ⟨m, F⟩ := I.fr
  exact PySem.W.ksp_neg F I.mod.kin J d.at_ d.fn (run_here (vs := [.ref a]) (us := [.ref a]) G hr hkj hx I (.cons rfl .nil) h)
def inpF (C : Str) (op : Operator) : Fct := fun K => PySem.W.selfFirst K (He.ga K C) && dunF C (dunderI op.info.2) K
theorem inpF_ok {C : Str} {op : Operator} {K : PySem.W.Frag} (h : inpF C op K = true) : PySem.W.selfFirst K (He.ga K C) = true ∧ Dun K (He.ga K C) (dunderI op.info.2) (He.ma K (He.ga K C) (dunderI op.info.2)) := by
  obtain ⟨a, b⟩ := Bool.and_eq_true_iff.mp h
  exact ⟨a, dunF_ok b⟩
theorem inp_own {op : Operator} (sf : PySem.W.selfFirst X.K C = true) (d : Dun X.K C (dunderI op.info.2) f) (G : Has X.prog X.w X.K X.mg X.base CX k f ps [] sp) (hr : Room j X.A) (hx : Passes CX X E) (hkj : k ≤ j := by decide) :
    PIp X op (fun x y H Q => ∃ a dx fs, x = .ref a ∧ H a = some (.ins C dx fs) ∧ sp [x, y] H Q E) := by
  intro pins s σ H x y v u Q I rx ry h
  obtain ⟨a, dx, fs, rfl, ha, h⟩ := h
  cases rx
  obtain ⟨ox, od, J⟩ := ins_at I ha
  obtain ⟨m, F⟩ := I.fr
  refine PySem.W.ksp_inplace F I.mod.kin J sf d.at_ d.fn ?_
  exact wpAny_mono (run_here (vs := [.ref a, y]) (us := [.ref a, u]) G hr hkj hx I (.cons rfl (.cons ry .nil)) h) (fun v s' z => ep_cmp z) fun _ _ z => z
def setF (C : Str) : Fct := fun K => PySem.W.noSeq K (He.ga K C) && dunF C "__setitem__" K
theorem set_own (nq : PySem.W.noSeq X.K C = true) (d : Dun X.K C "__setitem__" f) (G : Has X.prog X.w X.K X.mg X.base CX k f ps [] sp) (hr : Room j X.A) (hx : Passes CX X E) (hkj : k ≤ j := by decide) :
    PSet X (fun o i v H Q => ∃ a dx fs, o = .ref a ∧ H a = some (.ins C dx fs) ∧ sp [o, i, v] H (fun _ H' => Q H') E) := by
  intro pins s σ H o i v ov iv u Q I ro ri rv h
  obtain ⟨a, dx, fs, rfl, ha, h⟩ := h
  cases ro
  obtain ⟨ox, od, J⟩ := ins_at I ha
  obtain ⟨m, F⟩ := I.fr
  refine PySem.W.ksp_setItem F I.mod.kin J nq d.at_ d.fn ?_
  exact wpAny_mono (run_here (vs := [.ref a, i, v]) (us := [.ref a, iv, u]) G hr hkj hx I (.cons rfl (.cons ri (.cons rv .nil))) h) (fun _ s' z => z.elim fun w z => z.elim fun H' q => ⟨H', q.1, q.2.2⟩) fun _ _ z => z
def getF (C : Str) : Fct := fun K => PySem.W.fnIn K (He.ma K (He.ga K C) "__getitem__") && dunF C "__getitem__" K
def IxO (X : Cx) (r : R2) : Prop := ∀ (value slice : Expr) (pins : List (Addr × Obj)) (s : Shared) (σ : L2.St) (H : Hp) (x y : V) (v u : Value) (Q : VK), Inv X pins σ H s → RelV x v → RelV y u → r x y H Q →
  (∀ a, subscripted slice true (.ref a) u = runValue (.builtin "lifetime.subscript" ⟨[.ref a, u], []⟩)) → wpAny (model X.prog X.w) X.A (subscriptTail value slice v u) (EP X pins σ Q) X.xe s
theorem ix_own (fi : PySem.W.fnIn X.K f = true) (d : Dun X.K C "__getitem__" f) (G : Has X.prog X.w X.K X.mg X.base CX k f ps [] sp) (hr : Room j X.A) (hx : Passes CX X E) (hkj : k + 1 ≤ j := by decide) :
    IxO X (fun x y H Q => ∃ a dx fs, x = .ref a ∧ H a = some (.ins C dx fs) ∧ sp [x, y] H Q E) := by
  intro value slice pins s σ H x y v u Q I rx ry h hs
  obtain ⟨a, dx, fs, rfl, ha, h⟩ := h
  cases rx
  obtain ⟨ox, od, J⟩ := ins_at I ha
  obtain ⟨m, F⟩ := I.fr
  exact PySem.W.sub_K F I.mod.kin J d.at_ fi d.fn (run_at (vs := [.ref a, y]) (us := [.ref a, u]) G (Room.in1 (hr.mono hkj)) I.env0.in1 hx I (.cons rfl (.cons ry .nil)) h) (hs a)
end
end Rg
namespace Rg
open PySem PySem.Spec PyProof.Rows L2
/-! GEN F: isinstance of own classes, raises, items and calls of own instances. -/
def insF (C : Str) : Fct := fun K => ((decide (PySem.W.findIn K (.ref (He.ga K C)) "__class__" = some (some (.builtin "object.__class__"))) && decide (PySem.W.specialIn K (.builtin "object.__class__") "__get__" = some (some (.builtin "getset_descriptor.__get__")))) &&
  (decide (PySem.W.takesIn K (.builtin "object.__class__") = some true) && decide (PySem.W.mroIn K (He.ga K C) (.type "object") = some true))) &&
  ((btNames.all fun T => decide (PySem.W.kitOne K (.ref (He.ga K C)) (.type T) = some false)) && ((btNames.all fun T => decide (PySem.W.kitOne K (.type T) (.ref (He.ga K C)) = some false)) && decide (PySem.W.kitOne K (.ref (He.ga K C)) (.ref (He.ga K C)) = some true)))
structure InsX (K : PySem.W.Frag) (C : Addr) : Prop where
  ha : PySem.W.findIn K (.ref C) "__class__" = some (some (.builtin "object.__class__"))
  hn : PySem.W.specialIn K (.builtin "object.__class__") "__get__" = some (some (.builtin "getset_descriptor.__get__"))
  ht : PySem.W.takesIn K (.builtin "object.__class__") = some true
  hm : PySem.W.mroIn K C (.type "object") = some true
  ot : ∀ T ∈ btNames, PySem.W.kitOne K (.ref C) (.type T) = some false
  to : ∀ T ∈ btNames, PySem.W.kitOne K (.type T) (.ref C) = some false
  me : PySem.W.kitOne K (.ref C) (.ref C) = some true
theorem insF_ok {C : Str} {K : PySem.W.Frag} (h : insF C K = true) : InsX K (He.ga K C) := by
  unfold insF at h
  simp only [Bool.and_eq_true, decide_eq_true_eq, List.all_eq_true] at h
  obtain ⟨⟨⟨h1, h2⟩, h3, h4⟩, h5, h6, h7⟩ := h
  exact ⟨h1, h2, h3, h4, h5, h6, h7⟩
theorem ty_ins {K : PySem.W.Frag} {H : Hp} {a C dx : Addr} {fs : List (Str × V)} (h : InsX K C) (cl : Cls K C) (e : H a = some (.ins C dx fs)) : TyX K H (.ref a) (.ref C) := .base (.ins e cl h.ha h.hn h.ht h.hm)
/-- no int, or a bool -/
def NW (K : PySem.W.Frag) (H : Hp) (v : V) : Prop := ∃ t i b, TyX K H v t ∧ PySem.W.kitOne K t (.type "int") = some i ∧ PySem.W.kitOne K t (.type "bool") = some b ∧ (i && !b) = false
theorem nw_bt {K : PySem.W.Frag} {H : Hp} {v : V} {T : String} (h : Bt H v T) (n : T ≠ "int") : NW K H v := by
  refine ⟨.type T, decide (T = "bool"), decide (T = "bool"), h.ty, ?_, ?_, ?_⟩
  · cases h <;> first | exact absurd rfl n | exact kit_ty (by decide +kernel)
  · cases h <;> first | exact absurd rfl n | exact kit_ty (by decide +kernel)
  · cases h <;> first | exact absurd rfl n | decide
theorem nw_ins {K : PySem.W.Frag} {H : Hp} {a C dx : Addr} {fs : List (Str × V)} (h : InsX K C) (cl : Cls K C) (e : H a = some (.ins C dx fs)) : NW K H (.ref a) :=
  ⟨.ref C, false, false, ty_ins h cl e, h.ot _ (by decide), h.ot _ (by decide), rfl⟩
theorem kit_int {K : PySem.W.Frag} : PySem.W.kitOne K (.type "int") (.type "int") = some true := kit_ty (by decide +kernel)
theorem kit_ib {K : PySem.W.Frag} : PySem.W.kitOne K (.type "int") (.type "bool") = some false := kit_ty (by decide +kernel)
section
variable {X : Cx} {CX : CXT} {k j : Nat} {f C : Addr} {ps : List Str} {sp : Sp} {dvs : List V} {E : XK} {a b e : Expr} {es : List Expr} {ta tb : TE} {t : TA} {x m : Str} {pos p p2 pos2 : Pos} {i : Nat}
theorem pe_ixO {r : R2} (hr : IxO X r) (ha : PE X a ta) (hb : PE X b tb) (hs : ∀ o u, subscripted b true (.ref o) u = runValue (.builtin "lifetime.subscript" ⟨[.ref o, u], []⟩)) : PE X (.Subscript a b pos) (tOp r ta tb) := by
  refine ⟨fun pins s σ H Q I h => ?_⟩
  exact Subscript_ (binT ha hb I h fun v u s2 x y H2 I2 rx ry q => hr a b pins s2 σ H2 x y v u Q I2 rx ry q fun o => hs o u)
abbrev ExcX (K : PySem.W.Frag) (C : Addr) : Prop := PySem.W.excIn K C He.veBase "ValueError.__new__" = true ∧ PySem.W.keepIn K (.ref C) = true ∧ PySem.W.subIn K (.ref C) (.type "BaseException") = some true ∧ PySem.W.typeIn K (.ref C) = some (.type "type")
theorem raiseO {W : WX} (h : ExcX X.K C) (tk : Takes X W) (gC : X.mg x = some (.ref C)) (hc : X.calm = true := by rfl) (hg : Gl X x := by rfl) (hdb : (x == ("__debug__" : Str)) = false := by decide) :
    PS X (.Raise (some (.Call (.Name x p) [.Constant (.str m) i p2] [] pos)) none pos2) (fun _ σ H => W (.ref C) none σ H) :=
  ps_raise hc tk (pmk_own PySem.F.excBase_ValueError h.1 gC h.2.1 (raises_own h.2.2.1 h.2.2.2) hg hdb)
theorem pe_gint {n : Int} {t' : Tok} (hm : X.mg x = some (.int n t')) (hg : Gl X x := by rfl) (hd : (x == ("__debug__" : Str)) = false := by decide) : PE X (.Name x pos) (tC (.int n)) := pe_glob hg hm ⟨_, rfl⟩ hd
theorem pe_gstr {z : Str} {t' : Tok} (hm : X.mg x = some (.str z t')) (hg : Gl X x := by rfl) (hd : (x == ("__debug__" : Str)) = false := by decide) : PE X (.Name x pos) (tC (.str z)) := pe_glob hg hm ⟨_, rfl⟩ hd
theorem pe_gref {c : Addr} (hm : X.mg x = some (.ref c)) (hg : Gl X x := by rfl) (hd : (x == ("__debug__" : Str)) = false := by decide) : PE X (.Name x pos) (tC (.ref c)) := pe_glob (v := .ref c) hg hm rfl hd
theorem lt1k {n : Nat} (h : Nat.ble (n + 1) 1000 = true) : n < 1000 := Nat.le_of_ble_eq_true h
theorem Has.raw {P : Program} {w : World} {K : PySem.W.Frag} {mg : Str → Option Value} {base : Heap} (G : Has P w K mg base CX k f ps [] sp) : FnR P w K mg base CX k f sp := by
  obtain ⟨fd, ds, g1, g2, g3⟩ := G.ex
  exact (g1.raw g2 g3).imp fun vs H Q E h => by rw [List.append_nil]; exact h
/-- f(e, ..), f an expression that gives an instance of C -/
def tCallI (C : Addr) (sp : Sp) (E : XK) (tf : TE) (t : TA) : TE := fun σ H Q => tf σ H fun y H1 => ∃ a, y = V.ref a ∧ t σ H1 fun vs H2 => (∃ dx fs, H2 a = some (.ins C dx fs)) ∧ sp (V.ref a :: vs) H2 Q E
theorem pe_callI {fe : Expr} {tf : TE} (hf : PE X fe tf) (c : StX.CallO X.K C f) (G : Has X.prog X.w X.K X.mg X.base CX k f ps [] sp) (hr : Room j X.A) (hx : Passes CX X E) (ha : PA X (e :: es) t) (hkj : k ≤ j := by decide)
    (ht : eval (.Call fe (e :: es) [] pos) X.env = (eval fe X.env >>= fun u => callWith pos u [] (backTo pos (starEach (e :: es) X.env)) (backToKw pos (keywordEach [] X.env))) := by rfl)
    (he : starEach (e :: es) X.env = (false, eval e X.env) :: starEach es X.env := by rfl) (hpl : (backTo pos (starEach es X.env)).any (·.1) = false := by rfl) : PE X (.Call fe (e :: es) [] pos) (tCallI C sp E tf t) := by
  refine ⟨fun pins s σ H Q I h => ?_⟩
  refine Call_ (thn (hf.run pins s σ H _ I h) fun u s1 z => ?_) ht
  obtain ⟨y, H1, I1, ry, a, rfl, q⟩ := z
  cases ry
  refine StX.callO_with (thn (ha.run pos pins s1 σ H1 _ I1 q) fun us s2 z => ?_) he hpl
  obtain ⟨vs, H2, I2, r, ⟨dx, fs, hi⟩, q2⟩ := z
  obtain ⟨ox, od, J, hd⟩ := StX.insC_at (C := C) I2 (.inr ⟨dx, fs, hi⟩)
  exact ⟨⟨C, ox, od, J, hd⟩, StX.run_callO c (Has.raw G) (hr.mono hkj) hx I2 (.inr ⟨dx, fs, hi⟩) r q2⟩
def callF (C : Str) : Fct := fun K => PySem.W.fnIn K (He.ma K (He.ga K C) "__call__") && dunF C "__call__" K
theorem callF_ok {C : Str} {K : PySem.W.Frag} (h : callF C K = true) : StX.CallO K (He.ga K C) (He.ma K (He.ga K C) "__call__") := by
  obtain ⟨a, b⟩ := Bool.and_eq_true_iff.mp h
  exact ⟨(dunF_ok b).at_, (dunF_ok b).fn, a⟩
end
end Rg
namespace Rg
open PySem PySem.Spec PyProof.Rows L2
/-- of less than 300 bits -/
def Bg (x : Int) : Prop := x.natAbs < 2 ^ 300
theorem bg_of {x : Int} (h0 : -(10 ^ 80) ≤ x) (h1 : x ≤ 10 ^ 80) : Bg x := Nat.lt_of_le_of_lt (show x.natAbs ≤ 10 ^ 80 by omega) (by decide)
theorem bg_mul {x y : Int} (hx : Bg x) (hy : Bg y) : CMulW x y := wide_mul hx hy (by decide) (by decide) (by decide)
end Rg
namespace Rg
open PySem PySem.Spec PyProof.Rows L2
/-! GEN G: comprehensions over a list, elements that leave what stood. -/
theorem lc_map {K : PySem.W.Frag} {a : Addr} {xs : List V} {i : Nat} {te : TE} {vs : List Nat} {σ : L2.St} {H1 : Hp} {D : Addr} {Qd : Hp → Prop} (f : V → V) (nD : H1 D = none) (hz : xs.length ≤ 1000) (hS : SqL K H1 a xs)
    (hw : ∀ x : V, wipe ((wipe σ vs).set i (some x)) vs = wipe σ vs)
    (step : ∀ (x : V) (H : Hp), x ∈ xs → Same H1 H → ∀ (R : VK), (∀ H', Same H H' → R (f x) H') → te ((wipe σ vs).set i (some x)) H R)
    (hd : ∀ H, Same H1 H → H D = some (.lst (xs.map f)) → Qd H) :
    ∃ W : Nat → Nat → Hp → Prop, (∃ m, W 0 m (L2.upd H1 D (.lst []))) ∧ ∀ j m H, W j m H →
      ((Itl K a).stop j H ∧ Qd H) ∨ ((Itl K a).go j H ∧ ∃ Nx : Hp → Prop, (∀ H', Nx H' → ∃ m', m' < m ∧ W (j + 1) m' H') ∧ ∀ x H', (Itl K a).yld j H x H' → gName i x (wipe σ vs) H' fun σ2 H2 => wipe σ2 vs = wipe σ vs ∧ tYes σ2 H2 fun b H3 =>
        if b = true then te σ2 H3 fun y H4 => ∃ acc, H4 D = some (.lst acc) ∧ acc.length < sizeLine ∧ Nx (L2.upd H4 D (.lst (acc ++ [y]))) else Nx H3) := by
  refine lc_list (xs := xs) (fun j H => Same H1 H ∧ H D = some (.lst ((xs.take j).map f))) ⟨Same.new nD, upd_same⟩ (fun j H _ z => z.1.seq hS) (fun j x H hx z => ?_) fun H z => hd H z.1 (by rw [z.2, List.take_of_length_le (Nat.le_refl _)])
  obtain ⟨sm, hD⟩ := z
  have hj : j < xs.length := (List.getElem?_eq_some_iff.mp hx).1
  refine ⟨hw x, ?_⟩
  unfold tYes
  dsimp only
  rw [if_pos rfl]
  refine step x H (List.mem_of_getElem? hx) sm _ fun H' s' => ⟨_, s' _ _ hD, ?_, ?_, ?_⟩
  · rw [List.length_map, List.length_take]
    exact Nat.lt_of_le_of_lt (Nat.le_trans (Nat.min_le_left _ _) (Nat.le_trans (Nat.le_of_lt hj) hz)) (by decide)
  · exact Same.mut (sm.trans s') nD
  · rw [upd_same, List.take_add_one, hx]
    simp
theorem lc_fmap {K : PySem.W.Frag} {a : Addr} {xs : List V} {i : Nat} {tt : TT} {te : TE} {vs : List Nat} {σ : L2.St} {H1 : Hp} {D : Addr} {Qd : Hp → Prop} (p : V → Bool) (f : V → V) (nD : H1 D = none) (hz : xs.length ≤ 1000) (hS : SqL K H1 a xs)
    (hw : ∀ x : V, wipe ((wipe σ vs).set i (some x)) vs = wipe σ vs)
    (tst : ∀ (x : V) (H : Hp), x ∈ xs → Same H1 H → ∀ (R : Bool → Hp → Prop), (∀ H', Same H H' → R (p x) H') → tt ((wipe σ vs).set i (some x)) H R)
    (step : ∀ (x : V) (H : Hp), x ∈ xs → p x = true → Same H1 H → ∀ (R : VK), (∀ H', Same H H' → R (f x) H') → te ((wipe σ vs).set i (some x)) H R)
    (hd : ∀ H, Same H1 H → H D = some (.lst ((xs.filter p).map f)) → Qd H) :
    ∃ W : Nat → Nat → Hp → Prop, (∃ m, W 0 m (L2.upd H1 D (.lst []))) ∧ ∀ j m H, W j m H →
      ((Itl K a).stop j H ∧ Qd H) ∨ ((Itl K a).go j H ∧ ∃ Nx : Hp → Prop, (∀ H', Nx H' → ∃ m', m' < m ∧ W (j + 1) m' H') ∧ ∀ x H', (Itl K a).yld j H x H' → gName i x (wipe σ vs) H' fun σ2 H2 => wipe σ2 vs = wipe σ vs ∧ tt σ2 H2 fun b H3 =>
        if b = true then te σ2 H3 fun y H4 => ∃ acc, H4 D = some (.lst acc) ∧ acc.length < sizeLine ∧ Nx (L2.upd H4 D (.lst (acc ++ [y]))) else Nx H3) := by
  refine lc_list (xs := xs) (fun j H => Same H1 H ∧ H D = some (.lst (((xs.take j).filter p).map f))) ⟨Same.new nD, upd_same⟩ (fun j H _ z => z.1.seq hS) (fun j x H hx z => ?_) fun H z => hd H z.1 (by rw [z.2, List.take_of_length_le (Nat.le_refl _)])
  obtain ⟨sm, hD⟩ := z
  have hj : j < xs.length := (List.getElem?_eq_some_iff.mp hx).1
  have hl : ((xs.take j).filter p).length < 1000 := by
    have := List.length_filter_le p (xs.take j)
    rw [List.length_take] at this
    omega
  refine ⟨hw x, ?_⟩
  refine tst x H (List.mem_of_getElem? hx) sm _ fun H' s' => ?_
  by_cases hp : p x = true
  · rw [if_pos hp]
    refine step x H' (List.mem_of_getElem? hx) hp (sm.trans s') _ fun H2 s2 => ⟨_, s2 _ _ (s' _ _ hD), ?_, ?_, ?_⟩
    · rw [List.length_map]
      exact Nat.lt_trans hl (by decide)
    · exact Same.mut (sm.trans (s'.trans s2)) nD
    · rw [upd_same, List.take_add_one, hx]
      simp [hp]
  · rw [if_neg hp]
    refine ⟨sm.trans s', ?_⟩
    rw [s' _ _ hD, List.take_add_one, hx]
    simp [hp]
end Rg
namespace Rg
open PySem PySem.Spec PyProof.Rows L2
/-! GEN H: properties, read and assigned. -/
theorem slot_pset : Slot "property" "__set__" "property.__set__" :=
  Slot.of (owner := "property") (n := "__set__") (by rw [typeLookup_type, builtinLookup_eq_fast]; kernel_rfl)
    (by decide +kernel) (by decide +kernel) (by decide +kernel) (by first | exact .inl (by decide +kernel) | exact .inr (by decide +kernel))
    (by rw [isSubtype_type]; kernel_rfl)
theorem entry_pset : entryFor table "property.__set__" = some Builtin.«property.__set__» := entryFor_of_tree (by kernel_rfl)
theorem args_pset (a b c : Value) : argsOk "property.__set__" ⟨[a, b, c], []⟩ := by
  unfold argsOk
  kernel_rfl
section
variable {prog : Program} {w : World} {A : Around} {s : Shared} {K : PySem.W.Frag} {p x g fs : Addr} {rest : List Value} {v g0 : Value} {R : Result → Shared → Prop}
theorem prop_set (X : K.In s.heap) (hp : PySem.W.recIn K p "property" = some (g0 :: .ref fs :: rest))
    (h : wpAny (model prog w) A.in1 (call (.ref fs) [.ref x, v]) (fun _ s' => R (.ok (.ret .none)) s') (fun e s' => R (.error e) s') s) :
    codeAny (model prog w) A (.call (.builtin "property.__set__") ⟨[.ref p, .ref x, v], []⟩) R s := by
  obtain ⟨d, sl, ho⟩ := PySem.W.rec_of X hp
  refine codeAny_call_builtin slot_pset.plain entry_pset (slot_pset.check _ _ _ _ _ _ _ _ ⟨_, ho, rfl⟩ (args_pset _ _ _) ?_)
  unfold Builtin.«property.__set__»
  have q : wpAny (model prog w) A.in1 (field (.ref p) 1) (fun z s' => z = .ref fs ∧ s' = s) (fun e s' => R (.error e) s') s := by
    unfold field fieldsOf
    refine wpAny_bind (wpAny_bind (wpAny_load ho ?_))
    exact wpAny_pure (wpAny_pure ⟨rfl, rfl⟩)
  refine wpAny_bind (wpAny_mono q (fun z s' e => ?_) fun _ _ z => z)
  obtain ⟨rfl, rfl⟩ := e
  dsimp only
  rw [if_neg (fun z => by cases beq_iff_eq.mp z)]
  refine wpAny_bind (wpAny_mono h (fun _ s2 z => ?_) fun _ _ z => z)
  exact wpAny_pure z
end
section
variable {X : Cx} {CX : CXT} {k j : Nat} {C p g a dx : Addr} {fs : List (Str × V)} {f : Str} {ps : List Str} {sp : Sp} {E : XK} {e o value : Expr} {pos pos' : Pos} {ta tv : TE}
/-- the class has the name as a property at p with getter gg and setter gs -/
structure PropX (K : PySem.W.Frag) (C : Addr) (f : Str) (p : Addr) (gg : Addr) : Prop where
  at_ : PySem.W.findIn K (.ref C) f = some (some (.ref p))
  get : PySem.W.specialIn K (.ref p) "__get__" = some (some (.builtin "property.__get__"))
  tak : PySem.W.takesIn K (.ref p) = some true
  rec_ : ∃ rest, PySem.W.recIn K p "property" = some (.ref gg :: rest)
theorem PropX.of {K : PySem.W.Frag} {gg : Addr} (h : PropX K C f p gg) : PropOf K C f p gg := ⟨h.at_, h.get, h.tak, h.rec_⟩
theorem pe_propH (he : PE X e ta) (c : Cls X.K C) (hp : PropX X.K C f p g) (G : Has X.prog X.w X.K X.mg X.base CX k g ps [] sp) (hr : Room j X.A) (hx : Passes CX X.nox E) (hkj : k + 1 ≤ j := by decide)
    (hab : attributeBase e f X.env (eval e X.env) = eval e X.env := by rfl) : PE X (.Attribute e f pos) (tProp C sp [] E ta) := by
  obtain ⟨fd, ds, g1, g2, g3⟩ := G.ex
  exact pe_prop he c hp.of g1 (hr.mono hkj) g2 g3 hx hab
/-- its setter -/
structure SetX (K : PySem.W.Frag) (C : Addr) (f : Str) (p : Addr) (gs : Addr) : Prop where
  at_ : PySem.W.findIn K (.ref C) f = some (some (.ref p))
  tak : PySem.W.takesIn K (.ref p) = some true
  ty : PySem.W.typeIn K (.ref p) = some (.type "property")
  rec_ : ∃ g0 rest, PySem.W.recIn K p "property" = some (g0 :: .ref gs :: rest)
theorem setprop_ok {pins : List (Addr × Obj)} {σ : L2.St} {H : Hp} {s : Shared} {y : V} {u : Value} {Q : Hp → Prop} (I : Inv X pins σ H s) (ea : H a = some (.ins C dx fs)) (c : Cls X.K C) (hp : SetX X.K C f p g) (G : Has X.prog X.w X.K X.mg X.base CX k g ps [] sp)
    (hr : Room j X.A) (hx : Passes CX X E) (hkj : k + 2 ≤ j) (ry : RelV y u) (h : sp [.ref a, y] H (fun _ H' => Q H') E) :
    wpAny (model X.prog X.w) X.A (setAttr (.ref a) f u) (fun _ s' => ∃ H', Inv X pins σ H' s' ∧ Q H') X.xe s := by
  obtain ⟨ox, od, J⟩ := ins_at I ea
  obtain ⟨g0, rest, hrec⟩ := hp.rec_
  have I1 := I.tok (s.toks + 1)
  have tk : PySem.W.takerIn X.K C f = some (some (.ref p)) := by
    unfold PySem.W.takerIn
    rw [hp.at_]
    show (PySem.W.takesIn X.K (.ref p)).map _ = _
    rw [hp.tak]
    rfl
  obtain ⟨dp, sl, ho⟩ := PySem.W.rec_of (h := s.heap) I.kIn hrec
  refine PySem.W.set_plain I.kIn J c.sa (PySem.W.osa_open (s := { s with toks := s.toks + 1 }) I1.kIn J c.po tk fun b => ?_)
  unfold PySem.Builtin.ObjectAttr.setByDescriptor
  refine wpAny_bind (wpAny_rule ?_)
  have rm : Room k X.A.in1.in1 := Room.in1 (Room.in1 (hr.mono hkj))
  refine wpAny_bind (wpAny_holding (wpAny_callSpecial?_slot (T := "property") ⟨_, ho, rfl⟩ slot_pset (wpAny_call (prop_set I1.kIn hrec ?_))))
  refine wpAny_mono (run_at (vs := [.ref a, y]) (us := [.ref a, u]) (Q := fun _ H' => Q H') G rm I1.env0.in1.in1 hx I1 (.cons rfl (.cons ry .nil)) h) (fun z s' q => ?_) fun _ _ z => z
  obtain ⟨_, H', I', _, q⟩ := q
  exact wpAny_pure ⟨H', I', q⟩
def sFldP (C : Addr) (sp : Sp) (E : XK) (ta tv : TE) : TS := fun D σ H => tv σ H fun y H1 => ta σ H1 fun x H2 => ∃ a dx fs, x = .ref a ∧ H2 a = some (.ins C dx fs) ∧ sp [.ref a, y] H2 (fun _ H' => D.nx σ H') E
theorem ps_fldP (ha : PE X o ta) (hv : PE X value tv) (c : Cls X.K C) (hp : SetX X.K C f p g) (G : Has X.prog X.w X.K X.mg X.base CX k g ps [] sp) (hr : Room j X.A) (hx : Passes CX X E) (hkj : k + 2 ≤ j := by decide)
    (hs : swapsWith value (some (.Attribute o f pos')) pos.line X.env = pure false := by rfl) : PS X (.Assign [.Attribute o f pos'] value pos) (sFldP C sp E ta tv) := by
  refine ⟨fun pins s σ H D I h => ?_⟩
  refine plainObj_wpAny_Assign_Attribute (thn (hv.run pins s σ H _ I h) fun u s1 z => ?_) hs
  obtain ⟨y, H1, I1, ry, q⟩ := z
  refine thn (ha.run pins s1 σ H1 _ I1 q) fun ov s2 z => ?_
  obtain ⟨x, H2, I2, rx, a, dx, fs, rfl, ea, q2⟩ := z
  cases rx
  refine wpAny_mono (setprop_ok (Q := fun H' => D.nx σ H') I2 ea c hp G hr hx hkj ry q2) (fun _ s3 z => ?_) fun _ _ z => z
  obtain ⟨H3, I3, q3⟩ := z
  exact ⟨σ, H3, I3, q3⟩
end
def propF (C f : Str) : Fct := fun K => (decide (PySem.W.findIn K (.ref (He.ga K C)) f = some (some (.ref (He.ma K (He.ga K C) f)))) && decide (PySem.W.specialIn K (.ref (He.ma K (He.ga K C) f)) "__get__" = some (some (.builtin "property.__get__")))) &&
  (decide (PySem.W.takesIn K (.ref (He.ma K (He.ga K C) f)) = some true) && (match PySem.W.recIn K (He.ma K (He.ga K C) f) "property" with
    | some (.ref _ :: _) => true
    | _ => false))
theorem propF_ok {C f : Str} {K : PySem.W.Frag} (h : propF C f K = true) : PropX K (He.ga K C) f (He.ma K (He.ga K C) f) (pgA C f K) := by
  obtain ⟨h1, h2⟩ := Bool.and_eq_true_iff.mp h
  obtain ⟨a1, a2⟩ := Bool.and_eq_true_iff.mp h1
  obtain ⟨a3, a4⟩ := Bool.and_eq_true_iff.mp h2
  refine ⟨of_decide_eq_true a1, of_decide_eq_true a2, of_decide_eq_true a3, ?_⟩
  unfold pgA
  split at a4
  · rename_i g rest e
    rw [e]
    exact ⟨rest, rfl⟩
  · cases a4
def setpF (C f : Str) : Fct := fun K => (decide (PySem.W.findIn K (.ref (He.ga K C)) f = some (some (.ref (He.ma K (He.ga K C) f)))) && decide (PySem.W.typeIn K (.ref (He.ma K (He.ga K C) f)) = some (.type "property"))) &&
  (decide (PySem.W.takesIn K (.ref (He.ma K (He.ga K C) f)) = some true) && (match PySem.W.recIn K (He.ma K (He.ga K C) f) "property" with
    | some (_ :: .ref _ :: _) => true
    | _ => false))
theorem setpF_ok {C f : Str} {K : PySem.W.Frag} (h : setpF C f K = true) : SetX K (He.ga K C) f (He.ma K (He.ga K C) f) (psA C f K) := by
  obtain ⟨h1, h2⟩ := Bool.and_eq_true_iff.mp h
  obtain ⟨a1, a2⟩ := Bool.and_eq_true_iff.mp h1
  obtain ⟨a3, a4⟩ := Bool.and_eq_true_iff.mp h2
  refine ⟨of_decide_eq_true a1, of_decide_eq_true a3, of_decide_eq_true a2, ?_⟩
  unfold psA
  split at a4
  · rename_i g0 g rest e
    rw [e]
    exact ⟨g0, rest, rfl⟩
  · cases a4
end Rg
namespace Lw
open PySem PySem.Spec PyProof.Rows L2 Rg
def top (i : Nat) : Stmt := PySem.Challenge.pw_ringindexes_k05_counters_stepped.main.body.getD i (.Pass ⟨0, 0, 0, 0⟩)
abbrev s_is_whole : Stmt := top 4
abbrev s_is_between : Stmt := top 5
abbrev s_whole_of : Stmt := top 9
abbrev s_divisor_of : Stmt := top 10
abbrev s__law_source : Stmt := top 12
abbrev s__law_draw : Stmt := top 13
abbrev s__law_pick : Stmt := top 14
abbrev s__law_number : Stmt := top 15
abbrev s__law_is : Stmt := top 16
abbrev s__law_stepped : Stmt := top 17
abbrev s__law_made_of : Stmt := top 18
abbrev s_law : Stmt := top 19
abbrev s_Counter___init__ : Stmt := inClass (top 8) 0
abbrev s_Counter_change : Stmt := inClass (top 8) 3
abbrev s_Counter___add__ : Stmt := inClass (top 8) 4
abbrev s_Counter___radd__ : Stmt := inClass (top 8) 5
abbrev s_Counter___sub__ : Stmt := inClass (top 8) 6
abbrev s_Counter___iadd__ : Stmt := inClass (top 8) 7
abbrev s_Counter___isub__ : Stmt := inClass (top 8) 8
abbrev s_Counter___mod__ : Stmt := inClass (top 8) 9
abbrev s_Counter___floordiv__ : Stmt := inClass (top 8) 10
abbrev s_Counter___and__ : Stmt := inClass (top 8) 11
abbrev s_Counter___eq__ : Stmt := inClass (top 8) 12
abbrev s_Counter_value : Stmt := inClass (top 8) 1
abbrev s_Counter_value_set : Stmt := inClass (top 8) 2
def d_is_whole : DefM := ⟨fun K => He.ga K "is_whole", "is_whole", "is_whole", defArgs s_is_whole, defBody s_is_whole, defScope s_is_whole, [], []⟩
def d_is_between : DefM := ⟨fun K => He.ga K "is_between", "is_between", "is_between", defArgs s_is_between, defBody s_is_between, defScope s_is_between, [], []⟩
def d_whole_of : DefM := ⟨fun K => He.ga K "whole_of", "whole_of", "whole_of", defArgs s_whole_of, defBody s_whole_of, defScope s_whole_of, [], []⟩
def d_divisor_of : DefM := ⟨fun K => He.ga K "divisor_of", "divisor_of", "divisor_of", defArgs s_divisor_of, defBody s_divisor_of, defScope s_divisor_of, [], []⟩
def d__law_source : DefM := ⟨fun K => He.ga K "_law_source", "_law_source", "_law_source", defArgs s__law_source, defBody s__law_source, defScope s__law_source, [], []⟩
def d__law_draw : DefM := ⟨fun K => He.ga K "_law_draw", "_law_draw", "_law_draw", defArgs s__law_draw, defBody s__law_draw, defScope s__law_draw, [], []⟩
def d__law_pick : DefM := ⟨fun K => He.ga K "_law_pick", "_law_pick", "_law_pick", defArgs s__law_pick, defBody s__law_pick, defScope s__law_pick, [], []⟩
def d__law_number : DefM := ⟨fun K => He.ga K "_law_number", "_law_number", "_law_number", defArgs s__law_number, defBody s__law_number, defScope s__law_number, [], []⟩
def d__law_is : DefM := ⟨fun K => He.ga K "_law_is", "_law_is", "_law_is", defArgs s__law_is, defBody s__law_is, defScope s__law_is, [], []⟩
def d__law_stepped : DefM := ⟨fun K => He.ga K "_law_stepped", "_law_stepped", "_law_stepped", defArgs s__law_stepped, defBody s__law_stepped, defScope s__law_stepped, [], []⟩
def d__law_made_of : DefM := ⟨fun K => He.ga K "_law_made_of", "_law_made_of", "_law_made_of", defArgs s__law_made_of, defBody s__law_made_of, defScope s__law_made_of, [], []⟩
def d_law : DefM := ⟨fun K => He.ga K "law", "law", "law", defArgs s_law, defBody s_law, defScope s_law, [], []⟩
def d_Counter___init__ : DefM := ⟨fun K => He.ma K (He.ga K "Counter") "__init__", "__init__", "Counter.__init__", defArgs s_Counter___init__, defBody s_Counter___init__, defScope s_Counter___init__, [.int 0], []⟩
def d_Counter_change : DefM := ⟨fun K => He.ma K (He.ga K "Counter") "change", "change", "Counter.change", defArgs s_Counter_change, defBody s_Counter_change, defScope s_Counter_change, [], []⟩
def d_Counter___add__ : DefM := ⟨fun K => He.ma K (He.ga K "Counter") "__add__", "__add__", "Counter.__add__", defArgs s_Counter___add__, defBody s_Counter___add__, defScope s_Counter___add__, [], []⟩
def d_Counter___radd__ : DefM := ⟨fun K => He.ma K (He.ga K "Counter") "__radd__", "__radd__", "Counter.__radd__", defArgs s_Counter___radd__, defBody s_Counter___radd__, defScope s_Counter___radd__, [], []⟩
def d_Counter___sub__ : DefM := ⟨fun K => He.ma K (He.ga K "Counter") "__sub__", "__sub__", "Counter.__sub__", defArgs s_Counter___sub__, defBody s_Counter___sub__, defScope s_Counter___sub__, [], []⟩
def d_Counter___iadd__ : DefM := ⟨fun K => He.ma K (He.ga K "Counter") "__iadd__", "__iadd__", "Counter.__iadd__", defArgs s_Counter___iadd__, defBody s_Counter___iadd__, defScope s_Counter___iadd__, [], []⟩
def d_Counter___isub__ : DefM := ⟨fun K => He.ma K (He.ga K "Counter") "__isub__", "__isub__", "Counter.__isub__", defArgs s_Counter___isub__, defBody s_Counter___isub__, defScope s_Counter___isub__, [], []⟩
def d_Counter___mod__ : DefM := ⟨fun K => He.ma K (He.ga K "Counter") "__mod__", "__mod__", "Counter.__mod__", defArgs s_Counter___mod__, defBody s_Counter___mod__, defScope s_Counter___mod__, [], []⟩
def d_Counter___floordiv__ : DefM := ⟨fun K => He.ma K (He.ga K "Counter") "__floordiv__", "__floordiv__", "Counter.__floordiv__", defArgs s_Counter___floordiv__, defBody s_Counter___floordiv__, defScope s_Counter___floordiv__, [], []⟩
def d_Counter___and__ : DefM := ⟨fun K => He.ma K (He.ga K "Counter") "__and__", "__and__", "Counter.__and__", defArgs s_Counter___and__, defBody s_Counter___and__, defScope s_Counter___and__, [], []⟩
def d_Counter___eq__ : DefM := ⟨fun K => He.ma K (He.ga K "Counter") "__eq__", "__eq__", "Counter.__eq__", defArgs s_Counter___eq__, defBody s_Counter___eq__, defScope s_Counter___eq__, [], []⟩
def d_Counter_value : DefM := ⟨pgA "Counter" "value", "value", "Counter.value", defArgs s_Counter_value, defBody s_Counter_value, defScope s_Counter_value, [], []⟩
def d_Counter_value_set : DefM := ⟨psA "Counter" "value", "value", "Counter.value", defArgs s_Counter_value_set, defBody s_Counter_value_set, defScope s_Counter_value_set, [], []⟩
def fnL : List DefM := [d_is_whole, d_is_between, d_whole_of, d_divisor_of, d__law_source, d__law_draw, d__law_pick, d__law_number, d__law_is, d__law_stepped, d__law_made_of, d_law, d_Counter___init__, d_Counter_change, d_Counter___add__, d_Counter___radd__, d_Counter___sub__, d_Counter___iadd__, d_Counter___isub__, d_Counter___mod__, d_Counter___floordiv__, d_Counter___and__, d_Counter___eq__, d_Counter_value, d_Counter_value_set]
def faL : List Fct := [(He.Fa.glo "is_whole").ok,
  (He.Fa.glo "is_between").ok,
  (He.Fa.glo "whole_of").ok,
  (He.Fa.glo "divisor_of").ok,
  (He.Fa.glo "_law_source").ok,
  (He.Fa.glo "_law_draw").ok,
  (He.Fa.glo "_law_pick").ok,
  (He.Fa.glo "_law_number").ok,
  (He.Fa.glo "_law_is").ok,
  (He.Fa.glo "_law_stepped").ok,
  (He.Fa.glo "_law_made_of").ok,
  (He.Fa.glo "law").ok,
  (He.Fa.free "len").ok,
  (He.Fa.free "range").ok,
  (He.Fa.free "max").ok,
  (He.Fa.free "min").ok,
  (He.Fa.free "abs").ok,
  (He.Fa.free "int").ok,
  (He.Fa.free "bool").ok,
  (He.Fa.free "isinstance").ok,
  (He.Fa.free "str").ok,
  (He.Fa.glo "Counter").ok,
  (He.Fa.cls "Counter").ok,
  (He.Fa.noat "Counter" "modulus").ok,
  (He.Fa.noat "Counter" "own_value").ok,
  (He.Fa.mkr "Counter").ok,
  (He.Fa.meth "Counter" "change").ok,
  (He.Fa.meth "Counter" "__add__").ok,
  (He.Fa.meth "Counter" "__radd__").ok,
  (He.Fa.meth "Counter" "__sub__").ok,
  (He.Fa.meth "Counter" "__iadd__").ok,
  (He.Fa.meth "Counter" "__isub__").ok,
  (He.Fa.meth "Counter" "__mod__").ok,
  (He.Fa.meth "Counter" "__floordiv__").ok,
  (He.Fa.meth "Counter" "__and__").ok,
  (He.Fa.meth "Counter" "__eq__").ok,
  (He.Fa.int "LARGEST_MODULUS" (10 ^ 40)).ok,
  insF "Counter",
  (He.Fa.exc "NoCounter").ok,
  (He.Fa.glo "NoCounter").ok,
  propF "Counter" "value",
  setpF "Counter" "value",
  binF "Counter" .Add,
  binF "Counter" .Sub,
  binF "Counter" .Mod,
  binF "Counter" .FloorDiv,
  binF "Counter" .BitAnd,
  refF "Counter" .Add,
  inpF "Counter" .Add,
  inpF "Counter" .Sub,
  cmpF "Counter" .Eq]
abbrev TopL (K : PySem.W.Frag) (mg : Str → Option Value) : Prop := Top faL fnL K mg
section
variable {K : PySem.W.Frag} {mg : Str → Option Value}
theorem mg_is_whole (T : TopL K mg) : mg "is_whole" = some (.ref (He.ga K "is_whole")) := T.glo 0 rfl
theorem mg_is_between (T : TopL K mg) : mg "is_between" = some (.ref (He.ga K "is_between")) := T.glo 1 rfl
theorem mg_whole_of (T : TopL K mg) : mg "whole_of" = some (.ref (He.ga K "whole_of")) := T.glo 2 rfl
theorem mg_divisor_of (T : TopL K mg) : mg "divisor_of" = some (.ref (He.ga K "divisor_of")) := T.glo 3 rfl
theorem mg__law_source (T : TopL K mg) : mg "_law_source" = some (.ref (He.ga K "_law_source")) := T.glo 4 rfl
theorem mg__law_draw (T : TopL K mg) : mg "_law_draw" = some (.ref (He.ga K "_law_draw")) := T.glo 5 rfl
theorem mg__law_pick (T : TopL K mg) : mg "_law_pick" = some (.ref (He.ga K "_law_pick")) := T.glo 6 rfl
theorem mg__law_number (T : TopL K mg) : mg "_law_number" = some (.ref (He.ga K "_law_number")) := T.glo 7 rfl
theorem mg__law_is (T : TopL K mg) : mg "_law_is" = some (.ref (He.ga K "_law_is")) := T.glo 8 rfl
theorem mg__law_stepped (T : TopL K mg) : mg "_law_stepped" = some (.ref (He.ga K "_law_stepped")) := T.glo 9 rfl
theorem mg__law_made_of (T : TopL K mg) : mg "_law_made_of" = some (.ref (He.ga K "_law_made_of")) := T.glo 10 rfl
theorem mg_law (T : TopL K mg) : mg "law" = some (.ref (He.ga K "law")) := T.glo 11 rfl
theorem fr_len (T : TopL K mg) : mg "len" = none := T.free 12 rfl
theorem fr_range (T : TopL K mg) : mg "range" = none := T.free 13 rfl
theorem fr_max (T : TopL K mg) : mg "max" = none := T.free 14 rfl
theorem fr_min (T : TopL K mg) : mg "min" = none := T.free 15 rfl
theorem fr_abs (T : TopL K mg) : mg "abs" = none := T.free 16 rfl
theorem fr_int (T : TopL K mg) : mg "int" = none := T.free 17 rfl
theorem fr_bool (T : TopL K mg) : mg "bool" = none := T.free 18 rfl
theorem fr_isinstance (T : TopL K mg) : mg "isinstance" = none := T.free 19 rfl
theorem fr_str (T : TopL K mg) : mg "str" = none := T.free 20 rfl
theorem mg_Counter (T : TopL K mg) : mg "Counter" = some (.ref (He.ga K "Counter")) := T.glo 21 rfl
theorem cl_Counter (T : TopL K mg) : Cls K (He.ga K "Counter") := T.cls 22 rfl
theorem na_Counter_modulus (T : TopL K mg) : NoAttr K (He.ga K "Counter") "modulus" := T.noat 23 rfl
theorem na_Counter_own_value (T : TopL K mg) : NoAttr K (He.ga K "Counter") "own_value" := T.noat 24 rfl
theorem mk_Counter (T : TopL K mg) : Mk K (He.ga K "Counter") (He.ma K (He.ga K "Counter") "__init__") := T.mkr 25 rfl
theorem me_Counter_change (T : TopL K mg) : Meth K (He.ga K "Counter") "change" (He.ma K (He.ga K "Counter") "change") := T.meth 26 rfl
theorem me_Counter___add__ (T : TopL K mg) : Meth K (He.ga K "Counter") "__add__" (He.ma K (He.ga K "Counter") "__add__") := T.meth 27 rfl
theorem me_Counter___radd__ (T : TopL K mg) : Meth K (He.ga K "Counter") "__radd__" (He.ma K (He.ga K "Counter") "__radd__") := T.meth 28 rfl
theorem me_Counter___sub__ (T : TopL K mg) : Meth K (He.ga K "Counter") "__sub__" (He.ma K (He.ga K "Counter") "__sub__") := T.meth 29 rfl
theorem me_Counter___iadd__ (T : TopL K mg) : Meth K (He.ga K "Counter") "__iadd__" (He.ma K (He.ga K "Counter") "__iadd__") := T.meth 30 rfl
theorem me_Counter___isub__ (T : TopL K mg) : Meth K (He.ga K "Counter") "__isub__" (He.ma K (He.ga K "Counter") "__isub__") := T.meth 31 rfl
theorem me_Counter___mod__ (T : TopL K mg) : Meth K (He.ga K "Counter") "__mod__" (He.ma K (He.ga K "Counter") "__mod__") := T.meth 32 rfl
theorem me_Counter___floordiv__ (T : TopL K mg) : Meth K (He.ga K "Counter") "__floordiv__" (He.ma K (He.ga K "Counter") "__floordiv__") := T.meth 33 rfl
theorem me_Counter___and__ (T : TopL K mg) : Meth K (He.ga K "Counter") "__and__" (He.ma K (He.ga K "Counter") "__and__") := T.meth 34 rfl
theorem me_Counter___eq__ (T : TopL K mg) : Meth K (He.ga K "Counter") "__eq__" (He.ma K (He.ga K "Counter") "__eq__") := T.meth 35 rfl
theorem gi_LARGEST_MODULUS (T : TopL K mg) : ∃ t, mg "LARGEST_MODULUS" = some (.int (10 ^ 40) t) := T.int 36 rfl
theorem in_Counter (T : TopL K mg) : InsX K (He.ga K "Counter") := insF_ok (T.c.fact 37 rfl)
theorem xx_NoCounter (T : TopL K mg) : ExcX K (He.ga K "NoCounter") := He.exc_ok (T.c.fact 38 rfl)
theorem mg_NoCounter (T : TopL K mg) : mg "NoCounter" = some (.ref (He.ga K "NoCounter")) := T.glo 39 rfl
theorem pr_Counter_value (T : TopL K mg) : PropX K (He.ga K "Counter") "value" (He.ma K (He.ga K "Counter") "value") (pgA "Counter" "value" K) := propF_ok (T.c.fact 40 rfl)
theorem st_Counter_value (T : TopL K mg) : SetX K (He.ga K "Counter") "value" (He.ma K (He.ga K "Counter") "value") (psA "Counter" "value" K) := setpF_ok (T.c.fact 41 rfl)
theorem bi_Counter_Add (T : TopL K mg) : BinX K (He.ga K "Counter") .Add (He.ma K (He.ga K "Counter") "__add__") := binF_ok (T.c.fact 42 rfl)
theorem bi_Counter_Sub (T : TopL K mg) : BinX K (He.ga K "Counter") .Sub (He.ma K (He.ga K "Counter") "__sub__") := binF_ok (T.c.fact 43 rfl)
theorem bi_Counter_Mod (T : TopL K mg) : BinX K (He.ga K "Counter") .Mod (He.ma K (He.ga K "Counter") "__mod__") := binF_ok (T.c.fact 44 rfl)
theorem bi_Counter_FloorDiv (T : TopL K mg) : BinX K (He.ga K "Counter") .FloorDiv (He.ma K (He.ga K "Counter") "__floordiv__") := binF_ok (T.c.fact 45 rfl)
theorem bi_Counter_BitAnd (T : TopL K mg) : BinX K (He.ga K "Counter") .BitAnd (He.ma K (He.ga K "Counter") "__and__") := binF_ok (T.c.fact 46 rfl)
theorem re_Counter_Add (T : TopL K mg) : RefX K (He.ga K "Counter") .Add (He.ma K (He.ga K "Counter") "__radd__") := refF_ok (T.c.fact 47 rfl)
theorem ip_Counter_Add (T : TopL K mg) : PySem.W.selfFirst K (He.ga K "Counter") = true ∧ Dun K (He.ga K "Counter") "__iadd__" (He.ma K (He.ga K "Counter") "__iadd__") := inpF_ok (T.c.fact 48 rfl)
theorem ip_Counter_Sub (T : TopL K mg) : PySem.W.selfFirst K (He.ga K "Counter") = true ∧ Dun K (He.ga K "Counter") "__isub__" (He.ma K (He.ga K "Counter") "__isub__") := inpF_ok (T.c.fact 49 rfl)
theorem cm_Counter_Eq (T : TopL K mg) : CmpX K (He.ga K "Counter") .Eq (He.ma K (He.ga K "Counter") "__eq__") := cmpF_ok (T.c.fact 50 rfl)
theorem fn_is_whole (T : TopL K mg) : ∃ fd, FunD K d_is_whole.name d_is_whole.qual d_is_whole.params d_is_whole.body d_is_whole.scope (d_is_whole.dvs K) (d_is_whole.kws K) (d_is_whole.loc K) fd := T.c.dfn 0 rfl
theorem fn_is_between (T : TopL K mg) : ∃ fd, FunD K d_is_between.name d_is_between.qual d_is_between.params d_is_between.body d_is_between.scope (d_is_between.dvs K) (d_is_between.kws K) (d_is_between.loc K) fd := T.c.dfn 1 rfl
theorem fn_whole_of (T : TopL K mg) : ∃ fd, FunD K d_whole_of.name d_whole_of.qual d_whole_of.params d_whole_of.body d_whole_of.scope (d_whole_of.dvs K) (d_whole_of.kws K) (d_whole_of.loc K) fd := T.c.dfn 2 rfl
theorem fn_divisor_of (T : TopL K mg) : ∃ fd, FunD K d_divisor_of.name d_divisor_of.qual d_divisor_of.params d_divisor_of.body d_divisor_of.scope (d_divisor_of.dvs K) (d_divisor_of.kws K) (d_divisor_of.loc K) fd := T.c.dfn 3 rfl
theorem fn__law_source (T : TopL K mg) : ∃ fd, FunD K d__law_source.name d__law_source.qual d__law_source.params d__law_source.body d__law_source.scope (d__law_source.dvs K) (d__law_source.kws K) (d__law_source.loc K) fd := T.c.dfn 4 rfl
theorem fn__law_draw (T : TopL K mg) : ∃ fd, FunD K d__law_draw.name d__law_draw.qual d__law_draw.params d__law_draw.body d__law_draw.scope (d__law_draw.dvs K) (d__law_draw.kws K) (d__law_draw.loc K) fd := T.c.dfn 5 rfl
theorem fn__law_pick (T : TopL K mg) : ∃ fd, FunD K d__law_pick.name d__law_pick.qual d__law_pick.params d__law_pick.body d__law_pick.scope (d__law_pick.dvs K) (d__law_pick.kws K) (d__law_pick.loc K) fd := T.c.dfn 6 rfl
theorem fn__law_number (T : TopL K mg) : ∃ fd, FunD K d__law_number.name d__law_number.qual d__law_number.params d__law_number.body d__law_number.scope (d__law_number.dvs K) (d__law_number.kws K) (d__law_number.loc K) fd := T.c.dfn 7 rfl
theorem fn__law_is (T : TopL K mg) : ∃ fd, FunD K d__law_is.name d__law_is.qual d__law_is.params d__law_is.body d__law_is.scope (d__law_is.dvs K) (d__law_is.kws K) (d__law_is.loc K) fd := T.c.dfn 8 rfl
theorem fn__law_stepped (T : TopL K mg) : ∃ fd, FunD K d__law_stepped.name d__law_stepped.qual d__law_stepped.params d__law_stepped.body d__law_stepped.scope (d__law_stepped.dvs K) (d__law_stepped.kws K) (d__law_stepped.loc K) fd := T.c.dfn 9 rfl
theorem fn__law_made_of (T : TopL K mg) : ∃ fd, FunD K d__law_made_of.name d__law_made_of.qual d__law_made_of.params d__law_made_of.body d__law_made_of.scope (d__law_made_of.dvs K) (d__law_made_of.kws K) (d__law_made_of.loc K) fd := T.c.dfn 10 rfl
theorem fn_law (T : TopL K mg) : ∃ fd, FunD K d_law.name d_law.qual d_law.params d_law.body d_law.scope (d_law.dvs K) (d_law.kws K) (d_law.loc K) fd := T.c.dfn 11 rfl
theorem fn_Counter___init__ (T : TopL K mg) : ∃ fd, FunD K d_Counter___init__.name d_Counter___init__.qual d_Counter___init__.params d_Counter___init__.body d_Counter___init__.scope (d_Counter___init__.dvs K) (d_Counter___init__.kws K) (d_Counter___init__.loc K) fd := T.c.dfn 12 rfl
theorem fn_Counter_change (T : TopL K mg) : ∃ fd, FunD K d_Counter_change.name d_Counter_change.qual d_Counter_change.params d_Counter_change.body d_Counter_change.scope (d_Counter_change.dvs K) (d_Counter_change.kws K) (d_Counter_change.loc K) fd := T.c.dfn 13 rfl
theorem fn_Counter___add__ (T : TopL K mg) : ∃ fd, FunD K d_Counter___add__.name d_Counter___add__.qual d_Counter___add__.params d_Counter___add__.body d_Counter___add__.scope (d_Counter___add__.dvs K) (d_Counter___add__.kws K) (d_Counter___add__.loc K) fd := T.c.dfn 14 rfl
theorem fn_Counter___radd__ (T : TopL K mg) : ∃ fd, FunD K d_Counter___radd__.name d_Counter___radd__.qual d_Counter___radd__.params d_Counter___radd__.body d_Counter___radd__.scope (d_Counter___radd__.dvs K) (d_Counter___radd__.kws K) (d_Counter___radd__.loc K) fd := T.c.dfn 15 rfl
theorem fn_Counter___sub__ (T : TopL K mg) : ∃ fd, FunD K d_Counter___sub__.name d_Counter___sub__.qual d_Counter___sub__.params d_Counter___sub__.body d_Counter___sub__.scope (d_Counter___sub__.dvs K) (d_Counter___sub__.kws K) (d_Counter___sub__.loc K) fd := T.c.dfn 16 rfl
theorem fn_Counter___iadd__ (T : TopL K mg) : ∃ fd, FunD K d_Counter___iadd__.name d_Counter___iadd__.qual d_Counter___iadd__.params d_Counter___iadd__.body d_Counter___iadd__.scope (d_Counter___iadd__.dvs K) (d_Counter___iadd__.kws K) (d_Counter___iadd__.loc K) fd := T.c.dfn 17 rfl
theorem fn_Counter___isub__ (T : TopL K mg) : ∃ fd, FunD K d_Counter___isub__.name d_Counter___isub__.qual d_Counter___isub__.params d_Counter___isub__.body d_Counter___isub__.scope (d_Counter___isub__.dvs K) (d_Counter___isub__.kws K) (d_Counter___isub__.loc K) fd := T.c.dfn 18 rfl
theorem fn_Counter___mod__ (T : TopL K mg) : ∃ fd, FunD K d_Counter___mod__.name d_Counter___mod__.qual d_Counter___mod__.params d_Counter___mod__.body d_Counter___mod__.scope (d_Counter___mod__.dvs K) (d_Counter___mod__.kws K) (d_Counter___mod__.loc K) fd := T.c.dfn 19 rfl
theorem fn_Counter___floordiv__ (T : TopL K mg) : ∃ fd, FunD K d_Counter___floordiv__.name d_Counter___floordiv__.qual d_Counter___floordiv__.params d_Counter___floordiv__.body d_Counter___floordiv__.scope (d_Counter___floordiv__.dvs K) (d_Counter___floordiv__.kws K) (d_Counter___floordiv__.loc K) fd := T.c.dfn 20 rfl
theorem fn_Counter___and__ (T : TopL K mg) : ∃ fd, FunD K d_Counter___and__.name d_Counter___and__.qual d_Counter___and__.params d_Counter___and__.body d_Counter___and__.scope (d_Counter___and__.dvs K) (d_Counter___and__.kws K) (d_Counter___and__.loc K) fd := T.c.dfn 21 rfl
theorem fn_Counter___eq__ (T : TopL K mg) : ∃ fd, FunD K d_Counter___eq__.name d_Counter___eq__.qual d_Counter___eq__.params d_Counter___eq__.body d_Counter___eq__.scope (d_Counter___eq__.dvs K) (d_Counter___eq__.kws K) (d_Counter___eq__.loc K) fd := T.c.dfn 22 rfl
theorem fn_Counter_value (T : TopL K mg) : ∃ fd, FunD K d_Counter_value.name d_Counter_value.qual d_Counter_value.params d_Counter_value.body d_Counter_value.scope (d_Counter_value.dvs K) (d_Counter_value.kws K) (d_Counter_value.loc K) fd := T.c.dfn 23 rfl
theorem fn_Counter_value_set (T : TopL K mg) : ∃ fd, FunD K d_Counter_value_set.name d_Counter_value_set.qual d_Counter_value_set.params d_Counter_value_set.body d_Counter_value_set.scope (d_Counter_value_set.dvs K) (d_Counter_value_set.kws K) (d_Counter_value_set.loc K) fd := T.c.dfn 24 rfl
end
end Lw
open PySem PySem.Spec PyProof.Rows L2 Rg
local macro_rules | `(tactic| walk_at "pos") => `(tactic| (show (0 : Int) < _; first | assumption | decide | omega))
local macro_rules | `(tactic| walk_at "mul") => `(tactic| (show CMul _ _; first | exact Or.inr ⟨by decide, by decide⟩ | exact Or.inl ⟨by decide, by decide⟩ | exact Or.inl ⟨by omega, by omega⟩ | exact Or.inr ⟨by omega, by omega⟩))
local macro_rules | `(tactic| walk_at "pow") => `(tactic| (show CPow _ _; exact ⟨by decide, by decide, by decide⟩))
local macro_rules | `(tactic| walk_at "div") => `(tactic| (show CDiv _ _; exact ⟨by decide, by decide⟩))
local macro_rules | `(tactic| walk_at "divw") => `(tactic| (show CDivW _ _; exact ⟨by decide, by decide⟩))
local macro_rules | `(tactic| walk_at "cond") => `(tactic| first | walk_at "pos" | walk_at "mul" | walk_at "pow" | walk_at "div")
local macro_rules | `(tactic| walk_at "ne") => `(tactic| first | assumption | (apply Ne.symm; assumption) | (refine' ne_of_none ?zA ?zB; (case zB => assumption); (case zA => walk_at "hp")) | (refine' Ne.symm (ne_of_none ?zA ?zB); (case zB => assumption); (case zA => walk_at "hp")))
local macro_rules | `(tactic| walk_at "hp") => `(tactic| first | assumption | exact upd_same | (refine Eq.trans (upd_ne ?zC) ?zD; (case zC => walk_at "ne"); (case zD => walk_at "hp")) | (refine' Same.at_ ?zE ?zF; (case zE => assumption); (case zF => walk_at "hp")))
local macro_rules | `(tactic| walk_at "sq") => `(tactic| first | assumption | exact SqL.of (by walk_at "hp") | exact Same.seq (by assumption) (by assumption))
local macro_rules | `(tactic| walk_at "g1") => `(tactic| first
  | with_reducible exact rfl
  | refine ⟨_, _, rfl, rfl, And.intro (by walk_at "cond") ?_⟩
  | refine ⟨_, _, rfl, rfl, ?_⟩
  | refine ⟨_, rfl, ?_⟩
  | refine ⟨rfl, ?_⟩
  | refine ⟨_, _, _, _, rfl, rfl, (by walk_at "sq"), rfl, ?_⟩
  | refine ⟨_, _, rfl, Or.inl (by walk_at "sq"), ?_⟩
  | refine ⟨_, _, _, _, rfl, rfl, (by walk_at "hp"), rfl, ?_⟩
  | refine Or.inl ⟨_, rfl, ?_⟩)
local macro_rules | `(tactic| walk_at "g") => `(tactic| repeat walk_at "g1")
/-! LAW A: the cells of the script, the draws. -/
namespace Lw
open PySem PySem.Spec PyProof.Rows L2 Rg
section
variable {P : Program} {w : World} {K : PySem.W.Frag} {mg : Str → Option Value} {base : Heap}
/-- a source of draws -/
def srcO (n s : Int) : HO := .lst [.int n, .int s]
def sp_source (K : PySem.W.Frag) : Sp := fun vs H Q _ => ∃ (a : Addr) (ns : List Int) (t : Int), vs = [.ref a, .int t] ∧ SqL K H a (ns.map V.int) ∧ 0 ≤ t ∧
  ∀ p n s, H p = none → 0 ≤ n → 0 ≤ s → s < 2147483647 → Q (.ref p) (upd H p (srcO n s))
def sp_draw : Sp := fun vs H Q _ => ∃ (p : Addr) (n s m : Int), vs = [.ref p, .int m] ∧ H p = some (srcO n s) ∧ (0 ≤ n ∧ 0 ≤ s ∧ s < 2147483647) ∧ (0 < m ∧ m < 2 ^ 250) ∧
  ∀ d n' s', 0 ≤ d → d < m → 0 ≤ n' → 0 ≤ s' → s' < 2147483647 → Q (.int d) (upd H p (srcO n' s'))
theorem sc_source : FnScope ["_law_script", "_law_turn", "_law_cell", "_law_number_here", "_law_seed"] ["_law_script", "_law_turn"] (defScope s__law_source) := ⟨rfl, rfl, rfl, by decide +kernel, rfl, by decide +kernel, by decide +kernel⟩
theorem ok_source (T : TopL K mg) : Has P w K mg base CX0 1 (He.ga K "_law_source") ["_law_script", "_law_turn"] [] (sp_source K) := by
  obtain ⟨fd, F⟩ := fn__law_source T
  refine Has.of0 F sc_source (fun _ _ _ _ _ _ us hl => match us, hl with | [_, _], _ => rfl) (fun vs H Q E h => ?_) (fun cdv A outer s H vs Q E hr h => ?_)
  · obtain ⟨a, ns, t, rfl, _⟩ := h
    rfl
  · obtain ⟨a, ns, t, rfl, hS, h0, k⟩ := h
    refine ⟨_, (pss_cons (ps_set (i := 2) sc_source.nd rfl (Or.inl rfl) pe_int)
      (pss_cons (ps_if (pt_cmpR op_lt (pv 1) (pe_callB call_len_seq (by rfl) (fr_len T) PySem.boot_len (pa_cons (pv 0) pa_nil)) (nomark _)) (pss_one (ps_set (i := 2) sc_source.nd rfl (Or.inl rfl) (pe_ix ix_list (pv 0) (pv 1) (fun _ _ => rfl)))) pss_nil)
      (pss_cons (ps_set (i := 3) sc_source.nd rfl (Or.inl rfl) (pe_callB call_abs (by rfl) (fr_abs T) (by decide +kernel) (pa_cons (pv 2) pa_nil)))
      (pss_cons (ps_set (i := 4) sc_source.nd rfl (Or.inl rfl) (pe_op op_mod (pe_callTy call_int1 (by rfl) (fr_int T) (by decide +kernel) (pa_cons (pe_op op_add (pe_op op_add (pe_op op_mul (pe_op op_mod (pe_callTy call_int1 (by rfl) (fr_int T) (by decide +kernel) (pa_cons (pv 3) pa_nil)) pe_int) pe_int) (pe_op op_mul pe_int (pv 1))) pe_int) pa_nil)) pe_int))
      (pss_cons (ps_if (pt_cmpR op_lt (pv 3) (pe_op op_pow pe_int pe_int) (nomark _)) (pss_one (ps_set (i := 3) sc_source.nd rfl (Or.inl rfl) pe_int)) pss_nil)
      (pss_one (ps_ret (pe_lst (pa_cons (pv 3) (pa_cons (pv 4) pa_nil)))))))))), ?_⟩
    walk_at "g"
    have fin : ∀ (c : Int) (z : Int), ∀ p, H p = none → 0 ≤ z → Q (.ref p) (upd H p (srcO z (((if c < 0 then -c else c) % 2147483629 * 16807 + 104729 * t + 11) % 2147483647))) := fun c z p hp hz =>
      k p z _ hp hz (emod_rng (by decide)).1 (emod_rng (by decide)).2
    refine ifD (fun hc => ?_) (fun hc => ?_)
    · rw [List.length_map] at hc
      have hi : t.toNat < ns.length := by omega
      refine ⟨_, rfl, _, rfl, _, _, _, _, rfl, rfl, hS, atI_of h0 (by rw [List.getElem?_map, List.getElem?_eq_getElem hi]; rfl), ?_⟩
      generalize ns[t.toNat]'hi = c
      walk_at "g"
      refine ifD (fun hc => ?_) (fun hc => ?_)
      · walk_at "g"
        refine ⟨lenk rfl, fun p hp => ?_⟩
        exact fin c 0 p hp (by decide)
      · walk_at "g"
        refine ⟨lenk rfl, fun p hp => ?_⟩
        exact fin c _ p hp (abs_nn c)
    · walk_at "g"
      refine ⟨lenk rfl, fun p hp => ?_⟩
      exact fin 0 0 p hp (by decide)
theorem sc_draw : FnScope ["_law_source_here", "_law_amount", "_law_digit", "_law_found"] ["_law_source_here", "_law_amount"] (defScope s__law_draw) := ⟨rfl, rfl, rfl, by decide +kernel, rfl, by decide +kernel, by decide +kernel⟩
theorem src_get {n s : Int} {H : Hp} {p : Addr} (h : H p = some (srcO n s)) : SqL K H p [.int n, .int s] := SqL.of h
theorem ok_draw (T : TopL K mg) : Has P w K mg base CX0 1 (He.ga K "_law_draw") ["_law_source_here", "_law_amount"] [] sp_draw := by
  obtain ⟨fd, F⟩ := fn__law_draw T
  refine Has.of0 F sc_draw (fun _ _ _ _ _ _ us hl => match us, hl with | [_, _], _ => rfl) (fun vs H Q E h => ?_) (fun cdv A outer s H vs Q E hr h => ?_)
  · obtain ⟨p, n, s, m, rfl, _⟩ := h
    rfl
  · obtain ⟨p, n, sd, m, rfl, hp, ⟨hn, hs0, hs1⟩, ⟨hm0, hm1⟩, k⟩ := h
    refine ⟨_, (pss_cons (ps_if (pt_cmpR op_gt (pe_ix ix_list (pv 0) pe_int (fun _ _ => rfl)) pe_int (nomark _)) (pss_cons (ps_set (i := 2) sc_draw.nd rfl (Or.inl rfl) (pe_op op_mod (pe_callTy call_int1 (by rfl) (fr_int T) (by decide +kernel) (pa_cons (pe_ix ix_list (pv 0) pe_int (fun _ _ => rfl)) pa_nil)) (pv 1)))
      (pss_cons (ps_asg (pe_op op_fdivW (pe_ix ix_list (pv 0) pe_int (fun _ _ => rfl)) (pv 1)) (pg_sub (pv 0) pe_int set_list))
      (pss_one (ps_ret (pv 2))))) pss_nil)
      (pss_cons (ps_asg (pe_op op_mod (pe_callTy call_int1 (by rfl) (fr_int T) (by decide +kernel) (pa_cons (pe_op op_add (pe_op op_mul (pe_ix ix_list (pv 0) pe_int (fun _ _ => rfl)) pe_int) pe_int) pa_nil)) pe_int) (pg_sub (pv 0) pe_int set_list))
      (pss_cons (ps_set (i := 3) sc_draw.nd rfl (Or.inl rfl) (pe_op op_fdiv (pe_op op_mod (pe_callTy call_int1 (by rfl) (fr_int T) (by decide +kernel) (pa_cons (pe_op op_mul (pe_ix ix_list (pv 0) pe_int (fun _ _ => rfl)) (pe_ix ix_list (pv 0) pe_int (fun _ _ => rfl))) pa_nil)) pe_int) pe_int))
      (pss_cons (ps_if (pt_cmpR op_gt (pv 1) (pe_op op_pow pe_int pe_int) (nomark _)) (pss_cons (ps_asg (pe_op op_mod (pe_callTy call_int1 (by rfl) (fr_int T) (by decide +kernel) (pa_cons (pe_op op_add (pe_op op_mul (pe_ix ix_list (pv 0) pe_int (fun _ _ => rfl)) pe_int) pe_int) pa_nil)) pe_int) (pg_sub (pv 0) pe_int set_list))
      (pss_one (ps_set (i := 3) sc_draw.nd rfl (Or.inl rfl) (pe_op op_add (pe_op op_mul (pv 3) pe_int) (pe_op op_fdiv (pe_op op_mod (pe_callTy call_int1 (by rfl) (fr_int T) (by decide +kernel) (pa_cons (pe_op op_mul (pe_ix ix_list (pv 0) pe_int (fun _ _ => rfl)) (pe_ix ix_list (pv 0) pe_int (fun _ _ => rfl))) pa_nil)) pe_int) pe_int))))) pss_nil)
      (pss_one (ps_ret (pe_op op_mod (pe_callTy call_int1 (by rfl) (fr_int T) (by decide +kernel) (pa_cons (pv 3) pa_nil)) (pv 1)))))))), ?_⟩
    have hp' : H p = some (.lst [.int n, .int sd]) := hp
    walk_at "g"
    refine ifD (fun hc => ?_) (fun hc => ?_)
    · walk_at "g"
      refine ⟨wide_div hm0 (bits_of hm0 hm1) (by decide) (by decide), ?_⟩
      walk_at "g"
      exact k _ _ _ (emod_rng hm0).1 (emod_rng hm0).2 (Int.ediv_nonneg hn (by omega)) hs0 hs1
    · have B : ∀ z : Int, 0 ≤ z % 2147483647 ∧ z % 2147483647 < 2147483647 := fun z => emod_rng (by decide)
      walk_at "g"
      have b1 := B (sd * 48271 + 11)
      refine ifD (fun hc2 => ?_) (fun hc2 => ?_)
      · walk_at "g"
        have b2 := B ((sd * 48271 + 11) % 2147483647 * 39373 + 17)
        rw [upd_upd]
        exact k _ _ _ (emod_rng hm0).1 (emod_rng hm0).2 hn b2.1 b2.2
      · walk_at "g"
        exact k _ _ _ (emod_rng hm0).1 (emod_rng hm0).2 hn b1.1 b1.2
end
end Lw
/-! LAW B: draws, what stood stays. -/
namespace Lw
open PySem PySem.Spec PyProof.Rows L2 Rg
section
variable {P : Program} {w : World} {K : PySem.W.Frag} {mg : Str → Option Value} {base : Heap}
/-- a source of draws stands at p -/
def Src (H : Hp) (p : Addr) : Prop := ∃ n s, (0 ≤ n ∧ 0 ≤ s ∧ s < 2147483647) ∧ H p = some (srcO n s)
theorem Src.same {H H' : Hp} {p : Addr} (h : Src H p) (s : Same H H') : Src H' p := h.elim fun n z => z.elim fun k q => ⟨n, k, q.1, s _ _ q.2⟩
theorem Src.ne {H : Hp} {p q : Addr} (h : Src H p) (n : H q = none) : q ≠ p := h.elim fun _ z => z.elim fun _ k => (ne_of_none k.2 n).symm
/-- the source at p has gone on, all else stands -/
structure Drawn (p : Addr) (H H' : Hp) : Prop where
  src : Src H' p
  st : ∀ b u, H b = some u → b ≠ p → H' b = some u
theorem Drawn.at_ {p b : Addr} {H H' : Hp} {u : HO} (d : Drawn p H H') (h : H b = some u) (n : b ≠ p) : H' b = some u := d.st b u h n
theorem Drawn.trans {p : Addr} {H H' H'' : Hp} (a : Drawn p H H') (b : Drawn p H' H'') : Drawn p H H'' := ⟨b.src, fun c u h n => b.st c u (a.st c u h n) n⟩
theorem Drawn.same {p : Addr} {H H' H'' : Hp} (a : Drawn p H H') (b : Same H' H'') : Drawn p H H'' := ⟨a.src.same b, fun c u h n => b c u (a.st c u h n)⟩
theorem Drawn.after {p : Addr} {H H' H'' : Hp} (a : Same H H') (b : Drawn p H' H'') : Drawn p H H'' := ⟨b.src, fun c u h n => b.st c u (a c u h) n⟩
theorem Drawn.refl {p : Addr} {H : Hp} (h : Src H p) : Drawn p H H := ⟨h, fun _ _ e _ => e⟩
/-- from a heap without the source -/
theorem Drawn.over {p : Addr} {H H' H'' : Hp} (s : Same H H') (n : H p = none) (d : Drawn p H' H'') : Same H H'' := fun b u h => d.st b u (s b u h) (ne_of_none h n)
theorem Drawn.free {p q : Addr} {H H' : Hp} (d : Drawn p H H') (h : H' q = none) : H q = none := by
  have qp : q ≠ p := d.src.ne h
  cases e : H q with
  | none => rfl
  | some u => rw [d.st q u e qp] at h; cases h
@[irreducible] def sp_sourceD (K : PySem.W.Frag) : Sp := fun vs H Q _ => ∃ (a : Addr) (ns : List Int) (t : Int), vs = [.ref a, .int t] ∧ SqL K H a (ns.map V.int) ∧ 0 ≤ t ∧ ∀ p H', H p = none → Same H H' → Src H' p → Q (.ref p) H'
@[irreducible] def sp_drawD : Sp := fun vs H Q _ => ∃ (p : Addr) (m : Int), vs = [.ref p, .int m] ∧ Src H p ∧ (0 < m ∧ m < 2 ^ 250) ∧ ∀ d H', 0 ≤ d → d < m → Drawn p H H' → Q (.int d) H'
theorem ok_sourceD (T : TopL K mg) : Has P w K mg base CX0 1 (He.ga K "_law_source") ["_law_script", "_law_turn"] [] (sp_sourceD K) := (ok_source T).imp fun vs H Q E h => by
  unfold sp_sourceD at h
  obtain ⟨a, ns, t, rfl, hS, h0, k⟩ := h
  exact ⟨a, ns, t, rfl, hS, h0, fun p n s np hn hs ht => k p _ np (Same.new np) ⟨n, s, ⟨hn, hs, ht⟩, upd_same⟩⟩
theorem ok_drawD (T : TopL K mg) : Has P w K mg base CX0 1 (He.ga K "_law_draw") ["_law_source_here", "_law_amount"] [] sp_drawD := (ok_draw T).imp fun vs H Q E h => by
  unfold sp_drawD at h
  obtain ⟨p, m, rfl, ⟨n, s, z, hp⟩, hm, k⟩ := h
  exact ⟨p, n, s, m, rfl, hp, z, hm, fun d n' s' h0 h1 hn hs ht => k d _ h0 h1 ⟨⟨n', s', ⟨hn, hs, ht⟩, upd_same⟩, fun b u e ne => (upd_ne ne).trans e⟩⟩
theorem source_rd {H : Hp} {Q : VK} {E : XK} {a : Addr} {ns : List Int} {t : Int} (hS : SqL K H a (ns.map V.int)) (h0 : 0 ≤ t) (k : ∀ p H', H p = none → Same H H' → Src H' p → Q (.ref p) H') : sp_sourceD K [.ref a, .int t] H Q E := by
  unfold sp_sourceD
  exact ⟨a, ns, t, rfl, hS, h0, k⟩
theorem draw_rd {H : Hp} {Q : VK} {E : XK} {p : Addr} {m : Int} (hp : Src H p) (h0 : 0 < m) (h1 : m < 2 ^ 250) (k : ∀ d H', 0 ≤ d → d < m → Drawn p H H' → Src H' p → Q (.int d) H') : sp_drawD [.ref p, .int m] H Q E := by
  unfold sp_drawD
  exact ⟨p, m, rfl, hp, ⟨h0, h1⟩, fun d H' a b z => k d H' a b z z.src⟩
theorem at_all {Pr : V → Prop} {xs : List V} {d : Int} (h0 : 0 ≤ d) (h1 : d < xs.length) (hP : ∀ v ∈ xs, Pr v) : ∃ v, atI xs d = some v ∧ Pr v := by
  have hi : d.toNat < xs.length := by omega
  exact ⟨xs[d.toNat], atI_of h0 (List.getElem?_eq_getElem hi), hP _ (List.getElem_mem hi)⟩
theorem all_ints {Pr : Int → Prop} {ns : List Int} {d : Int} (h0 : 0 ≤ d) (h1 : d < ns.length) (hP : ∀ n ∈ ns, Pr n) : ∃ n, atI (ns.map V.int) d = some (.int n) ∧ Pr n := by
  obtain ⟨v, e, n, rfl, q⟩ := at_all (Pr := fun v => ∃ n, v = .int n ∧ Pr n) (xs := ns.map V.int) h0 (by rw [List.length_map]; exact h1) (fun v hv => by
    obtain ⟨n, hn, rfl⟩ := List.mem_map.mp hv
    exact ⟨n, rfl, hP n hn⟩)
  exact ⟨n, e, q⟩
/-- how many turns the law's loop takes -/
theorem turns_rng (lo hi : Int) (h0 : 0 ≤ lo) (h1 : lo ≤ hi) (z : Int) (hz : 0 ≤ z) : 0 ≤ (if (if hi < z then hi else z) > lo then (if hi < z then hi else z) else lo) ∧ (if (if hi < z then hi else z) > lo then (if hi < z then hi else z) else lo) ≤ hi := by
  split <;> split <;> omega
end
end Lw
namespace Lw
theorem em_add (v s m : Int) : (v + s) % m = (v % m + s) % m := (Int.emod_add_emod v m s).symm
theorem em_sub (v s m : Int) : (v - s) % m = (v % m - s) % m := by rw [Int.sub_eq_add_neg, Int.sub_eq_add_neg, em_add]
end Lw
local macro_rules | `(tactic| walk_at "ne") => `(tactic| first | assumption | (apply Ne.symm; assumption) | (refine' ne_of_none ?zA ?zB; (case zB => assumption); (case zA => walk_at "hp")) | (refine' Ne.symm (ne_of_none ?zA ?zB); (case zB => assumption); (case zA => walk_at "hp")) | (refine' Lw.Src.ne ?zJ ?zK; (case zK => assumption); (case zJ => assumption)) | (refine' Ne.symm (Lw.Src.ne ?zJ ?zK); (case zK => assumption); (case zJ => assumption)))
local macro_rules | `(tactic| walk_at "hp") => `(tactic| first | assumption | exact upd_same | (refine Eq.trans (upd_ne ?zC) ?zD; (case zC => walk_at "ne"); (case zD => walk_at "hp")) | (refine' Same.at_ ?zE ?zF; (case zE => assumption); (case zF => walk_at "hp")) | (refine' Lw.Drawn.at_ ?zG ?zH ?zI; (case zG => assumption); (case zH => walk_at "hp"); (case zI => walk_at "ne")))
/-! whole numbers -/
namespace Lw
open PySem PySem.Spec PyProof.Rows L2 Rg
section
variable {P : Program} {w : World} {K : PySem.W.Frag} {mg : Str → Option Value} {base : Heap}
@[irreducible] def sp_is_whole (K : PySem.W.Frag) : Sp := fun vs H Q _ => ∃ (v : V) (t : Value) (i b : Bool), vs = [v] ∧ TyX K H v t ∧ PySem.W.kitOne K t (.type "int") = some i ∧ PySem.W.kitOne K t (.type "bool") = some b ∧ Q (.bl (i && !b)) H
theorem sc_is_whole : FnScope ["thing"] ["thing"] (defScope s_is_whole) := ⟨rfl, rfl, rfl, by decide +kernel, rfl, by decide +kernel, by decide +kernel⟩
theorem ok_is_whole (T : TopL K mg) : Has P w K mg base CX0 1 (He.ga K "is_whole") ["thing"] [] (sp_is_whole K) := by
  obtain ⟨fd, F⟩ := fn_is_whole T
  refine Has.of0 F sc_is_whole (fun _ _ _ _ _ _ us hl => match us, hl with | [_], _ => rfl) (fun vs H Q E h => ?_) (fun cdv A outer s H vs Q E hr h => ?_)
  · unfold sp_is_whole at h
    obtain ⟨v, t, i, b, rfl, _⟩ := h
    rfl
  · unfold sp_is_whole at h
    obtain ⟨v, t, i, b, rfl, ty, k1, k2, k⟩ := h
    refine ⟨_, (pss_one (ps_ret (pe_and (pe_callB (call_isi : CallR _ _ (rIsi K)) (by rfl) (fr_isinstance T) (by decide +kernel) (pa_cons (pv 0) (pa_cons (pe_bltn (v := .ty "int") (u := .type "int") rfl (fr_int T) (by decide +kernel) rfl) pa_nil))) (pe_one (pe_not (pe_callB (call_isi : CallR _ _ (rIsi K)) (by rfl) (fr_isinstance T) (by decide +kernel) (pa_cons (pv 0) (pa_cons (pe_bltn (v := .ty "bool") (u := .type "bool") rfl (fr_bool T) (by decide +kernel) rfl) pa_nil)))))))), ?_⟩
    refine ⟨_, rfl, _, _, t, _, i, rfl, .ty _, ty, k1, i, rfl, ?_⟩
    cases i
    · exact iteF k
    · exact iteT ⟨_, rfl, _, _, t, _, b, rfl, .ty _, ty, k2, b, rfl, k⟩
theorem whole_int {H : Hp} {Q : VK} {E : XK} {n : Int} (k : Q (.bl true) H) : sp_is_whole K [.int n] H Q E := by
  unfold sp_is_whole
  exact ⟨_, _, true, false, rfl, .base (.int n), kit_int, kit_ib, k⟩
theorem whole_not {H : Hp} {Q : VK} {E : XK} {v : V} (h : NW K H v) (k : Q (.bl false) H) : sp_is_whole K [v] H Q E := by
  obtain ⟨t, i, b, ty, k1, k2, e⟩ := h
  unfold sp_is_whole
  exact ⟨v, t, i, b, rfl, ty, k1, k2, by rw [e]; exact k⟩
@[irreducible] def sp_is_between (K : PySem.W.Frag) : Sp := fun vs H Q _ => ∃ (v : V) (lo hi : Int), vs = [v, .int lo, .int hi] ∧ ((∃ n, v = .int n ∧ Q (.bl (decide (lo ≤ n ∧ n ≤ hi))) H) ∨ (NW K H v ∧ Q (.bl false) H))
theorem sc_is_between : FnScope ["thing", "low", "high"] ["thing", "low", "high"] (defScope s_is_between) := ⟨rfl, rfl, rfl, by decide +kernel, rfl, by decide +kernel, by decide +kernel⟩
theorem ok_is_between (T : TopL K mg) : Has P w K mg base CX0 2 (He.ga K "is_between") ["thing", "low", "high"] [] (sp_is_between K) := by
  obtain ⟨fd, F⟩ := fn_is_between T
  refine Has.of0 F sc_is_between (fun _ _ _ _ _ _ us hl => match us, hl with | [_, _, _], _ => rfl) (fun vs H Q E h => ?_) (fun cdv A outer s H vs Q E hr h => ?_)
  · unfold sp_is_between at h
    obtain ⟨v, lo, hi, rfl, _⟩ := h
    rfl
  · unfold sp_is_between at h
    obtain ⟨v, lo, hi, rfl, k⟩ := h
    refine ⟨_, (pss_one (ps_ret (pe_and (pe_callH (ok_is_whole T) hr (mg_is_whole T) pass0 (pa_cons (pv 0) pa_nil)) (pe_one (pe_chain op_le op_le (pv 1) (pv 0) (pv 2)))))), ?_⟩
    rcases k with ⟨n, rfl, k⟩ | ⟨nw, k⟩
    · refine ⟨_, rfl, whole_int ⟨true, rfl, iteT ?_⟩⟩
      refine ⟨_, rfl, _, rfl, _, _, rfl, rfl, _, rfl, ?_⟩
      refine ifD (fun hc => ?_) (fun hc => ?_)
      · refine ⟨_, rfl, _, _, rfl, rfl, ?_⟩
        have e : decide (lo ≤ n ∧ n ≤ hi) = decide (n ≤ hi) := by simp [hc]
        rw [e] at k
        exact k
      · have e : decide (lo ≤ n ∧ n ≤ hi) = false := by simp [hc]
        rw [e] at k
        exact k
    · exact ⟨_, rfl, whole_not nw ⟨false, rfl, iteF k⟩⟩
theorem betw_int {H : Hp} {Q : VK} {E : XK} {n lo hi : Int} (k : Q (.bl (decide (lo ≤ n ∧ n ≤ hi))) H) : sp_is_between K [.int n, .int lo, .int hi] H Q E := by
  unfold sp_is_between
  exact ⟨_, _, _, rfl, .inl ⟨n, rfl, k⟩⟩
theorem betw_yes {H : Hp} {Q : VK} {E : XK} {n lo hi : Int} (h : lo ≤ n ∧ n ≤ hi) (k : Q (.bl true) H) : sp_is_between K [.int n, .int lo, .int hi] H Q E := betw_int (by rw [decide_eq_true h]; exact k)
theorem betw_no {H : Hp} {Q : VK} {E : XK} {n lo hi : Int} (h : ¬ (lo ≤ n ∧ n ≤ hi)) (k : Q (.bl false) H) : sp_is_between K [.int n, .int lo, .int hi] H Q E := betw_int (by rw [decide_eq_false h]; exact k)
theorem betw_not {H : Hp} {Q : VK} {E : XK} {v : V} {lo hi : Int} (h : NW K H v) (k : Q (.bl false) H) : sp_is_between K [v, .int lo, .int hi] H Q E := by
  unfold sp_is_between
  exact ⟨_, _, _, rfl, .inr ⟨h, k⟩⟩
end
end Lw
/-! counters -/
namespace Lw
open PySem PySem.Spec PyProof.Rows L2 Rg
section
variable {P : Program} {w : World} {K : PySem.W.Frag} {mg : Str → Option Value} {base : Heap}
abbrev CC (K : PySem.W.Frag) : Addr := He.ga K "Counter"
abbrev eNoCounter (K : PySem.W.Frag) : Value := .ref (He.ga K "NoCounter")
def cO (C d : Addr) (m v : Int) : HO := .ins C d [("modulus", .int m), ("own_value", .int v)]
def MOk (m : Int) : Prop := 1 ≤ m ∧ m ≤ 10 ^ 40
/-- no int within the bounds -/
def Bad (K : PySem.W.Frag) (H : Hp) (x : V) (lo hi : Int) : Prop := (∃ n, x = .int n ∧ ¬ (lo ≤ n ∧ n ≤ hi)) ∨ NW K H x
theorem betw_bad {H : Hp} {Q : VK} {E : XK} {v : V} {lo hi : Int} (h : Bad K H v lo hi) (k : Q (.bl false) H) : sp_is_between K [v, .int lo, .int hi] H Q E := by
  rcases h with ⟨n, rfl, h⟩ | h
  · exact betw_no h k
  · exact betw_not h k
@[irreducible] def sp_Counter_init (K : PySem.W.Frag) : Sp := fun vs H Q E => ∃ (p d : Addr) (x y : V), vs = [.ref p, x, y] ∧ H p = some (.ins (CC K) d []) ∧
  ((∃ m v, x = .int m ∧ y = .int v ∧ MOk m ∧ Q .non (upd H p (cO (CC K) d m (v % m)))) ∨ (Bad K H x 1 (10 ^ 40) ∧ E (eNoCounter K) none H) ∨ (∃ m, x = .int m ∧ MOk m ∧ NW K H y ∧ E (eNoCounter K) none H))
theorem sc_Counter_init : FnScope ["self", "modulus", "value"] ["self", "modulus", "value"] (defScope s_Counter___init__) := ⟨rfl, rfl, rfl, by decide +kernel, rfl, by decide +kernel, by decide +kernel⟩
theorem ok_Counter_init (T : TopL K mg) : Has P w K mg base (L2.CX P w) 3 (He.ma K (CC K) "__init__") ["self", "modulus", "value"] [] (sp_Counter_init K) := by
  obtain ⟨fd, F⟩ := fn_Counter___init__ T
  obtain ⟨tL, g_LARGEST_MODULUS⟩ := gi_LARGEST_MODULUS T
  refine Has.ofXd F sc_Counter_init (F.binds1 3 1 (by intro z; cases z) rfl fun T kV doc pm an cdv ct us its l1 l2 => match us, l1, its, l2 with | [_, _, _], _, [_], _ => ⟨_, rfl, rfl⟩) (fun vs H Q E h => ?_) (fun cdv A outer s H vs Q E hr h => ?_)
  · unfold sp_Counter_init at h
    obtain ⟨p, d, x, y, rfl, _⟩ := h
    rfl
  · unfold sp_Counter_init at h
    obtain ⟨p, d, x, y, rfl, hp, k⟩ := h
    refine ⟨_, (pss_cons (ps_if (PW.pt (pw_or (pt_not (pt_val (pe_callH (ok_is_between T) hr (mg_is_between T) pass0 (pa_cons (pv 1) (pa_cons pe_int (pa_cons (pe_gint g_LARGEST_MODULUS) pa_nil)))))) (pw_or1 (pt_not (pt_val (pe_callH (ok_is_whole T) hr (mg_is_whole T) pass0 (pa_cons (pv 2) pa_nil))))))) (pss_one (raiseO (xx_NoCounter T) (takes_of rfl rfl rfl rfl) (mg_NoCounter T))) pss_nil)
      (pss_cons (ps_fld (pv 0) (pv 1) rfl)
      (pss_one (ps_fld (pv 0) (pe_op op_mod (pe_callTy call_int1 (by rfl) (fr_int T) (by decide +kernel) (pa_cons (pv 2) pa_nil)) (pv 1)) rfl)))), ?_⟩
    rcases k with ⟨m, v, rfl, rfl, hm, k⟩ | ⟨b, k⟩ | ⟨m, rfl, hm, nw, k⟩
    · refine ⟨_, rfl, betw_yes hm ⟨true, rfl, ?_⟩⟩
      refine iteF ⟨_, rfl, whole_int ⟨true, rfl, ?_⟩⟩
      refine iteF ?_
      refine ⟨_, rfl, _, rfl, p, CC K, d, _, rfl, hp, cl_Counter T, na_Counter_modulus T, lt1k rfl, ?_⟩
      refine ⟨_, rfl, .inl ⟨_, rfl, _, rfl, _, _, rfl, rfl, (show 0 < m by have := hm.1; omega), _, rfl, p, CC K, d, _, rfl, upd_same, cl_Counter T, na_Counter_own_value T, lt1k rfl, ?_⟩⟩
      rw [upd_upd]
      exact k
    · refine ⟨_, rfl, betw_bad b ⟨false, rfl, ?_⟩⟩
      exact iteT (iteT k)
    · refine ⟨_, rfl, betw_yes hm ⟨true, rfl, ?_⟩⟩
      refine iteF ⟨_, rfl, whole_not nw ⟨false, rfl, ?_⟩⟩
      exact iteT k
theorem ok_Counter_init1 (T : TopL K mg) : Has P w K mg base (L2.CX P w) 3 (He.ma K (CC K) "__init__") ["self", "modulus", "value"] [.int 0] (sp_Counter_init K) := by
  obtain ⟨fd, F⟩ := fn_Counter___init__ T
  obtain ⟨tL, g_LARGEST_MODULUS⟩ := gi_LARGEST_MODULUS T
  refine Has.ofXd F sc_Counter_init (F.binds1 2 0 (by intro z; cases z) rfl fun T kV doc pm an cdv ct us its l1 l2 => match us, l1, its, l2 with | [_, _], _, [_], _ => ⟨_, rfl, rfl⟩) (fun vs H Q E h => ?_) (fun cdv A outer s H vs Q E hr h => ?_)
  · unfold sp_Counter_init at h
    obtain ⟨p, d, x, y, rfl, _⟩ := h
    rfl
  · unfold sp_Counter_init at h
    obtain ⟨p, d, x, y, rfl, hp, k⟩ := h
    refine ⟨_, (pss_cons (ps_if (PW.pt (pw_or (pt_not (pt_val (pe_callH (ok_is_between T) hr (mg_is_between T) pass0 (pa_cons (pv 1) (pa_cons pe_int (pa_cons (pe_gint g_LARGEST_MODULUS) pa_nil)))))) (pw_or1 (pt_not (pt_val (pe_callH (ok_is_whole T) hr (mg_is_whole T) pass0 (pa_cons (pv 2) pa_nil))))))) (pss_one (raiseO (xx_NoCounter T) (takes_of rfl rfl rfl rfl) (mg_NoCounter T))) pss_nil)
      (pss_cons (ps_fld (pv 0) (pv 1) rfl)
      (pss_one (ps_fld (pv 0) (pe_op op_mod (pe_callTy call_int1 (by rfl) (fr_int T) (by decide +kernel) (pa_cons (pv 2) pa_nil)) (pv 1)) rfl)))), ?_⟩
    rcases k with ⟨m, v, rfl, rfl, hm, k⟩ | ⟨b, k⟩ | ⟨m, rfl, hm, nw, k⟩
    · refine ⟨_, rfl, betw_yes hm ⟨true, rfl, ?_⟩⟩
      refine iteF ⟨_, rfl, whole_int ⟨true, rfl, ?_⟩⟩
      refine iteF ?_
      refine ⟨_, rfl, _, rfl, p, CC K, d, _, rfl, hp, cl_Counter T, na_Counter_modulus T, lt1k rfl, ?_⟩
      refine ⟨_, rfl, .inl ⟨_, rfl, _, rfl, _, _, rfl, rfl, (show 0 < m by have := hm.1; omega), _, rfl, p, CC K, d, _, rfl, upd_same, cl_Counter T, na_Counter_own_value T, lt1k rfl, ?_⟩⟩
      rw [upd_upd]
      exact k
    · refine ⟨_, rfl, betw_bad b ⟨false, rfl, ?_⟩⟩
      exact iteT (iteT k)
    · refine ⟨_, rfl, betw_yes hm ⟨true, rfl, ?_⟩⟩
      refine iteF ⟨_, rfl, whole_not nw ⟨false, rfl, ?_⟩⟩
      exact iteT k
theorem counter_init {H : Hp} {R : VK} {E : XK} {p d : Addr} {m v : Int} (np : H p = none) (nd : H d = none) (ne : d ≠ p) (hm : MOk m) (k : ∀ H', Same H H' → H' p = some (cO (CC K) d m (v % m)) → R .non H') :
    sp_Counter_init K [.ref p, .int m, .int v] (upd (upd H d (.own p)) p (.ins (CC K) d [])) R E := by
  unfold sp_Counter_init
  refine ⟨p, d, _, _, rfl, upd_same, .inl ⟨m, v, rfl, rfl, hm, k _ (fun c u e => ?_) upd_same⟩⟩
  rw [upd_ne (ne_of_none e np), upd_ne (ne_of_none e np), upd_ne (ne_of_none e nd)]
  exact e
/-- a new counter -/
def NewC (K : PySem.W.Frag) (H : Hp) (Q : VK) (m v : Int) : Prop := ∀ p d H', H p = none → Same H H' → H' p = some (cO (CC K) d m (v % m)) → Q (.ref p) H'
def sp_Counter_value (K : PySem.W.Frag) : Sp := fun vs H Q _ => ∃ (p d : Addr) (m v : Int), vs = [.ref p] ∧ H p = some (cO (CC K) d m v) ∧ Q (.int v) H
theorem sc_Counter_value : FnScope ["self"] ["self"] (defScope s_Counter_value) := ⟨rfl, rfl, rfl, by decide +kernel, rfl, by decide +kernel, by decide +kernel⟩
theorem ok_Counter_value (T : TopL K mg) : Has P w K mg base (CX0) 1 (pgA "Counter" "value" K) ["self"] [] (sp_Counter_value K) := by
  obtain ⟨fd, F⟩ := fn_Counter_value T
  refine Has.of0 F sc_Counter_value (fun _ _ _ _ _ _ us hl => match us, hl with | [_], _ => rfl) (fun vs H Q E h => ?_) (fun cdv A outer s H vs Q E hr h => ?_)
  · skip
    obtain ⟨p, d, m, v, rfl, hp, k⟩ := h
    rfl
  · skip
    obtain ⟨p, d, m, v, rfl, hp, k⟩ := h
    refine ⟨_, (pss_one (ps_ret (pe_fld (pv 0) rfl))), ?_⟩
    exact ⟨_, rfl, p, CC K, d, _, _, rfl, hp, cl_Counter T, na_Counter_own_value T, rfl, k⟩
@[irreducible] def sp_Counter_set (K : PySem.W.Frag) : Sp := fun vs H Q E => ∃ (p d : Addr) (m v : Int) (y : V), vs = [.ref p, y] ∧ H p = some (cO (CC K) d m v) ∧
  ((∃ n, y = .int n ∧ (0 ≤ n ∧ n ≤ m - 1) ∧ Q .non (upd H p (cO (CC K) d m n))) ∨ (Bad K H y 0 (m - 1) ∧ E (eNoCounter K) none H))
theorem sc_Counter_set : FnScope ["self", "value"] ["self", "value"] (defScope s_Counter_value_set) := ⟨rfl, rfl, rfl, by decide +kernel, rfl, by decide +kernel, by decide +kernel⟩
theorem ok_Counter_set (T : TopL K mg) : Has P w K mg base (L2.CX P w) 3 (psA "Counter" "value" K) ["self", "value"] [] (sp_Counter_set K) := by
  obtain ⟨fd, F⟩ := fn_Counter_value_set T
  refine Has.ofX F sc_Counter_set (fun _ _ _ _ _ _ us hl => match us, hl with | [_, _], _ => rfl) (fun vs H Q E h => ?_) (fun cdv A outer s H vs Q E hr h => ?_)
  · unfold sp_Counter_set at h
    obtain ⟨p, d, m, v, y, rfl, hp, k⟩ := h
    rfl
  · unfold sp_Counter_set at h
    obtain ⟨p, d, m, v, y, rfl, hp, k⟩ := h
    refine ⟨_, (pss_cons (ps_if (pt_not (pt_val (pe_callH (ok_is_between T) hr (mg_is_between T) pass0 (pa_cons (pv 1) (pa_cons pe_int (pa_cons (pe_op op_sub (pe_fld (pv 0) rfl) pe_int) pa_nil)))))) (pss_one (raiseO (xx_NoCounter T) (takes_of rfl rfl rfl rfl) (mg_NoCounter T))) pss_nil)
      (pss_one (ps_fld (pv 0) (pv 1) rfl))), ?_⟩
    rcases k with ⟨n, rfl, hn, k⟩ | ⟨b, k⟩
    · refine ⟨_, rfl, _, rfl, p, CC K, d, _, _, rfl, hp, cl_Counter T, na_Counter_modulus T, rfl, _, _, rfl, rfl, betw_yes hn ⟨true, rfl, ?_⟩⟩
      refine iteF ?_
      exact ⟨_, rfl, _, rfl, p, CC K, d, _, rfl, hp, cl_Counter T, na_Counter_own_value T, lt1k rfl, k⟩
    · refine ⟨_, rfl, _, rfl, p, CC K, d, _, _, rfl, hp, cl_Counter T, na_Counter_modulus T, rfl, _, _, rfl, rfl, betw_bad b ⟨false, rfl, ?_⟩⟩
      exact iteT k
theorem cset_yes {H : Hp} {Q : VK} {E : XK} {p d : Addr} {m v n : Int} (hp : H p = some (cO (CC K) d m v)) (h : 0 ≤ n ∧ n ≤ m - 1) (k : Q .non (upd H p (cO (CC K) d m n))) : sp_Counter_set K [.ref p, .int n] H Q E := by
  unfold sp_Counter_set
  exact ⟨p, d, m, v, _, rfl, hp, .inl ⟨n, rfl, h, k⟩⟩
theorem cset_no {H : Hp} {Q : VK} {E : XK} {p d : Addr} {m v : Int} {y : V} (hp : H p = some (cO (CC K) d m v)) (h : Bad K H y 0 (m - 1)) (k : E (eNoCounter K) none H) : sp_Counter_set K [.ref p, y] H Q E := by
  unfold sp_Counter_set
  exact ⟨p, d, m, v, _, rfl, hp, .inr ⟨h, k⟩⟩
theorem sc_Counter_change : FnScope ["self", "value"] ["self", "value"] (defScope s_Counter_change) := ⟨rfl, rfl, rfl, by decide +kernel, rfl, by decide +kernel, by decide +kernel⟩
theorem ok_Counter_change (T : TopL K mg) : Has P w K mg base (L2.CX P w) 6 (He.ma K (CC K) "change") ["self", "value"] [] (sp_Counter_set K) := by
  obtain ⟨fd, F⟩ := fn_Counter_change T
  refine Has.ofX F sc_Counter_change (fun _ _ _ _ _ _ us hl => match us, hl with | [_, _], _ => rfl) (fun vs H Q E h => ?_) (fun cdv A outer s H vs Q E hr h => ?_)
  · unfold sp_Counter_set at h
    obtain ⟨p, d, m, v, y, rfl, hp, k⟩ := h
    rfl
  · unfold sp_Counter_set at h
    obtain ⟨p, d, m, v, y, rfl, hp, k⟩ := h
    refine ⟨_, (pss_one (ps_fldP (pv 0) (pv 1) (cl_Counter T) (st_Counter_value T) (ok_Counter_set T) hr (passes_call (takes_of rfl rfl rfl rfl) (fun _ _ _ _ h => h)))), ?_⟩
    rcases k with ⟨n, rfl, hn, k⟩ | ⟨b, k⟩
    · exact ⟨_, rfl, _, rfl, p, d, _, rfl, hp, cset_yes hp hn k⟩
    · exact ⟨_, rfl, _, rfl, p, d, _, rfl, hp, cset_no hp b k⟩
@[irreducible] def sp_whole_of (K : PySem.W.Frag) : Sp := fun vs H Q E => ∃ v, vs = [v] ∧ ((∃ n, v = .int n ∧ Q (.int n) H) ∨ (NW K H v ∧ E (eNoCounter K) none H))
theorem wof_yes {H : Hp} {Q : VK} {E : XK} {n : Int} (k : Q (.int n) H) : sp_whole_of K [.int n] H Q E := by
  unfold sp_whole_of
  exact ⟨_, rfl, .inl ⟨n, rfl, k⟩⟩
theorem wof_no {H : Hp} {Q : VK} {E : XK} {v : V} (h : NW K H v) (k : E (eNoCounter K) none H) : sp_whole_of K [v] H Q E := by
  unfold sp_whole_of
  exact ⟨_, rfl, .inr ⟨h, k⟩⟩
theorem sc_whole_of : FnScope ["thing"] ["thing"] (defScope s_whole_of) := ⟨rfl, rfl, rfl, by decide +kernel, rfl, by decide +kernel, by decide +kernel⟩
theorem ok_whole_of (T : TopL K mg) : Has P w K mg base (L2.CX P w) 2 (He.ga K "whole_of") ["thing"] [] (sp_whole_of K) := by
  obtain ⟨fd, F⟩ := fn_whole_of T
  refine Has.ofX F sc_whole_of (fun _ _ _ _ _ _ us hl => match us, hl with | [_], _ => rfl) (fun vs H Q E h => ?_) (fun cdv A outer s H vs Q E hr h => ?_)
  · unfold sp_whole_of at h
    obtain ⟨v, rfl, k⟩ := h
    rfl
  · unfold sp_whole_of at h
    obtain ⟨v, rfl, k⟩ := h
    refine ⟨_, (pss_cons (ps_if (pt_not (pt_val (pe_callH (ok_is_whole T) hr (mg_is_whole T) pass0 (pa_cons (pv 0) pa_nil)))) (pss_one (raiseO (xx_NoCounter T) (takes_of rfl rfl rfl rfl) (mg_NoCounter T))) pss_nil)
      (pss_one (ps_ret (pv 0)))), ?_⟩
    rcases k with ⟨n, rfl, k⟩ | ⟨nw, k⟩
    · refine ⟨_, rfl, whole_int ⟨true, rfl, ?_⟩⟩
      exact iteF ⟨_, rfl, k⟩
    · refine ⟨_, rfl, whole_not nw ⟨false, rfl, ?_⟩⟩
      exact iteT k
@[irreducible] def sp_divisor_of (K : PySem.W.Frag) : Sp := fun vs H Q E => ∃ v, vs = [v] ∧ ((∃ n, v = .int n ∧ 1 ≤ n ∧ Q (.int n) H) ∨ (((∃ n, v = .int n ∧ n < 1) ∨ NW K H v) ∧ E (eNoCounter K) none H))
theorem dof_yes {H : Hp} {Q : VK} {E : XK} {n : Int} (h : 1 ≤ n) (k : Q (.int n) H) : sp_divisor_of K [.int n] H Q E := by
  unfold sp_divisor_of
  exact ⟨_, rfl, .inl ⟨n, rfl, h, k⟩⟩
theorem dof_no {H : Hp} {Q : VK} {E : XK} {v : V} (h : (∃ n, v = .int n ∧ n < 1) ∨ NW K H v) (k : E (eNoCounter K) none H) : sp_divisor_of K [v] H Q E := by
  unfold sp_divisor_of
  exact ⟨_, rfl, .inr ⟨h, k⟩⟩
theorem sc_divisor_of : FnScope ["thing"] ["thing"] (defScope s_divisor_of) := ⟨rfl, rfl, rfl, by decide +kernel, rfl, by decide +kernel, by decide +kernel⟩
theorem ok_divisor_of (T : TopL K mg) : Has P w K mg base (L2.CX P w) 3 (He.ga K "divisor_of") ["thing"] [] (sp_divisor_of K) := by
  obtain ⟨fd, F⟩ := fn_divisor_of T
  refine Has.ofX F sc_divisor_of (fun _ _ _ _ _ _ us hl => match us, hl with | [_], _ => rfl) (fun vs H Q E h => ?_) (fun cdv A outer s H vs Q E hr h => ?_)
  · unfold sp_divisor_of at h
    obtain ⟨v, rfl, k⟩ := h
    rfl
  · unfold sp_divisor_of at h
    obtain ⟨v, rfl, k⟩ := h
    refine ⟨_, (pss_cons (ps_if (pt_cmpR op_lt (pe_callH (ok_whole_of T) hr (mg_whole_of T) (passes_call (takes_of rfl rfl rfl rfl) (fun _ _ _ _ h => h)) (pa_cons (pv 0) pa_nil)) pe_int (nomark _)) (pss_one (raiseO (xx_NoCounter T) (takes_of rfl rfl rfl rfl) (mg_NoCounter T))) pss_nil)
      (pss_one (ps_ret (pv 0)))), ?_⟩
    rcases k with ⟨n, rfl, hn, k⟩ | ⟨⟨n, rfl, hn⟩ | nw, k⟩
    · refine ⟨_, rfl, wof_yes ⟨_, _, rfl, rfl, _, rfl, ?_⟩⟩
      refine ifD (fun hc => absurd hc (by omega)) (fun _ => ?_)
      exact ⟨_, rfl, k⟩
    · refine ⟨_, rfl, wof_yes ⟨_, _, rfl, rfl, _, rfl, ?_⟩⟩
      exact ifD (fun _ => k) (fun hc => absurd hn hc)
    · exact ⟨_, rfl, wof_no nw k⟩
@[irreducible] def sp_Counter_add (K : PySem.W.Frag) (f : Int → Int → Int) : Sp := fun vs H Q E => ∃ (p d : Addr) (m v : Int) (y : V), vs = [.ref p, y] ∧ H p = some (cO (CC K) d m v) ∧ MOk m ∧
  ((∃ n, y = .int n ∧ NewC K H Q m (f v n)) ∨ (NW K H y ∧ E (eNoCounter K) none H))
theorem cadd_yes {H : Hp} {Q : VK} {E : XK} {p d : Addr} {m v n : Int} {f : Int → Int → Int} (hp : H p = some (cO (CC K) d m v)) (hm : MOk m) (k : NewC K H Q m (f v n)) : sp_Counter_add K f [.ref p, .int n] H Q E := by
  unfold sp_Counter_add
  exact ⟨p, d, m, v, _, rfl, hp, hm, .inl ⟨n, rfl, k⟩⟩
theorem cadd_no {H : Hp} {Q : VK} {E : XK} {p d : Addr} {m v : Int} {y : V} {f : Int → Int → Int} (hp : H p = some (cO (CC K) d m v)) (hm : MOk m) (h : NW K H y) (k : E (eNoCounter K) none H) : sp_Counter_add K f [.ref p, y] H Q E := by
  unfold sp_Counter_add
  exact ⟨p, d, m, v, _, rfl, hp, hm, .inr ⟨h, k⟩⟩
theorem sc_Counter_add : FnScope ["self", "other"] ["self", "other"] (defScope s_Counter___add__) := ⟨rfl, rfl, rfl, by decide +kernel, rfl, by decide +kernel, by decide +kernel⟩
theorem ok_Counter_add (T : TopL K mg) : Has P w K mg base (L2.CX P w) 5 (He.ma K (CC K) "__add__") ["self", "other"] [] (sp_Counter_add K (fun x y => x + y)) := by
  obtain ⟨fd, F⟩ := fn_Counter___add__ T
  refine Has.ofX F sc_Counter_add (fun _ _ _ _ _ _ us hl => match us, hl with | [_, _], _ => rfl) (fun vs H Q E h => ?_) (fun cdv A outer s H vs Q E hr h => ?_)
  · unfold sp_Counter_add at h
    obtain ⟨p, d, m, v, y, rfl, hp, hm, k⟩ := h
    rfl
  · unfold sp_Counter_add at h
    obtain ⟨p, d, m, v, y, rfl, hp, hm, k⟩ := h
    refine ⟨_, (pss_one (ps_ret (pe_makeH (mk_Counter T) (ok_Counter_init T) hr (mg_Counter T) (passes_call (takes_of rfl rfl rfl rfl) (fun _ _ _ _ h => h)) (pa_cons (pe_fld (pv 0) rfl) (pa_cons (pe_op op_add (pe_fld (pv 0) rfl) (pe_callH (ok_whole_of T) hr (mg_whole_of T) (passes_call (takes_of rfl rfl rfl rfl) (fun _ _ _ _ h => h)) (pa_cons (pv 1) pa_nil))) pa_nil))))), ?_⟩
    rcases k with ⟨n, rfl, k⟩ | ⟨nw, k⟩
    · refine ⟨_, rfl, p, CC K, d, _, _, rfl, hp, cl_Counter T, na_Counter_modulus T, rfl, _, rfl, p, CC K, d, _, _, rfl, hp, cl_Counter T, na_Counter_own_value T, rfl, _, rfl, wof_yes ⟨_, _, rfl, rfl, ?_⟩⟩
      intro q dq nq ndq neq
      exact counter_init nq ndq neq hm fun H' s' hq => ⟨rfl, k q dq H' nq s' hq⟩
    · exact ⟨_, rfl, p, CC K, d, _, _, rfl, hp, cl_Counter T, na_Counter_modulus T, rfl, _, rfl, p, CC K, d, _, _, rfl, hp, cl_Counter T, na_Counter_own_value T, rfl, _, rfl, wof_no nw k⟩
theorem sc_Counter_radd : FnScope ["self", "other"] ["self", "other"] (defScope s_Counter___radd__) := ⟨rfl, rfl, rfl, by decide +kernel, rfl, by decide +kernel, by decide +kernel⟩
theorem ok_Counter_radd (T : TopL K mg) : Has P w K mg base (L2.CX P w) 5 (He.ma K (CC K) "__radd__") ["self", "other"] [] (sp_Counter_add K (fun x y => x + y)) := by
  obtain ⟨fd, F⟩ := fn_Counter___radd__ T
  refine Has.ofX F sc_Counter_radd (fun _ _ _ _ _ _ us hl => match us, hl with | [_, _], _ => rfl) (fun vs H Q E h => ?_) (fun cdv A outer s H vs Q E hr h => ?_)
  · unfold sp_Counter_add at h
    obtain ⟨p, d, m, v, y, rfl, hp, hm, k⟩ := h
    rfl
  · unfold sp_Counter_add at h
    obtain ⟨p, d, m, v, y, rfl, hp, hm, k⟩ := h
    refine ⟨_, (pss_one (ps_ret (pe_makeH (mk_Counter T) (ok_Counter_init T) hr (mg_Counter T) (passes_call (takes_of rfl rfl rfl rfl) (fun _ _ _ _ h => h)) (pa_cons (pe_fld (pv 0) rfl) (pa_cons (pe_op op_add (pe_fld (pv 0) rfl) (pe_callH (ok_whole_of T) hr (mg_whole_of T) (passes_call (takes_of rfl rfl rfl rfl) (fun _ _ _ _ h => h)) (pa_cons (pv 1) pa_nil))) pa_nil))))), ?_⟩
    rcases k with ⟨n, rfl, k⟩ | ⟨nw, k⟩
    · refine ⟨_, rfl, p, CC K, d, _, _, rfl, hp, cl_Counter T, na_Counter_modulus T, rfl, _, rfl, p, CC K, d, _, _, rfl, hp, cl_Counter T, na_Counter_own_value T, rfl, _, rfl, wof_yes ⟨_, _, rfl, rfl, ?_⟩⟩
      intro q dq nq ndq neq
      exact counter_init nq ndq neq hm fun H' s' hq => ⟨rfl, k q dq H' nq s' hq⟩
    · exact ⟨_, rfl, p, CC K, d, _, _, rfl, hp, cl_Counter T, na_Counter_modulus T, rfl, _, rfl, p, CC K, d, _, _, rfl, hp, cl_Counter T, na_Counter_own_value T, rfl, _, rfl, wof_no nw k⟩
@[irreducible] def sp_Counter_sub (K : PySem.W.Frag) : Sp := fun vs H Q E => ∃ (p d : Addr) (m v : Int) (y : V), vs = [.ref p, y] ∧ H p = some (cO (CC K) d m v) ∧ MOk m ∧
  ((∃ n, y = .int n ∧ NewC K H Q m (v - n)) ∨ (∃ q e v', y = .ref q ∧ H q = some (cO (CC K) e m v') ∧ Q (.int ((v - v') % m)) H) ∨
   ((∃ q e m' v', y = .ref q ∧ H q = some (cO (CC K) e m' v') ∧ m' ≠ m) ∧ E (eNoCounter K) none H) ∨ (NW K H y ∧ (∃ t, TyX K H y t ∧ PySem.W.kitOne K t (.ref (CC K)) = some false) ∧ E (eNoCounter K) none H))
theorem csub_int {H : Hp} {Q : VK} {E : XK} {p d : Addr} {m v n : Int} (hp : H p = some (cO (CC K) d m v)) (hm : MOk m) (k : NewC K H Q m (v - n)) : sp_Counter_sub K [.ref p, .int n] H Q E := by
  unfold sp_Counter_sub
  exact ⟨p, d, m, v, _, rfl, hp, hm, .inl ⟨n, rfl, k⟩⟩
theorem csub_two {H : Hp} {Q : VK} {E : XK} {p d q e : Addr} {m v v' : Int} (hp : H p = some (cO (CC K) d m v)) (hm : MOk m) (hq : H q = some (cO (CC K) e m v')) (k : Q (.int ((v - v') % m)) H) : sp_Counter_sub K [.ref p, .ref q] H Q E := by
  unfold sp_Counter_sub
  exact ⟨p, d, m, v, _, rfl, hp, hm, .inr (.inl ⟨q, e, v', rfl, hq, k⟩)⟩
theorem csub_other {H : Hp} {Q : VK} {E : XK} {p d q e : Addr} {m v m' v' : Int} (hp : H p = some (cO (CC K) d m v)) (hm : MOk m) (hq : H q = some (cO (CC K) e m' v')) (hne : m' ≠ m) (k : E (eNoCounter K) none H) : sp_Counter_sub K [.ref p, .ref q] H Q E := by
  unfold sp_Counter_sub
  exact ⟨p, d, m, v, _, rfl, hp, hm, .inr (.inr (.inl ⟨⟨q, e, m', v', rfl, hq, hne⟩, k⟩))⟩
theorem csub_no {H : Hp} {Q : VK} {E : XK} {p d : Addr} {m v : Int} {y : V} {t : Value} (hp : H p = some (cO (CC K) d m v)) (hm : MOk m) (h : NW K H y) (ty : TyX K H y t) (kt : PySem.W.kitOne K t (.ref (CC K)) = some false) (k : E (eNoCounter K) none H) : sp_Counter_sub K [.ref p, y] H Q E := by
  unfold sp_Counter_sub
  exact ⟨p, d, m, v, _, rfl, hp, hm, .inr (.inr (.inr ⟨h, ⟨t, ty, kt⟩, k⟩))⟩
theorem sc_Counter_sub : FnScope ["self", "other"] ["self", "other"] (defScope s_Counter___sub__) := ⟨rfl, rfl, rfl, by decide +kernel, rfl, by decide +kernel, by decide +kernel⟩
theorem ok_Counter_sub (T : TopL K mg) : Has P w K mg base (L2.CX P w) 5 (He.ma K (CC K) "__sub__") ["self", "other"] [] (sp_Counter_sub K) := by
  obtain ⟨fd, F⟩ := fn_Counter___sub__ T
  refine Has.ofX F sc_Counter_sub (fun _ _ _ _ _ _ us hl => match us, hl with | [_, _], _ => rfl) (fun vs H Q E h => ?_) (fun cdv A outer s H vs Q E hr h => ?_)
  · unfold sp_Counter_sub at h
    obtain ⟨p, d, m, v, y, rfl, hp, hm, k⟩ := h
    rfl
  · unfold sp_Counter_sub at h
    obtain ⟨p, d, m, v, y, rfl, hp, hm, k⟩ := h
    refine ⟨_, (pss_cons (ps_if (pt_not (pt_val (pe_callB (call_isi : CallR _ _ (rIsi K)) (by rfl) (fr_isinstance T) (by decide +kernel) (pa_cons (pv 1) (pa_cons (pe_gref (mg_Counter T)) pa_nil))))) (pss_one (ps_ret (pe_makeH (mk_Counter T) (ok_Counter_init T) hr (mg_Counter T) (passes_call (takes_of rfl rfl rfl rfl) (fun _ _ _ _ h => h)) (pa_cons (pe_fld (pv 0) rfl) (pa_cons (pe_op op_sub (pe_fld (pv 0) rfl) (pe_callH (ok_whole_of T) hr (mg_whole_of T) (passes_call (takes_of rfl rfl rfl rfl) (fun _ _ _ _ h => h)) (pa_cons (pv 1) pa_nil))) pa_nil))))) pss_nil)
      (pss_cons (ps_if (pt_cmpR op_ne (pe_fld (pv 1) rfl) (pe_fld (pv 0) rfl) (nomark _)) (pss_one (raiseO (xx_NoCounter T) (takes_of rfl rfl rfl rfl) (mg_NoCounter T))) pss_nil)
      (pss_one (ps_ret (pe_op op_mod (pe_op op_sub (pe_fld (pv 0) rfl) (pe_fld (pv 1) rfl)) (pe_fld (pv 0) rfl)))))), ?_⟩
    rcases k with ⟨n, rfl, k⟩ | ⟨q, e, v', rfl, hq, k⟩ | ⟨⟨q, e, m', v', rfl, hq, hne⟩, k⟩ | ⟨nw, ⟨t, ty, kt⟩, k⟩
    · refine ⟨_, rfl, _, _, _, _, false, rfl, .own _, .base (.int n), (in_Counter T).to _ (by decide), false, rfl, ?_⟩
      refine iteT ?_
      refine ⟨_, rfl, p, CC K, d, _, _, rfl, hp, cl_Counter T, na_Counter_modulus T, rfl, _, rfl, p, CC K, d, _, _, rfl, hp, cl_Counter T, na_Counter_own_value T, rfl, _, rfl, wof_yes ⟨_, _, rfl, rfl, ?_⟩⟩
      intro q dq nq ndq neq
      exact counter_init nq ndq neq hm fun H' s' hq => ⟨rfl, k q dq H' nq s' hq⟩
    · refine ⟨_, rfl, _, _, _, _, true, rfl, .own _, ty_ins (in_Counter T) (cl_Counter T) hq, (in_Counter T).me, true, rfl, ?_⟩
      refine iteF ?_
      refine ⟨_, rfl, q, CC K, e, _, _, rfl, hq, cl_Counter T, na_Counter_modulus T, rfl, _, rfl, p, CC K, d, _, _, rfl, hp, cl_Counter T, na_Counter_modulus T, rfl, rfl, _, rfl, ?_⟩
      refine ifN (fun hc => absurd rfl hc) (fun _ => ?_)
      exact ⟨_, rfl, p, CC K, d, _, _, rfl, hp, cl_Counter T, na_Counter_own_value T, rfl, _, rfl, q, CC K, e, _, _, rfl, hq, cl_Counter T, na_Counter_own_value T, rfl, _, _, rfl, rfl, _, rfl, p, CC K, d, _, _, rfl, hp, cl_Counter T, na_Counter_modulus T, rfl, _, _, rfl, rfl, (show 0 < m by have := hm.1; omega), k⟩
    · refine ⟨_, rfl, _, _, _, _, true, rfl, .own _, ty_ins (in_Counter T) (cl_Counter T) hq, (in_Counter T).me, true, rfl, ?_⟩
      refine iteF ?_
      refine ⟨_, rfl, q, CC K, e, _, _, rfl, hq, cl_Counter T, na_Counter_modulus T, rfl, _, rfl, p, CC K, d, _, _, rfl, hp, cl_Counter T, na_Counter_modulus T, rfl, rfl, _, rfl, ?_⟩
      exact ifN (fun _ => k) (fun hc => absurd (V.int.inj hc) hne)
    · refine ⟨_, rfl, _, _, t, _, false, rfl, .own _, ty, kt, false, rfl, ?_⟩
      refine iteT ?_
      exact ⟨_, rfl, p, CC K, d, _, _, rfl, hp, cl_Counter T, na_Counter_modulus T, rfl, _, rfl, p, CC K, d, _, _, rfl, hp, cl_Counter T, na_Counter_own_value T, rfl, _, rfl, wof_no nw k⟩
@[irreducible] def sp_Counter_iadd (K : PySem.W.Frag) (f : Int → Int → Int) : Sp := fun vs H Q E => ∃ (p d : Addr) (m v : Int) (y : V), vs = [.ref p, y] ∧ H p = some (cO (CC K) d m v) ∧ MOk m ∧
  ((∃ n, y = .int n ∧ Q (.ref p) (upd H p (cO (CC K) d m (f v n % m)))) ∨ (NW K H y ∧ E (eNoCounter K) none H))
theorem ciadd_yes {H : Hp} {Q : VK} {E : XK} {p d : Addr} {m v n : Int} {f : Int → Int → Int} (hp : H p = some (cO (CC K) d m v)) (hm : MOk m) (k : Q (.ref p) (upd H p (cO (CC K) d m (f v n % m)))) : sp_Counter_iadd K f [.ref p, .int n] H Q E := by
  unfold sp_Counter_iadd
  exact ⟨p, d, m, v, _, rfl, hp, hm, .inl ⟨n, rfl, k⟩⟩
theorem ciadd_no {H : Hp} {Q : VK} {E : XK} {p d : Addr} {m v : Int} {y : V} {f : Int → Int → Int} (hp : H p = some (cO (CC K) d m v)) (hm : MOk m) (h : NW K H y) (k : E (eNoCounter K) none H) : sp_Counter_iadd K f [.ref p, y] H Q E := by
  unfold sp_Counter_iadd
  exact ⟨p, d, m, v, _, rfl, hp, hm, .inr ⟨h, k⟩⟩
theorem sc_Counter_iadd : FnScope ["self", "other"] ["self", "other"] (defScope s_Counter___iadd__) := ⟨rfl, rfl, rfl, by decide +kernel, rfl, by decide +kernel, by decide +kernel⟩
theorem ok_Counter_iadd (T : TopL K mg) : Has P w K mg base (L2.CX P w) 3 (He.ma K (CC K) "__iadd__") ["self", "other"] [] (sp_Counter_iadd K (fun x y => x + y)) := by
  obtain ⟨fd, F⟩ := fn_Counter___iadd__ T
  refine Has.ofX F sc_Counter_iadd (fun _ _ _ _ _ _ us hl => match us, hl with | [_, _], _ => rfl) (fun vs H Q E h => ?_) (fun cdv A outer s H vs Q E hr h => ?_)
  · unfold sp_Counter_iadd at h
    obtain ⟨p, d, m, v, y, rfl, hp, hm, k⟩ := h
    rfl
  · unfold sp_Counter_iadd at h
    obtain ⟨p, d, m, v, y, rfl, hp, hm, k⟩ := h
    refine ⟨_, (pss_cons (ps_fld (pv 0) (pe_op op_mod (pe_op op_add (pe_fld (pv 0) rfl) (pe_callH (ok_whole_of T) hr (mg_whole_of T) (passes_call (takes_of rfl rfl rfl rfl) (fun _ _ _ _ h => h)) (pa_cons (pv 1) pa_nil))) (pe_fld (pv 0) rfl)) rfl)
      (pss_one (ps_ret (pv 0)))), ?_⟩
    rcases k with ⟨n, rfl, k⟩ | ⟨nw, k⟩
    · refine ⟨_, rfl, p, CC K, d, _, _, rfl, hp, cl_Counter T, na_Counter_own_value T, rfl, _, rfl, wof_yes ⟨_, _, rfl, rfl, _, rfl, p, CC K, d, _, _, rfl, hp, cl_Counter T, na_Counter_modulus T, rfl, _, _, rfl, rfl, (show 0 < m by have := hm.1; omega), _, rfl, p, CC K, d, _, rfl, hp, cl_Counter T, na_Counter_own_value T, lt1k rfl, ?_⟩⟩
      exact ⟨_, rfl, k⟩
    · exact ⟨_, rfl, p, CC K, d, _, _, rfl, hp, cl_Counter T, na_Counter_own_value T, rfl, _, rfl, wof_no nw k⟩
theorem sc_Counter_isub : FnScope ["self", "other"] ["self", "other"] (defScope s_Counter___isub__) := ⟨rfl, rfl, rfl, by decide +kernel, rfl, by decide +kernel, by decide +kernel⟩
theorem ok_Counter_isub (T : TopL K mg) : Has P w K mg base (L2.CX P w) 3 (He.ma K (CC K) "__isub__") ["self", "other"] [] (sp_Counter_iadd K (fun x y => x - y)) := by
  obtain ⟨fd, F⟩ := fn_Counter___isub__ T
  refine Has.ofX F sc_Counter_isub (fun _ _ _ _ _ _ us hl => match us, hl with | [_, _], _ => rfl) (fun vs H Q E h => ?_) (fun cdv A outer s H vs Q E hr h => ?_)
  · unfold sp_Counter_iadd at h
    obtain ⟨p, d, m, v, y, rfl, hp, hm, k⟩ := h
    rfl
  · unfold sp_Counter_iadd at h
    obtain ⟨p, d, m, v, y, rfl, hp, hm, k⟩ := h
    refine ⟨_, (pss_cons (ps_fld (pv 0) (pe_op op_mod (pe_op op_sub (pe_fld (pv 0) rfl) (pe_callH (ok_whole_of T) hr (mg_whole_of T) (passes_call (takes_of rfl rfl rfl rfl) (fun _ _ _ _ h => h)) (pa_cons (pv 1) pa_nil))) (pe_fld (pv 0) rfl)) rfl)
      (pss_one (ps_ret (pv 0)))), ?_⟩
    rcases k with ⟨n, rfl, k⟩ | ⟨nw, k⟩
    · refine ⟨_, rfl, p, CC K, d, _, _, rfl, hp, cl_Counter T, na_Counter_own_value T, rfl, _, rfl, wof_yes ⟨_, _, rfl, rfl, _, rfl, p, CC K, d, _, _, rfl, hp, cl_Counter T, na_Counter_modulus T, rfl, _, _, rfl, rfl, (show 0 < m by have := hm.1; omega), _, rfl, p, CC K, d, _, rfl, hp, cl_Counter T, na_Counter_own_value T, lt1k rfl, ?_⟩⟩
      exact ⟨_, rfl, k⟩
    · exact ⟨_, rfl, p, CC K, d, _, _, rfl, hp, cl_Counter T, na_Counter_own_value T, rfl, _, rfl, wof_no nw k⟩
@[irreducible] def sp_Counter_div (K : PySem.W.Frag) (f : Int → Int → Int) : Sp := fun vs H Q E => ∃ (p d : Addr) (m v : Int) (y : V), vs = [.ref p, y] ∧ H p = some (cO (CC K) d m v) ∧
  ((∃ n, y = .int n ∧ (1 ≤ n ∧ Bg n) ∧ Q (.int (f v n)) H) ∨ (((∃ n, y = .int n ∧ n < 1) ∨ NW K H y) ∧ E (eNoCounter K) none H))
theorem cdiv_yes {H : Hp} {Q : VK} {E : XK} {p d : Addr} {m v n : Int} {f : Int → Int → Int} (hp : H p = some (cO (CC K) d m v)) (hn : 1 ≤ n ∧ Bg n) (k : Q (.int (f v n)) H) : sp_Counter_div K f [.ref p, .int n] H Q E := by
  unfold sp_Counter_div
  exact ⟨p, d, m, v, _, rfl, hp, .inl ⟨n, rfl, hn, k⟩⟩
theorem cdiv_no {H : Hp} {Q : VK} {E : XK} {p d : Addr} {m v : Int} {y : V} {f : Int → Int → Int} (hp : H p = some (cO (CC K) d m v)) (h : (∃ n, y = .int n ∧ n < 1) ∨ NW K H y) (k : E (eNoCounter K) none H) : sp_Counter_div K f [.ref p, y] H Q E := by
  unfold sp_Counter_div
  exact ⟨p, d, m, v, _, rfl, hp, .inr ⟨h, k⟩⟩
theorem bg_div {i n : Int} (h1 : 1 ≤ n) (h : Bg n) : CDivW i n := wide_div (b := 300) (by omega) h (by decide) (by decide)
theorem sc_Counter_mod : FnScope ["self", "other"] ["self", "other"] (defScope s_Counter___mod__) := ⟨rfl, rfl, rfl, by decide +kernel, rfl, by decide +kernel, by decide +kernel⟩
theorem ok_Counter_mod (T : TopL K mg) : Has P w K mg base (L2.CX P w) 4 (He.ma K (CC K) "__mod__") ["self", "other"] [] (sp_Counter_div K (fun x y => x % y)) := by
  obtain ⟨fd, F⟩ := fn_Counter___mod__ T
  refine Has.ofX F sc_Counter_mod (fun _ _ _ _ _ _ us hl => match us, hl with | [_, _], _ => rfl) (fun vs H Q E h => ?_) (fun cdv A outer s H vs Q E hr h => ?_)
  · unfold sp_Counter_div at h
    obtain ⟨p, d, m, v, y, rfl, hp, k⟩ := h
    rfl
  · unfold sp_Counter_div at h
    obtain ⟨p, d, m, v, y, rfl, hp, k⟩ := h
    refine ⟨_, (pss_one (ps_ret (pe_op op_mod (pe_fld (pv 0) rfl) (pe_callH (ok_divisor_of T) hr (mg_divisor_of T) (passes_call (takes_of rfl rfl rfl rfl) (fun _ _ _ _ h => h)) (pa_cons (pv 1) pa_nil))))), ?_⟩
    rcases k with ⟨n, rfl, hn, k⟩ | ⟨b, k⟩
    · exact ⟨_, rfl, p, CC K, d, _, _, rfl, hp, cl_Counter T, na_Counter_own_value T, rfl, _, rfl, dof_yes hn.1 ⟨_, _, rfl, rfl, (show 0 < n by omega), k⟩⟩
    · exact ⟨_, rfl, p, CC K, d, _, _, rfl, hp, cl_Counter T, na_Counter_own_value T, rfl, _, rfl, dof_no b k⟩
theorem sc_Counter_floordiv : FnScope ["self", "other"] ["self", "other"] (defScope s_Counter___floordiv__) := ⟨rfl, rfl, rfl, by decide +kernel, rfl, by decide +kernel, by decide +kernel⟩
theorem ok_Counter_floordiv (T : TopL K mg) : Has P w K mg base (L2.CX P w) 4 (He.ma K (CC K) "__floordiv__") ["self", "other"] [] (sp_Counter_div K (fun x y => x / y)) := by
  obtain ⟨fd, F⟩ := fn_Counter___floordiv__ T
  refine Has.ofX F sc_Counter_floordiv (fun _ _ _ _ _ _ us hl => match us, hl with | [_, _], _ => rfl) (fun vs H Q E h => ?_) (fun cdv A outer s H vs Q E hr h => ?_)
  · unfold sp_Counter_div at h
    obtain ⟨p, d, m, v, y, rfl, hp, k⟩ := h
    rfl
  · unfold sp_Counter_div at h
    obtain ⟨p, d, m, v, y, rfl, hp, k⟩ := h
    refine ⟨_, (pss_one (ps_ret (pe_op op_fdivW (pe_fld (pv 0) rfl) (pe_callH (ok_divisor_of T) hr (mg_divisor_of T) (passes_call (takes_of rfl rfl rfl rfl) (fun _ _ _ _ h => h)) (pa_cons (pv 1) pa_nil))))), ?_⟩
    rcases k with ⟨n, rfl, hn, k⟩ | ⟨b, k⟩
    · exact ⟨_, rfl, p, CC K, d, _, _, rfl, hp, cl_Counter T, na_Counter_own_value T, rfl, _, rfl, dof_yes hn.1 ⟨_, _, rfl, rfl, bg_div hn.1 hn.2, k⟩⟩
    · exact ⟨_, rfl, p, CC K, d, _, _, rfl, hp, cl_Counter T, na_Counter_own_value T, rfl, _, rfl, dof_no b k⟩
@[irreducible] def sp_Counter_and (K : PySem.W.Frag) : Sp := fun vs H Q E => ∃ (p d : Addr) (m v : Int) (y : V), vs = [.ref p, y] ∧ H p = some (cO (CC K) d m v) ∧
  ((∃ n, y = .int n ∧ 0 ≤ n ∧ Q (.int (Builtin.bitAnd v n)) H) ∨ (((∃ n, y = .int n ∧ n < 0) ∨ NW K H y) ∧ E (eNoCounter K) none H))
theorem cand_yes {H : Hp} {Q : VK} {E : XK} {p d : Addr} {m v n : Int} (hp : H p = some (cO (CC K) d m v)) (hn : 0 ≤ n) (k : Q (.int (Builtin.bitAnd v n)) H) : sp_Counter_and K [.ref p, .int n] H Q E := by
  unfold sp_Counter_and
  exact ⟨p, d, m, v, _, rfl, hp, .inl ⟨n, rfl, hn, k⟩⟩
theorem cand_no {H : Hp} {Q : VK} {E : XK} {p d : Addr} {m v : Int} {y : V} (hp : H p = some (cO (CC K) d m v)) (h : (∃ n, y = .int n ∧ n < 0) ∨ NW K H y) (k : E (eNoCounter K) none H) : sp_Counter_and K [.ref p, y] H Q E := by
  unfold sp_Counter_and
  exact ⟨p, d, m, v, _, rfl, hp, .inr ⟨h, k⟩⟩
theorem sc_Counter_and : FnScope ["self", "other"] ["self", "other"] (defScope s_Counter___and__) := ⟨rfl, rfl, rfl, by decide +kernel, rfl, by decide +kernel, by decide +kernel⟩
theorem ok_Counter_and (T : TopL K mg) : Has P w K mg base (L2.CX P w) 3 (He.ma K (CC K) "__and__") ["self", "other"] [] (sp_Counter_and K) := by
  obtain ⟨fd, F⟩ := fn_Counter___and__ T
  refine Has.ofX F sc_Counter_and (fun _ _ _ _ _ _ us hl => match us, hl with | [_, _], _ => rfl) (fun vs H Q E h => ?_) (fun cdv A outer s H vs Q E hr h => ?_)
  · unfold sp_Counter_and at h
    obtain ⟨p, d, m, v, y, rfl, hp, k⟩ := h
    rfl
  · unfold sp_Counter_and at h
    obtain ⟨p, d, m, v, y, rfl, hp, k⟩ := h
    refine ⟨_, (pss_cons (ps_if (pt_cmpR op_lt (pe_callH (ok_whole_of T) hr (mg_whole_of T) (passes_call (takes_of rfl rfl rfl rfl) (fun _ _ _ _ h => h)) (pa_cons (pv 1) pa_nil)) pe_int (nomark _)) (pss_one (raiseO (xx_NoCounter T) (takes_of rfl rfl rfl rfl) (mg_NoCounter T))) pss_nil)
      (pss_one (ps_ret (pe_op op_and (pe_fld (pv 0) rfl) (pv 1))))), ?_⟩
    rcases k with ⟨n, rfl, hn, k⟩ | ⟨⟨n, rfl, hn⟩ | nw, k⟩
    · refine ⟨_, rfl, wof_yes ⟨_, _, rfl, rfl, _, rfl, ?_⟩⟩
      refine ifD (fun hc => absurd hc (by omega)) (fun _ => ?_)
      exact ⟨_, rfl, p, CC K, d, _, _, rfl, hp, cl_Counter T, na_Counter_own_value T, rfl, _, rfl, _, _, rfl, rfl, k⟩
    · refine ⟨_, rfl, wof_yes ⟨_, _, rfl, rfl, _, rfl, ?_⟩⟩
      exact ifD (fun _ => k) (fun hc => absurd hn hc)
    · exact ⟨_, rfl, wof_no nw k⟩
@[irreducible] def sp_Counter_eq (K : PySem.W.Frag) : Sp := fun vs H Q _ => ∃ (p d : Addr) (a b : Int) (v : V), vs = [.ref p, v] ∧ H p = some (cO (CC K) d a b) ∧
  ((∃ q e c f, v = .ref q ∧ H q = some (cO (CC K) e c f) ∧ Q (.bl (decide (a = c ∧ b = f))) H) ∨ ((∃ t, TyX K H v t ∧ PySem.W.kitOne K t (.ref (CC K)) = some false) ∧ Q (.bl false) H))
theorem ceq_yes {H : Hp} {Q : VK} {E : XK} {p d q e : Addr} {a b c f : Int} (hp : H p = some (cO (CC K) d a b)) (hq : H q = some (cO (CC K) e c f)) (k : Q (.bl (decide (a = c ∧ b = f))) H) : sp_Counter_eq K [.ref p, .ref q] H Q E := by
  unfold sp_Counter_eq
  exact ⟨p, d, a, b, _, rfl, hp, .inl ⟨q, e, c, f, rfl, hq, k⟩⟩
theorem ceq_no {H : Hp} {Q : VK} {E : XK} {p d : Addr} {a b : Int} {v : V} {t : Value} (hp : H p = some (cO (CC K) d a b)) (ty : TyX K H v t) (kt : PySem.W.kitOne K t (.ref (CC K)) = some false) (k : Q (.bl false) H) : sp_Counter_eq K [.ref p, v] H Q E := by
  unfold sp_Counter_eq
  exact ⟨p, d, a, b, _, rfl, hp, .inr ⟨⟨t, ty, kt⟩, k⟩⟩
theorem sc_Counter_eq : FnScope ["self", "other"] ["self", "other"] (defScope s_Counter___eq__) := ⟨rfl, rfl, rfl, by decide +kernel, rfl, by decide +kernel, by decide +kernel⟩
theorem ok_Counter_eq (T : TopL K mg) : Has P w K mg base (CX0) 1 (He.ma K (CC K) "__eq__") ["self", "other"] [] (sp_Counter_eq K) := by
  obtain ⟨fd, F⟩ := fn_Counter___eq__ T
  refine Has.of0 F sc_Counter_eq (fun _ _ _ _ _ _ us hl => match us, hl with | [_, _], _ => rfl) (fun vs H Q E h => ?_) (fun cdv A outer s H vs Q E hr h => ?_)
  · unfold sp_Counter_eq at h
    obtain ⟨p, d, a, b, v, rfl, hp, k⟩ := h
    rfl
  · unfold sp_Counter_eq at h
    obtain ⟨p, d, a, b, v, rfl, hp, k⟩ := h
    refine ⟨_, (pss_one (ps_ret (pe_and (pe_callB (call_isi : CallR _ _ (rIsi K)) (by rfl) (fr_isinstance T) (by decide +kernel) (pa_cons (pv 1) (pa_cons (pe_gref (mg_Counter T)) pa_nil))) (pe_and (pe_cmpR op_eq (pe_fld (pv 0) rfl) (pe_fld (pv 1) rfl) (nomark _)) (pe_one (pe_cmpR op_eq (pe_fld (pv 0) rfl) (pe_fld (pv 1) rfl) (nomark _))))))), ?_⟩
    rcases k with ⟨q, e, c, f, rfl, hq, k⟩ | ⟨⟨t, ty, kt⟩, k⟩
    · refine ⟨_, rfl, _, _, _, _, true, rfl, .own _, ty_ins (in_Counter T) (cl_Counter T) hq, (in_Counter T).me, true, rfl, ?_⟩
      refine iteT ?_
      refine ⟨_, rfl, p, CC K, d, _, _, rfl, hp, cl_Counter T, na_Counter_modulus T, rfl, _, rfl, q, CC K, e, _, _, rfl, hq, cl_Counter T, na_Counter_modulus T, rfl, rfl, _, rfl, ?_⟩
      refine ifD (fun hc => ?_) (fun hc => ?_)
      · refine ⟨_, rfl, p, CC K, d, _, _, rfl, hp, cl_Counter T, na_Counter_own_value T, rfl, _, rfl, q, CC K, e, _, _, rfl, hq, cl_Counter T, na_Counter_own_value T, rfl, rfl, ?_⟩
        have z : decide (a = c ∧ b = f) = decide (V.int b = V.int f) := by
          have ac : a = c := V.int.inj hc
          rw [dec_int, ac]
          by_cases h : b = f <;> simp [h]
        rw [z] at k
        exact k
      · have z : decide (a = c ∧ b = f) = false := decide_eq_false fun q => hc (by rw [q.1])
        rw [z] at k
        exact k
    · refine ⟨_, rfl, _, _, t, _, false, rfl, .own _, ty, kt, false, rfl, ?_⟩
      exact iteF k
end
end Lw
/-! K05: counters stepped -/
namespace Lw
open PySem PySem.Spec PyProof.Rows L2 Rg
section
variable {P : Program} {w : World} {K : PySem.W.Frag} {mg : Str → Option Value} {base : Heap}
def R45 (x : Int) : Prop := -(10 ^ 45) ≤ x ∧ x ≤ 10 ^ 45
@[irreducible] def sp_lnumber : Sp := fun vs H Q _ => ∃ p, vs = [.ref p] ∧ Src H p ∧ ∀ (x : Int) H', R45 x → Drawn p H H' → Q (.int x) H'
theorem lnumber_rd {H : Hp} {Q : VK} {E : XK} {p : Addr} (hp : Src H p) (k : ∀ (x : Int) H', R45 x → Drawn p H H' → Src H' p → Q (.int x) H') : sp_lnumber [.ref p] H Q E := by
  unfold sp_lnumber
  exact ⟨p, rfl, hp, fun x H' h d => k x H' h d d.src⟩
theorem sgn45 {x s : Int} (h0 : 0 ≤ x) (h1 : x ≤ 10 ^ 45) (hs : s = 1 ∨ s = -1) : R45 (x * s) := by
  unfold R45
  rcases hs with rfl | rfl <;> constructor <;> omega
theorem sc_lnumber : FnScope ["_law_source_here", "_law_most"] ["_law_source_here"] (defScope s__law_number) := ⟨rfl, rfl, rfl, by decide +kernel, rfl, by decide +kernel, by decide +kernel⟩
theorem ok_lnumber (T : TopL K mg) : Has P w K mg base CX0 2 (He.ga K "_law_number") ["_law_source_here"] [] sp_lnumber := by
  obtain ⟨fd, F⟩ := fn__law_number T
  refine Has.of0 F sc_lnumber (fun _ _ _ _ _ _ us hl => match us, hl with | [_], _ => rfl) (fun vs H Q E h => ?_) (fun cdv A outer s H vs Q E hr h => ?_)
  · unfold sp_lnumber at h
    obtain ⟨p, rfl, _⟩ := h
    rfl
  · unfold sp_lnumber at h
    obtain ⟨p, rfl, hp, k⟩ := h
    refine ⟨_, (pss_cons (ps_set (i := 1) sc_lnumber.nd rfl (Or.inl rfl) (pe_ix ix_list (pe_lst (pa_cons pe_int (pa_cons pe_int (pa_cons (pe_op op_pow pe_int pe_int) (pa_cons (pe_op op_pow pe_int pe_int) pa_nil))))) (pe_callH (ok_drawD T) hr (mg__law_draw T) pass0 (pa_cons (pv 0) (pa_cons pe_int pa_nil))) (fun _ _ => rfl)))
      (pss_one (ps_ret (pe_op op_mul (pe_callH (ok_drawD T) hr (mg__law_draw T) pass0 (pa_cons (pv 0) (pa_cons (pv 1) pa_nil))) (pe_ix ix_list (pe_lst (pa_cons pe_int (pa_cons (pe_un un_neg pe_int) pa_nil))) (pe_callH (ok_drawD T) hr (mg__law_draw T) pass0 (pa_cons (pv 0) (pa_cons pe_int pa_nil))) (fun _ _ => rfl)))))), ?_⟩
    refine ⟨_, _, rfl, rfl, ⟨by decide, by decide, by decide⟩, _, _, rfl, rfl, ⟨by decide, by decide, by decide⟩, lenk rfl, fun m nm => ?_⟩
    generalize eH1 : upd H m _ = H1
    have sH1 := fr_same eH1 nm
    have fm := fr_at eH1
    refine ⟨_, rfl, draw_rd (hp.same sH1) (by decide) (by decide) fun i1 H2 i1a i1b D2 S2 => ?_⟩
    obtain ⟨x1, ex1, hx1⟩ := all_ints (Pr := fun n => 0 < n ∧ n ≤ 10 ^ 45) (ns := [4, 100, 10 ^ 20, 10 ^ 45]) i1a i1b (by decide)
    refine ⟨m, _, _, _, rfl, rfl, SqL.of (by walk_at "hp"), ex1, ?_⟩
    refine ⟨_, rfl, _, rfl, draw_rd S2 (by omega) (by omega) fun v1 H3 v1a v1b D3 S3 => ?_⟩
    refine ⟨_, rfl, lenk rfl, fun g1 ng1 => ?_⟩
    generalize eH4 : upd H3 g1 _ = H4
    have sH4 := fr_same eH4 ng1
    have fg1 := fr_at eH4
    refine ⟨_, rfl, draw_rd (S3.same sH4) (by decide) (by decide) fun j1 H5 j1a j1b D5 S5 => ?_⟩
    obtain ⟨y1, ey1, hy1⟩ := all_ints (Pr := fun n => n = 1 ∨ n = -1) (ns := [1, -1]) j1a j1b (by decide)
    refine ⟨g1, _, _, _, rfl, rfl, SqL.of (by walk_at "hp"), ey1, _, _, rfl, rfl, .inr ⟨by omega, by omega⟩, ?_⟩
    exact k _ _ (sgn45 v1a (by omega) hy1) ((((Drawn.after sH1 D2).trans D3).same sH4).trans D5)
@[irreducible] def sp_lis (K : PySem.W.Frag) : Sp := fun vs H Q _ => ∃ (p d : Addr) (m v x : Int), vs = [.ref p, .int m, .int x] ∧ H p = some (cO (CC K) d m v) ∧ MOk m ∧ x % m = v ∧ ∀ H', Same H H' → Q (.bl true) H'
theorem lis_rd {H : Hp} {Q : VK} {E : XK} {p d : Addr} {m v x : Int} (hp : H p = some (cO (CC K) d m v)) (hm : MOk m) (e : x % m = v) (k : ∀ H', Same H H' → Q (.bl true) H') : sp_lis K [.ref p, .int m, .int x] H Q E := by
  unfold sp_lis
  exact ⟨p, d, m, v, x, rfl, hp, hm, e, k⟩
theorem sc_lis : FnScope ["_law_counter", "_law_modulus", "_law_value"] ["_law_counter", "_law_modulus", "_law_value"] (defScope s__law_is) := ⟨rfl, rfl, rfl, by decide +kernel, rfl, by decide +kernel, by decide +kernel⟩
theorem ok_lis (T : TopL K mg) : Has P w K mg base CX0 3 (He.ga K "_law_is") ["_law_counter", "_law_modulus", "_law_value"] [] (sp_lis K) := by
  obtain ⟨fd, F⟩ := fn__law_is T
  refine Has.of0 F sc_lis (fun _ _ _ _ _ _ us hl => match us, hl with | [_, _, _], _ => rfl) (fun vs H Q E h => ?_) (fun cdv A outer s H vs Q E hr h => ?_)
  · unfold sp_lis at h
    obtain ⟨p, d, m, v, x, rfl, _⟩ := h
    rfl
  · unfold sp_lis at h
    obtain ⟨p, d, m, v, x, rfl, hp, hm, e, k⟩ := h
    refine ⟨_, (pss_cons (ps_if (PW.pt (pw_or (pt_not (pt_val (pe_callB (call_isi : CallR _ _ (rIsi K)) (by rfl) (fr_isinstance T) (by decide +kernel) (pa_cons (pv 0) (pa_cons (pe_gref (mg_Counter T)) pa_nil))))) (pw_or1 (pt_val (pe_callB (call_isi : CallR _ _ (rIsi K)) (by rfl) (fr_isinstance T) (by decide +kernel) (pa_cons (pe_propH (pv 0) (cl_Counter T) (pr_Counter_value T) (ok_Counter_value T) hr pass0) (pa_cons (pe_bltn (v := .ty "bool") (u := .type "bool") rfl (fr_bool T) (by decide +kernel) rfl) pa_nil))))))) (pss_one (ps_ret pe_bl)) pss_nil)
      (pss_one (ps_ret (pe_cmpR (op_eqD hr.units) (pe_tup (pa_cons (pe_fld (pv 0) rfl) (pa_cons (pe_propH (pv 0) (cl_Counter T) (pr_Counter_value T) (ok_Counter_value T) hr pass0) pa_nil))) (pe_tup (pa_cons (pv 1) (pa_cons (pe_op op_mod (pe_callTy call_int1 (by rfl) (fr_int T) (by decide +kernel) (pa_cons (pv 2) pa_nil)) (pv 1)) pa_nil))) (nomark _))))), ?_⟩
    refine ⟨_, rfl, _, _, _, _, true, rfl, .own _, ty_ins (in_Counter T) (cl_Counter T) hp, (in_Counter T).me, true, rfl, ?_⟩
    refine iteF ?_
    refine ⟨_, rfl, p, d, _, rfl, hp, p, d, m, v, rfl, hp, _, _, _, _, false, rfl, .ty _, .base (.int _), kit_ib, false, rfl, ?_⟩
    refine iteF ?_
    refine ⟨_, rfl, p, CC K, d, _, _, rfl, hp, cl_Counter T, na_Counter_modulus T, rfl, _, rfl, p, d, _, rfl, hp, p, d, m, v, rfl, hp, lenk rfl, fun t1 nt1 => ?_⟩
    generalize eH1 : upd H t1 _ = H1
    have sH1 := fr_same eH1 nt1
    have ft1 := fr_at eH1
    refine ⟨_, rfl, _, rfl, .inl ⟨_, rfl, _, rfl, _, _, rfl, rfl, (show 0 < m by have := hm.1; omega), lenk rfl, fun t2 nt2 => ?_⟩⟩
    generalize eH2 : upd H1 t2 _ = H2
    have sH2 := fr_same eH2 nt2
    have ft2 := fr_at eH2
    have gt1 : H2 t1 = some (.tup [.int m, .int v]) := sH2 _ _ ft1
    refine ⟨_, _, dp_pair gt1, dp_pair ft2, rfl, rfl, ?_⟩
    rw [eqv_pair]
    have z : decide (m = m ∧ v = x % m) = true := decide_eq_true ⟨rfl, e.symm⟩
    rw [z]
    exact k _ (sH1.trans sH2)
@[irreducible] def sp_lstepped (K : PySem.W.Frag) : Sp := fun vs H Q _ => ∃ (m v st : Int), vs = [.int m, .int v, .int st] ∧ MOk m ∧ ∀ H', Same H H' → Q (.bl true) H'
theorem lstepped_rd {H : Hp} {Q : VK} {E : XK} {m v st : Int} (hm : MOk m) (k : ∀ H', Same H H' → Q (.bl true) H') : sp_lstepped K [.int m, .int v, .int st] H Q E := by
  unfold sp_lstepped
  exact ⟨m, v, st, rfl, hm, k⟩
theorem sc_lstepped : FnScope ["_law_modulus", "_law_value", "_law_step", "_law_counter", "_law_same"] ["_law_modulus", "_law_value", "_law_step"] (defScope s__law_stepped) := ⟨rfl, rfl, rfl, by decide +kernel, rfl, by decide +kernel, by decide +kernel⟩
theorem ok_lstepped (T : TopL K mg) : Has P w K mg base CX0 7 (He.ga K "_law_stepped") ["_law_modulus", "_law_value", "_law_step"] [] (sp_lstepped K) := by
  obtain ⟨fd, F⟩ := fn__law_stepped T
  refine Has.of0 F sc_lstepped (fun _ _ _ _ _ _ us hl => match us, hl with | [_, _, _], _ => rfl) (fun vs H Q E h => ?_) (fun cdv A outer s H vs Q E hr h => ?_)
  · unfold sp_lstepped at h
    obtain ⟨m, v, st, rfl, _⟩ := h
    rfl
  · unfold sp_lstepped at h
    obtain ⟨m, v, st, rfl, hm, k⟩ := h
    have m0 : 0 < m := by have := hm.1; omega
    refine ⟨_, (pss_cons (ps_set (i := 3) sc_lstepped.nd rfl (Or.inl rfl) (pe_makeH (mk_Counter T) (ok_Counter_init T) hr (mg_Counter T) passL (pa_cons (pv 0) (pa_cons (pv 1) pa_nil))))
      (pss_cons (ps_set (i := 4) sc_lstepped.nd rfl (Or.inl rfl) (pv 3))
      (pss_cons (ps_if (pt_not (pt_val (pe_callH (ok_lis T) hr (mg__law_is T) pass0 (pa_cons (pe_op (op_bin (bi_Counter_Add T) (ok_Counter_add T) hr passL) (pv 3) (pv 2)) (pa_cons (pv 0) (pa_cons (pe_op op_add (pv 1) (pv 2)) pa_nil)))))) (pss_one (ps_ret pe_bl)) pss_nil)
      (pss_cons (ps_if (pt_not (pt_val (pe_callH (ok_lis T) hr (mg__law_is T) pass0 (pa_cons (pe_op (op_ref decl_add (re_Counter_Add T) (ok_Counter_radd T) hr passL) (pv 2) (pv 3)) (pa_cons (pv 0) (pa_cons (pe_op op_add (pv 1) (pv 2)) pa_nil)))))) (pss_one (ps_ret pe_bl)) pss_nil)
      (pss_cons (ps_if (pt_not (pt_val (pe_callH (ok_lis T) hr (mg__law_is T) pass0 (pa_cons (pe_op (op_bin (bi_Counter_Sub T) (ok_Counter_sub T) hr passL) (pv 3) (pv 2)) (pa_cons (pv 0) (pa_cons (pe_op op_sub (pv 1) (pv 2)) pa_nil)))))) (pss_one (ps_ret pe_bl)) pss_nil)
      (pss_cons (ps_if (pt_not (pt_val (pe_callH (ok_lis T) hr (mg__law_is T) pass0 (pa_cons (pv 3) (pa_cons (pv 0) (pa_cons (pv 1) pa_nil)))))) (pss_one (ps_ret pe_bl)) pss_nil)
      (pss_cons (ps_aug (i := 3) sc_lstepped.nd rfl (Or.inl rfl) (pv 2) (inp_own (ip_Counter_Add T).1 (ip_Counter_Add T).2 (ok_Counter_iadd T) hr passL))
      (pss_cons (ps_if (pt_not (pt_val (pe_callH (ok_lis T) hr (mg__law_is T) pass0 (pa_cons (pv 3) (pa_cons (pv 0) (pa_cons (pe_op op_add (pv 1) (pv 2)) pa_nil)))))) (pss_one (ps_ret pe_bl)) pss_nil)
      (pss_cons (ps_if (pt_not (pt_val (pe_callH (ok_lis T) hr (mg__law_is T) pass0 (pa_cons (pv 4) (pa_cons (pv 0) (pa_cons (pe_op op_add (pv 1) (pv 2)) pa_nil)))))) (pss_one (ps_ret pe_bl)) pss_nil)
      (pss_cons (ps_aug (i := 3) sc_lstepped.nd rfl (Or.inl rfl) (pe_op op_add (pe_op op_mul pe_int (pv 2)) pe_int) (inp_own (ip_Counter_Sub T).1 (ip_Counter_Sub T).2 (ok_Counter_isub T) hr passL))
      (pss_cons (ps_if (PW.pt (pw_or (pt_not (pt_val (pe_callH (ok_lis T) hr (mg__law_is T) pass0 (pa_cons (pv 4) (pa_cons (pv 0) (pa_cons (pe_op op_sub (pe_op op_sub (pv 1) (pv 2)) pe_int) pa_nil)))))) (pw_or1 (pt_not (pt_cmpR (op_eqO (cm_Counter_Eq T) (ok_Counter_eq T) hr pass0) (pv 3) (pv 4) (nomark _)))))) (pss_one (ps_ret pe_bl)) pss_nil)
      (pss_cons (ps_expr (pe_methH (pv 4) (cl_Counter T) (me_Counter_change T) (ok_Counter_change T) hr passL (pa_cons (pe_op op_mod (pe_callTy call_int1 (by rfl) (fr_int T) (by decide +kernel) (pa_cons (pv 1) pa_nil)) (pv 0)) pa_nil)))
      (pss_one (ps_ret (pe_callH (ok_lis T) hr (mg__law_is T) pass0 (pa_cons (pv 3) (pa_cons (pv 0) (pa_cons (pv 1) pa_nil)))))))))))))))))), ?_⟩
    refine ⟨_, rfl, _, rfl, ?_⟩
    intro p d np nd ne
    refine counter_init np nd ne hm fun H1 s1 hp => ⟨rfl, ?_⟩
    refine ⟨_, rfl, ?_⟩
    -- counter + step
    refine ⟨_, rfl, _, rfl, p, d, _, rfl, hp, .inl ⟨_, .int st⟩, cadd_yes hp hm fun q2 d2 H2 n2 s2 f2 => ?_⟩
    refine ⟨_, rfl, _, rfl, _, rfl, _, _, rfl, rfl, lis_rd f2 hm (em_add _ _ _) fun H3 s3 => ⟨_, rfl, ?_⟩⟩
    refine iteF ?_
    have s13 := s2.trans s3
    -- step + counter
    refine ⟨_, rfl, _, rfl, p, d, _, _, rfl, s13 _ _ hp, .int st, cadd_yes (s13 _ _ hp) hm fun q4 d4 H4 n4 s4 f4 => ?_⟩
    refine ⟨_, rfl, _, rfl, _, rfl, _, _, rfl, rfl, lis_rd f4 hm (em_add _ _ _) fun H5 s5 => ⟨_, rfl, ?_⟩⟩
    refine iteF ?_
    have s15 := s13.trans (s4.trans s5)
    refine ⟨_, rfl, _, rfl, p, d, _, rfl, s15 _ _ hp, .inl ⟨_, .int st⟩, csub_int (s15 _ _ hp) hm fun q6 d6 H6 n6 s6 f6 => ?_⟩
    refine ⟨_, rfl, _, rfl, _, rfl, _, _, rfl, rfl, lis_rd f6 hm (em_sub _ _ _) fun H7 s7 => ⟨_, rfl, ?_⟩⟩
    refine iteF ?_
    have s17 := s15.trans (s6.trans s7)
    refine ⟨_, rfl, _, rfl, _, rfl, lis_rd (s17 _ _ hp) hm rfl fun H8 s8 => ⟨_, rfl, ?_⟩⟩
    refine iteF ?_
    have s18 := s17.trans s8
    -- counter += step
    refine ⟨_, rfl, _, rfl, p, d, _, rfl, s18 _ _ hp, ciadd_yes (s18 _ _ hp) hm ?_⟩
    have t9 : ∀ o, Same H (upd H8 p o) := fun o => Same.mut (s1.trans s18) np
    refine ⟨_, rfl, _, rfl, _, rfl, _, rfl, _, _, rfl, rfl, lis_rd upd_same hm (em_add _ _ _) fun H9 s9 => ⟨_, rfl, ?_⟩⟩
    refine iteF ?_
    refine ⟨_, rfl, _, rfl, _, rfl, _, rfl, _, _, rfl, rfl, lis_rd (s9 _ _ upd_same) hm (em_add _ _ _) fun H10 s10 => ⟨_, rfl, ?_⟩⟩
    refine iteF ?_
    have f10 := s10 _ _ (s9 _ _ upd_same)
    -- counter -= 2 * step + 1
    refine ⟨_, rfl, _, rfl, _, _, rfl, rfl, .inl ⟨by decide, by decide⟩, _, _, rfl, rfl, p, d, _, rfl, f10, ciadd_yes f10 hm ?_⟩
    have t11 : ∀ o, Same H (upd H10 p o) := fun o => Same.mut ((t9 _).trans (s9.trans s10)) np
    have e2 : (v - st - 1) % m = ((v % m + st) % m - (2 * st + 1)) % m := by
      rw [← em_add, ← em_sub]
      congr 1
      omega
    refine ⟨_, rfl, _, rfl, _, rfl, _, rfl, _, _, rfl, rfl, _, _, rfl, rfl, lis_rd upd_same hm e2 fun H11 s11 => ⟨_, rfl, ?_⟩⟩
    refine iteF ?_
    have f11 := s11 _ _ upd_same
    refine ⟨_, rfl, _, rfl, p, d, _, rfl, f11, .inr ⟨p, d, _, rfl, f11⟩, ceq_yes f11 f11 ⟨_, rfl, ?_⟩⟩
    refine ifF (by simp) ?_
    -- change
    refine ⟨_, rfl, p, d, _, rfl, f11, rfl, _, rfl, .inl ⟨_, rfl, _, rfl, _, _, rfl, rfl, m0, cset_yes f11 ⟨Int.emod_nonneg _ (by omega), by have := Int.emod_lt_of_pos v m0; omega⟩ ?_⟩⟩
    refine ⟨_, rfl, _, rfl, _, rfl, lis_rd upd_same hm rfl fun H12 s12 => ?_⟩
    exact k _ ((Same.mut ((t11 _).trans s11) np).trans s12)
@[irreducible] def sp_lmade (K : PySem.W.Frag) : Sp := fun vs H Q _ => ∃ (m v n k : Int), vs = [.int m, .int v, .int n, .int k] ∧ MOk m ∧ (1 ≤ n ∧ Bg n) ∧ 0 ≤ k ∧ ∀ H', Same H H' → Q (.bl true) H'
theorem lmade_rd {H : Hp} {Q : VK} {E : XK} {m v n c : Int} (hm : MOk m) (hn : 1 ≤ n ∧ Bg n) (hc : 0 ≤ c) (k : ∀ H', Same H H' → Q (.bl true) H') : sp_lmade K [.int m, .int v, .int n, .int c] H Q E := by
  unfold sp_lmade
  exact ⟨m, v, n, c, rfl, hm, hn, hc, k⟩
theorem sc_lmade : FnScope ["_law_modulus", "_law_value", "_law_divisor", "_law_mask", "_law_counter", "_law_due", "_law_told", "_law_number_here"] ["_law_modulus", "_law_value", "_law_divisor", "_law_mask"] (defScope s__law_made_of) := ⟨rfl, rfl, rfl, by decide +kernel, rfl, by decide +kernel, by decide +kernel⟩
theorem ok_lmade (T : TopL K mg) : Has P w K mg base CX0 7 (He.ga K "_law_made_of") ["_law_modulus", "_law_value", "_law_divisor", "_law_mask"] [] (sp_lmade K) := by
  obtain ⟨fd, F⟩ := fn__law_made_of T
  refine Has.of0 F sc_lmade (fun _ _ _ _ _ _ us hl => match us, hl with | [_, _, _, _], _ => rfl) (fun vs H Q E h => ?_) (fun cdv A outer s H vs Q E hr h => ?_)
  · unfold sp_lmade at h
    obtain ⟨m, v, n, c, rfl, _⟩ := h
    rfl
  · unfold sp_lmade at h
    obtain ⟨m, v, n, c, rfl, hm, hn, hc, k⟩ := h
    have m0 : 0 < m := by have := hm.1; omega
    refine ⟨_, (pss_cons (ps_set (i := 4) sc_lmade.nd rfl (Or.inl rfl) (pe_makeH (mk_Counter T) (ok_Counter_init T) hr (mg_Counter T) passL (pa_cons (pv 0) (pa_cons (pv 1) pa_nil))))
      (pss_cons (ps_set (i := 5) sc_lmade.nd rfl (Or.inl rfl) (pe_op op_mod (pe_callTy call_int1 (by rfl) (fr_int T) (by decide +kernel) (pa_cons (pv 1) pa_nil)) (pv 0)))
      (pss_cons (ps_set (i := 6) sc_lmade.nd rfl (Or.inl rfl) (pe_lst (pa_cons (pe_op (op_bin (bi_Counter_Mod T) (ok_Counter_mod T) hr passL) (pv 4) (pv 2)) (pa_cons (pe_op (op_bin (bi_Counter_FloorDiv T) (ok_Counter_floordiv T) hr passL) (pv 4) (pv 2)) (pa_cons (pe_op (op_bin (bi_Counter_BitAnd T) (ok_Counter_and T) hr passL) (pv 4) (pv 3)) pa_nil)))))
      (pss_cons (ps_if (pt_cmpR (op_neD hr.units) (pe_lc (own := [("_law_number_here", 7)]) (g := gName 7) rfl sc_lmade.nd (pi_list (pv 6)) (blkOk_by (N := ["_law_modulus", "_law_value", "_law_divisor", "_law_mask", "_law_counter", "_law_due", "_law_told", "_law_number_here"]) (sc := defScope s__law_made_of) (by decide +kernel)) (fun _ _ _ _ _ => (pg_name (i := 7) sc_lmade.nd rfl (Or.inl rfl))) (fun _ _ _ _ _ => (pts_one (PW.pt (pw_or (pt_val (pe_callB (call_isi : CallR _ _ (rIsi K)) (by rfl) (fr_isinstance T) (by decide +kernel) (pa_cons (pv 7) (pa_cons (pe_bltn (v := .ty "bool") (u := .type "bool") rfl (fr_bool T) (by decide +kernel) rfl) pa_nil)))) (pw_or1 (pt_not (pt_val (pe_callB (call_isi : CallR _ _ (rIsi K)) (by rfl) (fr_isinstance T) (by decide +kernel) (pa_cons (pv 7) (pa_cons (pe_bltn (v := .ty "int") (u := .type "int") rfl (fr_int T) (by decide +kernel) rfl) pa_nil)))))))))) (fun _ _ _ _ _ => (pv 7))) (pe_lst pa_nil) (nomark _)) (pss_one (ps_ret pe_bl)) pss_nil)
      (pss_one (ps_ret (pe_and (pe_cmpR (op_eqD hr.units) (pv 6) (pe_lst (pa_cons (pe_op op_mod (pe_callTy call_int1 (by rfl) (fr_int T) (by decide +kernel) (pa_cons (pv 5) pa_nil)) (pv 2)) (pa_cons (pe_op op_fdivW (pv 5) (pv 2)) (pa_cons (pe_op op_and (pv 5) (pv 3)) pa_nil)))) (nomark _)) (pe_one (pe_callH (ok_lis T) hr (mg__law_is T) pass0 (pa_cons (pv 4) (pa_cons (pv 0) (pa_cons (pv 1) pa_nil)))))))))))), ?_⟩
    refine ⟨_, rfl, _, rfl, ?_⟩
    intro p d np nd ne
    refine counter_init np nd ne hm fun H1 s1 hp => ⟨rfl, ?_⟩
    refine ⟨_, rfl, .inl ⟨_, rfl, _, rfl, _, _, rfl, rfl, m0, ?_⟩⟩
    refine ⟨_, rfl, _, rfl, p, d, _, rfl, hp, .inl ⟨_, .int n⟩, cdiv_yes hp hn ?_⟩
    refine ⟨_, rfl, _, rfl, p, d, _, rfl, hp, .inl ⟨_, .int n⟩, cdiv_yes hp hn ?_⟩
    refine ⟨_, rfl, _, rfl, p, d, _, rfl, hp, .inl ⟨_, .int c⟩, cand_yes hp hc ⟨lenk rfl, fun t1 nt1 => ?_⟩⟩
    generalize eH2 : upd H1 t1 _ = H2
    have sH2 := fr_same eH2 nt1
    have ft1 := fr_at eH2
    have q1 : SqL K H2 t1 ([v % m % n, v % m / n, Builtin.bitAnd (v % m) c].map V.int) := SqL.of ft1
    refine ⟨_, rfl, t1, rfl, ⟨_, q1⟩, fun D1 nD1 => lc_fmap (fun _ => false) (fun x => x) nD1 (by show 3 ≤ 1000; decide) q1 (fun _ => rfl) (fun x H' hx s' R kk => ?_) (fun x H' hx hf s' R kk => by cases hf) (fun H3 s3 f3 => ?_)⟩
    · obtain ⟨z, _, rfl⟩ := List.mem_map.mp hx
      refine ⟨_, rfl, _, _, _, _, false, rfl, .ty _, .base (.int _), kit_ib, false, rfl, ?_⟩
      refine iteF ?_
      exact ⟨_, rfl, _, _, _, _, true, rfl, .ty _, .base (.int _), kit_int, true, rfl, kk _ (Same.refl _)⟩
    refine ⟨lenk rfl, fun t2 nt2 => ?_⟩
    generalize eH4 : upd H3 t2 _ = H4
    have sH4 := fr_same eH4 nt2
    have ft2 := fr_at eH4
    have f4 := sH4 _ _ f3
    refine ⟨_, _, dp_nil (SqL.of f4), dp_nil (SqL.of ft2), rfl, rfl, _, rfl, ?_⟩
    refine iteF ?_
    refine ⟨_, rfl, _, rfl, .inl ⟨_, rfl, _, rfl, _, _, rfl, rfl, (show 0 < n by omega), _, rfl, _, rfl, _, _, rfl, rfl, bg_div hn.1 hn.2, _, rfl, _, rfl, _, _, rfl, rfl, lenk rfl, fun t3 nt3 => ?_⟩⟩
    generalize eH5 : upd H4 t3 _ = H5
    have sH5 := fr_same eH5 nt3
    have ft3 := fr_at eH5
    have q5 : SqL K H5 t1 ([v % m % n, v % m / n, Builtin.bitAnd (v % m) c].map V.int) := SqL.of (sH5 _ _ (sH4 _ _ (s3 _ _ ft1)))
    have q6 : SqL K H5 t3 ([v % m % n, v % m / n, Builtin.bitAnd (v % m) c].map V.int) := SqL.of ft3
    refine ⟨_, _, dp_ints q5, dp_ints q6, rfl, rfl, ?_⟩
    rw [eqv_ints, decide_eq_true rfl]
    refine ⟨_, rfl, ?_⟩
    refine iteT ?_
    have s15 := sH2.trans (s3.trans (sH4.trans sH5))
    refine ⟨_, rfl, _, rfl, _, rfl, lis_rd (s15 _ _ hp) hm rfl fun H6 s6 => ?_⟩
    exact k _ (s1.trans (s15.trans s6))
theorem abs45 {x : Int} (h : R45 x) : 0 ≤ (if x < 0 then -x else x) ∧ (if x < 0 then -x else x) ≤ 10 ^ 45 := by
  unfold R45 at h
  split <;> omega
theorem sc_law : FnScope ["_law_script", "_law_turn", "_law_source_here", "_law_modulus", "_law_value", "_law_other", "_law_one", "_law_two"] ["_law_script"] (defScope s_law) := ⟨rfl, rfl, rfl, by decide +kernel, rfl, by decide +kernel, by decide +kernel⟩
theorem ok_law (T : TopL K mg) {fd : FuncData} (F : FunD K d_law.name d_law.qual d_law.params d_law.body d_law.scope (d_law.dvs K) (d_law.kws K) (d_law.loc K) fd) : FnOk P w K mg base CX0 9 (He.ga K "law") fd ["_law_script"] (sp_law K) := by
  refine fn0 F sc_law (fun vs H Q E h => ?_) (fun cdv A outer s H vs Q E hr h => ?_)
  · obtain ⟨a, ns, rfl, _⟩ := h
    rfl
  · obtain ⟨a, ns, rfl, hS, hz, k⟩ := h
    refine ⟨_, (pss_cons (ps_for PassesOwn.never rfl (pi_range1 (by rfl) (fr_range T) (pa_cons (pe_callB (call_max2 rfl) (by rfl) (fr_max T) (by decide +kernel) (pa_cons pe_int (pa_cons (pe_callB (call_min2 rfl) (by rfl) (fr_min T) (by decide +kernel) (pa_cons (pe_callB call_len_seq (by rfl) (fr_len T) PySem.boot_len (pa_cons (pv 0) pa_nil)) (pa_cons pe_int pa_nil))) pa_nil))) pa_nil)) (pg_name (i := 1) sc_law.nd rfl (Or.inl rfl)) (pss_cons (ps_set (i := 2) sc_law.nd rfl (Or.inl rfl) (pe_callH (ok_sourceD T) hr (mg__law_source T) pass0 (pa_cons (pv 0) (pa_cons (pv 1) pa_nil))))
      (pss_cons (ps_set (i := 3) sc_law.nd rfl (Or.inl rfl) (pe_op op_add pe_int (pe_callH (ok_drawD T) hr (mg__law_draw T) pass0 (pa_cons (pv 2) (pa_cons (pe_ix ix_list (pe_lst (pa_cons pe_int (pa_cons pe_int (pa_cons (pe_op op_sub (pe_op op_pow pe_int pe_int) pe_int) pa_nil)))) (pe_callH (ok_drawD T) hr (mg__law_draw T) pass0 (pa_cons (pv 2) (pa_cons pe_int pa_nil))) (fun _ _ => rfl)) pa_nil)))))
      (pss_cons (ps_par (by rfl) sc_law.nd (i := 4) (j := 5) rfl rfl (by decide) rfl rfl (pa_cons (pe_callH (ok_lnumber T) hr (mg__law_number T) pass0 (pa_cons (pv 2) pa_nil)) (pa_cons (pe_callH (ok_lnumber T) hr (mg__law_number T) pass0 (pa_cons (pv 2) pa_nil)) pa_nil)) (by rfl))
      (pss_cons (ps_if (pt_not (pt_val (pe_callH (ok_lis T) hr (mg__law_is T) pass0 (pa_cons (pe_makeH (mk_Counter T) (ok_Counter_init1 T) hr (mg_Counter T) passL (pa_cons (pv 3) pa_nil)) (pa_cons (pv 3) (pa_cons pe_int pa_nil)))))) (pss_one (ps_ret pe_bl)) pss_nil)
      (pss_cons (ps_if (pt_not (pt_val (pe_callH (ok_lis T) hr (mg__law_is T) pass0 (pa_cons (pe_makeH (mk_Counter T) (ok_Counter_init T) hr (mg_Counter T) passL (pa_cons (pv 3) (pa_cons (pv 4) pa_nil))) (pa_cons (pv 3) (pa_cons (pv 4) pa_nil)))))) (pss_one (ps_ret pe_bl)) pss_nil)
      (pss_cons (ps_if (pt_not (pt_val (pe_callH (ok_lstepped T) hr (mg__law_stepped T) pass0 (pa_cons (pv 3) (pa_cons (pv 4) (pa_cons (pe_callH (ok_lnumber T) hr (mg__law_number T) pass0 (pa_cons (pv 2) pa_nil)) pa_nil)))))) (pss_one (ps_ret pe_bl)) pss_nil)
      (pss_cons (ps_if (pt_not (pt_val (pe_callH (ok_lmade T) hr (mg__law_made_of T) pass0 (pa_cons (pv 3) (pa_cons (pv 4) (pa_cons (pe_op op_add pe_int (pe_callB call_abs (by rfl) (fr_abs T) (by decide +kernel) (pa_cons (pe_callH (ok_lnumber T) hr (mg__law_number T) pass0 (pa_cons (pv 2) pa_nil)) pa_nil))) (pa_cons (pe_callB call_abs (by rfl) (fr_abs T) (by decide +kernel) (pa_cons (pe_callH (ok_lnumber T) hr (mg__law_number T) pass0 (pa_cons (pv 2) pa_nil)) pa_nil)) pa_nil))))))) (pss_one (ps_ret pe_bl)) pss_nil)
      (pss_cons (ps_par (by rfl) sc_law.nd (i := 6) (j := 7) rfl rfl (by decide) rfl rfl (pa_cons (pe_makeH (mk_Counter T) (ok_Counter_init T) hr (mg_Counter T) passL (pa_cons (pv 3) (pa_cons (pv 4) pa_nil))) (pa_cons (pe_makeH (mk_Counter T) (ok_Counter_init T) hr (mg_Counter T) passL (pa_cons (pv 3) (pa_cons (pv 5) pa_nil))) pa_nil)) (by rfl))
      (pss_cons (ps_if (pt_cmpR op_ne (pe_op (op_bin (bi_Counter_Sub T) (ok_Counter_sub T) hr passL) (pv 6) (pv 7)) (pe_op op_mod (pe_callTy call_int1 (by rfl) (fr_int T) (by decide +kernel) (pa_cons (pe_op op_sub (pv 4) (pv 5)) pa_nil)) (pv 3)) (nomark _)) (pss_one (ps_ret pe_bl)) pss_nil)
      (pss_cons (ps_if (pt_cmpR op_ne (pe_op (op_bin (bi_Counter_Sub T) (ok_Counter_sub T) hr passL) (pv 7) (pv 6)) (pe_op op_mod (pe_callTy call_int1 (by rfl) (fr_int T) (by decide +kernel) (pa_cons (pe_op op_sub (pv 5) (pv 4)) pa_nil)) (pv 3)) (nomark _)) (pss_one (ps_ret pe_bl)) pss_nil)
      (pss_cons (ps_if (pt_cmpR op_ne (pe_cmpR (op_eqO (cm_Counter_Eq T) (ok_Counter_eq T) hr pass0) (pv 6) (pv 7) (nomark _)) (pe_cmpR op_eq (pe_op op_mod (pe_callTy call_int1 (by rfl) (fr_int T) (by decide +kernel) (pa_cons (pe_op op_sub (pv 4) (pv 5)) pa_nil)) (pv 3)) pe_int (nomark _)) (nomark _)) (pss_one (ps_ret pe_bl)) pss_nil)
      (pss_cons (ps_if (pt_cmpR (op_eqO (cm_Counter_Eq T) (ok_Counter_eq T) hr pass0) (pv 6) (pe_makeH (mk_Counter T) (ok_Counter_init T) hr (mg_Counter T) passL (pa_cons (pe_op op_add (pv 3) pe_int) (pa_cons (pe_propH (pv 6) (cl_Counter T) (pr_Counter_value T) (ok_Counter_value T) hr pass0) pa_nil))) (nomark _)) (pss_one (ps_ret pe_bl)) pss_nil)
      (pss_one (ps_if (pt_cmpR (op_eqO (cm_Counter_Eq T) (ok_Counter_eq T) hr pass0) (pv 6) (pe_propH (pv 6) (cl_Counter T) (pr_Counter_value T) (ok_Counter_value T) hr pass0) (nomark _)) (pss_one (ps_ret pe_bl)) pss_nil)))))))))))))))
      (pss_one (ps_ret pe_bl))), ?_⟩
    refine ⟨_, rfl, a, _, rfl, .inl hS, _, _, rfl, _, _, rfl, ?_⟩
    have hj1 := turns_rng 1 25 (by decide) (by decide) ((ns.map V.int).length : Int) (by omega)
    generalize (if (if 25 < ((ns.map V.int).length : Int) then (25 : Int) else ((ns.map V.int).length : Int)) > 1 then (if 25 < ((ns.map V.int).length : Int) then (25 : Int) else ((ns.map V.int).length : Int)) else 1) = j at hj1 ⊢
    refine ⟨_, rfl, by omega, by omega, for_range (n := j.toNat) (fun i σ H9 => ∃ (u1 u2 u3 u4 u5 u6 u7 : Option V), σ = [some (.ref a), u1, u2, u3, u4, u5, u6, u7] ∧ Same H H9)
      ⟨_, _, _, _, _, _, _, rfl, Same.refl _⟩ ?_ (fun σ H9 z => k H9)⟩
    rintro i σ H0 hi ⟨u1, u2, u3, u4, u5, u6, u7, rfl, s0⟩
    have hS0 : SqL K H0 a (ns.map V.int) := s0.seq hS
    refine ⟨_, rfl, _, rfl, source_rd hS0 (by omega) fun p H1 np s1 S1 => ?_⟩
    refine ⟨_, rfl, _, _, rfl, rfl, ⟨by decide, by decide, by decide⟩, _, _, rfl, rfl, lenk rfl, fun m nm => ?_⟩
    generalize eH2 : upd H1 m _ = H2
    have sH2 := fr_same eH2 nm
    have fm := fr_at eH2
    refine ⟨_, rfl, draw_rd (S1.same sH2) (by decide) (by decide) fun i1 H3 i1a i1b D3 S3 => ?_⟩
    obtain ⟨x1, ex1, hx1⟩ := all_ints (Pr := fun n => 0 < n ∧ n ≤ 10 ^ 40 - 1) (ns := [12, 1000, 10 ^ 40 - 1]) i1a i1b (by decide)
    refine ⟨m, _, _, _, rfl, rfl, SqL.of (by walk_at "hp"), ex1, ?_⟩
    refine draw_rd S3 (by omega) (by omega) fun mm H4 mma mmb D4 S4 => ?_
    refine ⟨_, _, rfl, rfl, ?_⟩
    have hm : MOk (1 + mm) := ⟨by omega, by omega⟩
    have M0 : 0 < 1 + mm := by omega
    refine ⟨_, rfl, lnumber_rd S4 fun x H5 rx D5 S5 => ?_⟩
    refine ⟨_, rfl, lnumber_rd S5 fun y H6 ry D6 S6 => ?_⟩
    refine ⟨_, _, rfl, ?_⟩
    refine ⟨_, rfl, ?_⟩
    intro p1 d1 np1 nd1 ne1
    refine counter_init np1 nd1 ne1 hm fun H7 s7 hp1 => ⟨rfl, ?_⟩
    refine ⟨_, rfl, lis_rd hp1 hm rfl fun H8 s8 => ⟨_, rfl, ?_⟩⟩
    refine iteF ?_
    refine ⟨_, rfl, _, rfl, ?_⟩
    intro p2 d2 np2 nd2 ne2
    refine counter_init np2 nd2 ne2 hm fun H9 s9 hp2 => ⟨rfl, ?_⟩
    refine ⟨_, rfl, _, rfl, lis_rd hp2 hm rfl fun H10 s10 => ⟨_, rfl, ?_⟩⟩
    refine iteF ?_
    have s6a := s7.trans (s8.trans (s9.trans s10))
    refine ⟨_, rfl, _, rfl, _, rfl, lnumber_rd (S6.same s6a) fun z H11 rz D11 S11 => ?_⟩
    refine lstepped_rd hm fun H12 s12 => ⟨_, rfl, ?_⟩
    refine iteF ?_
    refine ⟨_, rfl, _, rfl, _, rfl, lnumber_rd (S11.same s12) fun n1 H13 rn1 D13 S13 => ?_⟩
    refine ⟨_, rfl, _, _, rfl, rfl, _, rfl, lnumber_rd S13 fun n2 H14 rn2 D14 S14 => ⟨_, rfl, ?_⟩⟩
    have b1 := abs45 rn1
    have b2 := abs45 rn2
    refine lmade_rd hm ⟨by omega, bg_of (by omega) (by omega)⟩ b2.1 fun H15 s15 => ⟨_, rfl, ?_⟩
    refine iteF ?_
    refine ⟨_, rfl, _, rfl, ?_⟩
    intro p3 d3 np3 nd3 ne3
    refine counter_init np3 nd3 ne3 hm fun H16 s16 hp3 => ⟨rfl, ?_⟩
    refine ⟨_, rfl, _, rfl, ?_⟩
    intro p4 d4 np4 nd4 ne4
    refine counter_init np4 nd4 ne4 hm fun H17 s17 hp4 => ⟨rfl, ?_⟩
    have hp3 := s17 _ _ hp3
    refine ⟨_, _, rfl, ?_⟩
    refine ⟨_, rfl, _, rfl, p3, d3, _, rfl, hp3, .inr ⟨p4, d4, _, rfl, hp4⟩, csub_two hp3 hm hp4 ?_⟩
    refine ⟨_, rfl, _, rfl, _, _, rfl, rfl, .inl ⟨_, rfl, _, rfl, _, _, rfl, rfl, M0, rfl, _, rfl, ?_⟩⟩
    refine ifN (fun hc => absurd (congrArg V.int (Int.sub_emod _ _ _).symm) hc) (fun _ => ?_)
    refine ⟨_, rfl, _, rfl, p4, d4, _, rfl, hp4, .inr ⟨p3, d3, _, rfl, hp3⟩, csub_two hp4 hm hp3 ?_⟩
    refine ⟨_, rfl, _, rfl, _, _, rfl, rfl, .inl ⟨_, rfl, _, rfl, _, _, rfl, rfl, M0, rfl, _, rfl, ?_⟩⟩
    refine ifN (fun hc => absurd (congrArg V.int (Int.sub_emod _ _ _).symm) hc) (fun _ => ?_)
    refine ⟨_, rfl, _, rfl, p3, d3, _, rfl, hp3, .inr ⟨p4, d4, _, rfl, hp4⟩, ceq_yes hp3 hp4 ?_⟩
    refine ⟨_, rfl, _, rfl, _, _, rfl, rfl, .inl ⟨_, rfl, _, rfl, _, _, rfl, rfl, M0, rfl, rfl, _, rfl, ?_⟩⟩
    have e5 : (V.bl (decide (1 + mm = 1 + mm ∧ x % (1 + mm) = y % (1 + mm)))) = V.bl (decide (V.int ((x - y) % (1 + mm)) = V.int 0)) := by
      congr 1
      refine decide_eq_decide.mpr ⟨fun h => congrArg V.int (Int.emod_eq_emod_iff_emod_sub_eq_zero.mp h.2), fun h => ⟨rfl, Int.emod_eq_emod_iff_emod_sub_eq_zero.mpr (V.int.inj h)⟩⟩
    refine ifN (fun hc => absurd e5 hc) (fun _ => ?_)
    refine ⟨_, rfl, _, rfl, _, _, rfl, rfl, _, rfl, p3, d3, _, rfl, hp3, p3, d3, _, _, rfl, hp3, ?_⟩
    intro p5 d5 np5 nd5 ne5
    refine counter_init np5 nd5 ne5 ⟨by omega, by omega⟩ fun H18 s18 hp5 => ⟨rfl, ?_⟩
    refine ⟨p3, d3, _, rfl, s18 _ _ hp3, .inr ⟨p5, d5, _, rfl, hp5⟩, ceq_yes (s18 _ _ hp3) hp5 ⟨_, rfl, ?_⟩⟩
    refine ifD (fun hc => absurd hc.1 (by omega)) (fun _ => ?_)
    refine ⟨_, rfl, _, rfl, p3, d3, _, rfl, s18 _ _ hp3, p3, d3, _, _, rfl, s18 _ _ hp3, p3, d3, _, rfl, s18 _ _ hp3, .inl ⟨_, .int _⟩, ceq_no (s18 _ _ hp3) (.base (.int _)) ((in_Counter T).to _ (by decide)) ⟨_, rfl, ?_⟩⟩
    refine iteF ?_
    exact ⟨_, _, _, _, _, _, _, rfl, s0.trans (Drawn.over s1 np ((((((((((Drawn.after sH2 D3).trans D4).trans D5).trans D6).same s6a).trans D11).same s12).trans D13).trans D14).same (s15.trans (s16.trans (s17.trans s18)))))⟩
end
end Lw
/-! the end: the law's own def as the top has left it. -/
namespace Lw
open PySem PySem.Spec PyProof.Rows L2 Rg
theorem finish {P : Program} {w : World} {K : PySem.W.Frag} {mg : Str → Option Value} {fa : Addr} {h : Heap} (KX : K.In h) (G : h.Ns mainGlobals mg) (hmg : mg ("law" : Str) = some (.ref fa)) (c : SaysM faL fnL K) :
    ∃ (K : PySem.W.Frag) (fd : FuncData) (sp : Sp), K.In h ∧ (∀ (s : Shared) (u : Value), BindsTo s fd ⟨[u], []⟩ [("_law_script", u)]) ∧
      (∀ (H : Hp) (a : Addr) (ns : List Int), ns.length ≤ 63 → Only H → SqL K H a (ns.map V.int) → sp [.ref a] H (fun v _ => v = .bl true) fun _ _ _ => False) ∧
      ∀ base : Heap, K.In base → base.Ns mainGlobals mg → FnOk P w K mg base CX0 9 fa fd ["_law_script"] sp := by
  have T : TopL K mg := ⟨c, h, KX, G⟩
  obtain ⟨fd, F⟩ := fn_law T
  have e := hmg.symm.trans (mg_law T)
  cases e
  exact ⟨K, fd, sp_law K, KX, fun s u => FunD.bindsA (ps := ["_law_script"]) F (fun _ _ _ _ _ _ us hl => match us, hl with | [_], _ => rfl) s [u] rfl, fun H a ns hl _ hS => ⟨a, ns, rfl, hS, hl, fun _ => rfl⟩, fun base _ _ => ok_law T F⟩
end Lw
namespace Lw
open PySem PySem.Spec PyProof.Rows L2 Rg
def names0 : List PySem.Str := ["RingError", "NoCounter", "is_whole", "is_between", "LARGEST_MODULUS", "Counter", "whole_of", "divisor_of", "_law_source", "_law_draw", "_law_pick", "_law_number", "_law_is", "_law_stepped", "_law_made_of"]
def names : List PySem.Str := names0
abbrev RowL : PySem.W.OpenRow := PySem.W.OpenLaw.row PySem.Challenge.rw_ringindexes_k05_counters_stepped
abbrev hk : PySem.W.Hook := hookM 7 faL fnL
def ob (s : PySem.W.SharedT) : AlM := obsMG 7 faL fnL (HandSHeadRun.getT s)
theorem ob_eq (s : PySem.W.SharedT) : ob s = hk.obs s.abs := obsMG_eq (HandSHeadRun.getT_eq s)
theorem run (w : World) : HandSHeadRun.RunEq RowL (PySem.W.view RowL.prog [19]) hk ob 6000 names w := by
  intro os
  kernel_rfl
end Lw
open PySem PySem.W PySem.Calls PyProof.Rows
set_option maxRecDepth 100000 in
set_option maxHeartbeats 0 in
theorem PySem.Challenge.cw_ringindexes_k05_counters_stepped_holds : PySem.Challenge.rw_ringindexes_k05_counters_stepped.Holds := by
  w_on; o_law
  refine HandSHeadRun.head_any (r := OpenLaw.row PySem.Challenge.rw_ringindexes_k05_counters_stepped) (q := view (PySem.W.OpenLaw.row PySem.Challenge.rw_ringindexes_k05_counters_stepped).prog [19]) (H := Lw.hk) (ob := Lw.ob) (M := 6000) (loose := Lw.names) (d := HandSHeadRun.topDef (PySem.W.OpenLaw.row PySem.Challenge.rw_ringindexes_k05_counters_stepped).prog 19) (kwd := []) Lw.ob_eq
    (by kernel_rfl) (fun s => by kernel_rfl) Lw.run (by kernel_rfl) (by kernel_rfl) (by kernel_rfl) (by rfl) (by first | assumption | decide +kernel) (by decide +kernel) ⟨rfl, rfl, rfl, rfl, rfl, by decide +kernel⟩ ?hw ?hc
  case hw => w_witness2
  case hc =>
    refine L2.walk_ofE (l := PySem.Challenge.rw_ringindexes_k05_counters_stepped) (n := 63) (k := 9) (x := "_law_script") (CX := L2.CX0) rfl (by decide) (by kernel_rfl) ⟨rfl, by decide, by decide⟩ ?F (fun _ _ _ _ z => z)
    intro w mg fa h Y G hmg0
    obtain ⟨K, KX, c⟩ := Y
    have hmg : mg ("law" : PySem.Str) = some (.ref fa) := by
      have e : (HandSHeadRun.topDef (PySem.W.OpenLaw.row PySem.Challenge.rw_ringindexes_k05_counters_stepped).prog 19).name = ("law" : PySem.Str) := by kernel_rfl
      rw [← e]
      exact hmg0
    exact Lw.finish (P := (PySem.Challenge.rw_ringindexes_k05_counters_stepped).prog) (w := w) KX G hmg c
