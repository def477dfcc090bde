import PyProof.Rows.All
import Wide.All
import OpenK.AllK
import Wide.FinOn
import KE.KStateDown
import Lean
import HandS.ForMost
import HandS.Exc
import HandS.TryOnly
import HandS.ExcOwn
import HandS.WordsExc
import HandS.Defaults
import HandS.Wide
import HandS.IsInst
import HandS.Star
import HandS.Property
import HandS.Flow
import HandS.Style
import HandS.Codes
import HandS.Head0
import HandS.Head1
import HandS.Head2
import HandS.HeadEnd
import HandS.HeadHook1
import HandS.HeadHook2
import HandS.ExcIs
import HandS.Iter
import HandS.CallSlots
import PySem.Challenge.RW_ringindexes_k03_forms_refused
set_option Elab.async false
set_option linter.all false
set_option maxRecDepth 100000
set_option maxHeartbeats 4000000
/-! GEN A: the head's facts as a list of Bool functions of the written part. -/
namespace Rg
open PySem PySem.Spec PyProof.Rows L2
abbrev Fct := PySem.W.Frag → Bool
/-- one def of the text: where it stands behind the top, what it is -/
structure DefM where
  loc : PySem.W.Frag → Addr
  name : Str
  qual : Str
  params : Arguments
  body : List Stmt
  scope : Scope
  dfl : List He.Dv
  kwd : List (Str × He.Dv)
abbrev SeenF : Type := Option (Str × Str × Arguments × FuncBody × Scope × (Addr × List (Str × Addr) × Addr))
def fnAt (K : PySem.W.Frag) (a : Addr) : Option FuncData := (K.lookup a).bind fun o => match o.data with
  | .func fd => some fd
  | _ => none
def DefM.seen (K : PySem.W.Frag) (d : DefM) : SeenF := (fnAt K (d.loc K)).map fun fd => (fd.name, fd.qualname, fd.params, fd.body, fd.scope, (fd.globals, fd.closure, fd.builtins))
def DefM.val (d : DefM) : SeenF := some (d.name, d.qual, d.params, .stmts d.body, d.scope, (mainGlobals, [], builtinsNs))
def DefM.dvs (K : PySem.W.Frag) (d : DefM) : List V := d.dfl.map (He.Dv.v K)
def DefM.kws (K : PySem.W.Frag) (d : DefM) : List (Str × V) := d.kwd.map fun q => (q.1, q.2.v K)
def DefM.ok (K : PySem.W.Frag) (d : DefM) : Bool := PySem.W.keepIn K (.ref (d.loc K)) && ((fnAt K (d.loc K)).any fun fd =>
  PySem.W.codeIn K fd.code d.qual && (He.dflB K fd.defaults (d.dvs K) && He.kwdB K fd.kwdefaults (d.kws K)))
theorem DefM.funD {K : PySem.W.Frag} {d : DefM} (e : d.seen K = d.val) (c : d.ok K = true) : ∃ fd, FunD K d.name d.qual d.params d.body d.scope (d.dvs K) (d.kws K) (d.loc K) fd := by
  obtain ⟨kp, c⟩ := Bool.and_eq_true_iff.mp c
  unfold DefM.seen DefM.val at e
  obtain ⟨fd, hf, e⟩ := Option.map_eq_some_iff.mp e
  rw [hf] at c
  simp only [Option.any_some, Bool.and_eq_true] at c
  obtain ⟨c1, c2, c3⟩ := c
  obtain ⟨o, ho, hd⟩ := Option.bind_eq_some_iff.mp hf
  obtain ⟨oc, od, dt, osl⟩ := o
  cases dt <;> first | cases hd | skip
  obtain ⟨n1, n2, n3, n4, n5, n6, n7, n8, n9, n10, n11, n12, n13, n14, n15⟩ := fd
  simp only [Prod.mk.injEq] at e
  obtain ⟨h1, h2, h3, h4, h5, h6, h7, h8⟩ := e
  subst h1 h2 h3 h4 h5 h6 h7 h8
  exact ⟨_, ⟨oc, od, n8, n9, n10, n11, n12, n13, n14, osl, rfl, ho, c1, He.dflB_ok c2, He.kwdB_ok c3⟩, kp⟩
/-- a property's getter and setter, a static method's def -/
def pgA (C f : Str) (K : PySem.W.Frag) : Addr := match PySem.W.recIn K (He.ma K (He.ga K C) f) "property" with
  | some (.ref g :: _) => g
  | _ => 0
def psA (C f : Str) (K : PySem.W.Frag) : Addr := match PySem.W.recIn K (He.ma K (He.ga K C) f) "property" with
  | some (_ :: .ref g :: _) => g
  | _ => 0
def smA (C f : Str) (K : PySem.W.Frag) : Addr := match PySem.W.recIn K (He.ma K (He.ga K C) f) "staticmethod" with
  | some (.ref g :: _) => g
  | _ => 0
abbrev AlM : Type := Bool × List SeenF
def obsM (fs : List Fct) (fn : List DefM) (K : PySem.W.Frag) : AlM := ((fs.all fun f => f K) && fn.all fun d => d.ok K, fn.map fun d => d.seen K)
def valM (fn : List DefM) : AlM := (true, fn.map DefM.val)
def SaysM (fs : List Fct) (fn : List DefM) (K : PySem.W.Frag) : Prop := obsM fs fn K = valM fn
def obsMG (n : Nat) (fs : List Fct) (fn : List DefM) (g : Addr → Option Obj) : AlM := obsM fs fn (He.frG g (He.asD g n))
def hookM (n : Nat) (fs : List Fct) (fn : List DefM) : PySem.W.Hook :=
  { α := AlM, obs := fun s => obsMG n fs fn s.heap.get?, val := fun _ => valM fn,
    says := fun _ h => ∃ K : PySem.W.Frag, K.In h ∧ SaysM fs fn K,
    of := fun _ _ e => ⟨_, He.frG_in, e⟩,
    keeps := fun _ _ _ z k => z.elim fun K q => ⟨K, PySem.W.Frag.In.keeps q.1 k, q.2⟩ }
theorem obsMG_eq {n : Nat} {fs : List Fct} {fn : List DefM} {g : Addr → Option Obj} {s : Shared} (h : ∀ a, g a = s.heap.get? a) :
    obsMG n fs fn g = (hookM n fs fn).obs s := by
  have q : g = s.heap.get? := funext h
  subst q
  rfl
theorem SaysM.fact {fs : List Fct} {fn : List DefM} {K : PySem.W.Frag} (c : SaysM fs fn K) (i : Nat) {f : Fct} (h : fs[i]? = some f) : f K = true := by
  have c0 : ((fs.all fun f => f K) && fn.all fun d => d.ok K) = true := congrArg (fun z : AlM => z.1) c
  exact List.all_eq_true.mp (Bool.and_eq_true_iff.mp c0).1 f (List.mem_of_getElem? h)
theorem SaysM.dfn {fs : List Fct} {fn : List DefM} {K : PySem.W.Frag} (c : SaysM fs fn K) (i : Nat) {d : DefM} (h : fn[i]? = some d) :
    ∃ fd, FunD K d.name d.qual d.params d.body d.scope (d.dvs K) (d.kws K) (d.loc K) fd := by
  have c0 : ((fs.all fun f => f K) && fn.all fun d => d.ok K) = true := congrArg (fun z : AlM => z.1) c
  have c1 : fn.map (fun d => d.seen K) = fn.map DefM.val := congrArg (fun z : AlM => z.2) c
  have c2 := congrArg (fun l : List SeenF => l[i]?) c1
  simp only [List.getElem?_map, h, Option.map_some, Option.some.injEq] at c2
  exact DefM.funD c2 (List.all_eq_true.mp (Bool.and_eq_true_iff.mp c0).2 d (List.mem_of_getElem? h))
/-- what the top has left -/
structure Top (fs : List Fct) (fn : List DefM) (K : PySem.W.Frag) (mg : Str → Option Value) : Prop where
  c : SaysM fs fn K
  ex : ∃ h : Heap, K.In h ∧ h.Ns mainGlobals mg
section
variable {fs : List Fct} {fn : List DefM} {K : PySem.W.Frag} {mg : Str → Option Value}
theorem Top.glo (T : Top fs fn K mg) {x : Str} (i : Nat) (h : fs[i]? = some (He.Fa.glo x).ok) : mg x = some (.ref (He.ga K x)) :=
  T.ex.elim fun _ q => He.glo_ok q.1 q.2 (T.c.fact i h)
theorem Top.free (T : Top fs fn K mg) {x : Str} (i : Nat) (h : fs[i]? = some (He.Fa.free x).ok) : mg x = none :=
  T.ex.elim fun _ q => He.free_ok q.1 q.2 (T.c.fact i h)
theorem Top.int (T : Top fs fn K mg) {x : Str} {n : Int} (i : Nat) (h : fs[i]? = some (He.Fa.int x n).ok) : ∃ t, mg x = some (.int n t) :=
  T.ex.elim fun _ q => He.int_ok q.1 q.2 (T.c.fact i h)
theorem Top.str (T : Top fs fn K mg) {x z : Str} (i : Nat) (h : fs[i]? = some (He.Fa.str x z).ok) : ∃ t, mg x = some (.str z t) :=
  T.ex.elim fun _ q => He.str_ok q.1 q.2 (T.c.fact i h)
theorem Top.cls (T : Top fs fn K mg) {x : Str} (i : Nat) (h : fs[i]? = some (He.Fa.cls x).ok) : Cls K (He.ga K x) := He.cls_ok (T.c.fact i h)
theorem Top.noat (T : Top fs fn K mg) {x f : Str} (i : Nat) (h : fs[i]? = some (He.Fa.noat x f).ok) : NoAttr K (He.ga K x) f := He.noat_ok (T.c.fact i h)
theorem Top.meth (T : Top fs fn K mg) {x m : Str} (i : Nat) (h : fs[i]? = some (He.Fa.meth x m).ok) : Meth K (He.ga K x) m (He.ma K (He.ga K x) m) := He.meth_ok (T.c.fact i h)
theorem Top.mkr (T : Top fs fn K mg) {x : Str} (i : Nat) (h : fs[i]? = some (He.Fa.mkr x).ok) : Mk K (He.ga K x) (He.ma K (He.ga K x) "__init__") := He.mkr_ok (T.c.fact i h)
end
/-- a def's promise with all that a caller wants -/
structure Has (P : Program) (w : World) (K : PySem.W.Frag) (mg : Str → Option Value) (base : Heap) (CX : CXT) (k : Nat) (f : Addr) (ps : List Str) (dvs : List V) (sp : Sp) : Prop where
  ex : ∃ (fd : FuncData) (ds : List Value), FnOk P w K mg base CX k f fd ps sp ∧ Binds K fd ps ds ∧ Vals dvs ds
  kp : PySem.W.keepIn K (.ref f) = true
end Rg
/-! GEN B: calls by Has; the bodies' rules. -/
namespace Rg
open PySem PySem.Spec PyProof.Rows L2
section
variable {P : Program} {w : World} {K : PySem.W.Frag} {mg : Str → Option Value} {base : Heap} {x qual : Str} {params : Arguments} {body : List Stmt} {scope : Scope} {dvs : List V} {kws : List (Str × V)} {f : Addr} {fd : FuncData} {N ps : List Str} {k : Nat} {sp : Sp}
abbrev BindsAll (x qual : Str) (params : Arguments) (body : List Stmt) (scope : Scope) (ps : List Str) : Prop :=
  ∀ (kV doc pm : Value) (an : Option Addr) (cdv ct : Value) (us : List Value), us.length = ps.length → bindArgs (PySem.W.fnOf x qual params body scope .none kV doc pm an cdv ct) ⟨us, []⟩ = pure (ps.zip us)
/-- a def that lets nothing out -/
theorem Has.of0 (F : FunD K x qual params body scope [] kws f fd) (S : FnScope N ps scope) (b : BindsAll x qual params body scope ps) (len : ∀ vs H Q E, sp vs H Q E → vs.length = ps.length)
    (go : ∀ (cdv : Value) (A : Around) (outer : List Env) (s : Shared) (H : Hp) (vs : List V) (Q : VK) (E : XK), Room k (A.deeper (envOfC qual scope s.heap.objs.size f cdv)) → sp vs H Q E →
      ∃ t, PSs (cxOf CX0 P w K mg base N qual scope f cdv A outer s H E).nox body t ∧ t { nx := fun _ H' => Q .non H', rt := Q } (start N vs) H) : Has P w K mg base CX0 (k + 1) f ps [] sp :=
  ⟨⟨fd, [], F.ok S len fun cdv A outer s H vs Q E hr h => (go cdv A outer s H vs Q E hr h).elim fun t z => ⟨t, z.1.nox, z.2⟩, F.bindsN b, .nil⟩, F.kp⟩
theorem fn0 (F : FunD K x qual params body scope [] kws f fd) (S : FnScope N ps scope) (len : ∀ vs H Q E, sp vs H Q E → vs.length = ps.length)
    (go : ∀ (cdv : Value) (A : Around) (outer : List Env) (s : Shared) (H : Hp) (vs : List V) (Q : VK) (E : XK), Room k (A.deeper (envOfC qual scope s.heap.objs.size f cdv)) → sp vs H Q E →
      ∃ t, PSs (cxOf CX0 P w K mg base N qual scope f cdv A outer s H E).nox body t ∧ t { nx := fun _ H' => Q .non H', rt := Q } (start N vs) H) : FnOk P w K mg base CX0 (k + 1) f fd ps sp :=
  F.ok S len fun cdv A outer s H vs Q E hr h => (go cdv A outer s H vs Q E hr h).elim fun t z => ⟨t, z.1.nox, z.2⟩
/-- a def that may raise -/
theorem Has.ofX (F : FunD K x qual params body scope [] kws f fd) (S : FnScope N ps scope) (b : BindsAll x qual params body scope ps) (len : ∀ vs H Q E, sp vs H Q E → vs.length = ps.length)
    (go : ∀ (cdv : Value) (A : Around) (outer : List Env) (s : Shared) (H : Hp) (vs : List V) (Q : VK) (E : XK), Room k (A.deeper (envOfC qual scope s.heap.objs.size f cdv)) → sp vs H Q E →
      ∃ t, PSs (cxOf (L2.CX P w) P w K mg base N qual scope f cdv A outer s H E) body t ∧ t { nx := fun _ H' => Q .non H', rt := Q } (start N vs) H) : Has P w K mg base (L2.CX P w) (k + 1) f ps [] sp :=
  ⟨⟨fd, [], F.ok S len go, F.bindsN b, .nil⟩, F.kp⟩
theorem Has.mono {CX : CXT} {j : Nat} (h : Has P w K mg base CX j f ps dvs sp) (l : j ≤ k) : Has P w K mg base CX k f ps dvs sp :=
  ⟨h.ex.elim fun fd z => z.elim fun ds q => ⟨fd, ds, q.1.mono l, q.2⟩, h.kp⟩
theorem Has.imp {CX : CXT} {sp' : Sp} (h : Has P w K mg base CX k f ps dvs sp) (l : ∀ vs H Q E, sp' vs H Q E → sp vs H Q E) : Has P w K mg base CX k f ps dvs sp' :=
  ⟨h.ex.elim fun fd z => z.elim fun ds q => ⟨fd, ds, q.1.imp l, q.2⟩, h.kp⟩
end
section
variable {X : Cx} {CX : CXT} {k j : Nat} {f C : Addr} {ps : List Str} {sp : Sp} {dvs : List V} {E : XK} {x m : Str} {p pos apos : Pos} {e o : Expr} {es : List Expr} {ta : TE} {t : TA}
theorem pe_callH (G : Has X.prog X.w X.K X.mg X.base CX k f ps dvs sp) (hr : Room j X.A) (hm : X.mg x = some (.ref f)) (hx : Passes CX X E) (ha : PA X (e :: es) t) (hkj : k ≤ j := by decide) (hg : Gl X x := by rfl) (hdb : (x == ("__debug__" : Str)) = false := by decide)
    (he : starEach (e :: es) X.env = (false, eval e X.env) :: starEach es X.env := by rfl) (hpl : (backTo pos (starEach es X.env)).any (·.1) = false := by rfl) :
    PE X (.Call (.Name x p) (e :: es) [] pos) (tCall sp dvs E t) := by
  obtain ⟨fd, ds, g1, g2, g3⟩ := G.ex
  exact pe_call g1 (hr.mono hkj) hg hm G.kp g2 g3 hx ha hdb he hpl
theorem pe_call0H (G : Has X.prog X.w X.K X.mg X.base CX k f ps dvs sp) (hr : Room j X.A) (hm : X.mg x = some (.ref f)) (hx : Passes CX X E) (hkj : k ≤ j := by decide) (hg : Gl X x := by rfl) (hdb : (x == ("__debug__" : Str)) = false := by decide) :
    PE X (.Call (.Name x p) [] [] pos) (tCall sp dvs E tNil) := by
  obtain ⟨fd, ds, g1, g2, g3⟩ := G.ex
  exact pe_call0 g1 (hr.mono hkj) hg hm G.kp g2 g3 hx hdb
theorem pe_methH {pl : Sem Bool} (he : PE X o ta) (c : Cls X.K C) (hm : Meth X.K C m f) (G : Has X.prog X.w X.K X.mg X.base CX k f ps dvs sp) (hr : Room j X.A) (hx : Passes CX X E) (ha : PA X (e :: es) t) (hkj : k ≤ j := by decide)
    (hst : starEach (e :: es) X.env = (false, eval e X.env) :: starEach es X.env := by rfl) (hpl : (backTo pos (starEach es X.env)).any (·.1) = false := by rfl)
    (ht : eval (.Call (.Attribute o m apos) (e :: es) [] pos) X.env = (eval o X.env >>= fun ov => standAt apos.atName >>= fun _ => holding [ov] (getMethod ov m pl) >>= fun z => callWith pos z.1 z.2 (backTo pos (starEach (e :: es) X.env)) (backToKw pos (keywordEach [] X.env))) := by rfl) :
    PE X (.Call (.Attribute o m apos) (e :: es) [] pos) (tMeth C m sp dvs E ta t) := by
  obtain ⟨fd, ds, g1, g2, g3⟩ := G.ex
  exact pe_meth (pl := pl) he c hm g1 (hr.mono hkj) g2 g3 hx ha hst hpl ht
theorem pe_meth0H {pl : Sem Bool} (he : PE X o ta) (c : Cls X.K C) (hm : Meth X.K C m f) (G : Has X.prog X.w X.K X.mg X.base CX k f ps dvs sp) (hr : Room j X.A) (hx : Passes CX X E) (hkj : k ≤ j := by decide)
    (ht : eval (.Call (.Attribute o m apos) [] [] pos) X.env = (eval o X.env >>= fun ov => standAt apos.atName >>= fun _ => holding [ov] (getMethod ov m pl) >>= fun z => callWith pos z.1 z.2 (backTo pos (starEach [] X.env)) (backToKw pos (keywordEach [] X.env))) := by rfl) :
    PE X (.Call (.Attribute o m apos) [] [] pos) (tMeth C m sp dvs E ta tNil) := by
  obtain ⟨fd, ds, g1, g2, g3⟩ := G.ex
  exact pe_meth0 (pl := pl) he c hm g1 (hr.mono hkj) g2 g3 hx ht
theorem pe_makeH (M : Mk X.K C f) (G : Has X.prog X.w X.K X.mg X.base CX k f ps dvs sp) (hr : Room j X.A) (hm : X.mg x = some (.ref C)) (hx : Passes CX X E) (ha : PA X (e :: es) t) (hkj : k + 1 ≤ j := by decide) (hg : Gl X x := by rfl) (hdb : (x == ("__debug__" : Str)) = false := by decide)
    (he : starEach (e :: es) X.env = (false, eval e X.env) :: starEach es X.env := by rfl) (hpl : (backTo pos (starEach es X.env)).any (·.1) = false := by rfl) :
    PE X (.Call (.Name x p) (e :: es) [] pos) (tMake C sp dvs E t) := by
  obtain ⟨fd, ds, g1, g2, g3⟩ := G.ex
  exact pe_make M g1 (hr.mono hkj) hg hm g2 g3 hx ha hdb he hpl
theorem pe_make0H (M : Mk X.K C f) (G : Has X.prog X.w X.K X.mg X.base CX k f ps dvs sp) (hr : Room j X.A) (hm : X.mg x = some (.ref C)) (hx : Passes CX X E) (hkj : k + 1 ≤ j := by decide) (hg : Gl X x := by rfl) (hdb : (x == ("__debug__" : Str)) = false := by decide) :
    PE X (.Call (.Name x p) [] [] pos) (tMake C sp dvs E tNil) := by
  obtain ⟨fd, ds, g1, g2, g3⟩ := G.ex
  exact pe_make0 M g1 (hr.mono hkj) hg hm g2 g3 hx hdb
end
/-! ### numbers -/
theorem atI_of {α : Type} {xs : List α} {i : Int} {v : α} (h0 : 0 ≤ i) (h : xs[i.toNat]? = some v) : atI xs i = some v := by
  have e : ((i.toNat : Nat) : Int) = i := Int.toNat_of_nonneg h0
  rw [← e]
  exact atI_nat h
theorem bits_of {m : Int} {n : Nat} (h0 : 0 < m) (h : m < 2 ^ n) : m.natAbs < 2 ^ n := by
  have e : (m.natAbs : Int) = m := Int.natAbs_of_nonneg (Int.le_of_lt h0)
  have q : ((m.natAbs : Nat) : Int) < ((2 ^ n : Nat) : Int) := by rw [e, Int.natCast_pow]; exact h
  exact Int.ofNat_lt.mp q
end Rg
namespace Rg
open PySem PySem.Spec PyProof.Rows L2
/-! ### tests -/
theorem ifD {c A B : Prop} [Decidable c] (h1 : c → A) (h2 : ¬ c → B) : if decide c = true then A else B := by
  by_cases h : c
  · rw [if_pos (decide_eq_true h)]
    exact h1 h
  · rw [if_neg (fun z => h (of_decide_eq_true z))]
    exact h2 h
theorem ifN {c A B : Prop} [Decidable c] (h1 : ¬ c → A) (h2 : c → B) : if (!decide c) = true then A else B := by
  by_cases h : c
  · rw [decide_eq_true h, if_neg (by decide)]
    exact h2 h
  · rw [decide_eq_false h, if_pos (by decide)]
    exact h1 h
theorem ifB {c : Bool} {A B : Prop} (h1 : c = true → A) (h2 : c = false → B) : if c = true then A else B := by
  cases c
  · rw [if_neg (by decide)]
    exact h2 rfl
  · rw [if_pos rfl]
    exact h1 rfl
theorem ifY {c : Bool} {A B : Prop} (h : c = true) (h1 : A) : if c = true then A else B := by
  rw [if_pos h]
  exact h1
theorem ifF {c : Bool} {A B : Prop} (h : c = false) (h1 : B) : if c = true then A else B := by
  rw [h, if_neg (by decide)]
  exact h1
theorem emod_rng {a m : Int} (h : 0 < m) : 0 ≤ a % m ∧ a % m < m := ⟨Int.emod_nonneg _ (by omega), Int.emod_lt_of_pos _ h⟩
theorem mul_small {i j : Int} (h0 : 0 ≤ i) (h : i < 2 ^ 64) : CMul i j := .inl ⟨by omega, h⟩
theorem abs_nn (i : Int) : 0 ≤ if i < 0 then -i else i := by split <;> omega
end Rg
namespace Rg
theorem lenk {n : Nat} (h : Nat.ble n 1000 = true) : n ≤ PySem.sizeLine := Nat.le_trans (Nat.le_of_ble_eq_true h) (by decide)
end Rg
namespace Rg
open PySem PySem.Spec PyProof.Rows L2
/-- a law's promise: a list of at most 63 ints is handed in, True comes out -/
def sp_law (K : PySem.W.Frag) : Sp := fun vs H Q _ => ∃ (a : Addr) (ns : List Int), vs = [.ref a] ∧ SqL K H a (ns.map V.int) ∧ ns.length ≤ 63 ∧ ∀ H', Q (.bl true) H'
end Rg
namespace Rg
open PySem PySem.Spec PyProof.Rows L2
section
variable {P : Program} {w : World} {K : PySem.W.Frag} {mg : Str → Option Value} {base : Heap} {x qual : Str} {params : Arguments} {body : List Stmt} {scope : Scope} {dvs dv : List V} {kws : List (Str × V)} {f : Addr} {fd : FuncData} {N ps : List Str} {k : Nat} {sp : Sp}
/-- a def with defaults, of which dv fill up -/
theorem Has.ofXd (F : FunD K x qual params body scope dvs kws f fd) (S : FnScope N ps scope) (b : ∃ ds, Vals dv ds ∧ Binds K fd ps ds) (len : ∀ vs H Q E, sp vs H Q E → vs.length = ps.length)
    (go : ∀ (cdv : Value) (A : Around) (outer : List Env) (s : Shared) (H : Hp) (vs : List V) (Q : VK) (E : XK), Room k (A.deeper (envOfC qual scope s.heap.objs.size f cdv)) → sp vs H Q E →
      ∃ t, PSs (cxOf (L2.CX P w) P w K mg base N qual scope f cdv A outer s H E) body t ∧ t { nx := fun _ H' => Q .non H', rt := Q } (start N vs) H) : Has P w K mg base (L2.CX P w) (k + 1) f ps dv sp :=
  ⟨b.elim fun ds z => ⟨fd, ds, F.ok S len go, z.2, z.1⟩, F.kp⟩
theorem Has.of0d (F : FunD K x qual params body scope dvs kws f fd) (S : FnScope N ps scope) (b : ∃ ds, Vals dv ds ∧ Binds K fd ps ds) (len : ∀ vs H Q E, sp vs H Q E → vs.length = ps.length)
    (go : ∀ (cdv : Value) (A : Around) (outer : List Env) (s : Shared) (H : Hp) (vs : List V) (Q : VK) (E : XK), Room k (A.deeper (envOfC qual scope s.heap.objs.size f cdv)) → sp vs H Q E →
      ∃ t, PSs (cxOf CX0 P w K mg base N qual scope f cdv A outer s H E).nox body t ∧ t { nx := fun _ H' => Q .non H', rt := Q } (start N vs) H) : Has P w K mg base CX0 (k + 1) f ps dv sp :=
  ⟨b.elim fun ds z => ⟨fd, ds, F.ok S len fun cdv A outer s H vs Q E hr h => (go cdv A outer s H vs Q E hr h).elim fun t z => ⟨t, z.1.nox, z.2⟩, z.2, z.1⟩, F.kp⟩
end
end Rg
/-! GEN C: operators that an own class defines. -/
namespace Rg
open PySem PySem.Spec PyProof.Rows L2
/-- a special name of the class at C is the def at f -/
structure Dun (K : PySem.W.Frag) (C : Addr) (m : Str) (f : Addr) : Prop where
  at_ : PySem.W.findIn K (.ref C) m = some (some (.ref f))
  fn : PySem.W.isFn K (.ref f) = true
theorem Dun.of {K : PySem.W.Frag} {C f : Addr} {m : Str} (h : Meth K C m f) : Dun K C m f := ⟨h.1, h.2⟩
section
variable {X : Cx} {CX : CXT} {k j : Nat} {f C : Addr} {ps : List Str} {sp : Sp} {dvs : List V} {E : XK} {pins : List (Addr × Obj)} {σ : L2.St} {H : Hp} {s : Shared}
theorem ins_at {a dx : Addr} {fs : List (Str × V)} (I : Inv X pins σ H s) (h : H a = some (.ins C dx fs)) : ∃ ox od, PySem.W.InstAt s.heap a ox C od := by
  obtain ⟨mA, O, _⟩ := ins_get I.hok h
  obtain ⟨od, J, _⟩ := O.look
  exact ⟨_, _, J⟩
/-- a def runs, called by the machine at A (one or two levels in) -/
theorem run_at {A : Around} {Q : VK} {us : List Value} {vs : List V} (G : Has X.prog X.w X.K X.mg X.base CX k f ps dvs sp) (hr : Room k A) (he : Env0 X.prog X.w X.K X.mg X.base A X.stack s H) (hx : Passes CX X E)
    (I : Inv X pins σ H s) (r : Vals vs us) (h : sp (vs ++ dvs) H Q E) : wpAny (model X.prog X.w) A (call (.ref f) us) (EP X pins σ Q) X.xe s := by
  obtain ⟨fd, ds, g1, g2, g3⟩ := G.ex
  have q := r.append g3
  have hl : (us ++ ds).length = ps.length := q.length ▸ g1.len _ _ _ _ h
  refine wpAny_call (codeAny_mono (g1.run A X.stack s H ⟨us, []⟩ (us ++ ds) (vs ++ dvs) Q E hr he (g2 s us I.kIn hl) q h) fun z s' hz => ?_)
  match z, hz with
  | .error e, hz => exact hx pins σ H s e s' I hz
  | .ok (.ret u), hz => exact I.after hz
  | .ok .next, hz => exact False.elim hz
  | .ok .brk, hz => exact False.elim hz
  | .ok .cont, hz => exact False.elim hz
theorem run_here {Q : VK} {us : List Value} {vs : List V} (G : Has X.prog X.w X.K X.mg X.base CX k f ps dvs sp) (hr : Room j X.A) (hkj : k ≤ j) (hx : Passes CX X E)
    (I : Inv X pins σ H s) (r : Vals vs us) (h : sp (vs ++ dvs) H Q E) : wpAny (model X.prog X.w) X.A (call (.ref f) us) (EP X pins σ Q) X.xe s := run_at G (hr.mono hkj) I.env0 hx I r h
theorem ep_cmp {Q : VK} {u : Value} {s' : Shared} (h : EP X pins σ Q u s') : PySem.W.CmpBack (EP X pins σ Q) u s' := by
  cases u with
  | notImplemented =>
    obtain ⟨v, H', _, r, _⟩ := h
    cases v <;> first | exact (nomatch r) | (obtain ⟨_, r⟩ := r; cases r)
  | _ => exact h
/-- len(o) -/
def rLenO (C : Addr) (sp : Sp) (dvs : List V) (E : XK) : List V → Hp → VK → Prop := fun xs H Q => ∃ a dx fs, xs = [.ref a] ∧ H a = some (.ins C dx fs) ∧ sp (.ref a :: dvs) H (fun v H' => ∃ n : Int, v = .int n ∧ 0 ≤ n ∧ n < 2 ^ 63 ∧ Q v H') E
theorem call_lenO (d : Dun X.K C "__len__" f) (G : Has X.prog X.w X.K X.mg X.base CX k f ps dvs sp) (hr : Room j X.A) (hx : Passes CX X E) (hkj : k + 1 ≤ j := by decide) : CallR X (.builtin "len") (rLenO C sp dvs E) := by
  intro pins s σ H xs us Q I r h
  obtain ⟨a, dx, fs, rfl, ha, h⟩ := h
  obtain ⟨u, rfl, rfl⟩ := vals1 r
  obtain ⟨ox, od, J⟩ := ins_at I ha
  obtain ⟨m, F⟩ := I.fr
  refine PySem.W.len_K F I.mod.kin J d.at_ d.fn (wpAny_mono (run_at (vs := [.ref a]) G (Room.in1 (hr.mono hkj)) I.env0.in1 hx I (.cons rfl .nil) h) (fun u s' z => ?_) fun _ _ z => z)
  obtain ⟨v, H', I', rv, n, rfl, n0, n1, q⟩ := z
  obtain ⟨t, rfl⟩ := rv
  exact ⟨⟨n0, n1⟩, .int n, H', I'.tok _, ⟨_, rfl⟩, q⟩
/-- the truth of o -/
def rTruO (C : Addr) (sp : Sp) (dvs : List V) (E : XK) : V → Hp → (Bool → Hp → Prop) → Prop := fun x H Q => ∃ a dx fs, x = .ref a ∧ H a = some (.ins C dx fs) ∧ sp (.ref a :: dvs) H (fun v H' => ∃ b, v = .bl b ∧ Q b H') E
theorem tru_at {A : Around} {a dx : Addr} {fs : List (Str × V)} {Q : Bool → Hp → Prop} (d : Dun X.K C "__bool__" f) (G : Has X.prog X.w X.K X.mg X.base CX k f ps dvs sp) (hr : Room k A) (he : Env0 X.prog X.w X.K X.mg X.base A X.stack s H) (hx : Passes CX X E)
    (I : Inv X pins σ H s) (ha : H a = some (.ins C dx fs)) (h : sp (.ref a :: dvs) H (fun v H' => ∃ b, v = .bl b ∧ Q b H') E) :
    wpAny (model X.prog X.w) A (truthy (.ref a)) (TP X pins σ Q) X.xe s := by
  obtain ⟨ox, od, J⟩ := ins_at I ha
  obtain ⟨m, F⟩ := I.fr
  refine PySem.W.truthy_K F I.mod.kin J d.at_ d.fn (wpAny_mono (run_at (vs := [.ref a]) G hr he hx I (.cons rfl .nil) h) (fun u s' z => ?_) fun _ _ z => z)
  obtain ⟨v, H', I', rv, b, rfl, q⟩ := z
  cases rv
  exact ⟨H', I', q⟩
theorem tru_own (d : Dun X.K C "__bool__" f) (G : Has X.prog X.w X.K X.mg X.base CX k f ps dvs sp) (hr : Room j X.A) (hx : Passes CX X E) (hkj : k ≤ j := by decide) : TruR X (rTruO C sp dvs E) := by
  intro pins s σ H x v Q I r h
  obtain ⟨a, dx, fs, rfl, ha, h⟩ := h
  cases r
  exact tru_at d G (hr.mono hkj) I.env0 hx I ha h
theorem new_boolO {prog : Program} {w : World} (x : Value) : MeetsIn prog w (Builtin.«bool.__new__» ⟨[.type "bool", x], []⟩)
    (fun A R s => wpAny (model prog w) A.in1 (truthy x) (fun b s1 => R (.ok (.ret (.bool b))) s1) (fun e s1 => R (.error e) s1) s) :=
  .of_wp fun A R s h => by
    obtain ⟨hp, g, d, tk, os⟩ := s
    have f1 := F.conv_sub_bool
    repeat (any_goals (first | assumption | (with_reducible refine wpAny_mono h (fun b s1 z => ?_) (fun _ _ z => z)) | wp_step))
    all_goals exact ⟨_, rfl, z⟩
/-- bool(o) -/
def rBoolO (C : Addr) (sp : Sp) (dvs : List V) (E : XK) : List V → Hp → VK → Prop := fun xs H Q => ∃ a dx fs, xs = [.ref a] ∧ H a = some (.ins C dx fs) ∧ sp (.ref a :: dvs) H (fun v H' => ∃ b, v = .bl b ∧ Q (.bl b) H') E
theorem call_boolO (d : Dun X.K C "__bool__" f) (G : Has X.prog X.w X.K X.mg X.base CX k f ps dvs sp) (hr : Room j X.A) (hx : Passes CX X E) (hkj : k + 2 ≤ j := by decide) : CallR X (.type "bool") (rBoolO C sp dvs E) := by
  intro pins s σ H xs us Q I r h
  obtain ⟨a, dx, fs, rfl, ha, h⟩ := h
  obtain ⟨u, rfl, rfl⟩ := vals1 r
  have rm : Room k X.A.in1.in1 := Room.in1 (Room.in1 (hr.mono hkj))
  refine callType_newIn F.called_bool F.newNe_bool (F.typeCall_bool_1 _) (F.newCall_bool_1 _) (fun obj => F.args_object_init_2 obj _) F.entry_bool_new (new_boolO _) ?_
  refine wpAny_mono (tru_at (Q := fun b H' => Q (.bl b) H') d G rm I.env0.in1.in1 hx I ha h) (fun b s' z => ?_) fun _ _ z => z
  obtain ⟨H', I', q⟩ := z
  exact ⟨rfl, .bl b, H', I', rfl, q⟩
/-- x in o -/
def rInO (C : Addr) (sp : Sp) (dvs : List V) (E : XK) : R2 := fun x y H Q => ∃ a dx fs, y = .ref a ∧ H a = some (.ins C dx fs) ∧ sp (.ref a :: x :: dvs) H (fun v H' => ∃ b, v = .bl b ∧ Q (.bl b) H') E
theorem op_inO (d : Dun X.K C "__contains__" f) (G : Has X.prog X.w X.K X.mg X.base CX k f ps dvs sp) (hr : Room j X.A) (hx : Passes CX X E) (hkj : k ≤ j := by decide) : OpR X (compareOp .In) (rInO C sp dvs E) := by
  intro pins s σ H x y v u Q I rx ry h
  obtain ⟨a, dx, fs, rfl, ha, h⟩ := h
  cases ry
  obtain ⟨ox, od, J⟩ := ins_at I ha
  obtain ⟨m, F⟩ := I.fr
  refine PySem.W.in_K F I.mod.kin J d.at_ d.fn (wpAny_mono (run_here (vs := [.ref a, x]) G hr hkj hx I (.cons rfl (.cons rx .nil)) h) (fun u s' z => ?_) fun _ _ z => z)
  obtain ⟨z, H', I', rz, b, rfl, q⟩ := z
  cases rz
  exact wpAny_pure ⟨.bl b, H', I', rfl, q⟩
end
end Rg
/-! GEN D: data compared. -/
namespace Rg
open PySem PySem.Spec PyProof.Rows L2
theorem shp_ints (ns : List Int) : SeqAt.shaped (.list (ns.map PyData.int)) = true := by
  have a : ∀ l : List Int, PyData.canLayAll0 (l.map PyData.int) = true ∧ PyData.depthAll (l.map PyData.int) = 0 := by
    intro l
    induction l with
    | nil => exact ⟨rfl, rfl⟩
    | cons x r ih =>
      refine ⟨?_, ?_⟩
      · rw [List.map_cons, PyData.canLayAll0, ih.1]
        rfl
      · rw [List.map_cons, PyData.depthAll, ih.2]
        rfl
  unfold SeqAt.shaped
  rw [PyData.canLay0, (a ns).1, PyData.depth, (a ns).2]
  rfl
theorem dp_all {K : PySem.W.Frag} {H : Hp} : ∀ ns : List Int, DpAll K H (ns.map V.int) (ns.map PyData.int)
  | [] => .nil
  | x :: r => .cons (.int x) (dp_all r)
theorem dp_ints {K : PySem.W.Frag} {H : Hp} {a : Addr} {ns : List Int} (h : SqL K H a (ns.map V.int)) : Dp K H (.ref a) (.list (ns.map PyData.int)) := .lst h (dp_all ns)
theorem dp_nil {K : PySem.W.Frag} {H : Hp} {a : Addr} (h : SqL K H a []) : Dp K H (.ref a) (.list []) := .lst h .nil
theorem eqv_all : ∀ ns ms : List Int, PyData.eqvAll (ns.map PyData.int) (ms.map PyData.int) = decide (ns = ms)
  | [], [] => rfl
  | [], _ :: _ => rfl
  | _ :: _, [] => rfl
  | x :: r, y :: t => by
    rw [List.map_cons, List.map_cons, PyData.eqvAll, PyData.eqv, eqv_all r t]
    by_cases h : x = y
    · subst h
      simp
    · simp [h]
theorem eqv_ints (ns ms : List Int) : PyData.eqv (.list (ns.map PyData.int)) (.list (ms.map PyData.int)) = decide (ns = ms) := by rw [PyData.eqv, eqv_all]
theorem eqv_nil (ns : List Int) : PyData.eqv (.list (ns.map PyData.int)) (.list []) = decide (ns = []) := eqv_ints ns []
/-- all that was tracked stays, but at l -/
def Chg (l : Addr) (o : HO) (H H' : Hp) : Prop := H' l = some o ∧ ∀ b u, H b = some u → b ≠ l → H' b = some u
theorem Same.new {H : Hp} {p : Addr} {o : HO} (h : H p = none) : Same H (upd H p o) := fun b u e => (upd_ne (ne_of_none e h)).trans e
theorem Same.mut {H H' : Hp} {p : Addr} {o : HO} (e : Same H H') (h : H p = none) : Same H (upd H' p o) := fun b u z => (upd_ne (ne_of_none z h)).trans (e b u z)
theorem Same.at_ {H H' : Hp} (e : Same H H') {p : Addr} {o : HO} (h : H p = some o) : H' p = some o := e p o h
theorem Same.chg {H H' H'' : Hp} {p : Addr} {o : HO} (e : Same H H') (c : Chg p o H' H'') (h : H p = none) : Same H H'' := fun b u z => c.2 b u (e b u z) (ne_of_none z h)
theorem Chg.ne {H H' : Hp} {p q : Addr} {o u : HO} (c : Chg p o H H') (h : H q = some u) (n : q ≠ p) : H' q = some u := c.2 q u h n
theorem scal_same (v : V) (h : flatV v = true) (hb : ∀ b, v ≠ .flt b) (hr : ∀ a, v ≠ .ref a) : scal v v = true := by
  cases v <;> first | rfl | (exact absurd rfl (hb _)) | (exact absurd rfl (hr _)) | cases h
end Rg
namespace Rg
open PySem PySem.Spec PyProof.Rows L2
theorem seq0 {n : Nat} : seqIndex? 0 (n + 1) = some 0 := by
  have h := seqIndex_of (k := 0) (n := n + 1) (by omega) (by omega)
  simpa using h
end Rg
namespace Rg
open PySem PySem.Spec PyProof.Rows L2
/-- all stays but at the places ws -/
def Stay (ws : List Addr) (H H' : Hp) : Prop := ∀ b u, H b = some u → b ∉ ws → H' b = some u
theorem Stay.refl (ws : List Addr) (H : Hp) : Stay ws H H := fun _ _ h _ => h
theorem Stay.same {ws : List Addr} {H H' H'' : Hp} (a : Stay ws H H') (b : Same H' H'') : Stay ws H H'' := fun c u h n => b c u (a c u h n)
theorem Stay.upd {ws : List Addr} {H H' : Hp} {p : Addr} {o : HO} (a : Stay ws H H') (h : p ∈ ws) : Stay ws H (L2.upd H' p o) := fun c u z n => (upd_ne (fun e : c = p => n (by rw [e]; exact h))).trans (a c u z n)
theorem Stay.new {ws : List Addr} {H H' : Hp} {p : Addr} {o : HO} (a : Stay ws H H') (h : H' p = none) : Stay ws H (L2.upd H' p o) := fun c u z n => (upd_ne (ne_of_none (a c u z n) h)).trans (a c u z n)
theorem Stay.chg {ws : List Addr} {H H' H'' : Hp} {p : Addr} {o : HO} (a : Stay ws H H') (c : Chg p o H' H'') (h : p ∈ ws) : Stay ws H H'' := fun b u z n => c.2 b u (a b u z n) (fun e : b = p => n (by rw [e]; exact h))
theorem Stay.at_ {ws : List Addr} {H H' : Hp} (a : Stay ws H H') {p : Addr} {o : HO} (h : H p = some o) (n : p ∉ ws) : H' p = some o := a p o h n
theorem Same.seqT {K : PySem.W.Frag} {H H' : Hp} {a : Addr} {xs : List V} (e : Same H H') (h : SqT K H a xs) : SqT K H' a xs := by
  rcases h with (h | ⟨o, h⟩) | h
  · exact .inl (.inl (e _ _ h))
  · exact .inl (.inr ⟨o, e _ _ h⟩)
  · exact .inr h
end Rg
namespace Rg
open PySem PySem.Spec PyProof.Rows L2
theorem fr_same {H H' : Hp} {p : Addr} {o : HO} (e : L2.upd H p o = H') (h : H p = none) : Same H H' := e ▸ Same.new h
theorem fr_at {H H' : Hp} {p : Addr} {o : HO} (e : L2.upd H p o = H') : H' p = some o := e ▸ upd_same
end Rg
namespace Rg
open PySem PySem.Spec PyProof.Rows L2
theorem eqv_pair (a b c d : Int) : PyData.eqv (.tuple [.int a, .int b]) (.tuple [.int c, .int d]) = decide (a = c ∧ b = d) := by
  rw [PyData.eqv, PyData.eqvAll, PyData.eqvAll, PyData.eqvAll, PyData.eqv, PyData.eqv]
  by_cases h : a = c <;> by_cases h2 : b = d <;> simp [h, h2]
theorem dp_pair {K : PySem.W.Frag} {H : Hp} {t : Addr} {a b : Int} (h : H t = some (.tup [.int a, .int b])) : Dp K H (.ref t) (.tuple [.int a, .int b]) := .tup (SqT.of h) (.cons (.int a) (.cons (.int b) .nil))
end Rg
/-! GEN E: operators by own classes, the operands of two kinds; kinds of values. -/
namespace Rg
open PySem PySem.Spec PyProof.Rows L2
/-- a plain instance stands there -/
abbrev PlainAt (h : Heap) (x : Addr) : Prop := ∃ o, h.get? x = some o ∧ o.data = .plain
theorem meets_no (nm : String) (f : Int → Int → Sem Fin) (k : Int) (t : Tok) (x : Addr) : Meets (Builtin.Int.intBinary nm f false ⟨[.int k t, .ref x], []⟩) (fun _ R s => PlainAt s.heap x ∧ R (.ok (.ret .notImplemented)) s) :=
  Meets.of_wp fun prog w A R s hs => by
    obtain ⟨⟨o, ho, hd⟩, hq⟩ := hs
    obtain ⟨hp, g, d, tk, os⟩ := s
    unfold Builtin.Int.intBinary
    refine wpAny_bind (wpAny_of_eq (a := (Value.int k t, [Value.ref x])) (by rfl) ?_)
    refine wpAny_bind (wpAny_of_eq (a := k) (by rfl) ?_)
    refine wpAny_bind ?_
    show wpAny _ _ (load x >>= _) _ _ _
    refine wpAny_bind (wpAny_load ho ?_)
    rw [hd]
    refine wpAny_pure ?_
    exact wpAny_bind (wpAny_rule (wpAny_pure ⟨_, rfl, hq⟩))
theorem meets_noB (nm : String) (f : Int → Int → Sem Fin) (b : Bool) (x : Addr) : Meets (Builtin.Int.intBinary nm f false ⟨[.bool b, .ref x], []⟩) (fun _ R s => PlainAt s.heap x ∧ R (.ok (.ret .notImplemented)) s) :=
  Meets.of_wp fun prog w A R s hs => by
    obtain ⟨⟨o, ho, hd⟩, hq⟩ := hs
    obtain ⟨hp, g, d, tk, os⟩ := s
    unfold Builtin.Int.intBinary
    refine wpAny_bind (wpAny_of_eq (a := (Value.bool b, [Value.ref x])) (by rfl) ?_)
    refine wpAny_bind (wpAny_of_eq (a := if b then 1 else 0) (by cases b <;> rfl) ?_)
    refine wpAny_bind ?_
    show wpAny _ _ (load x >>= _) _ _ _
    refine wpAny_bind (wpAny_load ho ?_)
    rw [hd]
    refine wpAny_pure ?_
    exact wpAny_bind (wpAny_rule (wpAny_pure ⟨_, rfl, hq⟩))
end Rg
namespace Rg
open PySem PySem.Spec PyProof.Rows L2 PySem.W
section
variable {prog : Program} {w : World} {A : Around} {E : Value → Shared → Prop} {s : Shared} {K : Frag} {x C f g : Addr} {ox : Obj} {od : Option Obj} {T : String}
def numB (fo ro : Option Value) : Bool := (fo.isSome && !isSeqSlot fo) || (ro.isSome && !isSeqSlot ro)
/-- a op o, a of a built-in type that declines, o of an own class with the reflected method -/
theorem refl_at {op : Operator} {a : Value} {fo ro : Option Value} {Q : Value → Shared → Prop} (X : K.In s.heap) (I : InstAt s.heap x ox C od) (ta : Looks (model prog w) s.heap (typeOf a) (.type T)) (hc : selfFirst K C = true)
    (hs : findIn K (.ref C) (PySem.dunder op.info.2) = some (some (.ref g))) (hr : findIn K (.ref C) (dunderR op.info.2) = some (some (.ref f))) (hf : isFn K (.ref f) = true)
    (h1 : findIn K (.type T) (PySem.dunder op.info.2) = some fo) (h2 : findIn K (.type T) (dunderR op.info.2) = some ro) (hsub : subIn K (.ref C) (.type T) = some false)
    (no : numB fo ro = true → ∀ (Q : Option Value → Shared → Prop), Q none s → wpAny (model prog w) A (tryMethod a (PySem.dunder op.info.2) (.ref x)) Q E s)
    (h : wpAny (model prog w) A (call (.ref f) [.ref x, a]) (PySem.W.CmpBack Q) E s) : wpAny (model prog w) A (binaryOp op a (.ref x)) Q E s := by
  obtain ⟨cd, rest, hcd, hm⟩ := ksp_first hc
  rcases hi : op.info with ⟨sym, nm'⟩
  rw [hi] at hs hr h1 h2 no
  dsimp only at hs hr h1 h2 no
  have two := ksp_try X I hr hf h
  obtain ⟨hh, gg, d, tt, os⟩ := s
  have A1 : Looks (model prog w) hh (typeOf a) (.type T) := ta
  have A2 : Looks (model prog w) hh (typeOf (.ref x)) (.ref C) := I.type
  have A3 : Looks (model prog w) hh (fillsNumberSlot (.type T) nm') (numB fo ro) := ksp_fillsT X h1 h2
  have A4 : Looks (model prog w) hh (fillsNumberSlot (.ref C) nm') true := fills_K X hcd hm hs
  have A5 : Looks (model prog w) hh (isSubtype (.ref C) (.type T)) false := looks_subIn X hsub
  have A6 : Looks (model prog w) hh (numberSlotInPython (.type T) nm') false := Looks.of_pure rfl
  have ne : (Value.type T == Value.ref C) = false := Bool.eq_false_iff.mpr fun q => by cases beq_iff_eq.mp q
  simp only [binaryOp, hi]
  refine wpAny_holding (wpAny_bind ?_)
  unfold binaryOp1
  refine wpAny_bind (A1.at (wpAny_bind (A2.at (wpAny_bind (A3.at ?_)))))
  simp only [ne, Bool.false_eq_true, if_false]
  generalize numB fo ro = lf at A3 no
  cases lf with
  | false =>
    ksp_lk
    refine wpAny_mono two (fun r s' z => ?_) fun _ _ e => e
    obtain ⟨v, rfl, hq⟩ := z
    ksp_lk
    exact hq
  | true =>
    ksp_lk
    refine no rfl _ ?_
    ksp_lk
    refine wpAny_mono two (fun r s' z => ?_) fun _ _ e => e
    obtain ⟨v, rfl, hq⟩ := z
    ksp_lk
    exact hq
/-- o op b, b of a built-in type as it stands in the heap -/
theorem left_at {op : Operator} {b : Value} {fo ro rc : Option Value} {Q : Value → Shared → Prop} (X : K.In s.heap) (I : InstAt s.heap x ox C od) (tb : Looks (model prog w) s.heap (typeOf b) (.type T)) (hc : selfFirst K C = true)
    (hs : findIn K (.ref C) (PySem.dunder op.info.2) = some (some (.ref f))) (hf : isFn K (.ref f) = true) (hr : findIn K (.ref C) (dunderR op.info.2) = some rc) (hp : rc = none ∨ ∃ g : Addr, rc = some (.ref g))
    (h1 : findIn K (.type T) (PySem.dunder op.info.2) = some fo) (h2 : findIn K (.type T) (dunderR op.info.2) = some ro) (hsub : subIn K (.type T) (.ref C) = some false)
    (h : wpAny (model prog w) A (call (.ref f) [.ref x, b]) (PySem.W.CmpBack Q) E s) : wpAny (model prog w) A (binaryOp op (.ref x) b) Q E s := by
  obtain ⟨cd, rest, hcd, hm⟩ := ksp_first hc
  rcases hi : op.info with ⟨sym, nm'⟩
  rw [hi] at hs hr h1 h2
  dsimp only at hs hr h1 h2
  have two := ksp_try X I hs hf h
  obtain ⟨hh, gg, d, tt, os⟩ := s
  have A1 : Looks (model prog w) hh (typeOf (.ref x)) (.ref C) := I.type
  have A2 : Looks (model prog w) hh (typeOf b) (.type T) := tb
  have A3 : Looks (model prog w) hh (fillsNumberSlot (.ref C) nm') true := fills_K X hcd hm hs
  have A4 : Looks (model prog w) hh (fillsNumberSlot (.type T) nm') (numB fo ro) := ksp_fillsT X h1 h2
  have A5 : Looks (model prog w) hh (isSubtype (.type T) (.ref C)) false := looks_subIn X hsub
  have A6 : Looks (model prog w) hh (numberSlotInPython (.ref C) nm') true := ksp_inPy X hs hr hp
  have A7 : Looks (model prog w) hh (numberSlotInPython (.type T) nm') false := Looks.of_pure rfl
  have A8 : Looks (model prog w) hh (typeLookup (.type T) (dunderR nm')) ro := looks_findIn X h2
  have ne : (Value.ref C == Value.type T) = false := Bool.eq_false_iff.mpr fun q => by cases beq_iff_eq.mp q
  simp only [binaryOp, hi]
  refine wpAny_holding (wpAny_bind ?_)
  unfold binaryOp1
  refine wpAny_bind (A1.at (wpAny_bind (A2.at (wpAny_bind (A3.at ?_)))))
  simp only [ne, Bool.false_eq_true, if_false]
  generalize numB fo ro = lf at A4
  cases lf with
  | false =>
    ksp_lk
    refine wpAny_mono two (fun r s' z => ?_) fun _ _ e => e
    obtain ⟨v, rfl, hq⟩ := z
    ksp_lk
    exact hq
  | true =>
    ksp_lk
    refine wpAny_mono two (fun r s' z => ?_) fun _ _ e => e
    obtain ⟨v, rfl, hq⟩ := z
    ksp_lk
    exact hq
end
end Rg
namespace Rg
open PySem PySem.Spec PyProof.Rows L2 PySem.W
section
variable {prog : Program} {w : World} {A : Around} {E : Value → Shared → Prop} {s : Shared} {K : Frag} {x C f : Addr} {ox : Obj} {od : Option Obj} {b tb : Value}
theorem check_ne (X : K.In s.heap) (I : InstAt s.heap x ox C od) (ho : subIn K (.ref C) (.type "object") = some true) {M : Model} {Q : Unit → Shared → Prop} (q : Q () s) :
    wpAny M A (checkBuiltinCall "object.__ne__" ⟨[.ref x, b], []⟩) Q E s := by
  have k : argsOk "object.__ne__" ⟨[.ref x, b], []⟩ := F.cmpArgs_ne _ _
  simp only [checkBuiltinCall, F.cmpKind_ne, F.cmpSplit_ne]
  refine wpAny_bind ?_
  unfold isInstance
  refine wpAny_bind (I.type.here ((looks_subIn X ho).here ?_))
  cases e : Manifest.signature? "object.__ne__" with
  | none => exact wpAny_pure q
  | some sig =>
    simp only [argsOk, e] at k
    have k2 : Bind.checkArgs "object.__ne__" sig ⟨[.ref x, b], []⟩ = pure () := k
    show wpAny M A (Bind.checkArgs "object.__ne__" sig ⟨[.ref x, b], []⟩) Q E s
    rw [k2]
    exact wpAny_pure q
/-- o != b where the class has __eq__ alone -/
theorem ne_at {Q : Value → Shared → Prop} (hu : A.units + 1 < cLine) (X : K.In s.heap) (I : InstAt s.heap x ox C od) (hb : Looks (model prog w) s.heap (typeOf b) tb) (hn : notFirst K C tb = true)
    (hne : findIn K (.ref C) "__ne__" = some (some (.builtin "object.__ne__"))) (ho : subIn K (.ref C) (.type "object") = some true) (he : findIn K (.ref C) "__eq__" = some (some (.ref f))) (hf : isFn K (.ref f) = true)
    (h : wpAny (model prog w) A.in1 (call (.ref f) [.ref x, b]) (PySem.W.BoolBack fun z s' => Q (.bool (!z)) s') E s) : wpAny (model prog w) A (richCompare .NotEq (.ref x) b) Q E s := by
  have S : Slot "object" "__ne__" "object.__ne__" := F.cmp_object.ne
  have two : wpAny (model prog w) A (tryCompare (.ref x) "__ne__" b) (fun r s' => ∃ z : Bool, r = some (.bool (!z)) ∧ Q (.bool (!z)) s') E s := by
    unfold tryCompare
    refine wpAny_bind ?_
    simp only [callSpecialIfBound?, bindSpecialIfBound?]
    refine wpAny_holding (wpAny_bind (wpAny_bind (wpAny_bind (I.type.here ((looks_findIn X hne).here ?_)))))
    simp only [S.bind]
    refine wpAny_bind (wpAny_askSetting (wpAny_ite ?_))
    have fin : wpAny (model prog w) A (call (.builtin "object.__ne__") ([.ref x] ++ [b]) >>= fun v => pure (some v)) (fun r s' => wpAny (model prog w) A (match r with | some .notImplemented | none => pure none | some v => pure (some v)) (fun r s' => ∃ z : Bool, r = some (.bool (!z)) ∧ Q (.bool (!z)) s') E s') E s := by
      refine wpAny_bind (wpAny_call (codeAny_call_builtin S.plain F.cmpEntry_ne (check_ne X I ho ?_)))
      unfold Builtin.«object.__ne__»
      refine wpAny_bind (wpAny_of_eq (a := (Value.ref x, [b])) (by rfl) ?_)
      refine wpAny_bind (wpAny_cRoomFor hu ?_)
      refine wpAny_bind (ifBound_K X I he hf (wpAny_mono h (fun v s' z => ?_) fun _ _ z => z))
      cases v <;> first | exact z.elim | skip
      refine wpAny_bind (wpAny_pure ?_)
      exact wpAny_pure (wpAny_pure (wpAny_pure ⟨_, rfl, z⟩))
    split
    · exact wpAny_bind (wpAny_pure (wpAny_pure fin))
    · exact wpAny_tryCatch (wpAny_bind (wpAny_pure (wpAny_pure fin)))
  unfold richCompare
  simp only [oneThing_ref]
  refine wpAny_holding (wpAny_bind (wpAny_cRoomFor (by omega) ?_))
  refine wpAny_bind (I.type.here (wpAny_bind (hb.here ?_)))
  split
  · rename_i q
    have e : subIn K tb (.ref C) = some false := by
      rcases Bool.or_eq_true_iff.mp hn with z | z
      · rw [beq_iff_eq.mp z] at q
        simp at q
      · exact beq_iff_eq.mp z
    refine wpAny_bind ((looks_subIn X e).here ?_)
    simp only [Bool.false_eq_true, if_false]
    refine wpAny_bind (wpAny_mono two (fun r s' z => ?_) fun _ _ z => z)
    obtain ⟨v, rfl, hq⟩ := z
    exact wpAny_pure hq
  · refine wpAny_bind (wpAny_pure ?_)
    simp only [Bool.false_eq_true, if_false]
    refine wpAny_bind (wpAny_mono two (fun r s' z => ?_) fun _ _ z => z)
    obtain ⟨v, rfl, hq⟩ := z
    exact wpAny_pure hq
end
end Rg
namespace Rg
open PySem PySem.Spec PyProof.Rows L2
/-- a value of a built-in type -/
inductive Bt (H : Hp) : V → String → Prop where
  | non : Bt H .non "NoneType"
  | bl (x : Bool) : Bt H (.bl x) "bool"
  | int (i : Int) : Bt H (.int i) "int"
  | str (x : Str) : Bt H (.str x) "str"
  | lst {a : Addr} {xs : List V} (e : H a = some (.lst xs)) : Bt H (.ref a) "list"
  | tup {a : Addr} {xs : List V} (e : H a = some (.tup xs)) : Bt H (.ref a) "tuple"
  | dK {a : Addr} {kvs : List (Key × V)} (e : H a = some (.dK kvs)) : Bt H (.ref a) "dict"
def btNames : List String := ["NoneType", "bool", "int", "str", "list", "tuple", "dict"]
theorem Bt.mem {H : Hp} {v : V} {T : String} (h : Bt H v T) : T ∈ btNames := by cases h <;> decide
theorem Bt.ty {K : PySem.W.Frag} {H : Hp} {v : V} {T : String} (h : Bt H v T) : TyX K H v (.type T) := by
  cases h with
  | non => exact .base .non
  | bl x => exact .base (.bl x)
  | int x => exact .base (.int x)
  | str x => exact .base (.str x)
  | lst e => exact .base (.lst e)
  | tup e => exact .base (.tup e)
  | dK e => exact .base (.dK e)
theorem Bt.same {H H' : Hp} {v : V} {T : String} (h : Bt H v T) (s : Same H H') : Bt H' v T := by
  cases h with
  | non => exact .non
  | bl x => exact .bl x
  | int x => exact .int x
  | str x => exact .str x
  | lst e => exact .lst (s _ _ e)
  | tup e => exact .tup (s _ _ e)
  | dK e => exact .dK (s _ _ e)
theorem looks_cls {M : Model} {h : Heap} {a : Addr} {o : Obj} {t : Value} (ho : h.get? a = some o) (hc : o.cls = t) : PySem.W.Looks M h (typeOf (.ref a)) t := by
  intro A Q E s k q
  subst hc
  unfold typeOf
  refine wpAny_bind (wpAny_loadPart (k _ _ ho) ?_)
  exact wpAny_pure q
section
variable {X : Cx} {pins : List (Addr × Obj)} {σ : L2.St} {H : Hp} {s : Shared}
theorem Bt.looks {v : V} {u : Value} {T : String} {M : Model} (h : Bt H v T) (I : Inv X pins σ H s) (r : RelV v u) : PySem.W.Looks M s.heap (typeOf u) (.type T) := by
  cases h with
  | non => cases r; exact PySem.W.Looks.of_pure rfl
  | bl x => cases r; exact PySem.W.Looks.of_pure rfl
  | int x => obtain ⟨t, rfl⟩ := r; exact PySem.W.Looks.of_pure rfl
  | str x => obtain ⟨t, rfl⟩ := r; exact PySem.W.Looks.of_pure rfl
  | lst e =>
    cases r
    obtain ⟨_, its, n, _, g⟩ := I.hok _ _ e
    exact looks_cls g rfl
  | tup e =>
    cases r
    obtain ⟨_, its, _, o, g, c, _⟩ := I.hok _ _ e
    exact looks_cls g c
  | dK e =>
    cases r
    obtain ⟨_, _, vs, _, o, es, ep, g, c, _⟩ := I.hok _ _ e
    exact looks_cls g c.1
end
end Rg
namespace Rg
open PySem PySem.Spec PyProof.Rows L2
/-! ### facts of an own class's operators, as Bool functions of the written part -/
def ma' (K : PySem.W.Frag) (C : Str) (m : Str) : Addr := He.ma K (He.ga K C) m
def dunF (C m : Str) : Fct := fun K => decide (PySem.W.findIn K (.ref (He.ga K C)) m = some (some (.ref (He.ma K (He.ga K C) m)))) && PySem.W.isFn K (.ref (He.ma K (He.ga K C) m))
theorem dunF_ok {C m : Str} {K : PySem.W.Frag} (h : dunF C m K = true) : Dun K (He.ga K C) m (He.ma K (He.ga K C) m) := by
  obtain ⟨a, b⟩ := Bool.and_eq_true_iff.mp h
  exact ⟨of_decide_eq_true a, b⟩
def refOk : Option (Option Value) → Bool
  | some none => true
  | some (some (.ref _)) => true
  | _ => false
def binF (C : Str) (op : Operator) : Fct := fun K => (PySem.W.selfFirst K (He.ga K C) && refOk (PySem.W.findIn K (.ref (He.ga K C)) (dunderR op.info.2))) && (dunF C (PySem.dunder op.info.2) K &&
  btNames.all fun T => ((PySem.W.findIn K (.type T) (PySem.dunder op.info.2)).isSome && (PySem.W.findIn K (.type T) (dunderR op.info.2)).isSome) && decide (PySem.W.subIn K (.type T) (.ref (He.ga K C)) = some false))
structure BinX (K : PySem.W.Frag) (C : Addr) (op : Operator) (f : Addr) : Prop where
  sf : PySem.W.selfFirst K C = true
  rc : ∃ rc, PySem.W.findIn K (.ref C) (dunderR op.info.2) = some rc ∧ (rc = none ∨ ∃ g : Addr, rc = some (.ref g))
  d : Dun K C (PySem.dunder op.info.2) f
  t : ∀ T ∈ btNames, (∃ fo, PySem.W.findIn K (.type T) (PySem.dunder op.info.2) = some fo) ∧ (∃ ro, PySem.W.findIn K (.type T) (dunderR op.info.2) = some ro) ∧ PySem.W.subIn K (.type T) (.ref C) = some false
theorem refOk_ok {o : Option (Option Value)} (h : refOk o = true) : ∃ rc, o = some rc ∧ (rc = none ∨ ∃ g : Addr, rc = some (.ref g)) := by
  match o, h with
  | some none, _ => exact ⟨none, rfl, .inl rfl⟩
  | some (some (.ref g)), _ => exact ⟨_, rfl, .inr ⟨g, rfl⟩⟩
theorem binF_ok {C : Str} {op : Operator} {K : PySem.W.Frag} (h : binF C op K = true) : BinX K (He.ga K C) op (He.ma K (He.ga K C) (PySem.dunder op.info.2)) := by
  obtain ⟨a, b⟩ := Bool.and_eq_true_iff.mp h
  obtain ⟨a1, a2⟩ := Bool.and_eq_true_iff.mp a
  obtain ⟨b1, b2⟩ := Bool.and_eq_true_iff.mp b
  refine ⟨a1, refOk_ok a2, dunF_ok b1, fun T hT => ?_⟩
  obtain ⟨c, d⟩ := Bool.and_eq_true_iff.mp (List.all_eq_true.mp b2 T hT)
  obtain ⟨c1, c2⟩ := Bool.and_eq_true_iff.mp c
  exact ⟨Option.isSome_iff_exists.mp c1, Option.isSome_iff_exists.mp c2, of_decide_eq_true d⟩
/-- the second operand: a thing of a built-in type, or an instance of the same class -/
def Opr (C : Addr) (H : Hp) (y : V) : Prop := (∃ T, Bt H y T) ∨ ∃ b dy gs, y = .ref b ∧ H b = some (.ins C dy gs)
def rBin (C : Addr) (sp : Sp) (E : XK) : R2 := fun x y H Q => ∃ a dx fs, x = .ref a ∧ H a = some (.ins C dx fs) ∧ Opr C H y ∧ sp [x, y] H Q E
section
variable {X : Cx} {CX : CXT} {k j : Nat} {f C : Addr} {ps : List Str} {sp : Sp} {E : XK}
theorem op_bin {op : Operator} (d : BinX X.K C op f) (G : Has X.prog X.w X.K X.mg X.base CX k f ps [] sp) (hr : Room j X.A) (hx : Passes CX X E) (hkj : k ≤ j := by decide) : OpR X (binaryOp op) (rBin C sp E) := by
  intro pins s σ H x y v u Q I rx ry h
  obtain ⟨a, dx, fs, rfl, ha, o, h⟩ := h
  cases rx
  obtain ⟨ox, od, J⟩ := ins_at I ha
  have go := run_here (vs := [.ref a, y]) (us := [.ref a, u]) G hr hkj hx I (.cons rfl (.cons ry .nil)) h
  have go2 := wpAny_mono go (fun v s' z => ep_cmp z) fun _ _ z => z
  rcases o with ⟨T, b⟩ | ⟨b, dy, gs, rfl, hb⟩
  · obtain ⟨⟨fo, h1⟩, ⟨ro, h2⟩, h3⟩ := d.t T b.mem
    obtain ⟨rc, r1, r2⟩ := d.rc
    exact left_at I.kIn J (b.looks I ry) d.sf d.d.at_ d.d.fn r1 r2 h1 h2 h3 go2
  · cases ry
    obtain ⟨oy, oe, J2⟩ := ins_at I hb
    obtain ⟨m, F⟩ := I.fr
    exact PySem.W.binop_K F I.mod.kin J J2.type d.sf d.d.at_ d.d.fn go2
/-! ### reflected -/
structure Decl (op : Operator) (id : String) : Prop where
  si : Slot "int" (PySem.dunder op.info.2) id
  sb : Slot "bool" (PySem.dunder op.info.2) id
  en : ∃ (nm : String) (f : Int → Int → Sem Fin), entryFor table id = some (Builtin.Int.intBinary nm f false)
  ar : ∀ a b : Value, argsOk id ⟨[a, b], []⟩
theorem decl_add : Decl .Add "int.__add__" := ⟨F.slot_int_add, F.slot_bool_add, ⟨_, _, F.entry_int_add⟩, fun a b => F.args_int_add_2 a b⟩
theorem decl_sub : Decl .Sub "int.__sub__" := ⟨F.slot_int_sub, F.slot_bool_sub, ⟨_, _, F.entry_int_sub⟩, fun a b => F.args_int_sub_2 a b⟩
theorem decl_mul : Decl .Mult "int.__mul__" := ⟨F.slot_int_mul, F.slot_bool_mul, ⟨_, _, F.entry_int_mul⟩, fun a b => F.args_int_mul_2 a b⟩
theorem Decl.no {op : Operator} {id : String} {prog : Program} {w : World} {A : Around} {E : Value → Shared → Prop} {s : Shared} {v : V} {u : Value} {T : String} {x : Addr} {H : Hp} {Q : Option Value → Shared → Prop} (d : Decl op id) (hT : T = "int" ∨ T = "bool") (b : Bt H v T) (r : RelV v u) (hx : PlainAt s.heap x) (q : Q none s) :
    wpAny (model prog w) A (tryMethod u (PySem.dunder op.info.2) (.ref x)) Q E s := by
  obtain ⟨nm, f, en⟩ := d.en
  cases b with
  | int n =>
    obtain ⟨t, rfl⟩ := r
    exact wpAny_tryMethod_declines (T := "int") (by exact rfl) d.si (call_meets d.si (by exact rfl) en (d.ar _ _) (meets_no nm f n t x) ⟨hx, rfl, q⟩)
  | bl z =>
    cases r
    exact wpAny_tryMethod_declines (T := "bool") (by exact rfl) d.sb (call_meets d.sb (by exact rfl) en (d.ar _ _) (meets_noB nm f z x) ⟨hx, rfl, q⟩)
  | _ => rcases hT with e | e <;> exact absurd e (by decide)
def refF (C : Str) (op : Operator) : Fct := fun K => (PySem.W.selfFirst K (He.ga K C) && dunF C (dunderR op.info.2) K) && (dunF C (PySem.dunder op.info.2) K &&
  btNames.all fun T => match PySem.W.findIn K (.type T) (PySem.dunder op.info.2), PySem.W.findIn K (.type T) (dunderR op.info.2) with
    | some fo, some ro => decide (PySem.W.subIn K (.ref (He.ga K C)) (.type T) = some false) && (!numB fo ro || (decide (T = "int") || decide (T = "bool")))
    | _, _ => false)
structure RefX (K : PySem.W.Frag) (C : Addr) (op : Operator) (f : Addr) : Prop where
  sf : PySem.W.selfFirst K C = true
  g : ∃ g : Addr, PySem.W.findIn K (.ref C) (PySem.dunder op.info.2) = some (some (.ref g))
  d : Dun K C (dunderR op.info.2) f
  t : ∀ T ∈ btNames, ∃ fo ro, PySem.W.findIn K (.type T) (PySem.dunder op.info.2) = some fo ∧ PySem.W.findIn K (.type T) (dunderR op.info.2) = some ro ∧ PySem.W.subIn K (.ref C) (.type T) = some false ∧ (numB fo ro = true → T = "int" ∨ T = "bool")
theorem refF_ok {C : Str} {op : Operator} {K : PySem.W.Frag} (h : refF C op K = true) : RefX K (He.ga K C) op (He.ma K (He.ga K C) (dunderR op.info.2)) := by
  obtain ⟨a, b⟩ := Bool.and_eq_true_iff.mp h
  obtain ⟨a1, a2⟩ := Bool.and_eq_true_iff.mp a
  obtain ⟨b1, b2⟩ := Bool.and_eq_true_iff.mp b
  refine ⟨a1, ⟨_, (dunF_ok b1).at_⟩, dunF_ok a2, fun T hT => ?_⟩
  have z := List.all_eq_true.mp b2 T hT
  cases e1 : PySem.W.findIn K (.type T) (PySem.dunder op.info.2) with
  | none => simp only [e1] at z; cases z
  | some fo =>
    cases e2 : PySem.W.findIn K (.type T) (dunderR op.info.2) with
    | none => simp only [e1, e2] at z; cases z
    | some ro =>
      simp only [e1, e2, Bool.and_eq_true, Bool.or_eq_true, decide_eq_true_eq, Bool.not_eq_true'] at z
      refine ⟨fo, ro, rfl, rfl, z.1, fun q => ?_⟩
      rcases z.2 with y | y
      · rw [y] at q; cases q
      · exact y
def rRef (C : Addr) (sp : Sp) (E : XK) : R2 := fun x y H Q => ∃ a dx fs T, y = .ref a ∧ H a = some (.ins C dx fs) ∧ Bt H x T ∧ sp [y, x] H Q E
theorem op_ref {op : Operator} {id : String} (dc : Decl op id) (d : RefX X.K C op f) (G : Has X.prog X.w X.K X.mg X.base CX k f ps [] sp) (hr : Room j X.A) (hx : Passes CX X E) (hkj : k ≤ j := by decide) : OpR X (binaryOp op) (rRef C sp E) := by
  intro pins s σ H x y v u Q I rx ry h
  obtain ⟨a, dx, fs, T, rfl, ha, b, h⟩ := h
  cases ry
  obtain ⟨ox, od, J, pd⟩ := StX.insC_at (C := C) I (.inr ⟨dx, fs, ha⟩)
  have go := run_here (vs := [.ref a, x]) (us := [.ref a, v]) G hr hkj hx I (.cons rfl (.cons rx .nil)) h
  have go2 := wpAny_mono go (fun v s' z => ep_cmp z) fun _ _ z => z
  obtain ⟨fo, ro, h1, h2, h3, h4⟩ := d.t T b.mem
  obtain ⟨g, hg⟩ := d.g
  exact refl_at I.kIn J (b.looks I rx) d.sf hg d.d.at_ d.d.fn h1 h2 h3 (fun z Q q => dc.no (h4 z) b rx ⟨ox, J.at_, pd⟩ q) go2
/-! ### comparisons -/
def cmpF (C : Str) (op : CmpOp) : Fct := fun K => dunF C (cmpInfo op).2.1 K && btNames.all fun T => PySem.W.notFirst K (He.ga K C) (.type T)
structure CmpX (K : PySem.W.Frag) (C : Addr) (op : CmpOp) (f : Addr) : Prop where
  d : Dun K C (cmpInfo op).2.1 f
  t : ∀ T ∈ btNames, PySem.W.notFirst K C (.type T) = true
theorem cmpF_ok {C : Str} {op : CmpOp} {K : PySem.W.Frag} (h : cmpF C op K = true) : CmpX K (He.ga K C) op (He.ma K (He.ga K C) (cmpInfo op).2.1) := by
  obtain ⟨a, b⟩ := Bool.and_eq_true_iff.mp h
  exact ⟨dunF_ok a, fun T hT => List.all_eq_true.mp b T hT⟩
theorem rich_own {op : CmpOp} {pins : List (Addr × Obj)} {s : Shared} {σ : L2.St} {H : Hp} {x y : V} {v u : Value} {Q : VK} (d : CmpX X.K C op f) (G : Has X.prog X.w X.K X.mg X.base CX k f ps [] sp) (hr : Room j X.A) (hx : Passes CX X E) (hkj : k ≤ j)
    (I : Inv X pins σ H s) (rx : RelV x v) (ry : RelV y u) (h : rBin C sp E x y H Q) : wpAny (model X.prog X.w) X.A (richCompare op v u) (EP X pins σ Q) X.xe s := by
  obtain ⟨a, dx, fs, rfl, ha, o, h⟩ := h
  cases rx
  obtain ⟨ox, od, J⟩ := ins_at I ha
  obtain ⟨m, F⟩ := I.fr
  have go := run_here (vs := [.ref a, y]) (us := [.ref a, u]) G hr hkj hx I (.cons rfl (.cons ry .nil)) h
  have go2 := wpAny_mono go (fun v s' z => ep_cmp z) fun _ _ z => z
  rcases o with ⟨T, b⟩ | ⟨b, dy, gs, rfl, hb⟩
  · exact PySem.W.cmp_K hr.units0 F I.mod.kin J (b.looks I ry) (d.t T b.mem) d.d.at_ d.d.fn go2
  · cases ry
    obtain ⟨oy, oe, J2⟩ := ins_at I hb
    exact PySem.W.cmp_K hr.units0 F I.mod.kin J J2.type (by unfold PySem.W.notFirst; simp) d.d.at_ d.d.fn go2
theorem op_eqO (d : CmpX X.K C .Eq f) (G : Has X.prog X.w X.K X.mg X.base CX k f ps [] sp) (hr : Room j X.A) (hx : Passes CX X E) (hkj : k ≤ j := by decide) : OpR X (compareOp .Eq) (rBin C sp E) :=
  fun pins s σ H x y v u Q I rx ry h => rich_own d G hr hx hkj I rx ry h
theorem op_ltO (d : CmpX X.K C .Lt f) (G : Has X.prog X.w X.K X.mg X.base CX k f ps [] sp) (hr : Room j X.A) (hx : Passes CX X E) (hkj : k ≤ j := by decide) : OpR X (compareOp .Lt) (rBin C sp E) :=
  fun pins s σ H x y v u Q I rx ry h => rich_own d G hr hx hkj I rx ry h
theorem op_leO (d : CmpX X.K C .LtE f) (G : Has X.prog X.w X.K X.mg X.base CX k f ps [] sp) (hr : Room j X.A) (hx : Passes CX X E) (hkj : k ≤ j := by decide) : OpR X (compareOp .LtE) (rBin C sp E) :=
  fun pins s σ H x y v u Q I rx ry h => rich_own d G hr hx hkj I rx ry h
theorem op_gtO (d : CmpX X.K C .Gt f) (G : Has X.prog X.w X.K X.mg X.base CX k f ps [] sp) (hr : Room j X.A) (hx : Passes CX X E) (hkj : k ≤ j := by decide) : OpR X (compareOp .Gt) (rBin C sp E) :=
  fun pins s σ H x y v u Q I rx ry h => rich_own d G hr hx hkj I rx ry h
theorem op_geO (d : CmpX X.K C .GtE f) (G : Has X.prog X.w X.K X.mg X.base CX k f ps [] sp) (hr : Room j X.A) (hx : Passes CX X E) (hkj : k ≤ j := by decide) : OpR X (compareOp .GtE) (rBin C sp E) :=
  fun pins s σ H x y v u Q I rx ry h => rich_own d G hr hx hkj I rx ry h
def neF (C : Str) : Fct := fun K => (decide (PySem.W.findIn K (.ref (He.ga K C)) "__ne__" = some (some (.builtin "object.__ne__"))) && decide (PySem.W.subIn K (.ref (He.ga K C)) (.type "object") = some true)) && cmpF C .Eq K
structure NeX (K : PySem.W.Frag) (C : Addr) (f : Addr) : Prop where
  n : PySem.W.findIn K (.ref C) "__ne__" = some (some (.builtin "object.__ne__"))
  o : PySem.W.subIn K (.ref C) (.type "object") = some true
  c : CmpX K C .Eq f
theorem neF_ok {C : Str} {K : PySem.W.Frag} (h : neF C K = true) : NeX K (He.ga K C) (He.ma K (He.ga K C) "__eq__") := by
  obtain ⟨a, b⟩ := Bool.and_eq_true_iff.mp h
  obtain ⟨a1, a2⟩ := Bool.and_eq_true_iff.mp a
  exact ⟨of_decide_eq_true a1, of_decide_eq_true a2, cmpF_ok b⟩
theorem op_neO (d : NeX X.K C f) (G : Has X.prog X.w X.K X.mg X.base CX k f ps [] sp) (hr : Room j X.A) (hx : Passes CX X E) (hkj : k + 1 ≤ j := by decide) : OpR X (compareOp .NotEq) (fun x y H Q => rBin C sp E x y H fun v H' => ∃ b, v = .bl b ∧ Q (.bl (!b)) H') := by
  intro pins s σ H x y v u Q I rx ry h
  obtain ⟨a, dx, fs, rfl, ha, o, h⟩ := h
  cases rx
  obtain ⟨ox, od, J⟩ := ins_at I ha
  have go := run_at (vs := [.ref a, y]) (us := [.ref a, u]) G (Room.in1 (hr.mono hkj)) I.env0.in1 hx I (.cons rfl (.cons ry .nil)) h
  have go2 : wpAny (model X.prog X.w) X.A.in1 (call (.ref f) [.ref a, u]) (PySem.W.BoolBack fun z s' => EP X pins σ Q (.bool (!z)) s') X.xe s := wpAny_mono go (fun v s' z => by
    obtain ⟨w, H', I', rw', b, rfl, q⟩ := z
    cases rw'
    exact ⟨.bl (!b), H', I', rfl, q⟩) fun _ _ z => z
  have hu : X.A.units + 1 < cLine := hu_of hr
  rcases o with ⟨T, b⟩ | ⟨b, dy, gs, rfl, hb⟩
  · exact ne_at hu I.kIn J (b.looks I ry) (d.c.t T b.mem) d.n d.o d.c.d.at_ d.c.d.fn go2
  · cases ry
    obtain ⟨oy, oe, J2⟩ := ins_at I hb
    exact ne_at hu I.kIn J J2.type (by unfold PySem.W.notFirst; simp) d.n d.o d.c.d.at_ d.c.d.fn go2
/-! ### minus, in place, items, calls -/
theorem un_negO (d : Dun X.K C "__neg__" f) (G : Has X.prog X.w X.K X.mg X.base CX k f ps [] sp) (hr : Room j X.A) (hx : Passes CX X E) (hkj : k ≤ j := by decide) : UnR X (unaryOp .USub) (fun x H Q => ∃ a dx fs, x = .ref a ∧ H a = some (.ins C dx fs) ∧ sp [x] H Q E) := by
  intro pins s σ H x v Q I rx h
  obtain ⟨a, dx, fs, rfl, ha, h⟩ := h
  cases rx
  obtain ⟨ox, od, J⟩ := ins_at I ha
  obtain ⟨m, F⟩ := I.fr
  exact PySem.W.ksp_neg F I.mod.kin J d.at_ d.fn (run_here (vs := [.ref a]) (us := [.ref a]) G hr hkj hx I (.cons rfl .nil) h)
def inpF (C : Str) (op : Operator) : Fct := fun K => PySem.W.selfFirst K (He.ga K C) && dunF C (dunderI op.info.2) K
theorem inpF_ok {C : Str} {op : Operator} {K : PySem.W.Frag} (h : inpF C op K = true) : PySem.W.selfFirst K (He.ga K C) = true ∧ Dun K (He.ga K C) (dunderI op.info.2) (He.ma K (He.ga K C) (dunderI op.info.2)) := by
  obtain ⟨a, b⟩ := Bool.and_eq_true_iff.mp h
  exact ⟨a, dunF_ok b⟩
theorem inp_own {op : Operator} (sf : PySem.W.selfFirst X.K C = true) (d : Dun X.K C (dunderI op.info.2) f) (G : Has X.prog X.w X.K X.mg X.base CX k f ps [] sp) (hr : Room j X.A) (hx : Passes CX X E) (hkj : k ≤ j := by decide) :
    PIp X op (fun x y H Q => ∃ a dx fs, x = .ref a ∧ H a = some (.ins C dx fs) ∧ sp [x, y] H Q E) := by
  intro pins s σ H x y v u Q I rx ry h
  obtain ⟨a, dx, fs, rfl, ha, h⟩ := h
  cases rx
  obtain ⟨ox, od, J⟩ := ins_at I ha
  obtain ⟨m, F⟩ := I.fr
  refine PySem.W.ksp_inplace F I.mod.kin J sf d.at_ d.fn ?_
  exact wpAny_mono (run_here (vs := [.ref a, y]) (us := [.ref a, u]) G hr hkj hx I (.cons rfl (.cons ry .nil)) h) (fun v s' z => ep_cmp z) fun _ _ z => z
def setF (C : Str) : Fct := fun K => PySem.W.noSeq K (He.ga K C) && dunF C "__setitem__" K
theorem set_own (nq : PySem.W.noSeq X.K C = true) (d : Dun X.K C "__setitem__" f) (G : Has X.prog X.w X.K X.mg X.base CX k f ps [] sp) (hr : Room j X.A) (hx : Passes CX X E) (hkj : k ≤ j := by decide) :
    PSet X (fun o i v H Q => ∃ a dx fs, o = .ref a ∧ H a = some (.ins C dx fs) ∧ sp [o, i, v] H (fun _ H' => Q H') E) := by
  intro pins s σ H o i v ov iv u Q I ro ri rv h
  obtain ⟨a, dx, fs, rfl, ha, h⟩ := h
  cases ro
  obtain ⟨ox, od, J⟩ := ins_at I ha
  obtain ⟨m, F⟩ := I.fr
  refine PySem.W.ksp_setItem F I.mod.kin J nq d.at_ d.fn ?_
  exact wpAny_mono (run_here (vs := [.ref a, i, v]) (us := [.ref a, iv, u]) G hr hkj hx I (.cons rfl (.cons ri (.cons rv .nil))) h) (fun _ s' z => z.elim fun w z => z.elim fun H' q => ⟨H', q.1, q.2.2⟩) fun _ _ z => z
def getF (C : Str) : Fct := fun K => PySem.W.fnIn K (He.ma K (He.ga K C) "__getitem__") && dunF C "__getitem__" K
def IxO (X : Cx) (r : R2) : Prop := ∀ (value slice : Expr) (pins : List (Addr × Obj)) (s : Shared) (σ : L2.St) (H : Hp) (x y : V) (v u : Value) (Q : VK), Inv X pins σ H s → RelV x v → RelV y u → r x y H Q →
  (∀ a, subscripted slice true (.ref a) u = runValue (.builtin "lifetime.subscript" ⟨[.ref a, u], []⟩)) → wpAny (model X.prog X.w) X.A (subscriptTail value slice v u) (EP X pins σ Q) X.xe s
theorem ix_own (fi : PySem.W.fnIn X.K f = true) (d : Dun X.K C "__getitem__" f) (G : Has X.prog X.w X.K X.mg X.base CX k f ps [] sp) (hr : Room j X.A) (hx : Passes CX X E) (hkj : k + 1 ≤ j := by decide) :
    IxO X (fun x y H Q => ∃ a dx fs, x = .ref a ∧ H a = some (.ins C dx fs) ∧ sp [x, y] H Q E) := by
  intro value slice pins s σ H x y v u Q I rx ry h hs
  obtain ⟨a, dx, fs, rfl, ha, h⟩ := h
  cases rx
  obtain ⟨ox, od, J⟩ := ins_at I ha
  obtain ⟨m, F⟩ := I.fr
  exact PySem.W.sub_K F I.mod.kin J d.at_ fi d.fn (run_at (vs := [.ref a, y]) (us := [.ref a, u]) G (Room.in1 (hr.mono hkj)) I.env0.in1 hx I (.cons rfl (.cons ry .nil)) h) (hs a)
end
end Rg
namespace Rg
open PySem PySem.Spec PyProof.Rows L2
/-! GEN F: isinstance of own classes, raises, items and calls of own instances. -/
def insF (C : Str) : Fct := fun K => ((decide (PySem.W.findIn K (.ref (He.ga K C)) "__class__" = some (some (.builtin "object.__class__"))) && decide (PySem.W.specialIn K (.builtin "object.__class__") "__get__" = some (some (.builtin "getset_descriptor.__get__")))) &&
  (decide (PySem.W.takesIn K (.builtin "object.__class__") = some true) && decide (PySem.W.mroIn K (He.ga K C) (.type "object") = some true))) &&
  ((btNames.all fun T => decide (PySem.W.kitOne K (.ref (He.ga K C)) (.type T) = some false)) && ((btNames.all fun T => decide (PySem.W.kitOne K (.type T) (.ref (He.ga K C)) = some false)) && decide (PySem.W.kitOne K (.ref (He.ga K C)) (.ref (He.ga K C)) = some true)))
structure InsX (K : PySem.W.Frag) (C : Addr) : Prop where
  ha : PySem.W.findIn K (.ref C) "__class__" = some (some (.builtin "object.__class__"))
  hn : PySem.W.specialIn K (.builtin "object.__class__") "__get__" = some (some (.builtin "getset_descriptor.__get__"))
  ht : PySem.W.takesIn K (.builtin "object.__class__") = some true
  hm : PySem.W.mroIn K C (.type "object") = some true
  ot : ∀ T ∈ btNames, PySem.W.kitOne K (.ref C) (.type T) = some false
  to : ∀ T ∈ btNames, PySem.W.kitOne K (.type T) (.ref C) = some false
  me : PySem.W.kitOne K (.ref C) (.ref C) = some true
theorem insF_ok {C : Str} {K : PySem.W.Frag} (h : insF C K = true) : InsX K (He.ga K C) := by
  unfold insF at h
  simp only [Bool.and_eq_true, decide_eq_true_eq, List.all_eq_true] at h
  obtain ⟨⟨⟨h1, h2⟩, h3, h4⟩, h5, h6, h7⟩ := h
  exact ⟨h1, h2, h3, h4, h5, h6, h7⟩
theorem ty_ins {K : PySem.W.Frag} {H : Hp} {a C dx : Addr} {fs : List (Str × V)} (h : InsX K C) (cl : Cls K C) (e : H a = some (.ins C dx fs)) : TyX K H (.ref a) (.ref C) := .base (.ins e cl h.ha h.hn h.ht h.hm)
/-- no int, or a bool -/
def NW (K : PySem.W.Frag) (H : Hp) (v : V) : Prop := ∃ t i b, TyX K H v t ∧ PySem.W.kitOne K t (.type "int") = some i ∧ PySem.W.kitOne K t (.type "bool") = some b ∧ (i && !b) = false
theorem nw_bt {K : PySem.W.Frag} {H : Hp} {v : V} {T : String} (h : Bt H v T) (n : T ≠ "int") : NW K H v := by
  refine ⟨.type T, decide (T = "bool"), decide (T = "bool"), h.ty, ?_, ?_, ?_⟩
  · cases h <;> first | exact absurd rfl n | exact kit_ty (by decide +kernel)
  · cases h <;> first | exact absurd rfl n | exact kit_ty (by decide +kernel)
  · cases h <;> first | exact absurd rfl n | decide
theorem nw_ins {K : PySem.W.Frag} {H : Hp} {a C dx : Addr} {fs : List (Str × V)} (h : InsX K C) (cl : Cls K C) (e : H a = some (.ins C dx fs)) : NW K H (.ref a) :=
  ⟨.ref C, false, false, ty_ins h cl e, h.ot _ (by decide), h.ot _ (by decide), rfl⟩
theorem kit_int {K : PySem.W.Frag} : PySem.W.kitOne K (.type "int") (.type "int") = some true := kit_ty (by decide +kernel)
theorem kit_ib {K : PySem.W.Frag} : PySem.W.kitOne K (.type "int") (.type "bool") = some false := kit_ty (by decide +kernel)
section
variable {X : Cx} {CX : CXT} {k j : Nat} {f C : Addr} {ps : List Str} {sp : Sp} {dvs : List V} {E : XK} {a b e : Expr} {es : List Expr} {ta tb : TE} {t : TA} {x m : Str} {pos p p2 pos2 : Pos} {i : Nat}
theorem pe_ixO {r : R2} (hr : IxO X r) (ha : PE X a ta) (hb : PE X b tb) (hs : ∀ o u, subscripted b true (.ref o) u = runValue (.builtin "lifetime.subscript" ⟨[.ref o, u], []⟩)) : PE X (.Subscript a b pos) (tOp r ta tb) := by
  refine ⟨fun pins s σ H Q I h => ?_⟩
  exact Subscript_ (binT ha hb I h fun v u s2 x y H2 I2 rx ry q => hr a b pins s2 σ H2 x y v u Q I2 rx ry q fun o => hs o u)
abbrev ExcX (K : PySem.W.Frag) (C : Addr) : Prop := PySem.W.excIn K C He.veBase "ValueError.__new__" = true ∧ PySem.W.keepIn K (.ref C) = true ∧ PySem.W.subIn K (.ref C) (.type "BaseException") = some true ∧ PySem.W.typeIn K (.ref C) = some (.type "type")
theorem raiseO {W : WX} (h : ExcX X.K C) (tk : Takes X W) (gC : X.mg x = some (.ref C)) (hc : X.calm = true := by rfl) (hg : Gl X x := by rfl) (hdb : (x == ("__debug__" : Str)) = false := by decide) :
    PS X (.Raise (some (.Call (.Name x p) [.Constant (.str m) i p2] [] pos)) none pos2) (fun _ σ H => W (.ref C) none σ H) :=
  ps_raise hc tk (pmk_own PySem.F.excBase_ValueError h.1 gC h.2.1 (raises_own h.2.2.1 h.2.2.2) hg hdb)
theorem pe_gint {n : Int} {t' : Tok} (hm : X.mg x = some (.int n t')) (hg : Gl X x := by rfl) (hd : (x == ("__debug__" : Str)) = false := by decide) : PE X (.Name x pos) (tC (.int n)) := pe_glob hg hm ⟨_, rfl⟩ hd
theorem pe_gstr {z : Str} {t' : Tok} (hm : X.mg x = some (.str z t')) (hg : Gl X x := by rfl) (hd : (x == ("__debug__" : Str)) = false := by decide) : PE X (.Name x pos) (tC (.str z)) := pe_glob hg hm ⟨_, rfl⟩ hd
theorem pe_gref {c : Addr} (hm : X.mg x = some (.ref c)) (hg : Gl X x := by rfl) (hd : (x == ("__debug__" : Str)) = false := by decide) : PE X (.Name x pos) (tC (.ref c)) := pe_glob (v := .ref c) hg hm rfl hd
theorem lt1k {n : Nat} (h : Nat.ble (n + 1) 1000 = true) : n < 1000 := Nat.le_of_ble_eq_true h
theorem Has.raw {P : Program} {w : World} {K : PySem.W.Frag} {mg : Str → Option Value} {base : Heap} (G : Has P w K mg base CX k f ps [] sp) : FnR P w K mg base CX k f sp := by
  obtain ⟨fd, ds, g1, g2, g3⟩ := G.ex
  exact (g1.raw g2 g3).imp fun vs H Q E h => by rw [List.append_nil]; exact h
/-- f(e, ..), f an expression that gives an instance of C -/
def tCallI (C : Addr) (sp : Sp) (E : XK) (tf : TE) (t : TA) : TE := fun σ H Q => tf σ H fun y H1 => ∃ a, y = V.ref a ∧ t σ H1 fun vs H2 => (∃ dx fs, H2 a = some (.ins C dx fs)) ∧ sp (V.ref a :: vs) H2 Q E
theorem pe_callI {fe : Expr} {tf : TE} (hf : PE X fe tf) (c : StX.CallO X.K C f) (G : Has X.prog X.w X.K X.mg X.base CX k f ps [] sp) (hr : Room j X.A) (hx : Passes CX X E) (ha : PA X (e :: es) t) (hkj : k ≤ j := by decide)
    (ht : eval (.Call fe (e :: es) [] pos) X.env = (eval fe X.env >>= fun u => callWith pos u [] (backTo pos (starEach (e :: es) X.env)) (backToKw pos (keywordEach [] X.env))) := by rfl)
    (he : starEach (e :: es) X.env = (false, eval e X.env) :: starEach es X.env := by rfl) (hpl : (backTo pos (starEach es X.env)).any (·.1) = false := by rfl) : PE X (.Call fe (e :: es) [] pos) (tCallI C sp E tf t) := by
  refine ⟨fun pins s σ H Q I h => ?_⟩
  refine Call_ (thn (hf.run pins s σ H _ I h) fun u s1 z => ?_) ht
  obtain ⟨y, H1, I1, ry, a, rfl, q⟩ := z
  cases ry
  refine StX.callO_with (thn (ha.run pos pins s1 σ H1 _ I1 q) fun us s2 z => ?_) he hpl
  obtain ⟨vs, H2, I2, r, ⟨dx, fs, hi⟩, q2⟩ := z
  obtain ⟨ox, od, J, hd⟩ := StX.insC_at (C := C) I2 (.inr ⟨dx, fs, hi⟩)
  exact ⟨⟨C, ox, od, J, hd⟩, StX.run_callO c (Has.raw G) (hr.mono hkj) hx I2 (.inr ⟨dx, fs, hi⟩) r q2⟩
def callF (C : Str) : Fct := fun K => PySem.W.fnIn K (He.ma K (He.ga K C) "__call__") && dunF C "__call__" K
theorem callF_ok {C : Str} {K : PySem.W.Frag} (h : callF C K = true) : StX.CallO K (He.ga K C) (He.ma K (He.ga K C) "__call__") := by
  obtain ⟨a, b⟩ := Bool.and_eq_true_iff.mp h
  exact ⟨(dunF_ok b).at_, (dunF_ok b).fn, a⟩
end
end Rg
namespace Rg
open PySem PySem.Spec PyProof.Rows L2
/-- of less than 300 bits -/
def Bg (x : Int) : Prop := x.natAbs < 2 ^ 300
theorem bg_of {x : Int} (h0 : -(10 ^ 80) ≤ x) (h1 : x ≤ 10 ^ 80) : Bg x := Nat.lt_of_le_of_lt (show x.natAbs ≤ 10 ^ 80 by omega) (by decide)
theorem bg_mul {x y : Int} (hx : Bg x) (hy : Bg y) : CMulW x y := wide_mul hx hy (by decide) (by decide) (by decide)
end Rg
namespace Rg
open PySem PySem.Spec PyProof.Rows L2
/-! GEN G: comprehensions over a list, elements that leave what stood. -/
theorem lc_map {K : PySem.W.Frag} {a : Addr} {xs : List V} {i : Nat} {te : TE} {vs : List Nat} {σ : L2.St} {H1 : Hp} {D : Addr} {Qd : Hp → Prop} (f : V → V) (nD : H1 D = none) (hz : xs.length ≤ 1000) (hS : SqL K H1 a xs)
    (hw : ∀ x : V, wipe ((wipe σ vs).set i (some x)) vs = wipe σ vs)
    (step : ∀ (x : V) (H : Hp), x ∈ xs → Same H1 H → ∀ (R : VK), (∀ H', Same H H' → R (f x) H') → te ((wipe σ vs).set i (some x)) H R)
    (hd : ∀ H, Same H1 H → H D = some (.lst (xs.map f)) → Qd H) :
    ∃ W : Nat → Nat → Hp → Prop, (∃ m, W 0 m (L2.upd H1 D (.lst []))) ∧ ∀ j m H, W j m H →
      ((Itl K a).stop j H ∧ Qd H) ∨ ((Itl K a).go j H ∧ ∃ Nx : Hp → Prop, (∀ H', Nx H' → ∃ m', m' < m ∧ W (j + 1) m' H') ∧ ∀ x H', (Itl K a).yld j H x H' → gName i x (wipe σ vs) H' fun σ2 H2 => wipe σ2 vs = wipe σ vs ∧ tYes σ2 H2 fun b H3 =>
        if b = true then te σ2 H3 fun y H4 => ∃ acc, H4 D = some (.lst acc) ∧ acc.length < sizeLine ∧ Nx (L2.upd H4 D (.lst (acc ++ [y]))) else Nx H3) := by
  refine lc_list (xs := xs) (fun j H => Same H1 H ∧ H D = some (.lst ((xs.take j).map f))) ⟨Same.new nD, upd_same⟩ (fun j H _ z => z.1.seq hS) (fun j x H hx z => ?_) fun H z => hd H z.1 (by rw [z.2, List.take_of_length_le (Nat.le_refl _)])
  obtain ⟨sm, hD⟩ := z
  have hj : j < xs.length := (List.getElem?_eq_some_iff.mp hx).1
  refine ⟨hw x, ?_⟩
  unfold tYes
  dsimp only
  rw [if_pos rfl]
  refine step x H (List.mem_of_getElem? hx) sm _ fun H' s' => ⟨_, s' _ _ hD, ?_, ?_, ?_⟩
  · rw [List.length_map, List.length_take]
    exact Nat.lt_of_le_of_lt (Nat.le_trans (Nat.min_le_left _ _) (Nat.le_trans (Nat.le_of_lt hj) hz)) (by decide)
  · exact Same.mut (sm.trans s') nD
  · rw [upd_same, List.take_add_one, hx]
    simp
theorem lc_fmap {K : PySem.W.Frag} {a : Addr} {xs : List V} {i : Nat} {tt : TT} {te : TE} {vs : List Nat} {σ : L2.St} {H1 : Hp} {D : Addr} {Qd : Hp → Prop} (p : V → Bool) (f : V → V) (nD : H1 D = none) (hz : xs.length ≤ 1000) (hS : SqL K H1 a xs)
    (hw : ∀ x : V, wipe ((wipe σ vs).set i (some x)) vs = wipe σ vs)
    (tst : ∀ (x : V) (H : Hp), x ∈ xs → Same H1 H → ∀ (R : Bool → Hp → Prop), (∀ H', Same H H' → R (p x) H') → tt ((wipe σ vs).set i (some x)) H R)
    (step : ∀ (x : V) (H : Hp), x ∈ xs → p x = true → Same H1 H → ∀ (R : VK), (∀ H', Same H H' → R (f x) H') → te ((wipe σ vs).set i (some x)) H R)
    (hd : ∀ H, Same H1 H → H D = some (.lst ((xs.filter p).map f)) → Qd H) :
    ∃ W : Nat → Nat → Hp → Prop, (∃ m, W 0 m (L2.upd H1 D (.lst []))) ∧ ∀ j m H, W j m H →
      ((Itl K a).stop j H ∧ Qd H) ∨ ((Itl K a).go j H ∧ ∃ Nx : Hp → Prop, (∀ H', Nx H' → ∃ m', m' < m ∧ W (j + 1) m' H') ∧ ∀ x H', (Itl K a).yld j H x H' → gName i x (wipe σ vs) H' fun σ2 H2 => wipe σ2 vs = wipe σ vs ∧ tt σ2 H2 fun b H3 =>
        if b = true then te σ2 H3 fun y H4 => ∃ acc, H4 D = some (.lst acc) ∧ acc.length < sizeLine ∧ Nx (L2.upd H4 D (.lst (acc ++ [y]))) else Nx H3) := by
  refine lc_list (xs := xs) (fun j H => Same H1 H ∧ H D = some (.lst (((xs.take j).filter p).map f))) ⟨Same.new nD, upd_same⟩ (fun j H _ z => z.1.seq hS) (fun j x H hx z => ?_) fun H z => hd H z.1 (by rw [z.2, List.take_of_length_le (Nat.le_refl _)])
  obtain ⟨sm, hD⟩ := z
  have hj : j < xs.length := (List.getElem?_eq_some_iff.mp hx).1
  have hl : ((xs.take j).filter p).length < 1000 := by
    have := List.length_filter_le p (xs.take j)
    rw [List.length_take] at this
    omega
  refine ⟨hw x, ?_⟩
  refine tst x H (List.mem_of_getElem? hx) sm _ fun H' s' => ?_
  by_cases hp : p x = true
  · rw [if_pos hp]
    refine step x H' (List.mem_of_getElem? hx) hp (sm.trans s') _ fun H2 s2 => ⟨_, s2 _ _ (s' _ _ hD), ?_, ?_, ?_⟩
    · rw [List.length_map]
      exact Nat.lt_trans hl (by decide)
    · exact Same.mut (sm.trans (s'.trans s2)) nD
    · rw [upd_same, List.take_add_one, hx]
      simp [hp]
  · rw [if_neg hp]
    refine ⟨sm.trans s', ?_⟩
    rw [s' _ _ hD, List.take_add_one, hx]
    simp [hp]
end Rg
namespace Rg
open PySem PySem.Spec PyProof.Rows L2
/-! GEN H: properties, read and assigned. -/
theorem slot_pset : Slot "property" "__set__" "property.__set__" :=
  Slot.of (owner := "property") (n := "__set__") (by rw [typeLookup_type, builtinLookup_eq_fast]; kernel_rfl)
    (by decide +kernel) (by decide +kernel) (by decide +kernel) (by first | exact .inl (by decide +kernel) | exact .inr (by decide +kernel))
    (by rw [isSubtype_type]; kernel_rfl)
theorem entry_pset : entryFor table "property.__set__" = some Builtin.«property.__set__» := entryFor_of_tree (by kernel_rfl)
theorem args_pset (a b c : Value) : argsOk "property.__set__" ⟨[a, b, c], []⟩ := by
  unfold argsOk
  kernel_rfl
section
variable {prog : Program} {w : World} {A : Around} {s : Shared} {K : PySem.W.Frag} {p x g fs : Addr} {rest : List Value} {v g0 : Value} {R : Result → Shared → Prop}
theorem prop_set (X : K.In s.heap) (hp : PySem.W.recIn K p "property" = some (g0 :: .ref fs :: rest))
    (h : wpAny (model prog w) A.in1 (call (.ref fs) [.ref x, v]) (fun _ s' => R (.ok (.ret .none)) s') (fun e s' => R (.error e) s') s) :
    codeAny (model prog w) A (.call (.builtin "property.__set__") ⟨[.ref p, .ref x, v], []⟩) R s := by
  obtain ⟨d, sl, ho⟩ := PySem.W.rec_of X hp
  refine codeAny_call_builtin slot_pset.plain entry_pset (slot_pset.check _ _ _ _ _ _ _ _ ⟨_, ho, rfl⟩ (args_pset _ _ _) ?_)
  unfold Builtin.«property.__set__»
  have q : wpAny (model prog w) A.in1 (field (.ref p) 1) (fun z s' => z = .ref fs ∧ s' = s) (fun e s' => R (.error e) s') s := by
    unfold field fieldsOf
    refine wpAny_bind (wpAny_bind (wpAny_load ho ?_))
    exact wpAny_pure (wpAny_pure ⟨rfl, rfl⟩)
  refine wpAny_bind (wpAny_mono q (fun z s' e => ?_) fun _ _ z => z)
  obtain ⟨rfl, rfl⟩ := e
  dsimp only
  rw [if_neg (fun z => by cases beq_iff_eq.mp z)]
  refine wpAny_bind (wpAny_mono h (fun _ s2 z => ?_) fun _ _ z => z)
  exact wpAny_pure z
end
section
variable {X : Cx} {CX : CXT} {k j : Nat} {C p g a dx : Addr} {fs : List (Str × V)} {f : Str} {ps : List Str} {sp : Sp} {E : XK} {e o value : Expr} {pos pos' : Pos} {ta tv : TE}
/-- the class has the name as a property at p with getter gg and setter gs -/
structure PropX (K : PySem.W.Frag) (C : Addr) (f : Str) (p : Addr) (gg : Addr) : Prop where
  at_ : PySem.W.findIn K (.ref C) f = some (some (.ref p))
  get : PySem.W.specialIn K (.ref p) "__get__" = some (some (.builtin "property.__get__"))
  tak : PySem.W.takesIn K (.ref p) = some true
  rec_ : ∃ rest, PySem.W.recIn K p "property" = some (.ref gg :: rest)
theorem PropX.of {K : PySem.W.Frag} {gg : Addr} (h : PropX K C f p gg) : PropOf K C f p gg := ⟨h.at_, h.get, h.tak, h.rec_⟩
theorem pe_propH (he : PE X e ta) (c : Cls X.K C) (hp : PropX X.K C f p g) (G : Has X.prog X.w X.K X.mg X.base CX k g ps [] sp) (hr : Room j X.A) (hx : Passes CX X.nox E) (hkj : k + 1 ≤ j := by decide)
    (hab : attributeBase e f X.env (eval e X.env) = eval e X.env := by rfl) : PE X (.Attribute e f pos) (tProp C sp [] E ta) := by
  obtain ⟨fd, ds, g1, g2, g3⟩ := G.ex
  exact pe_prop he c hp.of g1 (hr.mono hkj) g2 g3 hx hab
/-- its setter -/
structure SetX (K : PySem.W.Frag) (C : Addr) (f : Str) (p : Addr) (gs : Addr) : Prop where
  at_ : PySem.W.findIn K (.ref C) f = some (some (.ref p))
  tak : PySem.W.takesIn K (.ref p) = some true
  ty : PySem.W.typeIn K (.ref p) = some (.type "property")
  rec_ : ∃ g0 rest, PySem.W.recIn K p "property" = some (g0 :: .ref gs :: rest)
theorem setprop_ok {pins : List (Addr × Obj)} {σ : L2.St} {H : Hp} {s : Shared} {y : V} {u : Value} {Q : Hp → Prop} (I : Inv X pins σ H s) (ea : H a = some (.ins C dx fs)) (c : Cls X.K C) (hp : SetX X.K C f p g) (G : Has X.prog X.w X.K X.mg X.base CX k g ps [] sp)
    (hr : Room j X.A) (hx : Passes CX X E) (hkj : k + 2 ≤ j) (ry : RelV y u) (h : sp [.ref a, y] H (fun _ H' => Q H') E) :
    wpAny (model X.prog X.w) X.A (setAttr (.ref a) f u) (fun _ s' => ∃ H', Inv X pins σ H' s' ∧ Q H') X.xe s := by
  obtain ⟨ox, od, J⟩ := ins_at I ea
  obtain ⟨g0, rest, hrec⟩ := hp.rec_
  have I1 := I.tok (s.toks + 1)
  have tk : PySem.W.takerIn X.K C f = some (some (.ref p)) := by
    unfold PySem.W.takerIn
    rw [hp.at_]
    show (PySem.W.takesIn X.K (.ref p)).map _ = _
    rw [hp.tak]
    rfl
  obtain ⟨dp, sl, ho⟩ := PySem.W.rec_of (h := s.heap) I.kIn hrec
  refine PySem.W.set_plain I.kIn J c.sa (PySem.W.osa_open (s := { s with toks := s.toks + 1 }) I1.kIn J c.po tk fun b => ?_)
  unfold PySem.Builtin.ObjectAttr.setByDescriptor
  refine wpAny_bind (wpAny_rule ?_)
  have rm : Room k X.A.in1.in1 := Room.in1 (Room.in1 (hr.mono hkj))
  refine wpAny_bind (wpAny_holding (wpAny_callSpecial?_slot (T := "property") ⟨_, ho, rfl⟩ slot_pset (wpAny_call (prop_set I1.kIn hrec ?_))))
  refine wpAny_mono (run_at (vs := [.ref a, y]) (us := [.ref a, u]) (Q := fun _ H' => Q H') G rm I1.env0.in1.in1 hx I1 (.cons rfl (.cons ry .nil)) h) (fun z s' q => ?_) fun _ _ z => z
  obtain ⟨_, H', I', _, q⟩ := q
  exact wpAny_pure ⟨H', I', q⟩
def sFldP (C : Addr) (sp : Sp) (E : XK) (ta tv : TE) : TS := fun D σ H => tv σ H fun y H1 => ta σ H1 fun x H2 => ∃ a dx fs, x = .ref a ∧ H2 a = some (.ins C dx fs) ∧ sp [.ref a, y] H2 (fun _ H' => D.nx σ H') E
theorem ps_fldP (ha : PE X o ta) (hv : PE X value tv) (c : Cls X.K C) (hp : SetX X.K C f p g) (G : Has X.prog X.w X.K X.mg X.base CX k g ps [] sp) (hr : Room j X.A) (hx : Passes CX X E) (hkj : k + 2 ≤ j := by decide)
    (hs : swapsWith value (some (.Attribute o f pos')) pos.line X.env = pure false := by rfl) : PS X (.Assign [.Attribute o f pos'] value pos) (sFldP C sp E ta tv) := by
  refine ⟨fun pins s σ H D I h => ?_⟩
  refine plainObj_wpAny_Assign_Attribute (thn (hv.run pins s σ H _ I h) fun u s1 z => ?_) hs
  obtain ⟨y, H1, I1, ry, q⟩ := z
  refine thn (ha.run pins s1 σ H1 _ I1 q) fun ov s2 z => ?_
  obtain ⟨x, H2, I2, rx, a, dx, fs, rfl, ea, q2⟩ := z
  cases rx
  refine wpAny_mono (setprop_ok (Q := fun H' => D.nx σ H') I2 ea c hp G hr hx hkj ry q2) (fun _ s3 z => ?_) fun _ _ z => z
  obtain ⟨H3, I3, q3⟩ := z
  exact ⟨σ, H3, I3, q3⟩
end
def propF (C f : Str) : Fct := fun K => (decide (PySem.W.findIn K (.ref (He.ga K C)) f = some (some (.ref (He.ma K (He.ga K C) f)))) && decide (PySem.W.specialIn K (.ref (He.ma K (He.ga K C) f)) "__get__" = some (some (.builtin "property.__get__")))) &&
  (decide (PySem.W.takesIn K (.ref (He.ma K (He.ga K C) f)) = some true) && (match PySem.W.recIn K (He.ma K (He.ga K C) f) "property" with
    | some (.ref _ :: _) => true
    | _ => false))
theorem propF_ok {C f : Str} {K : PySem.W.Frag} (h : propF C f K = true) : PropX K (He.ga K C) f (He.ma K (He.ga K C) f) (pgA C f K) := by
  obtain ⟨h1, h2⟩ := Bool.and_eq_true_iff.mp h
  obtain ⟨a1, a2⟩ := Bool.and_eq_true_iff.mp h1
  obtain ⟨a3, a4⟩ := Bool.and_eq_true_iff.mp h2
  refine ⟨of_decide_eq_true a1, of_decide_eq_true a2, of_decide_eq_true a3, ?_⟩
  unfold pgA
  split at a4
  · rename_i g rest e
    rw [e]
    exact ⟨rest, rfl⟩
  · cases a4
def setpF (C f : Str) : Fct := fun K => (decide (PySem.W.findIn K (.ref (He.ga K C)) f = some (some (.ref (He.ma K (He.ga K C) f)))) && decide (PySem.W.typeIn K (.ref (He.ma K (He.ga K C) f)) = some (.type "property"))) &&
  (decide (PySem.W.takesIn K (.ref (He.ma K (He.ga K C) f)) = some true) && (match PySem.W.recIn K (He.ma K (He.ga K C) f) "property" with
    | some (_ :: .ref _ :: _) => true
    | _ => false))
theorem setpF_ok {C f : Str} {K : PySem.W.Frag} (h : setpF C f K = true) : SetX K (He.ga K C) f (He.ma K (He.ga K C) f) (psA C f K) := by
  obtain ⟨h1, h2⟩ := Bool.and_eq_true_iff.mp h
  obtain ⟨a1, a2⟩ := Bool.and_eq_true_iff.mp h1
  obtain ⟨a3, a4⟩ := Bool.and_eq_true_iff.mp h2
  refine ⟨of_decide_eq_true a1, of_decide_eq_true a3, of_decide_eq_true a2, ?_⟩
  unfold psA
  split at a4
  · rename_i g0 g rest e
    rw [e]
    exact ⟨g0, rest, rfl⟩
  · cases a4
end Rg
namespace Rg
open PySem PySem.Spec PyProof.Rows L2
/-! GEN I: try, what was caught, a def held by a name, zip. -/
section
variable {X : Cx} {CX : CXT} {k j i : Nat} {f C : Addr} {ps : List Str} {sp : Sp} {dvs : List V} {E : XK} {x m : Str} {p pos apos : Pos} {e o : Expr} {es : List Expr} {ta : TE} {t : TA} {W : WX}
theorem takes_no : Takes X (fun _ _ _ _ => False) := fun _ _ z => by
  obtain ⟨_, _, _, _, _, _, _, _, _, _, _, _, _, _, _, _, w⟩ := z
  exact w.elim
theorem names_ref {c : Addr} (hm : X.mg x = some (.ref c)) (hg : Gl X x := by rfl) (hdb : (x == ("__debug__" : Str)) = false := by decide) : Names X x (.ref c) := ⟨hg, hdb, .inl hm⟩
/-- f(e, ..), f a name's def; what is raised is wished for at the caller's slots -/
def tCallU (i : Nat) (S : Addr → Sp → Prop) (W : WX) (t : TA) : TE := fun σ H Q => ∃ f sp, σ[i]? = some (some (.ref f)) ∧ S f sp ∧ t σ H fun vs H1 => sp vs H1 Q (WE W σ)
theorem pe_callU {S : Addr → Sp → Prop} (hS : ∀ f sp, S f sp → ∃ ps, Has X.prog X.w X.K X.mg X.base (L2.CX X.prog X.w) k f ps [] sp) (hr : Room j X.A) (tk : Takes X W) (ha : PA X (e :: es) t) (hkj : k ≤ j := by decide)
    (hN : X.N[i]? = some x := by rfl) (hv : Vis X.env.scope x := by first | exact Or.inl rfl | exact Or.inr (Or.inl rfl) | exact Or.inr (Or.inr rfl))
    (hdb : (x == ("__debug__" : Str)) = false := by decide) (hcd : (x == ("__classdict__" : Str)) = false := by decide)
    (he : starEach (e :: es) X.env = (false, eval e X.env) :: starEach es X.env := by rfl) (hpl : (backTo pos (starEach es X.env)).any (·.1) = false := by rfl) : PE X (.Call (.Name x p) (e :: es) [] pos) (tCallU i S W t) := by
  refine ⟨fun pins s σ H Q I h => ?_⟩
  obtain ⟨f, sp, hs, hSf, ht⟩ := h
  obtain ⟨ps, G⟩ := hS f sp hSf
  obtain ⟨fd, ds, F, hb, hd⟩ := G.ex
  refine wpAny_Call_Name_kw (thn ((pe_var (pos := p) hN hv hdb hcd).run pins s σ H (fun v H1 => v = .ref f ∧ H1 = H) I ⟨.ref f, hs, rfl, rfl⟩) fun u s1 ⟨v, H1, I1, r1, q1⟩ => ?_)
  obtain ⟨rfl, rfl⟩ := q1
  cases r1
  refine PySem.W.callWith_K (h₀ := X.base) I.ok.mod.kin G.kp (thn (ha.run pos pins s1 σ _ _ I1 ht) fun us s2 ⟨vs, H2, I2, r, q⟩ => ⟨I2.kIn, ?_⟩) he hpl
  exact run_fnSD (E := WE W) F (hr.mono hkj) hb hd (passAt tk σ) I2 r (by rw [List.append_nil]; exact q)
/-- isinstance of what the suite holds -/
def rIsX (K : PySem.W.Frag) (cls : Value) (d : Option Addr) (a : Addr) : List V → Hp → VK → Prop := fun xs H Q => ∃ D, cls = .ref D ∧ d = none ∧ ExcC K D ∧ rIsE K D a xs H Q
theorem call_isX {a : Addr} {oe : Obj} {pn : List (Addr × Obj)} {cls : Value} {d : Option Addr} (hz : Zc cls d oe) (hf : ∃ vs, oe.data = .fields vs) : CallR (X.suite a ((a, oe) :: pn)) (.builtin "isinstance") (rIsX X.K cls d a) := by
  intro pins s σ H xs us Q I r h
  obtain ⟨D, rfl, rfl, C, h⟩ := h
  exact call_isE C hz hf pins s σ H xs us Q I r h
theorem op_or {op : Value → Value → Sem Value} {r1 r2 : R2} (h1 : OpR X op r1) (h2 : OpR X op r2) : OpR X op (fun x y H Q => r1 x y H Q ∨ r2 x y H Q) := by
  intro pins s σ H x y v u Q I rx ry h
  rcases h with h | h
  · exact h1 pins s σ H x y v u Q I rx ry h
  · exact h2 pins s σ H x y v u Q I rx ry h
end
/-! ### what the head says of error classes -/
def xccF (C : Str) : Fct := fun K => ((decide (PySem.W.findIn K (.ref (He.ga K C)) "__getattribute__" = some (some (.builtin "BaseException.__getattribute__"))) && decide (PySem.W.findIn K (.ref (He.ga K C)) "__getattr__" = some none)) &&
  (decide (PySem.W.subIn K (.ref (He.ga K C)) (.type "BaseException") = some true) && PySem.W.hasDictIn K (He.ga K C))) &&
  ((decide (PySem.W.findIn K (.ref (He.ga K C)) "__class__" = some (some (.builtin "object.__class__"))) && decide (PySem.W.specialIn K (.builtin "object.__class__") "__get__" = some (some (.builtin "getset_descriptor.__get__")))) &&
  (decide (PySem.W.takesIn K (.builtin "object.__class__") = some true) && decide (PySem.W.mroIn K (He.ga K C) (.type "object") = some true)))
theorem xccF_ok {C : Str} {K : PySem.W.Frag} (h : xccF C K = true) : ExcC K (He.ga K C) := by
  unfold xccF at h
  simp only [Bool.and_eq_true, decide_eq_true_eq] at h
  obtain ⟨⟨⟨h1, h2⟩, h3, h4⟩, ⟨h5, h6⟩, h7, h8⟩ := h
  exact ⟨h1, h2, h3, h4, h5, h6, h7, h8⟩
/-- of which class is an instance of C -/
def kitF (C D : Str) (b : Bool) : Fct := fun K => decide (PySem.W.kitOne K (.ref (He.ga K C)) (.ref (He.ga K D)) = some b)
theorem kitF_ok {C D : Str} {b : Bool} {K : PySem.W.Frag} (h : kitF C D b K = true) : PySem.W.kitOne K (.ref (He.ga K C)) (.ref (He.ga K D)) = some b := of_decide_eq_true h
def kitTF (C : Str) (D : String) (b : Bool) : Fct := fun K => decide (PySem.W.kitOne K (.ref (He.ga K C)) (.type D) = some b)
theorem kitTF_ok {C : Str} {D : String} {b : Bool} {K : PySem.W.Frag} (h : kitTF C D b K = true) : PySem.W.kitOne K (.ref (He.ga K C)) (.type D) = some b := of_decide_eq_true h
def exmF (C D : Str) (b : Bool) : Fct := fun K => decide (PySem.W.exmOne K (.ref (He.ga K C)) (.ref (He.ga K D)) = some b)
theorem exmF_ok {C D : Str} {b : Bool} {K : PySem.W.Frag} (h : exmF C D b K = true) : PySem.W.exmOne K (.ref (He.ga K C)) (.ref (He.ga K D)) = some b := of_decide_eq_true h
/-! ### [x for x, y in zip(xs, ys) if y] -/
theorem lc_zip {K : PySem.W.Frag} {a b : Addr} {xs ys : List V} {g : TG} {tt : TT} {te : TE} {vs : List Nat} {σ : L2.St} {H1 : Hp} {D : Addr} {Qd : Hp → Prop} (hl : xs.length = ys.length) (Pv : Nat → Hp → Prop) (h0 : Pv 0 (L2.upd H1 D (.lst [])))
    (hq : ∀ i H, Pv i H → SqL K H a xs ∧ SqL K H b ys)
    (hs : ∀ (i : Nat) (x y : V) (T : Addr) (H : Hp), xs[i]? = some x → ys[i]? = some y → Pv i H → H T = none → g (.ref T) (wipe σ vs) (L2.upd H T (.tup [x, y])) fun σ2 H2 => wipe σ2 vs = wipe σ vs ∧ tt σ2 H2 fun b H3 =>
      if b = true then te σ2 H3 fun y H4 => ∃ acc, H4 D = some (.lst acc) ∧ acc.length < sizeLine ∧ Pv (i + 1) (L2.upd H4 D (.lst (acc ++ [y]))) else Pv (i + 1) H3) (hd : ∀ H, Pv xs.length H → Qd H) :
    ∃ W : Nat → Nat → Hp → Prop, (∃ m, W 0 m (L2.upd H1 D (.lst []))) ∧ ∀ i m H, W i m H →
      ((Itz K a b).stop i H ∧ Qd H) ∨ ((Itz K a b).go i H ∧ ∃ Nx : Hp → Prop, (∀ H', Nx H' → ∃ m', m' < m ∧ W (i + 1) m' H') ∧ ∀ x H', (Itz K a b).yld i H x H' → g x (wipe σ vs) H' fun σ2 H2 => wipe σ2 vs = wipe σ vs ∧ tt σ2 H2 fun b H3 =>
        if b = true then te σ2 H3 fun y H4 => ∃ acc, H4 D = some (.lst acc) ∧ acc.length < sizeLine ∧ Nx (L2.upd H4 D (.lst (acc ++ [y]))) else Nx H3) := by
  refine ⟨fun i m H => m = xs.length - i ∧ i ≤ xs.length ∧ Pv i H, ⟨xs.length, rfl, Nat.zero_le _, h0⟩, ?_⟩
  rintro i m H ⟨rfl, hi, p⟩
  obtain ⟨q1, q2⟩ := hq i H p
  by_cases hlt : i < xs.length
  · have hlt2 : i < ys.length := by omega
    refine .inr ⟨⟨xs, ys, xs[i], ys[i], q1, q2, by simp [hlt], by simp [hlt2]⟩, Pv (i + 1), fun H' p' => ⟨xs.length - (i + 1), by omega, rfl, hlt, p'⟩, fun v H' y => ?_⟩
    obtain ⟨T, x, y, rfl, nT, rfl, e1, e2⟩ := y
    exact hs i x y T H (e1 xs q1) (e2 ys q2) p nT
  · have e : i = xs.length := by omega
    subst e
    exact .inl ⟨⟨xs, ys, q1, q2, .inl (Nat.le_refl _)⟩, hd H p⟩
theorem lc_zipB {K : PySem.W.Frag} {a b : Addr} {xs : List V} {bs : List Bool} {i j : Nat} {vs : List Nat} {σ : L2.St} {H1 : Hp} {D : Addr} {Qd : Hp → Prop} (nD : H1 D = none) (hl : xs.length = bs.length) (hz : xs.length ≤ 1000) (hS : SqL K H1 a xs) (hB : SqL K H1 b (bs.map V.bl))
    (hw : ∀ x y : V, wipe (((wipe σ vs).set i (some x)).set j (some y)) vs = wipe σ vs) (hi : ∀ x y : V, (((wipe σ vs).set i (some x)).set j (some y))[i]? = some (some x)) (hj : ∀ x y : V, (((wipe σ vs).set i (some x)).set j (some y))[j]? = some (some y))
    (hd : ∀ H, Same H1 H → H D = some (.lst (((xs.zip bs).filter (·.2)).map (·.1))) → Qd H) :
    ∃ W : Nat → Nat → Hp → Prop, (∃ m, W 0 m (L2.upd H1 D (.lst []))) ∧ ∀ n m H, W n m H →
      ((Itz K a b).stop n H ∧ Qd H) ∨ ((Itz K a b).go n H ∧ ∃ Nx : Hp → Prop, (∀ H', Nx H' → ∃ m', m' < m ∧ W (n + 1) m' H') ∧ ∀ x H', (Itz K a b).yld n H x H' → gTup K 2 (gCons (gName i) (gCons (gName j) gNil)) x (wipe σ vs) H' fun σ2 H2 => wipe σ2 vs = wipe σ vs ∧ tB (tVar j) σ2 H2 fun b H3 =>
        if b = true then tVar i σ2 H3 fun y H4 => ∃ acc, H4 D = some (.lst acc) ∧ acc.length < sizeLine ∧ Nx (L2.upd H4 D (.lst (acc ++ [y]))) else Nx H3) := by
  refine lc_zip (xs := xs) (ys := bs.map V.bl) (by rw [List.length_map, hl]) (fun n H => Same H1 H ∧ H D = some (.lst ((((xs.zip bs).take n).filter (·.2)).map (·.1)))) ⟨Same.new nD, upd_same⟩ (fun n H z => ⟨z.1.seq hS, z.1.seq hB⟩) (fun n x y T H hx hy z nT => ?_) fun H z => hd H z.1 ?_
  · obtain ⟨sm, hD⟩ := z
    rw [List.getElem?_map] at hy
    obtain ⟨c, hc, rfl⟩ := Option.map_eq_some_iff.mp hy
    have hn : n < xs.length := (List.getElem?_eq_some_iff.mp hx).1
    have hzp : (xs.zip bs)[n]? = some (x, c) := by rw [List.getElem?_zip_eq_some]; exact ⟨hx, hc⟩
    refine ⟨T, _, rfl, SqT.of upd_same, rfl, x, _, rfl, _, _, rfl, rfl, hw _ _, _, hj _ _, c, rfl, ?_⟩
    have s2 : Same H (L2.upd H T (.tup [x, .bl c])) := Same.new nT
    cases c with
    | true =>
      refine iteT ?_
      refine ⟨_, hi _ _, _, s2 _ _ hD, ?_, Same.mut (sm.trans s2) nD, ?_⟩
      · rw [List.length_map]
        have := List.length_filter_le (fun p : V × Bool => p.2) ((xs.zip bs).take n)
        rw [List.length_take] at this
        exact Nat.lt_of_le_of_lt this (Nat.lt_of_le_of_lt (Nat.min_le_left _ _) (Nat.lt_trans hn (Nat.lt_of_le_of_lt hz (by decide))))
      · rw [upd_same, List.take_add_one, hzp]
        simp
    | false =>
      refine iteF ?_
      refine ⟨sm.trans s2, ?_⟩
      rw [s2 _ _ hD, List.take_add_one, hzp]
      simp
  · rw [z.2, List.take_of_length_le (by rw [List.length_zip]; omega)]
/-- a loop over a list whose body leaves what stood -/
theorem for_each {K : PySem.W.Frag} {a : Addr} {xs : List V} {i : Nat} {tb : TS} {D : Ends} {σ : L2.St} {H : Hp} (hl : SqL K H a xs) (u0 : Option V) (h0 : σ = σ.set i u0)
    (hs : ∀ (u : Option V) (x : V) (H' : Hp), x ∈ xs → Same H H' → tb { D with nx := fun σ' H9 => (∃ u, σ' = σ.set i u) ∧ Same H H9, ct := fun σ' H9 => (∃ u, σ' = σ.set i u) ∧ Same H H9, bk := D.nx } (σ.set i (some x)) H') (hd : ∀ u H', Same H H' → D.nx (σ.set i u) H') :
    ∃ W : Nat → Nat → L2.St → Hp → Prop, (∃ m, W 0 m σ H) ∧ ∀ j m σ H, W j m σ H →
      ((Itl K a).stop j H ∧ D.nx σ H) ∨ ((Itl K a).go j H ∧ ∃ N : L2.St → Hp → Prop, (∀ σ' H', N σ' H' → ∃ m', m' < m ∧ W (j + 1) m' σ' H') ∧ ∀ x H', (Itl K a).yld j H x H' → gName i x σ H' fun σ2 H2 => tb { D with nx := N, ct := N, bk := D.nx } σ2 H2) := by
  refine for_list (xs := xs) (fun _ σ' H' => (∃ u, σ' = σ.set i u) ∧ Same H H') ⟨⟨u0, h0⟩, Same.refl _⟩ (fun _ _ _ _ z => z.2.seq hl) (fun j x σ' H' hx z => ?_) (fun σ' H' z => ?_)
  · obtain ⟨⟨u, rfl⟩, s⟩ := z
    show tb _ ((σ.set i u).set i (some x)) H'
    rw [List.set_set]
    exact hs u x H' (List.mem_of_getElem? hx) s
  · obtain ⟨⟨u, rfl⟩, s⟩ := z
    exact hd u H' s
theorem tyx_same {K : PySem.W.Frag} {H H' : Hp} {v : V} {t : Value} (h : TyX K H v t) (s : Same H H') : TyX K H' v t := by
  cases h with
  | base b =>
    refine .base ?_
    cases b with
    | non => exact .non
    | bl x => exact .bl x
    | int x => exact .int x
    | str x => exact .str x
    | flt x => exact .flt x
    | lst e => exact .lst (s _ _ e)
    | frz e => exact .frz (s _ _ e)
    | tup e => exact .tup (s _ _ e)
    | dK e => exact .dK (s _ _ e)
    | dT e => exact .dT (s _ _ e)
    | ins e cl ha hn htk hm => exact .ins (s _ _ e) cl ha hn htk hm
  | byt b => exact .byt b
  | set e => exact .set (s _ _ e)
  | kList e c => exact .kList e c
  | kTuple e c => exact .kTuple e c
  | kDict e c => exact .kDict e c
  | fTuple e => exact .fTuple (s _ _ e)
  | fDict e => exact .fDict (s _ _ e)
theorem NW.same {K : PySem.W.Frag} {H H' : Hp} {v : V} (h : NW K H v) (s : Same H H') : NW K H' v := by
  obtain ⟨t, i, b, ty, z⟩ := h
  exact ⟨t, i, b, tyx_same ty s, z⟩
/-- .. whose body sets a second slot -/
theorem for_each2 {K : PySem.W.Frag} {a : Addr} {xs : List V} {i j : Nat} {tb : TS} {D : Ends} {σ : L2.St} {H : Hp} (hij : i ≠ j) (hl : SqL K H a xs) (u0 v0 : Option V) (h0 : σ = (σ.set i u0).set j v0)
    (hs : ∀ (v : Option V) (x : V) (H' : Hp), x ∈ xs → Same H H' → tb { D with nx := fun σ' H9 => (∃ u v, σ' = (σ.set i u).set j v) ∧ Same H H9, ct := fun σ' H9 => (∃ u v, σ' = (σ.set i u).set j v) ∧ Same H H9, bk := D.nx } ((σ.set i (some x)).set j v) H') (hd : ∀ u v H', Same H H' → D.nx ((σ.set i u).set j v) H') :
    ∃ W : Nat → Nat → L2.St → Hp → Prop, (∃ m, W 0 m σ H) ∧ ∀ n m σ H, W n m σ H →
      ((Itl K a).stop n H ∧ D.nx σ H) ∨ ((Itl K a).go n H ∧ ∃ N : L2.St → Hp → Prop, (∀ σ' H', N σ' H' → ∃ m', m' < m ∧ W (n + 1) m' σ' H') ∧ ∀ x H', (Itl K a).yld n H x H' → gName i x σ H' fun σ2 H2 => tb { D with nx := N, ct := N, bk := D.nx } σ2 H2) := by
  refine for_list (xs := xs) (fun _ σ' H' => (∃ u v, σ' = (σ.set i u).set j v) ∧ Same H H') ⟨⟨u0, v0, h0⟩, Same.refl _⟩ (fun _ _ _ _ z => z.2.seq hl) (fun n x σ' H' hx z => ?_) (fun σ' H' z => ?_)
  · obtain ⟨⟨u, v, rfl⟩, s⟩ := z
    show tb _ (((σ.set i u).set j v).set i (some x)) H'
    rw [List.set_comm _ _ (Ne.symm hij), List.set_set]
    exact hs v x H' (List.mem_of_getElem? hx) s
  · obtain ⟨⟨u, v, rfl⟩, s⟩ := z
    exact hd u v H' s
end Rg
namespace Lw
open PySem PySem.Spec PyProof.Rows L2 Rg
def top (i : Nat) : Stmt := PySem.Challenge.pw_ringindexes_k03_forms_refused.main.body.getD i (.Pass ⟨0, 0, 0, 0⟩)
abbrev s_is_whole : Stmt := top 14
abbrev s_is_between : Stmt := top 15
abbrev s_is_size : Stmt := top 16
abbrev s_digits_in : Stmt := top 17
abbrev s_signed_in : Stmt := top 18
abbrev s_operand_of : Stmt := top 21
abbrev s_sign_of : Stmt := top 22
abbrev s_show_form : Stmt := top 23
abbrev s_slope_in : Stmt := top 24
abbrev s_form_in : Stmt := top 25
abbrev s__law_source : Stmt := top 27
abbrev s__law_draw : Stmt := top 28
abbrev s__law_pick : Stmt := top 29
abbrev s__law_form : Stmt := top 30
abbrev s__law_size : Stmt := top 31
abbrev s__law_caught : Stmt := top 32
abbrev s__law_made : Stmt := top 33
abbrev s__law_sum : Stmt := top 34
abbrev s__law_difference : Stmt := top 35
abbrev s__law_product : Stmt := top 36
abbrev s__law_compare : Stmt := top 37
abbrev s__law_compare_too : Stmt := top 38
abbrev s__law_greater : Stmt := top 39
abbrev s__law_at_least : Stmt := top 40
abbrev s__law_call : Stmt := top 41
abbrev s__law_other : Stmt := top 42
abbrev s_law : Stmt := top 43
abbrev s_Form___init__ : Stmt := inClass (top 20) 0
abbrev s_Form___call__ : Stmt := inClass (top 20) 1
abbrev s_Form___add__ : Stmt := inClass (top 20) 2
abbrev s_Form___radd__ : Stmt := inClass (top 20) 3
abbrev s_Form___sub__ : Stmt := inClass (top 20) 4
abbrev s_Form___rsub__ : Stmt := inClass (top 20) 5
abbrev s_Form___mul__ : Stmt := inClass (top 20) 6
abbrev s_Form___rmul__ : Stmt := inClass (top 20) 7
abbrev s_Form___neg__ : Stmt := inClass (top 20) 8
abbrev s_Form___eq__ : Stmt := inClass (top 20) 9
abbrev s_Form___lt__ : Stmt := inClass (top 20) 10
abbrev s_Form___le__ : Stmt := inClass (top 20) 11
abbrev s_Form___gt__ : Stmt := inClass (top 20) 12
abbrev s_Form___ge__ : Stmt := inClass (top 20) 13
def d_is_whole : DefM := ⟨fun K => He.ga K "is_whole", "is_whole", "is_whole", defArgs s_is_whole, defBody s_is_whole, defScope s_is_whole, [], []⟩
def d_is_between : DefM := ⟨fun K => He.ga K "is_between", "is_between", "is_between", defArgs s_is_between, defBody s_is_between, defScope s_is_between, [], []⟩
def d_is_size : DefM := ⟨fun K => He.ga K "is_size", "is_size", "is_size", defArgs s_is_size, defBody s_is_size, defScope s_is_size, [], []⟩
def d_digits_in : DefM := ⟨fun K => He.ga K "digits_in", "digits_in", "digits_in", defArgs s_digits_in, defBody s_digits_in, defScope s_digits_in, [], []⟩
def d_signed_in : DefM := ⟨fun K => He.ga K "signed_in", "signed_in", "signed_in", defArgs s_signed_in, defBody s_signed_in, defScope s_signed_in, [], []⟩
def d_operand_of : DefM := ⟨fun K => He.ga K "operand_of", "operand_of", "operand_of", defArgs s_operand_of, defBody s_operand_of, defScope s_operand_of, [], []⟩
def d_sign_of : DefM := ⟨fun K => He.ga K "sign_of", "sign_of", "sign_of", defArgs s_sign_of, defBody s_sign_of, defScope s_sign_of, [], []⟩
def d_show_form : DefM := ⟨fun K => He.ga K "show_form", "show_form", "show_form", defArgs s_show_form, defBody s_show_form, defScope s_show_form, [], []⟩
def d_slope_in : DefM := ⟨fun K => He.ga K "slope_in", "slope_in", "slope_in", defArgs s_slope_in, defBody s_slope_in, defScope s_slope_in, [], []⟩
def d_form_in : DefM := ⟨fun K => He.ga K "form_in", "form_in", "form_in", defArgs s_form_in, defBody s_form_in, defScope s_form_in, [], []⟩
def d__law_source : DefM := ⟨fun K => He.ga K "_law_source", "_law_source", "_law_source", defArgs s__law_source, defBody s__law_source, defScope s__law_source, [], []⟩
def d__law_draw : DefM := ⟨fun K => He.ga K "_law_draw", "_law_draw", "_law_draw", defArgs s__law_draw, defBody s__law_draw, defScope s__law_draw, [], []⟩
def d__law_pick : DefM := ⟨fun K => He.ga K "_law_pick", "_law_pick", "_law_pick", defArgs s__law_pick, defBody s__law_pick, defScope s__law_pick, [], []⟩
def d__law_form : DefM := ⟨fun K => He.ga K "_law_form", "_law_form", "_law_form", defArgs s__law_form, defBody s__law_form, defScope s__law_form, [], []⟩
def d__law_size : DefM := ⟨fun K => He.ga K "_law_size", "_law_size", "_law_size", defArgs s__law_size, defBody s__law_size, defScope s__law_size, [], []⟩
def d__law_caught : DefM := ⟨fun K => He.ga K "_law_caught", "_law_caught", "_law_caught", defArgs s__law_caught, defBody s__law_caught, defScope s__law_caught, [], []⟩
def d__law_made : DefM := ⟨fun K => He.ga K "_law_made", "_law_made", "_law_made", defArgs s__law_made, defBody s__law_made, defScope s__law_made, [], []⟩
def d__law_sum : DefM := ⟨fun K => He.ga K "_law_sum", "_law_sum", "_law_sum", defArgs s__law_sum, defBody s__law_sum, defScope s__law_sum, [], []⟩
def d__law_difference : DefM := ⟨fun K => He.ga K "_law_difference", "_law_difference", "_law_difference", defArgs s__law_difference, defBody s__law_difference, defScope s__law_difference, [], []⟩
def d__law_product : DefM := ⟨fun K => He.ga K "_law_product", "_law_product", "_law_product", defArgs s__law_product, defBody s__law_product, defScope s__law_product, [], []⟩
def d__law_compare : DefM := ⟨fun K => He.ga K "_law_compare", "_law_compare", "_law_compare", defArgs s__law_compare, defBody s__law_compare, defScope s__law_compare, [], []⟩
def d__law_compare_too : DefM := ⟨fun K => He.ga K "_law_compare_too", "_law_compare_too", "_law_compare_too", defArgs s__law_compare_too, defBody s__law_compare_too, defScope s__law_compare_too, [], []⟩
def d__law_greater : DefM := ⟨fun K => He.ga K "_law_greater", "_law_greater", "_law_greater", defArgs s__law_greater, defBody s__law_greater, defScope s__law_greater, [], []⟩
def d__law_at_least : DefM := ⟨fun K => He.ga K "_law_at_least", "_law_at_least", "_law_at_least", defArgs s__law_at_least, defBody s__law_at_least, defScope s__law_at_least, [], []⟩
def d__law_call : DefM := ⟨fun K => He.ga K "_law_call", "_law_call", "_law_call", defArgs s__law_call, defBody s__law_call, defScope s__law_call, [], []⟩
def d__law_other : DefM := ⟨fun K => He.ga K "_law_other", "_law_other", "_law_other", defArgs s__law_other, defBody s__law_other, defScope s__law_other, [], []⟩
def d_law : DefM := ⟨fun K => He.ga K "law", "law", "law", defArgs s_law, defBody s_law, defScope s_law, [], []⟩
def d_Form___init__ : DefM := ⟨fun K => He.ma K (He.ga K "Form") "__init__", "__init__", "Form.__init__", defArgs s_Form___init__, defBody s_Form___init__, defScope s_Form___init__, [], []⟩
def d_Form___call__ : DefM := ⟨fun K => He.ma K (He.ga K "Form") "__call__", "__call__", "Form.__call__", defArgs s_Form___call__, defBody s_Form___call__, defScope s_Form___call__, [], []⟩
def d_Form___add__ : DefM := ⟨fun K => He.ma K (He.ga K "Form") "__add__", "__add__", "Form.__add__", defArgs s_Form___add__, defBody s_Form___add__, defScope s_Form___add__, [], []⟩
def d_Form___radd__ : DefM := ⟨fun K => He.ma K (He.ga K "Form") "__radd__", "__radd__", "Form.__radd__", defArgs s_Form___radd__, defBody s_Form___radd__, defScope s_Form___radd__, [], []⟩
def d_Form___sub__ : DefM := ⟨fun K => He.ma K (He.ga K "Form") "__sub__", "__sub__", "Form.__sub__", defArgs s_Form___sub__, defBody s_Form___sub__, defScope s_Form___sub__, [], []⟩
def d_Form___rsub__ : DefM := ⟨fun K => He.ma K (He.ga K "Form") "__rsub__", "__rsub__", "Form.__rsub__", defArgs s_Form___rsub__, defBody s_Form___rsub__, defScope s_Form___rsub__, [], []⟩
def d_Form___mul__ : DefM := ⟨fun K => He.ma K (He.ga K "Form") "__mul__", "__mul__", "Form.__mul__", defArgs s_Form___mul__, defBody s_Form___mul__, defScope s_Form___mul__, [], []⟩
def d_Form___rmul__ : DefM := ⟨fun K => He.ma K (He.ga K "Form") "__rmul__", "__rmul__", "Form.__rmul__", defArgs s_Form___rmul__, defBody s_Form___rmul__, defScope s_Form___rmul__, [], []⟩
def d_Form___neg__ : DefM := ⟨fun K => He.ma K (He.ga K "Form") "__neg__", "__neg__", "Form.__neg__", defArgs s_Form___neg__, defBody s_Form___neg__, defScope s_Form___neg__, [], []⟩
def d_Form___eq__ : DefM := ⟨fun K => He.ma K (He.ga K "Form") "__eq__", "__eq__", "Form.__eq__", defArgs s_Form___eq__, defBody s_Form___eq__, defScope s_Form___eq__, [], []⟩
def d_Form___lt__ : DefM := ⟨fun K => He.ma K (He.ga K "Form") "__lt__", "__lt__", "Form.__lt__", defArgs s_Form___lt__, defBody s_Form___lt__, defScope s_Form___lt__, [], []⟩
def d_Form___le__ : DefM := ⟨fun K => He.ma K (He.ga K "Form") "__le__", "__le__", "Form.__le__", defArgs s_Form___le__, defBody s_Form___le__, defScope s_Form___le__, [], []⟩
def d_Form___gt__ : DefM := ⟨fun K => He.ma K (He.ga K "Form") "__gt__", "__gt__", "Form.__gt__", defArgs s_Form___gt__, defBody s_Form___gt__, defScope s_Form___gt__, [], []⟩
def d_Form___ge__ : DefM := ⟨fun K => He.ma K (He.ga K "Form") "__ge__", "__ge__", "Form.__ge__", defArgs s_Form___ge__, defBody s_Form___ge__, defScope s_Form___ge__, [], []⟩
def fnL : List DefM := [d_is_whole, d_is_between, d_is_size, d_digits_in, d_signed_in, d_operand_of, d_sign_of, d_show_form, d_slope_in, d_form_in, d__law_source, d__law_draw, d__law_pick, d__law_form, d__law_size, d__law_caught, d__law_made, d__law_sum, d__law_difference, d__law_product, d__law_compare, d__law_compare_too, d__law_greater, d__law_at_least, d__law_call, d__law_other, d_law, d_Form___init__, d_Form___call__, d_Form___add__, d_Form___radd__, d_Form___sub__, d_Form___rsub__, d_Form___mul__, d_Form___rmul__, d_Form___neg__, d_Form___eq__, d_Form___lt__, d_Form___le__, d_Form___gt__, d_Form___ge__]
def faL : List Fct := [(He.Fa.glo "is_whole").ok,
  (He.Fa.glo "is_between").ok,
  (He.Fa.glo "is_size").ok,
  (He.Fa.glo "digits_in").ok,
  (He.Fa.glo "signed_in").ok,
  (He.Fa.glo "operand_of").ok,
  (He.Fa.glo "sign_of").ok,
  (He.Fa.glo "show_form").ok,
  (He.Fa.glo "slope_in").ok,
  (He.Fa.glo "form_in").ok,
  (He.Fa.glo "_law_source").ok,
  (He.Fa.glo "_law_draw").ok,
  (He.Fa.glo "_law_pick").ok,
  (He.Fa.glo "_law_form").ok,
  (He.Fa.glo "_law_size").ok,
  (He.Fa.glo "_law_caught").ok,
  (He.Fa.glo "_law_made").ok,
  (He.Fa.glo "_law_sum").ok,
  (He.Fa.glo "_law_difference").ok,
  (He.Fa.glo "_law_product").ok,
  (He.Fa.glo "_law_compare").ok,
  (He.Fa.glo "_law_compare_too").ok,
  (He.Fa.glo "_law_greater").ok,
  (He.Fa.glo "_law_at_least").ok,
  (He.Fa.glo "_law_call").ok,
  (He.Fa.glo "_law_other").ok,
  (He.Fa.glo "law").ok,
  (He.Fa.free "len").ok,
  (He.Fa.free "range").ok,
  (He.Fa.free "max").ok,
  (He.Fa.free "min").ok,
  (He.Fa.free "abs").ok,
  (He.Fa.free "int").ok,
  (He.Fa.free "bool").ok,
  (He.Fa.free "isinstance").ok,
  (He.Fa.free "str").ok,
  (He.Fa.free "zip").ok,
  (He.Fa.free "ValueError").ok,
  (He.Fa.int "LARGEST" (10 ^ 30)).ok,
  (He.Fa.glo "Form").ok,
  (He.Fa.cls "Form").ok,
  (He.Fa.noat "Form" "slope").ok,
  (He.Fa.noat "Form" "base").ok,
  (He.Fa.mkr "Form").ok,
  (He.Fa.meth "Form" "__call__").ok,
  (He.Fa.meth "Form" "__add__").ok,
  (He.Fa.meth "Form" "__radd__").ok,
  (He.Fa.meth "Form" "__sub__").ok,
  (He.Fa.meth "Form" "__rsub__").ok,
  (He.Fa.meth "Form" "__mul__").ok,
  (He.Fa.meth "Form" "__rmul__").ok,
  (He.Fa.meth "Form" "__neg__").ok,
  (He.Fa.meth "Form" "__eq__").ok,
  (He.Fa.meth "Form" "__lt__").ok,
  (He.Fa.meth "Form" "__le__").ok,
  (He.Fa.meth "Form" "__gt__").ok,
  (He.Fa.meth "Form" "__ge__").ok,
  insF "Form",
  (He.Fa.exc "NoForm").ok,
  (He.Fa.exc "NoSize").ok,
  (He.Fa.glo "NoForm").ok,
  (He.Fa.glo "NoSize").ok,
  binF "Form" .Add,
  binF "Form" .Sub,
  binF "Form" .Mult,
  refF "Form" .Add,
  refF "Form" .Sub,
  refF "Form" .Mult,
  cmpF "Form" .Eq,
  cmpF "Form" .Lt,
  cmpF "Form" .LtE,
  cmpF "Form" .Gt,
  cmpF "Form" .GtE,
  neF "Form",
  dunF "Form" "__neg__",
  callF "Form",
  (He.Fa.glo "NoCounter").ok,
  (He.Fa.glo "NoScheme").ok,
  (He.Fa.glo "NoRing").ok,
  (He.Fa.glo "Outside").ok,
  (He.Fa.glo "NoRun").ok,
  (He.Fa.glo "NoSet").ok,
  (He.Fa.glo "TooLong").ok,
  (He.Fa.glo "RingError").ok,
  xccF "NoForm",
  kitTF "NoForm" "ValueError" true,
  exmF "NoForm" "RingError" true,
  kitF "NoForm" "NoForm" true,
  kitF "NoForm" "NoCounter" false,
  kitF "NoForm" "NoScheme" false,
  kitF "NoForm" "NoSize" false,
  kitF "NoForm" "NoRing" false,
  kitF "NoForm" "Outside" false,
  kitF "NoForm" "NoRun" false,
  kitF "NoForm" "NoSet" false,
  kitF "NoForm" "TooLong" false,
  xccF "NoSize",
  kitTF "NoSize" "ValueError" true,
  exmF "NoSize" "RingError" true,
  kitF "NoSize" "NoForm" false,
  kitF "NoSize" "NoCounter" false,
  kitF "NoSize" "NoScheme" false,
  kitF "NoSize" "NoSize" true,
  kitF "NoSize" "NoRing" false,
  kitF "NoSize" "Outside" false,
  kitF "NoSize" "NoRun" false,
  kitF "NoSize" "NoSet" false,
  kitF "NoSize" "TooLong" false]
abbrev TopL (K : PySem.W.Frag) (mg : Str → Option Value) : Prop := Top faL fnL K mg
section
variable {K : PySem.W.Frag} {mg : Str → Option Value}
theorem mg_is_whole (T : TopL K mg) : mg "is_whole" = some (.ref (He.ga K "is_whole")) := T.glo 0 rfl
theorem mg_is_between (T : TopL K mg) : mg "is_between" = some (.ref (He.ga K "is_between")) := T.glo 1 rfl
theorem mg_is_size (T : TopL K mg) : mg "is_size" = some (.ref (He.ga K "is_size")) := T.glo 2 rfl
theorem mg_digits_in (T : TopL K mg) : mg "digits_in" = some (.ref (He.ga K "digits_in")) := T.glo 3 rfl
theorem mg_signed_in (T : TopL K mg) : mg "signed_in" = some (.ref (He.ga K "signed_in")) := T.glo 4 rfl
theorem mg_operand_of (T : TopL K mg) : mg "operand_of" = some (.ref (He.ga K "operand_of")) := T.glo 5 rfl
theorem mg_sign_of (T : TopL K mg) : mg "sign_of" = some (.ref (He.ga K "sign_of")) := T.glo 6 rfl
theorem mg_show_form (T : TopL K mg) : mg "show_form" = some (.ref (He.ga K "show_form")) := T.glo 7 rfl
theorem mg_slope_in (T : TopL K mg) : mg "slope_in" = some (.ref (He.ga K "slope_in")) := T.glo 8 rfl
theorem mg_form_in (T : TopL K mg) : mg "form_in" = some (.ref (He.ga K "form_in")) := T.glo 9 rfl
theorem mg__law_source (T : TopL K mg) : mg "_law_source" = some (.ref (He.ga K "_law_source")) := T.glo 10 rfl
theorem mg__law_draw (T : TopL K mg) : mg "_law_draw" = some (.ref (He.ga K "_law_draw")) := T.glo 11 rfl
theorem mg__law_pick (T : TopL K mg) : mg "_law_pick" = some (.ref (He.ga K "_law_pick")) := T.glo 12 rfl
theorem mg__law_form (T : TopL K mg) : mg "_law_form" = some (.ref (He.ga K "_law_form")) := T.glo 13 rfl
theorem mg__law_size (T : TopL K mg) : mg "_law_size" = some (.ref (He.ga K "_law_size")) := T.glo 14 rfl
theorem mg__law_caught (T : TopL K mg) : mg "_law_caught" = some (.ref (He.ga K "_law_caught")) := T.glo 15 rfl
theorem mg__law_made (T : TopL K mg) : mg "_law_made" = some (.ref (He.ga K "_law_made")) := T.glo 16 rfl
theorem mg__law_sum (T : TopL K mg) : mg "_law_sum" = some (.ref (He.ga K "_law_sum")) := T.glo 17 rfl
theorem mg__law_difference (T : TopL K mg) : mg "_law_difference" = some (.ref (He.ga K "_law_difference")) := T.glo 18 rfl
theorem mg__law_product (T : TopL K mg) : mg "_law_product" = some (.ref (He.ga K "_law_product")) := T.glo 19 rfl
theorem mg__law_compare (T : TopL K mg) : mg "_law_compare" = some (.ref (He.ga K "_law_compare")) := T.glo 20 rfl
theorem mg__law_compare_too (T : TopL K mg) : mg "_law_compare_too" = some (.ref (He.ga K "_law_compare_too")) := T.glo 21 rfl
theorem mg__law_greater (T : TopL K mg) : mg "_law_greater" = some (.ref (He.ga K "_law_greater")) := T.glo 22 rfl
theorem mg__law_at_least (T : TopL K mg) : mg "_law_at_least" = some (.ref (He.ga K "_law_at_least")) := T.glo 23 rfl
theorem mg__law_call (T : TopL K mg) : mg "_law_call" = some (.ref (He.ga K "_law_call")) := T.glo 24 rfl
theorem mg__law_other (T : TopL K mg) : mg "_law_other" = some (.ref (He.ga K "_law_other")) := T.glo 25 rfl
theorem mg_law (T : TopL K mg) : mg "law" = some (.ref (He.ga K "law")) := T.glo 26 rfl
theorem fr_len (T : TopL K mg) : mg "len" = none := T.free 27 rfl
theorem fr_range (T : TopL K mg) : mg "range" = none := T.free 28 rfl
theorem fr_max (T : TopL K mg) : mg "max" = none := T.free 29 rfl
theorem fr_min (T : TopL K mg) : mg "min" = none := T.free 30 rfl
theorem fr_abs (T : TopL K mg) : mg "abs" = none := T.free 31 rfl
theorem fr_int (T : TopL K mg) : mg "int" = none := T.free 32 rfl
theorem fr_bool (T : TopL K mg) : mg "bool" = none := T.free 33 rfl
theorem fr_isinstance (T : TopL K mg) : mg "isinstance" = none := T.free 34 rfl
theorem fr_str (T : TopL K mg) : mg "str" = none := T.free 35 rfl
theorem fr_zip (T : TopL K mg) : mg "zip" = none := T.free 36 rfl
theorem fr_ValueError (T : TopL K mg) : mg "ValueError" = none := T.free 37 rfl
theorem gi_LARGEST (T : TopL K mg) : ∃ t, mg "LARGEST" = some (.int (10 ^ 30) t) := T.int 38 rfl
theorem mg_Form (T : TopL K mg) : mg "Form" = some (.ref (He.ga K "Form")) := T.glo 39 rfl
theorem cl_Form (T : TopL K mg) : Cls K (He.ga K "Form") := T.cls 40 rfl
theorem na_Form_slope (T : TopL K mg) : NoAttr K (He.ga K "Form") "slope" := T.noat 41 rfl
theorem na_Form_base (T : TopL K mg) : NoAttr K (He.ga K "Form") "base" := T.noat 42 rfl
theorem mk_Form (T : TopL K mg) : Mk K (He.ga K "Form") (He.ma K (He.ga K "Form") "__init__") := T.mkr 43 rfl
theorem me_Form___call__ (T : TopL K mg) : Meth K (He.ga K "Form") "__call__" (He.ma K (He.ga K "Form") "__call__") := T.meth 44 rfl
theorem me_Form___add__ (T : TopL K mg) : Meth K (He.ga K "Form") "__add__" (He.ma K (He.ga K "Form") "__add__") := T.meth 45 rfl
theorem me_Form___radd__ (T : TopL K mg) : Meth K (He.ga K "Form") "__radd__" (He.ma K (He.ga K "Form") "__radd__") := T.meth 46 rfl
theorem me_Form___sub__ (T : TopL K mg) : Meth K (He.ga K "Form") "__sub__" (He.ma K (He.ga K "Form") "__sub__") := T.meth 47 rfl
theorem me_Form___rsub__ (T : TopL K mg) : Meth K (He.ga K "Form") "__rsub__" (He.ma K (He.ga K "Form") "__rsub__") := T.meth 48 rfl
theorem me_Form___mul__ (T : TopL K mg) : Meth K (He.ga K "Form") "__mul__" (He.ma K (He.ga K "Form") "__mul__") := T.meth 49 rfl
theorem me_Form___rmul__ (T : TopL K mg) : Meth K (He.ga K "Form") "__rmul__" (He.ma K (He.ga K "Form") "__rmul__") := T.meth 50 rfl
theorem me_Form___neg__ (T : TopL K mg) : Meth K (He.ga K "Form") "__neg__" (He.ma K (He.ga K "Form") "__neg__") := T.meth 51 rfl
theorem me_Form___eq__ (T : TopL K mg) : Meth K (He.ga K "Form") "__eq__" (He.ma K (He.ga K "Form") "__eq__") := T.meth 52 rfl
theorem me_Form___lt__ (T : TopL K mg) : Meth K (He.ga K "Form") "__lt__" (He.ma K (He.ga K "Form") "__lt__") := T.meth 53 rfl
theorem me_Form___le__ (T : TopL K mg) : Meth K (He.ga K "Form") "__le__" (He.ma K (He.ga K "Form") "__le__") := T.meth 54 rfl
theorem me_Form___gt__ (T : TopL K mg) : Meth K (He.ga K "Form") "__gt__" (He.ma K (He.ga K "Form") "__gt__") := T.meth 55 rfl
theorem me_Form___ge__ (T : TopL K mg) : Meth K (He.ga K "Form") "__ge__" (He.ma K (He.ga K "Form") "__ge__") := T.meth 56 rfl
theorem in_Form (T : TopL K mg) : InsX K (He.ga K "Form") := insF_ok (T.c.fact 57 rfl)
theorem xx_NoForm (T : TopL K mg) : ExcX K (He.ga K "NoForm") := He.exc_ok (T.c.fact 58 rfl)
theorem xx_NoSize (T : TopL K mg) : ExcX K (He.ga K "NoSize") := He.exc_ok (T.c.fact 59 rfl)
theorem mg_NoForm (T : TopL K mg) : mg "NoForm" = some (.ref (He.ga K "NoForm")) := T.glo 60 rfl
theorem mg_NoSize (T : TopL K mg) : mg "NoSize" = some (.ref (He.ga K "NoSize")) := T.glo 61 rfl
theorem bi_Form_Add (T : TopL K mg) : BinX K (He.ga K "Form") .Add (He.ma K (He.ga K "Form") "__add__") := binF_ok (T.c.fact 62 rfl)
theorem bi_Form_Sub (T : TopL K mg) : BinX K (He.ga K "Form") .Sub (He.ma K (He.ga K "Form") "__sub__") := binF_ok (T.c.fact 63 rfl)
theorem bi_Form_Mult (T : TopL K mg) : BinX K (He.ga K "Form") .Mult (He.ma K (He.ga K "Form") "__mul__") := binF_ok (T.c.fact 64 rfl)
theorem re_Form_Add (T : TopL K mg) : RefX K (He.ga K "Form") .Add (He.ma K (He.ga K "Form") "__radd__") := refF_ok (T.c.fact 65 rfl)
theorem re_Form_Sub (T : TopL K mg) : RefX K (He.ga K "Form") .Sub (He.ma K (He.ga K "Form") "__rsub__") := refF_ok (T.c.fact 66 rfl)
theorem re_Form_Mult (T : TopL K mg) : RefX K (He.ga K "Form") .Mult (He.ma K (He.ga K "Form") "__rmul__") := refF_ok (T.c.fact 67 rfl)
theorem cm_Form_Eq (T : TopL K mg) : CmpX K (He.ga K "Form") .Eq (He.ma K (He.ga K "Form") "__eq__") := cmpF_ok (T.c.fact 68 rfl)
theorem cm_Form_Lt (T : TopL K mg) : CmpX K (He.ga K "Form") .Lt (He.ma K (He.ga K "Form") "__lt__") := cmpF_ok (T.c.fact 69 rfl)
theorem cm_Form_LtE (T : TopL K mg) : CmpX K (He.ga K "Form") .LtE (He.ma K (He.ga K "Form") "__le__") := cmpF_ok (T.c.fact 70 rfl)
theorem cm_Form_Gt (T : TopL K mg) : CmpX K (He.ga K "Form") .Gt (He.ma K (He.ga K "Form") "__gt__") := cmpF_ok (T.c.fact 71 rfl)
theorem cm_Form_GtE (T : TopL K mg) : CmpX K (He.ga K "Form") .GtE (He.ma K (He.ga K "Form") "__ge__") := cmpF_ok (T.c.fact 72 rfl)
theorem ne_Form (T : TopL K mg) : NeX K (He.ga K "Form") (He.ma K (He.ga K "Form") "__eq__") := neF_ok (T.c.fact 73 rfl)
theorem du_Form___neg__ (T : TopL K mg) : Dun K (He.ga K "Form") "__neg__" (He.ma K (He.ga K "Form") "__neg__") := dunF_ok (T.c.fact 74 rfl)
theorem ca_Form (T : TopL K mg) : StX.CallO K (He.ga K "Form") (He.ma K (He.ga K "Form") "__call__") := callF_ok (T.c.fact 75 rfl)
theorem mg_NoCounter (T : TopL K mg) : mg "NoCounter" = some (.ref (He.ga K "NoCounter")) := T.glo 76 rfl
theorem mg_NoScheme (T : TopL K mg) : mg "NoScheme" = some (.ref (He.ga K "NoScheme")) := T.glo 77 rfl
theorem mg_NoRing (T : TopL K mg) : mg "NoRing" = some (.ref (He.ga K "NoRing")) := T.glo 78 rfl
theorem mg_Outside (T : TopL K mg) : mg "Outside" = some (.ref (He.ga K "Outside")) := T.glo 79 rfl
theorem mg_NoRun (T : TopL K mg) : mg "NoRun" = some (.ref (He.ga K "NoRun")) := T.glo 80 rfl
theorem mg_NoSet (T : TopL K mg) : mg "NoSet" = some (.ref (He.ga K "NoSet")) := T.glo 81 rfl
theorem mg_TooLong (T : TopL K mg) : mg "TooLong" = some (.ref (He.ga K "TooLong")) := T.glo 82 rfl
theorem mg_RingError (T : TopL K mg) : mg "RingError" = some (.ref (He.ga K "RingError")) := T.glo 83 rfl
theorem xc_NoForm (T : TopL K mg) : ExcC K (He.ga K "NoForm") := xccF_ok (T.c.fact 84 rfl)
theorem kt_NoForm_ValueError (T : TopL K mg) : PySem.W.kitOne K (.ref (He.ga K "NoForm")) (.type "ValueError") = some true := kitTF_ok (T.c.fact 85 rfl)
theorem ex_NoForm_RingError (T : TopL K mg) : PySem.W.exmOne K (.ref (He.ga K "NoForm")) (.ref (He.ga K "RingError")) = some true := exmF_ok (T.c.fact 86 rfl)
theorem ki_NoForm_NoForm (T : TopL K mg) : PySem.W.kitOne K (.ref (He.ga K "NoForm")) (.ref (He.ga K "NoForm")) = some true := kitF_ok (T.c.fact 87 rfl)
theorem ki_NoForm_NoCounter (T : TopL K mg) : PySem.W.kitOne K (.ref (He.ga K "NoForm")) (.ref (He.ga K "NoCounter")) = some false := kitF_ok (T.c.fact 88 rfl)
theorem ki_NoForm_NoScheme (T : TopL K mg) : PySem.W.kitOne K (.ref (He.ga K "NoForm")) (.ref (He.ga K "NoScheme")) = some false := kitF_ok (T.c.fact 89 rfl)
theorem ki_NoForm_NoSize (T : TopL K mg) : PySem.W.kitOne K (.ref (He.ga K "NoForm")) (.ref (He.ga K "NoSize")) = some false := kitF_ok (T.c.fact 90 rfl)
theorem ki_NoForm_NoRing (T : TopL K mg) : PySem.W.kitOne K (.ref (He.ga K "NoForm")) (.ref (He.ga K "NoRing")) = some false := kitF_ok (T.c.fact 91 rfl)
theorem ki_NoForm_Outside (T : TopL K mg) : PySem.W.kitOne K (.ref (He.ga K "NoForm")) (.ref (He.ga K "Outside")) = some false := kitF_ok (T.c.fact 92 rfl)
theorem ki_NoForm_NoRun (T : TopL K mg) : PySem.W.kitOne K (.ref (He.ga K "NoForm")) (.ref (He.ga K "NoRun")) = some false := kitF_ok (T.c.fact 93 rfl)
theorem ki_NoForm_NoSet (T : TopL K mg) : PySem.W.kitOne K (.ref (He.ga K "NoForm")) (.ref (He.ga K "NoSet")) = some false := kitF_ok (T.c.fact 94 rfl)
theorem ki_NoForm_TooLong (T : TopL K mg) : PySem.W.kitOne K (.ref (He.ga K "NoForm")) (.ref (He.ga K "TooLong")) = some false := kitF_ok (T.c.fact 95 rfl)
theorem xc_NoSize (T : TopL K mg) : ExcC K (He.ga K "NoSize") := xccF_ok (T.c.fact 96 rfl)
theorem kt_NoSize_ValueError (T : TopL K mg) : PySem.W.kitOne K (.ref (He.ga K "NoSize")) (.type "ValueError") = some true := kitTF_ok (T.c.fact 97 rfl)
theorem ex_NoSize_RingError (T : TopL K mg) : PySem.W.exmOne K (.ref (He.ga K "NoSize")) (.ref (He.ga K "RingError")) = some true := exmF_ok (T.c.fact 98 rfl)
theorem ki_NoSize_NoForm (T : TopL K mg) : PySem.W.kitOne K (.ref (He.ga K "NoSize")) (.ref (He.ga K "NoForm")) = some false := kitF_ok (T.c.fact 99 rfl)
theorem ki_NoSize_NoCounter (T : TopL K mg) : PySem.W.kitOne K (.ref (He.ga K "NoSize")) (.ref (He.ga K "NoCounter")) = some false := kitF_ok (T.c.fact 100 rfl)
theorem ki_NoSize_NoScheme (T : TopL K mg) : PySem.W.kitOne K (.ref (He.ga K "NoSize")) (.ref (He.ga K "NoScheme")) = some false := kitF_ok (T.c.fact 101 rfl)
theorem ki_NoSize_NoSize (T : TopL K mg) : PySem.W.kitOne K (.ref (He.ga K "NoSize")) (.ref (He.ga K "NoSize")) = some true := kitF_ok (T.c.fact 102 rfl)
theorem ki_NoSize_NoRing (T : TopL K mg) : PySem.W.kitOne K (.ref (He.ga K "NoSize")) (.ref (He.ga K "NoRing")) = some false := kitF_ok (T.c.fact 103 rfl)
theorem ki_NoSize_Outside (T : TopL K mg) : PySem.W.kitOne K (.ref (He.ga K "NoSize")) (.ref (He.ga K "Outside")) = some false := kitF_ok (T.c.fact 104 rfl)
theorem ki_NoSize_NoRun (T : TopL K mg) : PySem.W.kitOne K (.ref (He.ga K "NoSize")) (.ref (He.ga K "NoRun")) = some false := kitF_ok (T.c.fact 105 rfl)
theorem ki_NoSize_NoSet (T : TopL K mg) : PySem.W.kitOne K (.ref (He.ga K "NoSize")) (.ref (He.ga K "NoSet")) = some false := kitF_ok (T.c.fact 106 rfl)
theorem ki_NoSize_TooLong (T : TopL K mg) : PySem.W.kitOne K (.ref (He.ga K "NoSize")) (.ref (He.ga K "TooLong")) = some false := kitF_ok (T.c.fact 107 rfl)
theorem fn_is_whole (T : TopL K mg) : ∃ fd, FunD K d_is_whole.name d_is_whole.qual d_is_whole.params d_is_whole.body d_is_whole.scope (d_is_whole.dvs K) (d_is_whole.kws K) (d_is_whole.loc K) fd := T.c.dfn 0 rfl
theorem fn_is_between (T : TopL K mg) : ∃ fd, FunD K d_is_between.name d_is_between.qual d_is_between.params d_is_between.body d_is_between.scope (d_is_between.dvs K) (d_is_between.kws K) (d_is_between.loc K) fd := T.c.dfn 1 rfl
theorem fn_is_size (T : TopL K mg) : ∃ fd, FunD K d_is_size.name d_is_size.qual d_is_size.params d_is_size.body d_is_size.scope (d_is_size.dvs K) (d_is_size.kws K) (d_is_size.loc K) fd := T.c.dfn 2 rfl
theorem fn_digits_in (T : TopL K mg) : ∃ fd, FunD K d_digits_in.name d_digits_in.qual d_digits_in.params d_digits_in.body d_digits_in.scope (d_digits_in.dvs K) (d_digits_in.kws K) (d_digits_in.loc K) fd := T.c.dfn 3 rfl
theorem fn_signed_in (T : TopL K mg) : ∃ fd, FunD K d_signed_in.name d_signed_in.qual d_signed_in.params d_signed_in.body d_signed_in.scope (d_signed_in.dvs K) (d_signed_in.kws K) (d_signed_in.loc K) fd := T.c.dfn 4 rfl
theorem fn_operand_of (T : TopL K mg) : ∃ fd, FunD K d_operand_of.name d_operand_of.qual d_operand_of.params d_operand_of.body d_operand_of.scope (d_operand_of.dvs K) (d_operand_of.kws K) (d_operand_of.loc K) fd := T.c.dfn 5 rfl
theorem fn_sign_of (T : TopL K mg) : ∃ fd, FunD K d_sign_of.name d_sign_of.qual d_sign_of.params d_sign_of.body d_sign_of.scope (d_sign_of.dvs K) (d_sign_of.kws K) (d_sign_of.loc K) fd := T.c.dfn 6 rfl
theorem fn_show_form (T : TopL K mg) : ∃ fd, FunD K d_show_form.name d_show_form.qual d_show_form.params d_show_form.body d_show_form.scope (d_show_form.dvs K) (d_show_form.kws K) (d_show_form.loc K) fd := T.c.dfn 7 rfl
theorem fn_slope_in (T : TopL K mg) : ∃ fd, FunD K d_slope_in.name d_slope_in.qual d_slope_in.params d_slope_in.body d_slope_in.scope (d_slope_in.dvs K) (d_slope_in.kws K) (d_slope_in.loc K) fd := T.c.dfn 8 rfl
theorem fn_form_in (T : TopL K mg) : ∃ fd, FunD K d_form_in.name d_form_in.qual d_form_in.params d_form_in.body d_form_in.scope (d_form_in.dvs K) (d_form_in.kws K) (d_form_in.loc K) fd := T.c.dfn 9 rfl
theorem fn__law_source (T : TopL K mg) : ∃ fd, FunD K d__law_source.name d__law_source.qual d__law_source.params d__law_source.body d__law_source.scope (d__law_source.dvs K) (d__law_source.kws K) (d__law_source.loc K) fd := T.c.dfn 10 rfl
theorem fn__law_draw (T : TopL K mg) : ∃ fd, FunD K d__law_draw.name d__law_draw.qual d__law_draw.params d__law_draw.body d__law_draw.scope (d__law_draw.dvs K) (d__law_draw.kws K) (d__law_draw.loc K) fd := T.c.dfn 11 rfl
theorem fn__law_pick (T : TopL K mg) : ∃ fd, FunD K d__law_pick.name d__law_pick.qual d__law_pick.params d__law_pick.body d__law_pick.scope (d__law_pick.dvs K) (d__law_pick.kws K) (d__law_pick.loc K) fd := T.c.dfn 12 rfl
theorem fn__law_form (T : TopL K mg) : ∃ fd, FunD K d__law_form.name d__law_form.qual d__law_form.params d__law_form.body d__law_form.scope (d__law_form.dvs K) (d__law_form.kws K) (d__law_form.loc K) fd := T.c.dfn 13 rfl
theorem fn__law_size (T : TopL K mg) : ∃ fd, FunD K d__law_size.name d__law_size.qual d__law_size.params d__law_size.body d__law_size.scope (d__law_size.dvs K) (d__law_size.kws K) (d__law_size.loc K) fd := T.c.dfn 14 rfl
theorem fn__law_caught (T : TopL K mg) : ∃ fd, FunD K d__law_caught.name d__law_caught.qual d__law_caught.params d__law_caught.body d__law_caught.scope (d__law_caught.dvs K) (d__law_caught.kws K) (d__law_caught.loc K) fd := T.c.dfn 15 rfl
theorem fn__law_made (T : TopL K mg) : ∃ fd, FunD K d__law_made.name d__law_made.qual d__law_made.params d__law_made.body d__law_made.scope (d__law_made.dvs K) (d__law_made.kws K) (d__law_made.loc K) fd := T.c.dfn 16 rfl
theorem fn__law_sum (T : TopL K mg) : ∃ fd, FunD K d__law_sum.name d__law_sum.qual d__law_sum.params d__law_sum.body d__law_sum.scope (d__law_sum.dvs K) (d__law_sum.kws K) (d__law_sum.loc K) fd := T.c.dfn 17 rfl
theorem fn__law_difference (T : TopL K mg) : ∃ fd, FunD K d__law_difference.name d__law_difference.qual d__law_difference.params d__law_difference.body d__law_difference.scope (d__law_difference.dvs K) (d__law_difference.kws K) (d__law_difference.loc K) fd := T.c.dfn 18 rfl
theorem fn__law_product (T : TopL K mg) : ∃ fd, FunD K d__law_product.name d__law_product.qual d__law_product.params d__law_product.body d__law_product.scope (d__law_product.dvs K) (d__law_product.kws K) (d__law_product.loc K) fd := T.c.dfn 19 rfl
theorem fn__law_compare (T : TopL K mg) : ∃ fd, FunD K d__law_compare.name d__law_compare.qual d__law_compare.params d__law_compare.body d__law_compare.scope (d__law_compare.dvs K) (d__law_compare.kws K) (d__law_compare.loc K) fd := T.c.dfn 20 rfl
theorem fn__law_compare_too (T : TopL K mg) : ∃ fd, FunD K d__law_compare_too.name d__law_compare_too.qual d__law_compare_too.params d__law_compare_too.body d__law_compare_too.scope (d__law_compare_too.dvs K) (d__law_compare_too.kws K) (d__law_compare_too.loc K) fd := T.c.dfn 21 rfl
theorem fn__law_greater (T : TopL K mg) : ∃ fd, FunD K d__law_greater.name d__law_greater.qual d__law_greater.params d__law_greater.body d__law_greater.scope (d__law_greater.dvs K) (d__law_greater.kws K) (d__law_greater.loc K) fd := T.c.dfn 22 rfl
theorem fn__law_at_least (T : TopL K mg) : ∃ fd, FunD K d__law_at_least.name d__law_at_least.qual d__law_at_least.params d__law_at_least.body d__law_at_least.scope (d__law_at_least.dvs K) (d__law_at_least.kws K) (d__law_at_least.loc K) fd := T.c.dfn 23 rfl
theorem fn__law_call (T : TopL K mg) : ∃ fd, FunD K d__law_call.name d__law_call.qual d__law_call.params d__law_call.body d__law_call.scope (d__law_call.dvs K) (d__law_call.kws K) (d__law_call.loc K) fd := T.c.dfn 24 rfl
theorem fn__law_other (T : TopL K mg) : ∃ fd, FunD K d__law_other.name d__law_other.qual d__law_other.params d__law_other.body d__law_other.scope (d__law_other.dvs K) (d__law_other.kws K) (d__law_other.loc K) fd := T.c.dfn 25 rfl
theorem fn_law (T : TopL K mg) : ∃ fd, FunD K d_law.name d_law.qual d_law.params d_law.body d_law.scope (d_law.dvs K) (d_law.kws K) (d_law.loc K) fd := T.c.dfn 26 rfl
theorem fn_Form___init__ (T : TopL K mg) : ∃ fd, FunD K d_Form___init__.name d_Form___init__.qual d_Form___init__.params d_Form___init__.body d_Form___init__.scope (d_Form___init__.dvs K) (d_Form___init__.kws K) (d_Form___init__.loc K) fd := T.c.dfn 27 rfl
theorem fn_Form___call__ (T : TopL K mg) : ∃ fd, FunD K d_Form___call__.name d_Form___call__.qual d_Form___call__.params d_Form___call__.body d_Form___call__.scope (d_Form___call__.dvs K) (d_Form___call__.kws K) (d_Form___call__.loc K) fd := T.c.dfn 28 rfl
theorem fn_Form___add__ (T : TopL K mg) : ∃ fd, FunD K d_Form___add__.name d_Form___add__.qual d_Form___add__.params d_Form___add__.body d_Form___add__.scope (d_Form___add__.dvs K) (d_Form___add__.kws K) (d_Form___add__.loc K) fd := T.c.dfn 29 rfl
theorem fn_Form___radd__ (T : TopL K mg) : ∃ fd, FunD K d_Form___radd__.name d_Form___radd__.qual d_Form___radd__.params d_Form___radd__.body d_Form___radd__.scope (d_Form___radd__.dvs K) (d_Form___radd__.kws K) (d_Form___radd__.loc K) fd := T.c.dfn 30 rfl
theorem fn_Form___sub__ (T : TopL K mg) : ∃ fd, FunD K d_Form___sub__.name d_Form___sub__.qual d_Form___sub__.params d_Form___sub__.body d_Form___sub__.scope (d_Form___sub__.dvs K) (d_Form___sub__.kws K) (d_Form___sub__.loc K) fd := T.c.dfn 31 rfl
theorem fn_Form___rsub__ (T : TopL K mg) : ∃ fd, FunD K d_Form___rsub__.name d_Form___rsub__.qual d_Form___rsub__.params d_Form___rsub__.body d_Form___rsub__.scope (d_Form___rsub__.dvs K) (d_Form___rsub__.kws K) (d_Form___rsub__.loc K) fd := T.c.dfn 32 rfl
theorem fn_Form___mul__ (T : TopL K mg) : ∃ fd, FunD K d_Form___mul__.name d_Form___mul__.qual d_Form___mul__.params d_Form___mul__.body d_Form___mul__.scope (d_Form___mul__.dvs K) (d_Form___mul__.kws K) (d_Form___mul__.loc K) fd := T.c.dfn 33 rfl
theorem fn_Form___rmul__ (T : TopL K mg) : ∃ fd, FunD K d_Form___rmul__.name d_Form___rmul__.qual d_Form___rmul__.params d_Form___rmul__.body d_Form___rmul__.scope (d_Form___rmul__.dvs K) (d_Form___rmul__.kws K) (d_Form___rmul__.loc K) fd := T.c.dfn 34 rfl
theorem fn_Form___neg__ (T : TopL K mg) : ∃ fd, FunD K d_Form___neg__.name d_Form___neg__.qual d_Form___neg__.params d_Form___neg__.body d_Form___neg__.scope (d_Form___neg__.dvs K) (d_Form___neg__.kws K) (d_Form___neg__.loc K) fd := T.c.dfn 35 rfl
theorem fn_Form___eq__ (T : TopL K mg) : ∃ fd, FunD K d_Form___eq__.name d_Form___eq__.qual d_Form___eq__.params d_Form___eq__.body d_Form___eq__.scope (d_Form___eq__.dvs K) (d_Form___eq__.kws K) (d_Form___eq__.loc K) fd := T.c.dfn 36 rfl
theorem fn_Form___lt__ (T : TopL K mg) : ∃ fd, FunD K d_Form___lt__.name d_Form___lt__.qual d_Form___lt__.params d_Form___lt__.body d_Form___lt__.scope (d_Form___lt__.dvs K) (d_Form___lt__.kws K) (d_Form___lt__.loc K) fd := T.c.dfn 37 rfl
theorem fn_Form___le__ (T : TopL K mg) : ∃ fd, FunD K d_Form___le__.name d_Form___le__.qual d_Form___le__.params d_Form___le__.body d_Form___le__.scope (d_Form___le__.dvs K) (d_Form___le__.kws K) (d_Form___le__.loc K) fd := T.c.dfn 38 rfl
theorem fn_Form___gt__ (T : TopL K mg) : ∃ fd, FunD K d_Form___gt__.name d_Form___gt__.qual d_Form___gt__.params d_Form___gt__.body d_Form___gt__.scope (d_Form___gt__.dvs K) (d_Form___gt__.kws K) (d_Form___gt__.loc K) fd := T.c.dfn 39 rfl
theorem fn_Form___ge__ (T : TopL K mg) : ∃ fd, FunD K d_Form___ge__.name d_Form___ge__.qual d_Form___ge__.params d_Form___ge__.body d_Form___ge__.scope (d_Form___ge__.dvs K) (d_Form___ge__.kws K) (d_Form___ge__.loc K) fd := T.c.dfn 40 rfl
end
end Lw
open PySem PySem.Spec PyProof.Rows L2 Rg
local macro_rules | `(tactic| walk_at "pos") => `(tactic| (show (0 : Int) < _; first | assumption | decide | omega))
local macro_rules | `(tactic| walk_at "mul") => `(tactic| (show CMul _ _; first | exact Or.inr ⟨by decide, by decide⟩ | exact Or.inl ⟨by decide, by decide⟩ | exact Or.inl ⟨by omega, by omega⟩ | exact Or.inr ⟨by omega, by omega⟩))
local macro_rules | `(tactic| walk_at "pow") => `(tactic| (show CPow _ _; exact ⟨by decide, by decide, by decide⟩))
local macro_rules | `(tactic| walk_at "div") => `(tactic| (show CDiv _ _; exact ⟨by decide, by decide⟩))
local macro_rules | `(tactic| walk_at "divw") => `(tactic| (show CDivW _ _; exact ⟨by decide, by decide⟩))
local macro_rules | `(tactic| walk_at "cond") => `(tactic| first | walk_at "pos" | walk_at "mul" | walk_at "pow" | walk_at "div")
local macro_rules | `(tactic| walk_at "ne") => `(tactic| first | assumption | (apply Ne.symm; assumption) | (refine' ne_of_none ?zA ?zB; (case zB => assumption); (case zA => walk_at "hp")) | (refine' Ne.symm (ne_of_none ?zA ?zB); (case zB => assumption); (case zA => walk_at "hp")))
local macro_rules | `(tactic| walk_at "hp") => `(tactic| first | assumption | exact upd_same | (refine Eq.trans (upd_ne ?zC) ?zD; (case zC => walk_at "ne"); (case zD => walk_at "hp")) | (refine' Same.at_ ?zE ?zF; (case zE => assumption); (case zF => walk_at "hp")))
local macro_rules | `(tactic| walk_at "sq") => `(tactic| first | assumption | exact SqL.of (by walk_at "hp") | exact Same.seq (by assumption) (by assumption))
local macro_rules | `(tactic| walk_at "g1") => `(tactic| first
  | with_reducible exact rfl
  | refine ⟨_, _, rfl, rfl, And.intro (by walk_at "cond") ?_⟩
  | refine ⟨_, _, rfl, rfl, ?_⟩
  | refine ⟨_, rfl, ?_⟩
  | refine ⟨rfl, ?_⟩
  | refine ⟨_, _, _, _, rfl, rfl, (by walk_at "sq"), rfl, ?_⟩
  | refine ⟨_, _, rfl, Or.inl (by walk_at "sq"), ?_⟩
  | refine ⟨_, _, _, _, rfl, rfl, (by walk_at "hp"), rfl, ?_⟩
  | refine Or.inl ⟨_, rfl, ?_⟩)
local macro_rules | `(tactic| walk_at "g") => `(tactic| repeat walk_at "g1")
/-! LAW A: the cells of the script, the draws. -/
namespace Lw
open PySem PySem.Spec PyProof.Rows L2 Rg
section
variable {P : Program} {w : World} {K : PySem.W.Frag} {mg : Str → Option Value} {base : Heap}
/-- a source of draws -/
def srcO (n s : Int) : HO := .lst [.int n, .int s]
def sp_source (K : PySem.W.Frag) : Sp := fun vs H Q _ => ∃ (a : Addr) (ns : List Int) (t : Int), vs = [.ref a, .int t] ∧ SqL K H a (ns.map V.int) ∧ 0 ≤ t ∧
  ∀ p n s, H p = none → 0 ≤ n → 0 ≤ s → s < 2147483647 → Q (.ref p) (upd H p (srcO n s))
def sp_draw : Sp := fun vs H Q _ => ∃ (p : Addr) (n s m : Int), vs = [.ref p, .int m] ∧ H p = some (srcO n s) ∧ (0 ≤ n ∧ 0 ≤ s ∧ s < 2147483647) ∧ (0 < m ∧ m < 2 ^ 250) ∧
  ∀ d n' s', 0 ≤ d → d < m → 0 ≤ n' → 0 ≤ s' → s' < 2147483647 → Q (.int d) (upd H p (srcO n' s'))
theorem sc_source : FnScope ["_law_script", "_law_turn", "_law_cell", "_law_number", "_law_seed"] ["_law_script", "_law_turn"] (defScope s__law_source) := ⟨rfl, rfl, rfl, by decide +kernel, rfl, by decide +kernel, by decide +kernel⟩
theorem ok_source (T : TopL K mg) : Has P w K mg base CX0 1 (He.ga K "_law_source") ["_law_script", "_law_turn"] [] (sp_source K) := by
  obtain ⟨fd, F⟩ := fn__law_source T
  refine Has.of0 F sc_source (fun _ _ _ _ _ _ us hl => match us, hl with | [_, _], _ => rfl) (fun vs H Q E h => ?_) (fun cdv A outer s H vs Q E hr h => ?_)
  · obtain ⟨a, ns, t, rfl, _⟩ := h
    rfl
  · obtain ⟨a, ns, t, rfl, hS, h0, k⟩ := h
    refine ⟨_, (pss_cons (ps_set (i := 2) sc_source.nd rfl (Or.inl rfl) pe_int)
      (pss_cons (ps_if (pt_cmpR op_lt (pv 1) (pe_callB call_len_seq (by rfl) (fr_len T) PySem.boot_len (pa_cons (pv 0) pa_nil)) (nomark _)) (pss_one (ps_set (i := 2) sc_source.nd rfl (Or.inl rfl) (pe_ix ix_list (pv 0) (pv 1) (fun _ _ => rfl)))) pss_nil)
      (pss_cons (ps_set (i := 3) sc_source.nd rfl (Or.inl rfl) (pe_callB call_abs (by rfl) (fr_abs T) (by decide +kernel) (pa_cons (pv 2) pa_nil)))
      (pss_cons (ps_set (i := 4) sc_source.nd rfl (Or.inl rfl) (pe_op op_mod (pe_callTy call_int1 (by rfl) (fr_int T) (by decide +kernel) (pa_cons (pe_op op_add (pe_op op_add (pe_op op_mul (pe_op op_mod (pe_callTy call_int1 (by rfl) (fr_int T) (by decide +kernel) (pa_cons (pv 3) pa_nil)) pe_int) pe_int) (pe_op op_mul pe_int (pv 1))) pe_int) pa_nil)) pe_int))
      (pss_cons (ps_if (pt_cmpR op_lt (pv 3) (pe_op op_pow pe_int pe_int) (nomark _)) (pss_one (ps_set (i := 3) sc_source.nd rfl (Or.inl rfl) pe_int)) pss_nil)
      (pss_one (ps_ret (pe_lst (pa_cons (pv 3) (pa_cons (pv 4) pa_nil)))))))))), ?_⟩
    walk_at "g"
    have fin : ∀ (c : Int) (z : Int), ∀ p, H p = none → 0 ≤ z → Q (.ref p) (upd H p (srcO z (((if c < 0 then -c else c) % 2147483629 * 16807 + 104729 * t + 11) % 2147483647))) := fun c z p hp hz =>
      k p z _ hp hz (emod_rng (by decide)).1 (emod_rng (by decide)).2
    refine ifD (fun hc => ?_) (fun hc => ?_)
    · rw [List.length_map] at hc
      have hi : t.toNat < ns.length := by omega
      refine ⟨_, rfl, _, rfl, _, _, _, _, rfl, rfl, hS, atI_of h0 (by rw [List.getElem?_map, List.getElem?_eq_getElem hi]; rfl), ?_⟩
      generalize ns[t.toNat]'hi = c
      walk_at "g"
      refine ifD (fun hc => ?_) (fun hc => ?_)
      · walk_at "g"
        refine ⟨lenk rfl, fun p hp => ?_⟩
        exact fin c 0 p hp (by decide)
      · walk_at "g"
        refine ⟨lenk rfl, fun p hp => ?_⟩
        exact fin c _ p hp (abs_nn c)
    · walk_at "g"
      refine ⟨lenk rfl, fun p hp => ?_⟩
      exact fin 0 0 p hp (by decide)
theorem sc_draw : FnScope ["_law_source_here", "_law_amount", "_law_digit", "_law_found"] ["_law_source_here", "_law_amount"] (defScope s__law_draw) := ⟨rfl, rfl, rfl, by decide +kernel, rfl, by decide +kernel, by decide +kernel⟩
theorem src_get {n s : Int} {H : Hp} {p : Addr} (h : H p = some (srcO n s)) : SqL K H p [.int n, .int s] := SqL.of h
theorem ok_draw (T : TopL K mg) : Has P w K mg base CX0 1 (He.ga K "_law_draw") ["_law_source_here", "_law_amount"] [] sp_draw := by
  obtain ⟨fd, F⟩ := fn__law_draw T
  refine Has.of0 F sc_draw (fun _ _ _ _ _ _ us hl => match us, hl with | [_, _], _ => rfl) (fun vs H Q E h => ?_) (fun cdv A outer s H vs Q E hr h => ?_)
  · obtain ⟨p, n, s, m, rfl, _⟩ := h
    rfl
  · obtain ⟨p, n, sd, m, rfl, hp, ⟨hn, hs0, hs1⟩, ⟨hm0, hm1⟩, k⟩ := h
    refine ⟨_, (pss_cons (ps_if (pt_cmpR op_gt (pe_ix ix_list (pv 0) pe_int (fun _ _ => rfl)) pe_int (nomark _)) (pss_cons (ps_set (i := 2) sc_draw.nd rfl (Or.inl rfl) (pe_op op_mod (pe_callTy call_int1 (by rfl) (fr_int T) (by decide +kernel) (pa_cons (pe_ix ix_list (pv 0) pe_int (fun _ _ => rfl)) pa_nil)) (pv 1)))
      (pss_cons (ps_asg (pe_op op_fdivW (pe_ix ix_list (pv 0) pe_int (fun _ _ => rfl)) (pv 1)) (pg_sub (pv 0) pe_int set_list))
      (pss_one (ps_ret (pv 2))))) pss_nil)
      (pss_cons (ps_asg (pe_op op_mod (pe_callTy call_int1 (by rfl) (fr_int T) (by decide +kernel) (pa_cons (pe_op op_add (pe_op op_mul (pe_ix ix_list (pv 0) pe_int (fun _ _ => rfl)) pe_int) pe_int) pa_nil)) pe_int) (pg_sub (pv 0) pe_int set_list))
      (pss_cons (ps_set (i := 3) sc_draw.nd rfl (Or.inl rfl) (pe_op op_fdiv (pe_op op_mod (pe_callTy call_int1 (by rfl) (fr_int T) (by decide +kernel) (pa_cons (pe_op op_mul (pe_ix ix_list (pv 0) pe_int (fun _ _ => rfl)) (pe_ix ix_list (pv 0) pe_int (fun _ _ => rfl))) pa_nil)) pe_int) pe_int))
      (pss_cons (ps_if (pt_cmpR op_gt (pv 1) (pe_op op_pow pe_int pe_int) (nomark _)) (pss_cons (ps_asg (pe_op op_mod (pe_callTy call_int1 (by rfl) (fr_int T) (by decide +kernel) (pa_cons (pe_op op_add (pe_op op_mul (pe_ix ix_list (pv 0) pe_int (fun _ _ => rfl)) pe_int) pe_int) pa_nil)) pe_int) (pg_sub (pv 0) pe_int set_list))
      (pss_one (ps_set (i := 3) sc_draw.nd rfl (Or.inl rfl) (pe_op op_add (pe_op op_mul (pv 3) pe_int) (pe_op op_fdiv (pe_op op_mod (pe_callTy call_int1 (by rfl) (fr_int T) (by decide +kernel) (pa_cons (pe_op op_mul (pe_ix ix_list (pv 0) pe_int (fun _ _ => rfl)) (pe_ix ix_list (pv 0) pe_int (fun _ _ => rfl))) pa_nil)) pe_int) pe_int))))) pss_nil)
      (pss_one (ps_ret (pe_op op_mod (pe_callTy call_int1 (by rfl) (fr_int T) (by decide +kernel) (pa_cons (pv 3) pa_nil)) (pv 1)))))))), ?_⟩
    have hp' : H p = some (.lst [.int n, .int sd]) := hp
    walk_at "g"
    refine ifD (fun hc => ?_) (fun hc => ?_)
    · walk_at "g"
      refine ⟨wide_div hm0 (bits_of hm0 hm1) (by decide) (by decide), ?_⟩
      walk_at "g"
      exact k _ _ _ (emod_rng hm0).1 (emod_rng hm0).2 (Int.ediv_nonneg hn (by omega)) hs0 hs1
    · have B : ∀ z : Int, 0 ≤ z % 2147483647 ∧ z % 2147483647 < 2147483647 := fun z => emod_rng (by decide)
      walk_at "g"
      have b1 := B (sd * 48271 + 11)
      refine ifD (fun hc2 => ?_) (fun hc2 => ?_)
      · walk_at "g"
        have b2 := B ((sd * 48271 + 11) % 2147483647 * 39373 + 17)
        rw [upd_upd]
        exact k _ _ _ (emod_rng hm0).1 (emod_rng hm0).2 hn b2.1 b2.2
      · walk_at "g"
        exact k _ _ _ (emod_rng hm0).1 (emod_rng hm0).2 hn b1.1 b1.2
end
end Lw
/-! LAW B: draws, what stood stays. -/
namespace Lw
open PySem PySem.Spec PyProof.Rows L2 Rg
section
variable {P : Program} {w : World} {K : PySem.W.Frag} {mg : Str → Option Value} {base : Heap}
/-- a source of draws stands at p -/
def Src (H : Hp) (p : Addr) : Prop := ∃ n s, (0 ≤ n ∧ 0 ≤ s ∧ s < 2147483647) ∧ H p = some (srcO n s)
theorem Src.same {H H' : Hp} {p : Addr} (h : Src H p) (s : Same H H') : Src H' p := h.elim fun n z => z.elim fun k q => ⟨n, k, q.1, s _ _ q.2⟩
theorem Src.ne {H : Hp} {p q : Addr} (h : Src H p) (n : H q = none) : q ≠ p := h.elim fun _ z => z.elim fun _ k => (ne_of_none k.2 n).symm
/-- the source at p has gone on, all else stands -/
structure Drawn (p : Addr) (H H' : Hp) : Prop where
  src : Src H' p
  st : ∀ b u, H b = some u → b ≠ p → H' b = some u
theorem Drawn.at_ {p b : Addr} {H H' : Hp} {u : HO} (d : Drawn p H H') (h : H b = some u) (n : b ≠ p) : H' b = some u := d.st b u h n
theorem Drawn.trans {p : Addr} {H H' H'' : Hp} (a : Drawn p H H') (b : Drawn p H' H'') : Drawn p H H'' := ⟨b.src, fun c u h n => b.st c u (a.st c u h n) n⟩
theorem Drawn.same {p : Addr} {H H' H'' : Hp} (a : Drawn p H H') (b : Same H' H'') : Drawn p H H'' := ⟨a.src.same b, fun c u h n => b c u (a.st c u h n)⟩
theorem Drawn.after {p : Addr} {H H' H'' : Hp} (a : Same H H') (b : Drawn p H' H'') : Drawn p H H'' := ⟨b.src, fun c u h n => b.st c u (a c u h) n⟩
theorem Drawn.refl {p : Addr} {H : Hp} (h : Src H p) : Drawn p H H := ⟨h, fun _ _ e _ => e⟩
/-- from a heap without the source -/
theorem Drawn.over {p : Addr} {H H' H'' : Hp} (s : Same H H') (n : H p = none) (d : Drawn p H' H'') : Same H H'' := fun b u h => d.st b u (s b u h) (ne_of_none h n)
theorem Drawn.free {p q : Addr} {H H' : Hp} (d : Drawn p H H') (h : H' q = none) : H q = none := by
  have qp : q ≠ p := d.src.ne h
  cases e : H q with
  | none => rfl
  | some u => rw [d.st q u e qp] at h; cases h
@[irreducible] def sp_sourceD (K : PySem.W.Frag) : Sp := fun vs H Q _ => ∃ (a : Addr) (ns : List Int) (t : Int), vs = [.ref a, .int t] ∧ SqL K H a (ns.map V.int) ∧ 0 ≤ t ∧ ∀ p H', H p = none → Same H H' → Src H' p → Q (.ref p) H'
@[irreducible] def sp_drawD : Sp := fun vs H Q _ => ∃ (p : Addr) (m : Int), vs = [.ref p, .int m] ∧ Src H p ∧ (0 < m ∧ m < 2 ^ 250) ∧ ∀ d H', 0 ≤ d → d < m → Drawn p H H' → Q (.int d) H'
theorem ok_sourceD (T : TopL K mg) : Has P w K mg base CX0 1 (He.ga K "_law_source") ["_law_script", "_law_turn"] [] (sp_sourceD K) := (ok_source T).imp fun vs H Q E h => by
  unfold sp_sourceD at h
  obtain ⟨a, ns, t, rfl, hS, h0, k⟩ := h
  exact ⟨a, ns, t, rfl, hS, h0, fun p n s np hn hs ht => k p _ np (Same.new np) ⟨n, s, ⟨hn, hs, ht⟩, upd_same⟩⟩
theorem ok_drawD (T : TopL K mg) : Has P w K mg base CX0 1 (He.ga K "_law_draw") ["_law_source_here", "_law_amount"] [] sp_drawD := (ok_draw T).imp fun vs H Q E h => by
  unfold sp_drawD at h
  obtain ⟨p, m, rfl, ⟨n, s, z, hp⟩, hm, k⟩ := h
  exact ⟨p, n, s, m, rfl, hp, z, hm, fun d n' s' h0 h1 hn hs ht => k d _ h0 h1 ⟨⟨n', s', ⟨hn, hs, ht⟩, upd_same⟩, fun b u e ne => (upd_ne ne).trans e⟩⟩
theorem source_rd {H : Hp} {Q : VK} {E : XK} {a : Addr} {ns : List Int} {t : Int} (hS : SqL K H a (ns.map V.int)) (h0 : 0 ≤ t) (k : ∀ p H', H p = none → Same H H' → Src H' p → Q (.ref p) H') : sp_sourceD K [.ref a, .int t] H Q E := by
  unfold sp_sourceD
  exact ⟨a, ns, t, rfl, hS, h0, k⟩
theorem draw_rd {H : Hp} {Q : VK} {E : XK} {p : Addr} {m : Int} (hp : Src H p) (h0 : 0 < m) (h1 : m < 2 ^ 250) (k : ∀ d H', 0 ≤ d → d < m → Drawn p H H' → Src H' p → Q (.int d) H') : sp_drawD [.ref p, .int m] H Q E := by
  unfold sp_drawD
  exact ⟨p, m, rfl, hp, ⟨h0, h1⟩, fun d H' a b z => k d H' a b z z.src⟩
theorem at_all {Pr : V → Prop} {xs : List V} {d : Int} (h0 : 0 ≤ d) (h1 : d < xs.length) (hP : ∀ v ∈ xs, Pr v) : ∃ v, atI xs d = some v ∧ Pr v := by
  have hi : d.toNat < xs.length := by omega
  exact ⟨xs[d.toNat], atI_of h0 (List.getElem?_eq_getElem hi), hP _ (List.getElem_mem hi)⟩
theorem all_ints {Pr : Int → Prop} {ns : List Int} {d : Int} (h0 : 0 ≤ d) (h1 : d < ns.length) (hP : ∀ n ∈ ns, Pr n) : ∃ n, atI (ns.map V.int) d = some (.int n) ∧ Pr n := by
  obtain ⟨v, e, n, rfl, q⟩ := at_all (Pr := fun v => ∃ n, v = .int n ∧ Pr n) (xs := ns.map V.int) h0 (by rw [List.length_map]; exact h1) (fun v hv => by
    obtain ⟨n, hn, rfl⟩ := List.mem_map.mp hv
    exact ⟨n, rfl, hP n hn⟩)
  exact ⟨n, e, q⟩
/-- how many turns the law's loop takes -/
theorem turns_rng (lo hi : Int) (h0 : 0 ≤ lo) (h1 : lo ≤ hi) (z : Int) (hz : 0 ≤ z) : 0 ≤ (if (if hi < z then hi else z) > lo then (if hi < z then hi else z) else lo) ∧ (if (if hi < z then hi else z) > lo then (if hi < z then hi else z) else lo) ≤ hi := by
  split <;> split <;> omega
end
end Lw
namespace Lw
theorem em_add (v s m : Int) : (v + s) % m = (v % m + s) % m := (Int.emod_add_emod v m s).symm
theorem em_sub (v s m : Int) : (v - s) % m = (v % m - s) % m := by rw [Int.sub_eq_add_neg, Int.sub_eq_add_neg, em_add]
end Lw
local macro_rules | `(tactic| walk_at "ne") => `(tactic| first | assumption | (apply Ne.symm; assumption) | (refine' ne_of_none ?zA ?zB; (case zB => assumption); (case zA => walk_at "hp")) | (refine' Ne.symm (ne_of_none ?zA ?zB); (case zB => assumption); (case zA => walk_at "hp")) | (refine' Lw.Src.ne ?zJ ?zK; (case zK => assumption); (case zJ => assumption)) | (refine' Ne.symm (Lw.Src.ne ?zJ ?zK); (case zK => assumption); (case zJ => assumption)))
local macro_rules | `(tactic| walk_at "hp") => `(tactic| first | assumption | exact upd_same | (refine Eq.trans (upd_ne ?zC) ?zD; (case zC => walk_at "ne"); (case zD => walk_at "hp")) | (refine' Same.at_ ?zE ?zF; (case zE => assumption); (case zF => walk_at "hp")) | (refine' Lw.Drawn.at_ ?zG ?zH ?zI; (case zG => assumption); (case zH => walk_at "hp"); (case zI => walk_at "ne")))
/-! whole numbers -/
namespace Lw
open PySem PySem.Spec PyProof.Rows L2 Rg
section
variable {P : Program} {w : World} {K : PySem.W.Frag} {mg : Str → Option Value} {base : Heap}
@[irreducible] def sp_is_whole (K : PySem.W.Frag) : Sp := fun vs H Q _ => ∃ (v : V) (t : Value) (i b : Bool), vs = [v] ∧ TyX K H v t ∧ PySem.W.kitOne K t (.type "int") = some i ∧ PySem.W.kitOne K t (.type "bool") = some b ∧ Q (.bl (i && !b)) H
theorem sc_is_whole : FnScope ["thing"] ["thing"] (defScope s_is_whole) := ⟨rfl, rfl, rfl, by decide +kernel, rfl, by decide +kernel, by decide +kernel⟩
theorem ok_is_whole (T : TopL K mg) : Has P w K mg base CX0 1 (He.ga K "is_whole") ["thing"] [] (sp_is_whole K) := by
  obtain ⟨fd, F⟩ := fn_is_whole T
  refine Has.of0 F sc_is_whole (fun _ _ _ _ _ _ us hl => match us, hl with | [_], _ => rfl) (fun vs H Q E h => ?_) (fun cdv A outer s H vs Q E hr h => ?_)
  · unfold sp_is_whole at h
    obtain ⟨v, t, i, b, rfl, _⟩ := h
    rfl
  · unfold sp_is_whole at h
    obtain ⟨v, t, i, b, rfl, ty, k1, k2, k⟩ := h
    refine ⟨_, (pss_one (ps_ret (pe_and (pe_callB (call_isi : CallR _ _ (rIsi K)) (by rfl) (fr_isinstance T) (by decide +kernel) (pa_cons (pv 0) (pa_cons (pe_bltn (v := .ty "int") (u := .type "int") rfl (fr_int T) (by decide +kernel) rfl) pa_nil))) (pe_one (pe_not (pe_callB (call_isi : CallR _ _ (rIsi K)) (by rfl) (fr_isinstance T) (by decide +kernel) (pa_cons (pv 0) (pa_cons (pe_bltn (v := .ty "bool") (u := .type "bool") rfl (fr_bool T) (by decide +kernel) rfl) pa_nil)))))))), ?_⟩
    refine ⟨_, rfl, _, _, t, _, i, rfl, .ty _, ty, k1, i, rfl, ?_⟩
    cases i
    · exact iteF k
    · exact iteT ⟨_, rfl, _, _, t, _, b, rfl, .ty _, ty, k2, b, rfl, k⟩
theorem whole_int {H : Hp} {Q : VK} {E : XK} {n : Int} (k : Q (.bl true) H) : sp_is_whole K [.int n] H Q E := by
  unfold sp_is_whole
  exact ⟨_, _, true, false, rfl, .base (.int n), kit_int, kit_ib, k⟩
theorem whole_not {H : Hp} {Q : VK} {E : XK} {v : V} (h : NW K H v) (k : Q (.bl false) H) : sp_is_whole K [v] H Q E := by
  obtain ⟨t, i, b, ty, k1, k2, e⟩ := h
  unfold sp_is_whole
  exact ⟨v, t, i, b, rfl, ty, k1, k2, by rw [e]; exact k⟩
@[irreducible] def sp_is_between (K : PySem.W.Frag) : Sp := fun vs H Q _ => ∃ (v : V) (lo hi : Int), vs = [v, .int lo, .int hi] ∧ ((∃ n, v = .int n ∧ Q (.bl (decide (lo ≤ n ∧ n ≤ hi))) H) ∨ (NW K H v ∧ Q (.bl false) H))
theorem sc_is_between : FnScope ["thing", "low", "high"] ["thing", "low", "high"] (defScope s_is_between) := ⟨rfl, rfl, rfl, by decide +kernel, rfl, by decide +kernel, by decide +kernel⟩
theorem ok_is_between (T : TopL K mg) : Has P w K mg base CX0 2 (He.ga K "is_between") ["thing", "low", "high"] [] (sp_is_between K) := by
  obtain ⟨fd, F⟩ := fn_is_between T
  refine Has.of0 F sc_is_between (fun _ _ _ _ _ _ us hl => match us, hl with | [_, _, _], _ => rfl) (fun vs H Q E h => ?_) (fun cdv A outer s H vs Q E hr h => ?_)
  · unfold sp_is_between at h
    obtain ⟨v, lo, hi, rfl, _⟩ := h
    rfl
  · unfold sp_is_between at h
    obtain ⟨v, lo, hi, rfl, k⟩ := h
    refine ⟨_, (pss_one (ps_ret (pe_and (pe_callH (ok_is_whole T) hr (mg_is_whole T) pass0 (pa_cons (pv 0) pa_nil)) (pe_one (pe_chain op_le op_le (pv 1) (pv 0) (pv 2)))))), ?_⟩
    rcases k with ⟨n, rfl, k⟩ | ⟨nw, k⟩
    · refine ⟨_, rfl, whole_int ⟨true, rfl, iteT ?_⟩⟩
      refine ⟨_, rfl, _, rfl, _, _, rfl, rfl, _, rfl, ?_⟩
      refine ifD (fun hc => ?_) (fun hc => ?_)
      · refine ⟨_, rfl, _, _, rfl, rfl, ?_⟩
        have e : decide (lo ≤ n ∧ n ≤ hi) = decide (n ≤ hi) := by simp [hc]
        rw [e] at k
        exact k
      · have e : decide (lo ≤ n ∧ n ≤ hi) = false := by simp [hc]
        rw [e] at k
        exact k
    · exact ⟨_, rfl, whole_not nw ⟨false, rfl, iteF k⟩⟩
theorem betw_int {H : Hp} {Q : VK} {E : XK} {n lo hi : Int} (k : Q (.bl (decide (lo ≤ n ∧ n ≤ hi))) H) : sp_is_between K [.int n, .int lo, .int hi] H Q E := by
  unfold sp_is_between
  exact ⟨_, _, _, rfl, .inl ⟨n, rfl, k⟩⟩
theorem betw_yes {H : Hp} {Q : VK} {E : XK} {n lo hi : Int} (h : lo ≤ n ∧ n ≤ hi) (k : Q (.bl true) H) : sp_is_between K [.int n, .int lo, .int hi] H Q E := betw_int (by rw [decide_eq_true h]; exact k)
theorem betw_no {H : Hp} {Q : VK} {E : XK} {n lo hi : Int} (h : ¬ (lo ≤ n ∧ n ≤ hi)) (k : Q (.bl false) H) : sp_is_between K [.int n, .int lo, .int hi] H Q E := betw_int (by rw [decide_eq_false h]; exact k)
theorem betw_not {H : Hp} {Q : VK} {E : XK} {v : V} {lo hi : Int} (h : NW K H v) (k : Q (.bl false) H) : sp_is_between K [v, .int lo, .int hi] H Q E := by
  unfold sp_is_between
  exact ⟨_, _, _, rfl, .inr ⟨h, k⟩⟩
end
end Lw
/-! forms -/
namespace Lw
open PySem PySem.Spec PyProof.Rows L2 Rg
section
variable {P : Program} {w : World} {K : PySem.W.Frag} {mg : Str → Option Value} {base : Heap}
@[irreducible] def sp_is_size (K : PySem.W.Frag) : Sp := fun vs H Q _ => ∃ (v : V), vs = [v] ∧ ((∃ n, v = .int n ∧ Q (.bl (decide (1 ≤ n ∧ n ≤ 10 ^ 30))) H) ∨ (NW K H v ∧ Q (.bl false) H))
theorem sc_is_size : FnScope ["thing"] ["thing"] (defScope s_is_size) := ⟨rfl, rfl, rfl, by decide +kernel, rfl, by decide +kernel, by decide +kernel⟩
theorem ok_is_size (T : TopL K mg) : Has P w K mg base CX0 3 (He.ga K "is_size") ["thing"] [] (sp_is_size K) := by
  obtain ⟨fd, F⟩ := fn_is_size T
  obtain ⟨tL, g_LARGEST⟩ := gi_LARGEST T
  refine Has.of0 F sc_is_size (fun _ _ _ _ _ _ us hl => match us, hl with | [_], _ => rfl) (fun vs H Q E h => ?_) (fun cdv A outer s H vs Q E hr h => ?_)
  · unfold sp_is_size at h
    obtain ⟨v, rfl, _⟩ := h
    rfl
  · unfold sp_is_size at h
    obtain ⟨v, rfl, k⟩ := h
    refine ⟨_, (pss_one (ps_ret (pe_callH (ok_is_between T) hr (mg_is_between T) pass0 (pa_cons (pv 0) (pa_cons pe_int (pa_cons (pe_gint g_LARGEST) pa_nil)))))), ?_⟩
    rcases k with ⟨n, rfl, k⟩ | ⟨nw, k⟩
    · exact ⟨_, rfl, betw_int k⟩
    · exact ⟨_, rfl, betw_not nw k⟩
theorem size_yes {H : Hp} {Q : VK} {E : XK} {n : Int} (h : 1 ≤ n ∧ n ≤ 10 ^ 30) (k : Q (.bl true) H) : sp_is_size K [.int n] H Q E := by
  unfold sp_is_size
  exact ⟨_, rfl, .inl ⟨n, rfl, by rw [decide_eq_true h]; exact k⟩⟩
theorem size_no {H : Hp} {Q : VK} {E : XK} {n : Int} (h : ¬ (1 ≤ n ∧ n ≤ 10 ^ 30)) (k : Q (.bl false) H) : sp_is_size K [.int n] H Q E := by
  unfold sp_is_size
  exact ⟨_, rfl, .inl ⟨n, rfl, by rw [decide_eq_false h]; exact k⟩⟩
theorem size_not {H : Hp} {Q : VK} {E : XK} {v : V} (h : NW K H v) (k : Q (.bl false) H) : sp_is_size K [v] H Q E := by
  unfold sp_is_size
  exact ⟨_, rfl, .inr ⟨h, k⟩⟩
abbrev CF (K : PySem.W.Frag) : Addr := He.ga K "Form"
abbrev eNoForm (K : PySem.W.Frag) : Value := .ref (He.ga K "NoForm")
abbrev eNoSize (K : PySem.W.Frag) : Value := .ref (He.ga K "NoSize")
def fO (C d : Addr) (a b : Int) : HO := .ins C d [("slope", .int a), ("base", .int b)]
@[irreducible] def sp_Form_init (K : PySem.W.Frag) : Sp := fun vs H Q E => ∃ (p d : Addr) (x y : V), vs = [.ref p, x, y] ∧ H p = some (.ins (CF K) d []) ∧
  ((∃ a b, x = .int a ∧ y = .int b ∧ Q .non (upd H p (fO (CF K) d a b))) ∨ (NW K H x ∧ E (eNoForm K) none H) ∨ (∃ a, x = .int a ∧ NW K H y ∧ E (eNoForm K) none H))
theorem sc_Form_init : FnScope ["self", "slope", "base"] ["self", "slope", "base"] (defScope s_Form___init__) := ⟨rfl, rfl, rfl, by decide +kernel, rfl, by decide +kernel, by decide +kernel⟩
theorem ok_Form_init (T : TopL K mg) : Has P w K mg base (L2.CX P w) 2 (He.ma K (CF K) "__init__") ["self", "slope", "base"] [] (sp_Form_init K) := by
  obtain ⟨fd, F⟩ := fn_Form___init__ T
  refine Has.ofX F sc_Form_init (fun _ _ _ _ _ _ us hl => match us, hl with | [_, _, _], _ => rfl) (fun vs H Q E h => ?_) (fun cdv A outer s H vs Q E hr h => ?_)
  · unfold sp_Form_init at h
    obtain ⟨p, d, x, y, rfl, _⟩ := h
    rfl
  · unfold sp_Form_init at h
    obtain ⟨p, d, x, y, rfl, hp, k⟩ := h
    refine ⟨_, (pss_cons (ps_if (PW.pt (pw_or (pt_not (pt_val (pe_callH (ok_is_whole T) hr (mg_is_whole T) pass0 (pa_cons (pv 1) pa_nil)))) (pw_or1 (pt_not (pt_val (pe_callH (ok_is_whole T) hr (mg_is_whole T) pass0 (pa_cons (pv 2) pa_nil))))))) (pss_one (raiseO (xx_NoForm T) (takes_of rfl rfl rfl rfl) (mg_NoForm T))) pss_nil)
      (pss_cons (ps_fld (pv 0) (pv 1) rfl)
      (pss_one (ps_fld (pv 0) (pv 2) rfl)))), ?_⟩
    rcases k with ⟨a, b, rfl, rfl, k⟩ | ⟨nw, k⟩ | ⟨a, rfl, nw, k⟩
    · refine ⟨_, rfl, whole_int ⟨true, rfl, ?_⟩⟩
      refine iteF ⟨_, rfl, whole_int ⟨true, rfl, ?_⟩⟩
      refine iteF ?_
      refine ⟨_, rfl, _, rfl, p, CF K, d, _, rfl, hp, cl_Form T, na_Form_slope T, lt1k rfl, ?_⟩
      refine ⟨_, rfl, _, rfl, p, CF K, d, _, rfl, upd_same, cl_Form T, na_Form_base T, lt1k rfl, ?_⟩
      rw [upd_upd]
      exact k
    · refine ⟨_, rfl, whole_not nw ⟨false, rfl, ?_⟩⟩
      exact iteT (iteT k)
    · refine ⟨_, rfl, whole_int ⟨true, rfl, ?_⟩⟩
      refine iteF ⟨_, rfl, whole_not nw ⟨false, rfl, ?_⟩⟩
      exact iteT k
theorem form_init {H : Hp} {R : VK} {E : XK} {p d : Addr} {a b : Int} (np : H p = none) (nd : H d = none) (ne : d ≠ p) (k : ∀ H', Same H H' → H' p = some (fO (CF K) d a b) → R .non H') :
    sp_Form_init K [.ref p, .int a, .int b] (upd (upd H d (.own p)) p (.ins (CF K) d [])) R E := by
  unfold sp_Form_init
  refine ⟨p, d, _, _, rfl, upd_same, .inl ⟨a, b, rfl, rfl, k _ (fun c u e => ?_) upd_same⟩⟩
  rw [upd_ne (ne_of_none e np), upd_ne (ne_of_none e np), upd_ne (ne_of_none e nd)]
  exact e
/-- a form or an int -/
def Opd (K : PySem.W.Frag) (H : Hp) (v : V) (a b : Int) : Prop := (∃ p d, v = .ref p ∧ H p = some (fO (CF K) d a b)) ∨ (v = .int b ∧ a = 0)
/-- neither -/
def NoOpd (K : PySem.W.Frag) (H : Hp) (v : V) : Prop := NW K H v ∧ ∃ t, TyX K H v t ∧ PySem.W.kitOne K t (.ref (CF K)) = some false
theorem noOpd_bt {H : Hp} {v : V} {S : String} (T : TopL K mg) (h : Bt H v S) (n : S ≠ "int") : NoOpd K H v := ⟨nw_bt h n, _, h.ty, (in_Form T).to _ h.mem⟩
@[irreducible] def sp_operand_of (K : PySem.W.Frag) : Sp := fun vs H Q E => ∃ v, vs = [v] ∧ ((∃ a b, Opd K H v a b ∧ ∀ t, H t = none → Q (.ref t) (upd H t (.tup [.int a, .int b]))) ∨ (NoOpd K H v ∧ E (eNoForm K) none H))
theorem sc_operand_of : FnScope ["thing"] ["thing"] (defScope s_operand_of) := ⟨rfl, rfl, rfl, by decide +kernel, rfl, by decide +kernel, by decide +kernel⟩
theorem ok_operand_of (T : TopL K mg) : Has P w K mg base (L2.CX P w) 2 (He.ga K "operand_of") ["thing"] [] (sp_operand_of K) := by
  obtain ⟨fd, F⟩ := fn_operand_of T
  refine Has.ofX F sc_operand_of (fun _ _ _ _ _ _ us hl => match us, hl with | [_], _ => rfl) (fun vs H Q E h => ?_) (fun cdv A outer s H vs Q E hr h => ?_)
  · unfold sp_operand_of at h
    obtain ⟨v, rfl, _⟩ := h
    rfl
  · unfold sp_operand_of at h
    obtain ⟨v, rfl, k⟩ := h
    refine ⟨_, (pss_cons (ps_if (pt_val (pe_callB (call_isi : CallR _ _ (rIsi K)) (by rfl) (fr_isinstance T) (by decide +kernel) (pa_cons (pv 0) (pa_cons (pe_gref (mg_Form T)) pa_nil)))) (pss_one (ps_ret (pe_tup (pa_cons (pe_fld (pv 0) rfl) (pa_cons (pe_fld (pv 0) rfl) pa_nil))))) pss_nil)
      (pss_cons (ps_if (pt_not (pt_val (pe_callH (ok_is_whole T) hr (mg_is_whole T) pass0 (pa_cons (pv 0) pa_nil)))) (pss_one (raiseO (xx_NoForm T) (takes_of rfl rfl rfl rfl) (mg_NoForm T))) pss_nil)
      (pss_one (ps_ret (pe_tup (pa_cons pe_int (pa_cons (pv 0) pa_nil))))))), ?_⟩
    rcases k with ⟨a, b, ⟨p, d, rfl, hp⟩ | ⟨rfl, rfl⟩, k⟩ | ⟨⟨nw, t, ty, kt⟩, k⟩
    · refine ⟨_, rfl, _, _, _, _, true, rfl, .own _, ty_ins (in_Form T) (cl_Form T) hp, (in_Form T).me, true, rfl, ?_⟩
      refine iteT ?_
      refine ⟨_, rfl, p, CF K, d, _, _, rfl, hp, cl_Form T, na_Form_slope T, rfl, _, rfl, p, CF K, d, _, _, rfl, hp, cl_Form T, na_Form_base T, rfl, lenk rfl, fun t nt => ?_⟩
      exact k t nt
    · refine ⟨_, rfl, _, _, _, _, false, rfl, .own _, .base (.int b), (in_Form T).to _ (by decide), false, rfl, ?_⟩
      refine iteF ?_
      refine ⟨_, rfl, whole_int ⟨true, rfl, ?_⟩⟩
      refine iteF ?_
      exact ⟨_, rfl, lenk rfl, fun t nt => k t nt⟩
    · refine ⟨_, rfl, _, _, t, _, false, rfl, .own _, ty, kt, false, rfl, ?_⟩
      refine iteF ?_
      refine ⟨_, rfl, whole_not nw ⟨false, rfl, ?_⟩⟩
      exact iteT k
theorem opd_yes {H : Hp} {Q : VK} {E : XK} {v : V} {a b : Int} (h : Opd K H v a b) (k : ∀ t, H t = none → Q (.ref t) (upd H t (.tup [.int a, .int b]))) : sp_operand_of K [v] H Q E := by
  unfold sp_operand_of
  exact ⟨v, rfl, .inl ⟨a, b, h, k⟩⟩
theorem opd_no {H : Hp} {Q : VK} {E : XK} {v : V} (h : NoOpd K H v) (k : E (eNoForm K) none H) : sp_operand_of K [v] H Q E := by
  unfold sp_operand_of
  exact ⟨v, rfl, .inr ⟨h, k⟩⟩
/-- a new form -/
def NewF (K : PySem.W.Frag) (H : Hp) (Q : VK) (a b : Int) : Prop := ∀ p d H', H p = none → Same H H' → H' p = some (fO (CF K) d a b) → Q (.ref p) H'
@[irreducible] def sp_Form_op (K : PySem.W.Frag) (f : Int → Int → Int) : Sp := fun vs H Q E => ∃ (p d : Addr) (a b : Int) (v : V), vs = [.ref p, v] ∧ H p = some (fO (CF K) d a b) ∧
  ((∃ c e, Opd K H v c e ∧ NewF K H Q (f a c) (f b e)) ∨ (NoOpd K H v ∧ E (eNoForm K) none H))
theorem fop_yes {H : Hp} {Q : VK} {E : XK} {p d : Addr} {v : V} {a b c e : Int} {f : Int → Int → Int} (hp : H p = some (fO (CF K) d a b)) (h : Opd K H v c e) (k : NewF K H Q (f a c) (f b e)) : sp_Form_op K f [.ref p, v] H Q E := by
  unfold sp_Form_op
  exact ⟨p, d, a, b, v, rfl, hp, .inl ⟨c, e, h, k⟩⟩
theorem fop_no {H : Hp} {Q : VK} {E : XK} {p d : Addr} {v : V} {a b : Int} {f : Int → Int → Int} (hp : H p = some (fO (CF K) d a b)) (h : NoOpd K H v) (k : E (eNoForm K) none H) : sp_Form_op K f [.ref p, v] H Q E := by
  unfold sp_Form_op
  exact ⟨p, d, a, b, v, rfl, hp, .inr ⟨h, k⟩⟩
theorem sc_Form_add : FnScope ["self", "other", "slope", "base"] ["self", "other"] (defScope s_Form___add__) := ⟨rfl, rfl, rfl, by decide +kernel, rfl, by decide +kernel, by decide +kernel⟩
theorem ok_Form_add (T : TopL K mg) : Has P w K mg base (L2.CX P w) 4 (He.ma K (CF K) "__add__") ["self", "other"] [] (sp_Form_op K (fun x y => x + y)) := by
  obtain ⟨fd, F⟩ := fn_Form___add__ T
  refine Has.ofX F sc_Form_add (fun _ _ _ _ _ _ us hl => match us, hl with | [_, _], _ => rfl) (fun vs H Q E h => ?_) (fun cdv A outer s H vs Q E hr h => ?_)
  · unfold sp_Form_op at h
    obtain ⟨p, d, a, b, v, rfl, _⟩ := h
    rfl
  · unfold sp_Form_op at h
    obtain ⟨p, d, a, b, v, rfl, hp, k⟩ := h
    refine ⟨_, (pss_cons (ps_asg (pe_callH (ok_operand_of T) hr (mg_operand_of T) (passes_call (takes_of rfl rfl rfl rfl) (fun _ _ _ _ h => h)) (pa_cons (pv 1) pa_nil)) (pg_tup rfl (pgs_cons (pg_name (i := 2) sc_Form_add.nd rfl (Or.inl rfl)) (pgs_cons (pg_name (i := 3) sc_Form_add.nd rfl (Or.inl rfl)) pgs_nil))))
      (pss_one (ps_ret (pe_makeH (mk_Form T) (ok_Form_init T) hr (mg_Form T) (passes_call (takes_of rfl rfl rfl rfl) (fun _ _ _ _ h => h)) (pa_cons (pe_op op_add (pe_fld (pv 0) rfl) (pv 2)) (pa_cons (pe_op op_add (pe_fld (pv 0) rfl) (pv 3)) pa_nil)))))), ?_⟩
    rcases k with ⟨c, e, ho, k⟩ | ⟨ho, k⟩
    · refine ⟨_, rfl, opd_yes ho fun t nt => ?_⟩
      refine ⟨t, _, rfl, SqT.of upd_same, rfl, _, _, rfl, _, _, rfl, rfl, ?_⟩
      have h2 : upd H t (.tup [.int c, .int e]) p = some (fO (CF K) d a b) := by walk_at "hp"
      refine ⟨_, rfl, p, CF K, d, _, _, rfl, h2, cl_Form T, na_Form_slope T, rfl, _, rfl, _, _, rfl, rfl, _, rfl, p, CF K, d, _, _, rfl, h2, cl_Form T, na_Form_base T, rfl, _, rfl, _, _, rfl, rfl, ?_⟩
      intro q dq nq ndq neq
      refine form_init nq ndq neq fun H' s' hq => ⟨rfl, ?_⟩
      exact k q dq H' ((Same.new nt).free nq) ((Same.new nt).trans s') hq
    · exact ⟨_, rfl, opd_no ho k⟩
theorem sc_Form_radd : FnScope ["self", "other", "slope", "base"] ["self", "other"] (defScope s_Form___radd__) := ⟨rfl, rfl, rfl, by decide +kernel, rfl, by decide +kernel, by decide +kernel⟩
theorem ok_Form_radd (T : TopL K mg) : Has P w K mg base (L2.CX P w) 4 (He.ma K (CF K) "__radd__") ["self", "other"] [] (sp_Form_op K (fun x y => y + x)) := by
  obtain ⟨fd, F⟩ := fn_Form___radd__ T
  refine Has.ofX F sc_Form_radd (fun _ _ _ _ _ _ us hl => match us, hl with | [_, _], _ => rfl) (fun vs H Q E h => ?_) (fun cdv A outer s H vs Q E hr h => ?_)
  · unfold sp_Form_op at h
    obtain ⟨p, d, a, b, v, rfl, _⟩ := h
    rfl
  · unfold sp_Form_op at h
    obtain ⟨p, d, a, b, v, rfl, hp, k⟩ := h
    refine ⟨_, (pss_cons (ps_asg (pe_callH (ok_operand_of T) hr (mg_operand_of T) (passes_call (takes_of rfl rfl rfl rfl) (fun _ _ _ _ h => h)) (pa_cons (pv 1) pa_nil)) (pg_tup rfl (pgs_cons (pg_name (i := 2) sc_Form_radd.nd rfl (Or.inl rfl)) (pgs_cons (pg_name (i := 3) sc_Form_radd.nd rfl (Or.inl rfl)) pgs_nil))))
      (pss_one (ps_ret (pe_makeH (mk_Form T) (ok_Form_init T) hr (mg_Form T) (passes_call (takes_of rfl rfl rfl rfl) (fun _ _ _ _ h => h)) (pa_cons (pe_op op_add (pv 2) (pe_fld (pv 0) rfl)) (pa_cons (pe_op op_add (pv 3) (pe_fld (pv 0) rfl)) pa_nil)))))), ?_⟩
    rcases k with ⟨c, e, ho, k⟩ | ⟨ho, k⟩
    · refine ⟨_, rfl, opd_yes ho fun t nt => ?_⟩
      refine ⟨t, _, rfl, SqT.of upd_same, rfl, _, _, rfl, _, _, rfl, rfl, ?_⟩
      have h2 : upd H t (.tup [.int c, .int e]) p = some (fO (CF K) d a b) := by walk_at "hp"
      refine ⟨_, rfl, _, rfl, p, CF K, d, _, _, rfl, h2, cl_Form T, na_Form_slope T, rfl, _, _, rfl, rfl, _, rfl, _, rfl, p, CF K, d, _, _, rfl, h2, cl_Form T, na_Form_base T, rfl, _, _, rfl, rfl, ?_⟩
      intro q dq nq ndq neq
      refine form_init nq ndq neq fun H' s' hq => ⟨rfl, ?_⟩
      exact k q dq H' ((Same.new nt).free nq) ((Same.new nt).trans s') hq
    · exact ⟨_, rfl, opd_no ho k⟩
theorem sc_Form_sub : FnScope ["self", "other", "slope", "base"] ["self", "other"] (defScope s_Form___sub__) := ⟨rfl, rfl, rfl, by decide +kernel, rfl, by decide +kernel, by decide +kernel⟩
theorem ok_Form_sub (T : TopL K mg) : Has P w K mg base (L2.CX P w) 4 (He.ma K (CF K) "__sub__") ["self", "other"] [] (sp_Form_op K (fun x y => x - y)) := by
  obtain ⟨fd, F⟩ := fn_Form___sub__ T
  refine Has.ofX F sc_Form_sub (fun _ _ _ _ _ _ us hl => match us, hl with | [_, _], _ => rfl) (fun vs H Q E h => ?_) (fun cdv A outer s H vs Q E hr h => ?_)
  · unfold sp_Form_op at h
    obtain ⟨p, d, a, b, v, rfl, _⟩ := h
    rfl
  · unfold sp_Form_op at h
    obtain ⟨p, d, a, b, v, rfl, hp, k⟩ := h
    refine ⟨_, (pss_cons (ps_asg (pe_callH (ok_operand_of T) hr (mg_operand_of T) (passes_call (takes_of rfl rfl rfl rfl) (fun _ _ _ _ h => h)) (pa_cons (pv 1) pa_nil)) (pg_tup rfl (pgs_cons (pg_name (i := 2) sc_Form_sub.nd rfl (Or.inl rfl)) (pgs_cons (pg_name (i := 3) sc_Form_sub.nd rfl (Or.inl rfl)) pgs_nil))))
      (pss_one (ps_ret (pe_makeH (mk_Form T) (ok_Form_init T) hr (mg_Form T) (passes_call (takes_of rfl rfl rfl rfl) (fun _ _ _ _ h => h)) (pa_cons (pe_op op_sub (pe_fld (pv 0) rfl) (pv 2)) (pa_cons (pe_op op_sub (pe_fld (pv 0) rfl) (pv 3)) pa_nil)))))), ?_⟩
    rcases k with ⟨c, e, ho, k⟩ | ⟨ho, k⟩
    · refine ⟨_, rfl, opd_yes ho fun t nt => ?_⟩
      refine ⟨t, _, rfl, SqT.of upd_same, rfl, _, _, rfl, _, _, rfl, rfl, ?_⟩
      have h2 : upd H t (.tup [.int c, .int e]) p = some (fO (CF K) d a b) := by walk_at "hp"
      refine ⟨_, rfl, p, CF K, d, _, _, rfl, h2, cl_Form T, na_Form_slope T, rfl, _, rfl, _, _, rfl, rfl, _, rfl, p, CF K, d, _, _, rfl, h2, cl_Form T, na_Form_base T, rfl, _, rfl, _, _, rfl, rfl, ?_⟩
      intro q dq nq ndq neq
      refine form_init nq ndq neq fun H' s' hq => ⟨rfl, ?_⟩
      exact k q dq H' ((Same.new nt).free nq) ((Same.new nt).trans s') hq
    · exact ⟨_, rfl, opd_no ho k⟩
theorem sc_Form_rsub : FnScope ["self", "other", "slope", "base"] ["self", "other"] (defScope s_Form___rsub__) := ⟨rfl, rfl, rfl, by decide +kernel, rfl, by decide +kernel, by decide +kernel⟩
theorem ok_Form_rsub (T : TopL K mg) : Has P w K mg base (L2.CX P w) 4 (He.ma K (CF K) "__rsub__") ["self", "other"] [] (sp_Form_op K (fun x y => y - x)) := by
  obtain ⟨fd, F⟩ := fn_Form___rsub__ T
  refine Has.ofX F sc_Form_rsub (fun _ _ _ _ _ _ us hl => match us, hl with | [_, _], _ => rfl) (fun vs H Q E h => ?_) (fun cdv A outer s H vs Q E hr h => ?_)
  · unfold sp_Form_op at h
    obtain ⟨p, d, a, b, v, rfl, _⟩ := h
    rfl
  · unfold sp_Form_op at h
    obtain ⟨p, d, a, b, v, rfl, hp, k⟩ := h
    refine ⟨_, (pss_cons (ps_asg (pe_callH (ok_operand_of T) hr (mg_operand_of T) (passes_call (takes_of rfl rfl rfl rfl) (fun _ _ _ _ h => h)) (pa_cons (pv 1) pa_nil)) (pg_tup rfl (pgs_cons (pg_name (i := 2) sc_Form_rsub.nd rfl (Or.inl rfl)) (pgs_cons (pg_name (i := 3) sc_Form_rsub.nd rfl (Or.inl rfl)) pgs_nil))))
      (pss_one (ps_ret (pe_makeH (mk_Form T) (ok_Form_init T) hr (mg_Form T) (passes_call (takes_of rfl rfl rfl rfl) (fun _ _ _ _ h => h)) (pa_cons (pe_op op_sub (pv 2) (pe_fld (pv 0) rfl)) (pa_cons (pe_op op_sub (pv 3) (pe_fld (pv 0) rfl)) pa_nil)))))), ?_⟩
    rcases k with ⟨c, e, ho, k⟩ | ⟨ho, k⟩
    · refine ⟨_, rfl, opd_yes ho fun t nt => ?_⟩
      refine ⟨t, _, rfl, SqT.of upd_same, rfl, _, _, rfl, _, _, rfl, rfl, ?_⟩
      have h2 : upd H t (.tup [.int c, .int e]) p = some (fO (CF K) d a b) := by walk_at "hp"
      refine ⟨_, rfl, _, rfl, p, CF K, d, _, _, rfl, h2, cl_Form T, na_Form_slope T, rfl, _, _, rfl, rfl, _, rfl, _, rfl, p, CF K, d, _, _, rfl, h2, cl_Form T, na_Form_base T, rfl, _, _, rfl, rfl, ?_⟩
      intro q dq nq ndq neq
      refine form_init nq ndq neq fun H' s' hq => ⟨rfl, ?_⟩
      exact k q dq H' ((Same.new nt).free nq) ((Same.new nt).trans s') hq
    · exact ⟨_, rfl, opd_no ho k⟩
end
end Lw
/-! forms: products, the negative, values, == -/
namespace Lw
open PySem PySem.Spec PyProof.Rows L2 Rg
section
variable {P : Program} {w : World} {K : PySem.W.Frag} {mg : Str → Option Value} {base : Heap}
@[irreducible] def sp_Form_mul (K : PySem.W.Frag) : Sp := fun vs H Q E => ∃ (p d : Addr) (a b : Int) (v : V), vs = [.ref p, v] ∧ H p = some (fO (CF K) d a b) ∧
  ((∃ n, v = .int n ∧ (Bg a ∧ Bg b ∧ Bg n) ∧ NewF K H Q (a * n) (b * n)) ∨ (NW K H v ∧ E (eNoForm K) none H))
theorem fmul_yes {H : Hp} {Q : VK} {E : XK} {p d : Addr} {a b n : Int} (hp : H p = some (fO (CF K) d a b)) (h : Bg a ∧ Bg b ∧ Bg n) (k : NewF K H Q (a * n) (b * n)) : sp_Form_mul K [.ref p, .int n] H Q E := by
  unfold sp_Form_mul
  exact ⟨p, d, a, b, _, rfl, hp, .inl ⟨n, rfl, h, k⟩⟩
theorem fmul_no {H : Hp} {Q : VK} {E : XK} {p d : Addr} {v : V} {a b : Int} (hp : H p = some (fO (CF K) d a b)) (h : NW K H v) (k : E (eNoForm K) none H) : sp_Form_mul K [.ref p, v] H Q E := by
  unfold sp_Form_mul
  exact ⟨p, d, a, b, v, rfl, hp, .inr ⟨h, k⟩⟩
theorem sc_Form_mul : FnScope ["self", "other"] ["self", "other"] (defScope s_Form___mul__) := ⟨rfl, rfl, rfl, by decide +kernel, rfl, by decide +kernel, by decide +kernel⟩
theorem ok_Form_mul (T : TopL K mg) : Has P w K mg base (L2.CX P w) 4 (He.ma K (CF K) "__mul__") ["self", "other"] [] (sp_Form_mul K) := by
  obtain ⟨fd, F⟩ := fn_Form___mul__ T
  refine Has.ofX F sc_Form_mul (fun _ _ _ _ _ _ us hl => match us, hl with | [_, _], _ => rfl) (fun vs H Q E h => ?_) (fun cdv A outer s H vs Q E hr h => ?_)
  · unfold sp_Form_mul at h
    obtain ⟨p, d, a, b, v, rfl, _⟩ := h
    rfl
  · unfold sp_Form_mul at h
    obtain ⟨p, d, a, b, v, rfl, hp, k⟩ := h
    refine ⟨_, (pss_cons (ps_if (pt_not (pt_val (pe_callH (ok_is_whole T) hr (mg_is_whole T) pass0 (pa_cons (pv 1) pa_nil)))) (pss_one (raiseO (xx_NoForm T) (takes_of rfl rfl rfl rfl) (mg_NoForm T))) pss_nil)
      (pss_one (ps_ret (pe_makeH (mk_Form T) (ok_Form_init T) hr (mg_Form T) (passes_call (takes_of rfl rfl rfl rfl) (fun _ _ _ _ h => h)) (pa_cons (pe_op op_mulW (pe_fld (pv 0) rfl) (pv 1)) (pa_cons (pe_op op_mulW (pe_fld (pv 0) rfl) (pv 1)) pa_nil)))))), ?_⟩
    rcases k with ⟨n, rfl, ⟨h1, h2, h3⟩, k⟩ | ⟨nw, k⟩
    · refine ⟨_, rfl, whole_int ⟨true, rfl, ?_⟩⟩
      refine iteF ?_
      refine ⟨_, rfl, p, CF K, d, _, _, rfl, hp, cl_Form T, na_Form_slope T, rfl, _, rfl, _, _, rfl, rfl, bg_mul h1 h3, _, rfl, p, CF K, d, _, _, rfl, hp, cl_Form T, na_Form_base T, rfl, _, rfl, _, _, rfl, rfl, bg_mul h2 h3, ?_⟩
      intro q dq nq ndq neq
      exact form_init nq ndq neq fun H' s' hq => ⟨rfl, k q dq H' nq s' hq⟩
    · refine ⟨_, rfl, whole_not nw ⟨false, rfl, ?_⟩⟩
      exact iteT k
theorem sc_Form_rmul : FnScope ["self", "other"] ["self", "other"] (defScope s_Form___rmul__) := ⟨rfl, rfl, rfl, by decide +kernel, rfl, by decide +kernel, by decide +kernel⟩
theorem ok_Form_rmul (T : TopL K mg) : Has P w K mg base (L2.CX P w) 4 (He.ma K (CF K) "__rmul__") ["self", "other"] [] (sp_Form_mul K) := by
  obtain ⟨fd, F⟩ := fn_Form___rmul__ T
  refine Has.ofX F sc_Form_rmul (fun _ _ _ _ _ _ us hl => match us, hl with | [_, _], _ => rfl) (fun vs H Q E h => ?_) (fun cdv A outer s H vs Q E hr h => ?_)
  · unfold sp_Form_mul at h
    obtain ⟨p, d, a, b, v, rfl, _⟩ := h
    rfl
  · unfold sp_Form_mul at h
    obtain ⟨p, d, a, b, v, rfl, hp, k⟩ := h
    refine ⟨_, (pss_cons (ps_if (pt_not (pt_val (pe_callH (ok_is_whole T) hr (mg_is_whole T) pass0 (pa_cons (pv 1) pa_nil)))) (pss_one (raiseO (xx_NoForm T) (takes_of rfl rfl rfl rfl) (mg_NoForm T))) pss_nil)
      (pss_one (ps_ret (pe_makeH (mk_Form T) (ok_Form_init T) hr (mg_Form T) (passes_call (takes_of rfl rfl rfl rfl) (fun _ _ _ _ h => h)) (pa_cons (pe_op op_mulW (pv 1) (pe_fld (pv 0) rfl)) (pa_cons (pe_op op_mulW (pv 1) (pe_fld (pv 0) rfl)) pa_nil)))))), ?_⟩
    rcases k with ⟨n, rfl, ⟨h1, h2, h3⟩, k⟩ | ⟨nw, k⟩
    · refine ⟨_, rfl, whole_int ⟨true, rfl, ?_⟩⟩
      refine iteF ?_
      have e1 : a * n = n * a := Int.mul_comm _ _
      have e2 : b * n = n * b := Int.mul_comm _ _
      rw [e1, e2] at k
      refine ⟨_, rfl, _, rfl, p, CF K, d, _, _, rfl, hp, cl_Form T, na_Form_slope T, rfl, _, _, rfl, rfl, bg_mul h3 h1, _, rfl, _, rfl, p, CF K, d, _, _, rfl, hp, cl_Form T, na_Form_base T, rfl, _, _, rfl, rfl, bg_mul h3 h2, ?_⟩
      intro q dq nq ndq neq
      exact form_init nq ndq neq fun H' s' hq => ⟨rfl, k q dq H' nq s' hq⟩
    · refine ⟨_, rfl, whole_not nw ⟨false, rfl, ?_⟩⟩
      exact iteT k
def sp_Form_neg (K : PySem.W.Frag) : Sp := fun vs H Q _ => ∃ (p d : Addr) (a b : Int), vs = [.ref p] ∧ H p = some (fO (CF K) d a b) ∧ NewF K H Q (-a) (-b)
theorem sc_Form_neg : FnScope ["self"] ["self"] (defScope s_Form___neg__) := ⟨rfl, rfl, rfl, by decide +kernel, rfl, by decide +kernel, by decide +kernel⟩
theorem ok_Form_neg (T : TopL K mg) : Has P w K mg base CX0 4 (He.ma K (CF K) "__neg__") ["self"] [] (sp_Form_neg K) := by
  obtain ⟨fd, F⟩ := fn_Form___neg__ T
  refine Has.of0 F sc_Form_neg (fun _ _ _ _ _ _ us hl => match us, hl with | [_], _ => rfl) (fun vs H Q E h => ?_) (fun cdv A outer s H vs Q E hr h => ?_)
  · obtain ⟨p, d, a, b, rfl, _⟩ := h
    rfl
  · obtain ⟨p, d, a, b, rfl, hp, k⟩ := h
    refine ⟨_, (pss_one (ps_ret (pe_makeH (mk_Form T) (ok_Form_init T) hr (mg_Form T) passL (pa_cons (pe_un un_neg (pe_fld (pv 0) rfl)) (pa_cons (pe_un un_neg (pe_fld (pv 0) rfl)) pa_nil))))), ?_⟩
    refine ⟨_, rfl, p, CF K, d, _, _, rfl, hp, cl_Form T, na_Form_slope T, rfl, _, rfl, _, rfl, p, CF K, d, _, _, rfl, hp, cl_Form T, na_Form_base T, rfl, _, rfl, ?_⟩
    intro q dq nq ndq neq
    exact form_init nq ndq neq fun H' s' hq => ⟨rfl, k q dq H' nq s' hq⟩
@[irreducible] def sp_Form_call (K : PySem.W.Frag) : Sp := fun vs H Q E => ∃ (p d : Addr) (a b : Int) (v : V), vs = [.ref p, v] ∧ H p = some (fO (CF K) d a b) ∧
  ((∃ n : Int, v = .int n ∧ (1 ≤ n ∧ n ≤ 10 ^ 30) ∧ Bg a ∧ Q (.int (a * n + b)) H) ∨ (((∃ n : Int, v = .int n ∧ ¬ (1 ≤ n ∧ n ≤ 10 ^ 30)) ∨ NW K H v) ∧ E (eNoSize K) none H))
theorem fcall_yes {H : Hp} {Q : VK} {E : XK} {p d : Addr} {a b n : Int} (hp : H p = some (fO (CF K) d a b)) (h : 1 ≤ n ∧ n ≤ 10 ^ 30) (hb : Bg a) (k : Q (.int (a * n + b)) H) : sp_Form_call K [.ref p, .int n] H Q E := by
  unfold sp_Form_call
  exact ⟨p, d, a, b, _, rfl, hp, .inl ⟨n, rfl, h, hb, k⟩⟩
theorem fcall_no {H : Hp} {Q : VK} {E : XK} {p d : Addr} {a b : Int} {v : V} (hp : H p = some (fO (CF K) d a b)) (h : (∃ n : Int, v = .int n ∧ ¬ (1 ≤ n ∧ n ≤ 10 ^ 30)) ∨ NW K H v) (k : E (eNoSize K) none H) : sp_Form_call K [.ref p, v] H Q E := by
  unfold sp_Form_call
  exact ⟨p, d, a, b, _, rfl, hp, .inr ⟨h, k⟩⟩
theorem sc_Form_call : FnScope ["self", "n"] ["self", "n"] (defScope s_Form___call__) := ⟨rfl, rfl, rfl, by decide +kernel, rfl, by decide +kernel, by decide +kernel⟩
theorem ok_Form_call (T : TopL K mg) : Has P w K mg base (L2.CX P w) 4 (He.ma K (CF K) "__call__") ["self", "n"] [] (sp_Form_call K) := by
  obtain ⟨fd, F⟩ := fn_Form___call__ T
  refine Has.ofX F sc_Form_call (fun _ _ _ _ _ _ us hl => match us, hl with | [_, _], _ => rfl) (fun vs H Q E h => ?_) (fun cdv A outer s H vs Q E hr h => ?_)
  · unfold sp_Form_call at h
    obtain ⟨p, d, a, b, v, rfl, _⟩ := h
    rfl
  · unfold sp_Form_call at h
    obtain ⟨p, d, a, b, v, rfl, hp, k⟩ := h
    refine ⟨_, (pss_cons (ps_if (pt_not (pt_val (pe_callH (ok_is_size T) hr (mg_is_size T) pass0 (pa_cons (pv 1) pa_nil)))) (pss_one (raiseO (xx_NoSize T) (takes_of rfl rfl rfl rfl) (mg_NoSize T))) pss_nil)
      (pss_one (ps_ret (pe_op op_add (pe_op op_mulW (pe_fld (pv 0) rfl) (pv 1)) (pe_fld (pv 0) rfl))))), ?_⟩
    rcases k with ⟨n, rfl, hn, ha, k⟩ | ⟨⟨n, rfl, hn⟩ | nw, k⟩
    · refine ⟨_, rfl, size_yes hn ⟨true, rfl, ?_⟩⟩
      refine iteF ?_
      refine ⟨_, rfl, p, CF K, d, _, _, rfl, hp, cl_Form T, na_Form_slope T, rfl, _, rfl, _, _, rfl, rfl, bg_mul ha (bg_of (by omega) (by omega)), ?_⟩
      exact ⟨_, rfl, p, CF K, d, _, _, rfl, hp, cl_Form T, na_Form_base T, rfl, _, _, rfl, rfl, k⟩
    · refine ⟨_, rfl, size_no hn ⟨false, rfl, ?_⟩⟩
      exact iteT k
    · refine ⟨_, rfl, size_not nw ⟨false, rfl, ?_⟩⟩
      exact iteT k
@[irreducible] def sp_Form_eq (K : PySem.W.Frag) : Sp := fun vs H Q _ => ∃ (p d : Addr) (a b : Int) (v : V), vs = [.ref p, v] ∧ H p = some (fO (CF K) d a b) ∧
  ((∃ q e c f, v = .ref q ∧ H q = some (fO (CF K) e c f) ∧ Q (.bl (decide (a = c ∧ b = f))) H) ∨ ((∃ t, TyX K H v t ∧ PySem.W.kitOne K t (.ref (CF K)) = some false) ∧ Q (.bl false) H))
theorem feq_yes {H : Hp} {Q : VK} {E : XK} {p d q e : Addr} {a b c f : Int} (hp : H p = some (fO (CF K) d a b)) (hq : H q = some (fO (CF K) e c f)) (k : Q (.bl (decide (a = c ∧ b = f))) H) : sp_Form_eq K [.ref p, .ref q] H Q E := by
  unfold sp_Form_eq
  exact ⟨p, d, a, b, _, rfl, hp, .inl ⟨q, e, c, f, rfl, hq, k⟩⟩
theorem feq_no {H : Hp} {Q : VK} {E : XK} {p d : Addr} {a b : Int} {v : V} {t : Value} (hp : H p = some (fO (CF K) d a b)) (ty : TyX K H v t) (kt : PySem.W.kitOne K t (.ref (CF K)) = some false) (k : Q (.bl false) H) : sp_Form_eq K [.ref p, v] H Q E := by
  unfold sp_Form_eq
  exact ⟨p, d, a, b, _, rfl, hp, .inr ⟨⟨t, ty, kt⟩, k⟩⟩
theorem sc_Form_eq : FnScope ["self", "other"] ["self", "other"] (defScope s_Form___eq__) := ⟨rfl, rfl, rfl, by decide +kernel, rfl, by decide +kernel, by decide +kernel⟩
theorem ok_Form_eq (T : TopL K mg) : Has P w K mg base CX0 1 (He.ma K (CF K) "__eq__") ["self", "other"] [] (sp_Form_eq K) := by
  obtain ⟨fd, F⟩ := fn_Form___eq__ T
  refine Has.of0 F sc_Form_eq (fun _ _ _ _ _ _ us hl => match us, hl with | [_, _], _ => rfl) (fun vs H Q E h => ?_) (fun cdv A outer s H vs Q E hr h => ?_)
  · unfold sp_Form_eq at h
    obtain ⟨p, d, a, b, v, rfl, _⟩ := h
    rfl
  · unfold sp_Form_eq at h
    obtain ⟨p, d, a, b, v, rfl, hp, k⟩ := h
    refine ⟨_, (pss_one (ps_ret (pe_and (pe_callB (call_isi : CallR _ _ (rIsi K)) (by rfl) (fr_isinstance T) (by decide +kernel) (pa_cons (pv 1) (pa_cons (pe_gref (mg_Form T)) pa_nil))) (pe_and (pe_cmpR op_eq (pe_fld (pv 0) rfl) (pe_fld (pv 1) rfl) (nomark _)) (pe_one (pe_cmpR op_eq (pe_fld (pv 0) rfl) (pe_fld (pv 1) rfl) (nomark _))))))), ?_⟩
    rcases k with ⟨q, e, c, f, rfl, hq, k⟩ | ⟨⟨t, ty, kt⟩, k⟩
    · refine ⟨_, rfl, _, _, _, _, true, rfl, .own _, ty_ins (in_Form T) (cl_Form T) hq, (in_Form T).me, true, rfl, ?_⟩
      refine iteT ?_
      refine ⟨_, rfl, p, CF K, d, _, _, rfl, hp, cl_Form T, na_Form_slope T, rfl, _, rfl, q, CF K, e, _, _, rfl, hq, cl_Form T, na_Form_slope T, rfl, rfl, _, rfl, ?_⟩
      refine ifD (fun hc => ?_) (fun hc => ?_)
      · refine ⟨_, rfl, p, CF K, d, _, _, rfl, hp, cl_Form T, na_Form_base T, rfl, _, rfl, q, CF K, e, _, _, rfl, hq, cl_Form T, na_Form_base T, rfl, rfl, ?_⟩
        have z : decide (a = c ∧ b = f) = decide (V.int b = V.int f) := by
          have ac : a = c := V.int.inj hc
          rw [dec_int, ac]
          by_cases h : b = f <;> simp [h]
        rw [z] at k
        exact k
      · have z : decide (a = c ∧ b = f) = false := decide_eq_false fun q => hc (by rw [q.1])
        rw [z] at k
        exact k
    · refine ⟨_, rfl, _, _, t, _, false, rfl, .own _, ty, kt, false, rfl, ?_⟩
      exact iteF k
end
end Lw
/-! forms compared -/
namespace Lw
open PySem PySem.Spec PyProof.Rows L2 Rg
section
variable {P : Program} {w : World} {K : PySem.W.Frag} {mg : Str → Option Value} {base : Heap}
def sgn (a b c f : Int) : Int := if a = c then b - f else a - c
def NoF (K : PySem.W.Frag) (H : Hp) (v : V) : Prop := ∃ t, TyX K H v t ∧ PySem.W.kitOne K t (.ref (CF K)) = some false
@[irreducible] def sp_sign_of (K : PySem.W.Frag) : Sp := fun vs H Q E => ∃ (p d : Addr) (a b : Int) (v : V), vs = [.ref p, v] ∧ H p = some (fO (CF K) d a b) ∧
  ((∃ q e c f, v = .ref q ∧ H q = some (fO (CF K) e c f) ∧ Q (.int (sgn a b c f)) H) ∨ (NoF K H v ∧ E (eNoForm K) none H))
theorem sign_yes {H : Hp} {Q : VK} {E : XK} {p d q e : Addr} {a b c f : Int} (hp : H p = some (fO (CF K) d a b)) (hq : H q = some (fO (CF K) e c f)) (k : Q (.int (sgn a b c f)) H) : sp_sign_of K [.ref p, .ref q] H Q E := by
  unfold sp_sign_of
  exact ⟨p, d, a, b, _, rfl, hp, .inl ⟨q, e, c, f, rfl, hq, k⟩⟩
theorem sign_no {H : Hp} {Q : VK} {E : XK} {p d : Addr} {a b : Int} {v : V} (hp : H p = some (fO (CF K) d a b)) (h : NoF K H v) (k : E (eNoForm K) none H) : sp_sign_of K [.ref p, v] H Q E := by
  unfold sp_sign_of
  exact ⟨p, d, a, b, _, rfl, hp, .inr ⟨h, k⟩⟩
theorem sc_sign_of : FnScope ["one", "other"] ["one", "other"] (defScope s_sign_of) := ⟨rfl, rfl, rfl, by decide +kernel, rfl, by decide +kernel, by decide +kernel⟩
theorem ok_sign_of (T : TopL K mg) : Has P w K mg base (L2.CX P w) 1 (He.ga K "sign_of") ["one", "other"] [] (sp_sign_of K) := by
  obtain ⟨fd, F⟩ := fn_sign_of T
  refine Has.ofX F sc_sign_of (fun _ _ _ _ _ _ us hl => match us, hl with | [_, _], _ => rfl) (fun vs H Q E h => ?_) (fun cdv A outer s H vs Q E hr h => ?_)
  · unfold sp_sign_of at h
    obtain ⟨p, d, a, b, v, rfl, hp, k⟩ := h
    rfl
  · unfold sp_sign_of at h
    obtain ⟨p, d, a, b, v, rfl, hp, k⟩ := h
    refine ⟨_, (pss_cons (ps_if (pt_not (pt_val (pe_callB (call_isi : CallR _ _ (rIsi K)) (by rfl) (fr_isinstance T) (by decide +kernel) (pa_cons (pv 1) (pa_cons (pe_gref (mg_Form T)) pa_nil))))) (pss_one (raiseO (xx_NoForm T) (takes_of rfl rfl rfl rfl) (mg_NoForm T))) pss_nil)
      (pss_cons (ps_if (pt_cmpR op_ne (pe_fld (pv 0) rfl) (pe_fld (pv 1) rfl) (nomark _)) (pss_one (ps_ret (pe_op op_sub (pe_fld (pv 0) rfl) (pe_fld (pv 1) rfl)))) pss_nil)
      (pss_one (ps_ret (pe_op op_sub (pe_fld (pv 0) rfl) (pe_fld (pv 1) rfl)))))), ?_⟩
    rcases k with ⟨q, e, c, f, rfl, hq, k⟩ | ⟨⟨t, ty, kt⟩, k⟩
    · refine ⟨_, rfl, _, _, _, _, true, rfl, .own _, ty_ins (in_Form T) (cl_Form T) hq, (in_Form T).me, true, rfl, ?_⟩
      refine iteF ?_
      refine ⟨_, rfl, p, CF K, d, _, _, rfl, hp, cl_Form T, na_Form_slope T, rfl, _, rfl, q, CF K, e, _, _, rfl, hq, cl_Form T, na_Form_slope T, rfl, rfl, _, rfl, ?_⟩
      unfold sgn at k
      refine ifN (fun hc => ?_) (fun hc => ?_)
      · rw [if_neg (fun z => hc (congrArg V.int z))] at k
        exact ⟨_, rfl, p, CF K, d, _, _, rfl, hp, cl_Form T, na_Form_slope T, rfl, _, rfl, q, CF K, e, _, _, rfl, hq, cl_Form T, na_Form_slope T, rfl, _, _, rfl, rfl, k⟩
      · rw [if_pos (V.int.inj hc)] at k
        exact ⟨_, rfl, p, CF K, d, _, _, rfl, hp, cl_Form T, na_Form_base T, rfl, _, rfl, q, CF K, e, _, _, rfl, hq, cl_Form T, na_Form_base T, rfl, _, _, rfl, rfl, k⟩
    · refine ⟨_, rfl, _, _, t, _, false, rfl, .own _, ty, kt, false, rfl, ?_⟩
      exact iteT k
@[irreducible] def sp_Form_cmp (K : PySem.W.Frag) (g : Int → Bool) : Sp := fun vs H Q E => ∃ (p d : Addr) (a b : Int) (v : V), vs = [.ref p, v] ∧ H p = some (fO (CF K) d a b) ∧
  ((∃ q e c f, v = .ref q ∧ H q = some (fO (CF K) e c f) ∧ Q (.bl (g (sgn a b c f))) H) ∨ (NoF K H v ∧ E (eNoForm K) none H))
theorem fcmp_yes {H : Hp} {Q : VK} {E : XK} {p d q e : Addr} {a b c f : Int} {g : Int → Bool} (hp : H p = some (fO (CF K) d a b)) (hq : H q = some (fO (CF K) e c f)) (k : Q (.bl (g (sgn a b c f))) H) : sp_Form_cmp K g [.ref p, .ref q] H Q E := by
  unfold sp_Form_cmp
  exact ⟨p, d, a, b, _, rfl, hp, .inl ⟨q, e, c, f, rfl, hq, k⟩⟩
theorem fcmp_no {H : Hp} {Q : VK} {E : XK} {p d : Addr} {a b : Int} {v : V} {g : Int → Bool} (hp : H p = some (fO (CF K) d a b)) (h : NoF K H v) (k : E (eNoForm K) none H) : sp_Form_cmp K g [.ref p, v] H Q E := by
  unfold sp_Form_cmp
  exact ⟨p, d, a, b, _, rfl, hp, .inr ⟨h, k⟩⟩
theorem sc_Form_lt : FnScope ["self", "other"] ["self", "other"] (defScope s_Form___lt__) := ⟨rfl, rfl, rfl, by decide +kernel, rfl, by decide +kernel, by decide +kernel⟩
theorem ok_Form_lt (T : TopL K mg) : Has P w K mg base (L2.CX P w) 2 (He.ma K (CF K) "__lt__") ["self", "other"] [] (sp_Form_cmp K (fun s => decide (s < 0))) := by
  obtain ⟨fd, F⟩ := fn_Form___lt__ T
  refine Has.ofX F sc_Form_lt (fun _ _ _ _ _ _ us hl => match us, hl with | [_, _], _ => rfl) (fun vs H Q E h => ?_) (fun cdv A outer s H vs Q E hr h => ?_)
  · unfold sp_Form_cmp at h
    obtain ⟨p, d, a, b, v, rfl, hp, k⟩ := h
    rfl
  · unfold sp_Form_cmp at h
    obtain ⟨p, d, a, b, v, rfl, hp, k⟩ := h
    refine ⟨_, (pss_one (ps_ret (pe_cmpR op_lt (pe_callH (ok_sign_of T) hr (mg_sign_of T) (passes_call (takes_of rfl rfl rfl rfl) (fun _ _ _ _ h => h)) (pa_cons (pv 0) (pa_cons (pv 1) pa_nil))) pe_int (nomark _)))), ?_⟩
    rcases k with ⟨q, e, c, f, rfl, hq, k⟩ | ⟨nf, k⟩
    · exact ⟨_, rfl, _, rfl, sign_yes hp hq ⟨_, _, rfl, rfl, k⟩⟩
    · exact ⟨_, rfl, _, rfl, sign_no hp nf k⟩
theorem sc_Form_le : FnScope ["self", "other"] ["self", "other"] (defScope s_Form___le__) := ⟨rfl, rfl, rfl, by decide +kernel, rfl, by decide +kernel, by decide +kernel⟩
theorem ok_Form_le (T : TopL K mg) : Has P w K mg base (L2.CX P w) 2 (He.ma K (CF K) "__le__") ["self", "other"] [] (sp_Form_cmp K (fun s => decide (s ≤ 0))) := by
  obtain ⟨fd, F⟩ := fn_Form___le__ T
  refine Has.ofX F sc_Form_le (fun _ _ _ _ _ _ us hl => match us, hl with | [_, _], _ => rfl) (fun vs H Q E h => ?_) (fun cdv A outer s H vs Q E hr h => ?_)
  · unfold sp_Form_cmp at h
    obtain ⟨p, d, a, b, v, rfl, hp, k⟩ := h
    rfl
  · unfold sp_Form_cmp at h
    obtain ⟨p, d, a, b, v, rfl, hp, k⟩ := h
    refine ⟨_, (pss_one (ps_ret (pe_cmpR op_le (pe_callH (ok_sign_of T) hr (mg_sign_of T) (passes_call (takes_of rfl rfl rfl rfl) (fun _ _ _ _ h => h)) (pa_cons (pv 0) (pa_cons (pv 1) pa_nil))) pe_int (nomark _)))), ?_⟩
    rcases k with ⟨q, e, c, f, rfl, hq, k⟩ | ⟨nf, k⟩
    · exact ⟨_, rfl, _, rfl, sign_yes hp hq ⟨_, _, rfl, rfl, k⟩⟩
    · exact ⟨_, rfl, _, rfl, sign_no hp nf k⟩
theorem sc_Form_gt : FnScope ["self", "other"] ["self", "other"] (defScope s_Form___gt__) := ⟨rfl, rfl, rfl, by decide +kernel, rfl, by decide +kernel, by decide +kernel⟩
theorem ok_Form_gt (T : TopL K mg) : Has P w K mg base (L2.CX P w) 2 (He.ma K (CF K) "__gt__") ["self", "other"] [] (sp_Form_cmp K (fun s => decide (s > 0))) := by
  obtain ⟨fd, F⟩ := fn_Form___gt__ T
  refine Has.ofX F sc_Form_gt (fun _ _ _ _ _ _ us hl => match us, hl with | [_, _], _ => rfl) (fun vs H Q E h => ?_) (fun cdv A outer s H vs Q E hr h => ?_)
  · unfold sp_Form_cmp at h
    obtain ⟨p, d, a, b, v, rfl, hp, k⟩ := h
    rfl
  · unfold sp_Form_cmp at h
    obtain ⟨p, d, a, b, v, rfl, hp, k⟩ := h
    refine ⟨_, (pss_one (ps_ret (pe_cmpR op_gt (pe_callH (ok_sign_of T) hr (mg_sign_of T) (passes_call (takes_of rfl rfl rfl rfl) (fun _ _ _ _ h => h)) (pa_cons (pv 0) (pa_cons (pv 1) pa_nil))) pe_int (nomark _)))), ?_⟩
    rcases k with ⟨q, e, c, f, rfl, hq, k⟩ | ⟨nf, k⟩
    · exact ⟨_, rfl, _, rfl, sign_yes hp hq ⟨_, _, rfl, rfl, k⟩⟩
    · exact ⟨_, rfl, _, rfl, sign_no hp nf k⟩
theorem sc_Form_ge : FnScope ["self", "other"] ["self", "other"] (defScope s_Form___ge__) := ⟨rfl, rfl, rfl, by decide +kernel, rfl, by decide +kernel, by decide +kernel⟩
theorem ok_Form_ge (T : TopL K mg) : Has P w K mg base (L2.CX P w) 2 (He.ma K (CF K) "__ge__") ["self", "other"] [] (sp_Form_cmp K (fun s => decide (s ≥ 0))) := by
  obtain ⟨fd, F⟩ := fn_Form___ge__ T
  refine Has.ofX F sc_Form_ge (fun _ _ _ _ _ _ us hl => match us, hl with | [_, _], _ => rfl) (fun vs H Q E h => ?_) (fun cdv A outer s H vs Q E hr h => ?_)
  · unfold sp_Form_cmp at h
    obtain ⟨p, d, a, b, v, rfl, hp, k⟩ := h
    rfl
  · unfold sp_Form_cmp at h
    obtain ⟨p, d, a, b, v, rfl, hp, k⟩ := h
    refine ⟨_, (pss_one (ps_ret (pe_cmpR op_ge (pe_callH (ok_sign_of T) hr (mg_sign_of T) (passes_call (takes_of rfl rfl rfl rfl) (fun _ _ _ _ h => h)) (pa_cons (pv 0) (pa_cons (pv 1) pa_nil))) pe_int (nomark _)))), ?_⟩
    rcases k with ⟨q, e, c, f, rfl, hq, k⟩ | ⟨nf, k⟩
    · exact ⟨_, rfl, _, rfl, sign_yes hp hq ⟨_, _, rfl, rfl, k⟩⟩
    · exact ⟨_, rfl, _, rfl, sign_no hp nf k⟩
end
end Lw
/-! the drawn forms and sizes -/
namespace Lw
open PySem PySem.Spec PyProof.Rows L2 Rg
section
variable {P : Program} {w : World} {K : PySem.W.Frag} {mg : Str → Option Value} {base : Heap}
@[irreducible] def sp_lform : Sp := fun vs H Q _ => ∃ p, vs = [.ref p] ∧ Src H p ∧ ∀ t a b H', (-(10 ^ 30) ≤ a ∧ a ≤ 10 ^ 30) → (-(10 ^ 30) ≤ b ∧ b ≤ 10 ^ 30) → H t = none → Drawn p H H' → H' t = some (.tup [.int a, .int b]) → Q (.ref t) H'
theorem lform_rd {H : Hp} {Q : VK} {E : XK} {p : Addr} (hp : Src H p) (k : ∀ t a b H', (-(10 ^ 30) ≤ a ∧ a ≤ 10 ^ 30) → (-(10 ^ 30) ≤ b ∧ b ≤ 10 ^ 30) → H t = none → Drawn p H H' → Src H' p → H' t = some (.tup [.int a, .int b]) → Q (.ref t) H') : sp_lform [.ref p] H Q E := by
  unfold sp_lform
  exact ⟨p, rfl, hp, fun t a b H' h1 h2 n d e => k t a b H' h1 h2 n d d.src e⟩
theorem sgn_mul {x s : Int} (h0 : 0 ≤ x) (h1 : x ≤ 10 ^ 30) (hs : s = 1 ∨ s = -1) : -(10 ^ 30) ≤ x * s ∧ x * s ≤ 10 ^ 30 := by
  rcases hs with rfl | rfl <;> constructor <;> omega
theorem sc_lform : FnScope ["_law_source_here", "_law_most", "_law_slope"] ["_law_source_here"] (defScope s__law_form) := ⟨rfl, rfl, rfl, by decide +kernel, rfl, by decide +kernel, by decide +kernel⟩
theorem ok_lform (T : TopL K mg) : Has P w K mg base CX0 2 (He.ga K "_law_form") ["_law_source_here"] [] sp_lform := by
  obtain ⟨fd, F⟩ := fn__law_form T
  refine Has.of0 F sc_lform (fun _ _ _ _ _ _ us hl => match us, hl with | [_], _ => rfl) (fun vs H Q E h => ?_) (fun cdv A outer s H vs Q E hr h => ?_)
  · unfold sp_lform at h
    obtain ⟨p, rfl, _⟩ := h
    rfl
  · unfold sp_lform at h
    obtain ⟨p, rfl, hp, k⟩ := h
    refine ⟨_, (pss_cons (ps_set (i := 1) sc_lform.nd rfl (Or.inl rfl) (pe_ix ix_list (pe_lst (pa_cons pe_int (pa_cons pe_int (pa_cons (pe_op op_pow pe_int pe_int) (pa_cons (pe_op op_pow pe_int pe_int) pa_nil))))) (pe_callH (ok_drawD T) hr (mg__law_draw T) pass0 (pa_cons (pv 0) (pa_cons pe_int pa_nil))) (fun _ _ => rfl)))
      (pss_cons (ps_set (i := 2) sc_lform.nd rfl (Or.inl rfl) (pe_op op_mul (pe_callH (ok_drawD T) hr (mg__law_draw T) pass0 (pa_cons (pv 0) (pa_cons (pe_op op_add (pv 1) pe_int) pa_nil))) (pe_ix ix_list (pe_lst (pa_cons pe_int (pa_cons (pe_un un_neg pe_int) pa_nil))) (pe_callH (ok_drawD T) hr (mg__law_draw T) pass0 (pa_cons (pv 0) (pa_cons pe_int pa_nil))) (fun _ _ => rfl))))
      (pss_cons (ps_set (i := 1) sc_lform.nd rfl (Or.inl rfl) (pe_ix ix_list (pe_lst (pa_cons pe_int (pa_cons pe_int (pa_cons (pe_op op_pow pe_int pe_int) (pa_cons (pe_op op_pow pe_int pe_int) pa_nil))))) (pe_callH (ok_drawD T) hr (mg__law_draw T) pass0 (pa_cons (pv 0) (pa_cons pe_int pa_nil))) (fun _ _ => rfl)))
      (pss_one (ps_ret (pe_tup (pa_cons (pv 2) (pa_cons (pe_op op_mul (pe_callH (ok_drawD T) hr (mg__law_draw T) pass0 (pa_cons (pv 0) (pa_cons (pe_op op_add (pv 1) pe_int) pa_nil))) (pe_ix ix_list (pe_lst (pa_cons pe_int (pa_cons (pe_un un_neg pe_int) pa_nil))) (pe_callH (ok_drawD T) hr (mg__law_draw T) pass0 (pa_cons (pv 0) (pa_cons pe_int pa_nil))) (fun _ _ => rfl))) pa_nil)))))))), ?_⟩
    refine ⟨_, _, rfl, rfl, ⟨by decide, by decide, by decide⟩, _, _, rfl, rfl, ⟨by decide, by decide, by decide⟩, lenk rfl, fun m nm => ?_⟩
    generalize eH1 : upd H m _ = H1
    have sH1 := fr_same eH1 nm
    have fm := fr_at eH1
    refine ⟨_, rfl, draw_rd (hp.same sH1) (by decide) (by decide) fun i1 H2 i1a i1b D2 S2 => ?_⟩
    obtain ⟨x1, ex1, hx1⟩ := all_ints (Pr := fun n => 0 < n ∧ n ≤ 10 ^ 30) (ns := [3, 30, 10 ^ 6, 10 ^ 30]) i1a i1b (by decide)
    refine ⟨m, _, _, _, rfl, rfl, SqL.of (by walk_at "hp"), ex1, ?_⟩
    refine ⟨_, rfl, _, rfl, _, _, rfl, rfl, draw_rd S2 (by omega) (by omega) fun v1 H3 v1a v1b D3 S3 => ?_⟩
    refine ⟨_, rfl, lenk rfl, fun g1 ng1 => ?_⟩
    generalize eH4 : upd H3 g1 _ = H4
    have sH4 := fr_same eH4 ng1
    have fg1 := fr_at eH4
    refine ⟨_, rfl, draw_rd (S3.same sH4) (by decide) (by decide) fun j1 H5 j1a j1b D5 S5 => ?_⟩
    obtain ⟨y1, ey1, hy1⟩ := all_ints (Pr := fun n => n = 1 ∨ n = -1) (ns := [1, -1]) j1a j1b (by decide)
    refine ⟨g1, _, _, _, rfl, rfl, SqL.of (by walk_at "hp"), ey1, _, _, rfl, rfl, .inr ⟨by omega, by omega⟩, ?_⟩
    refine ⟨_, _, rfl, rfl, ⟨by decide, by decide, by decide⟩, _, _, rfl, rfl, ⟨by decide, by decide, by decide⟩, lenk rfl, fun m2 nm2 => ?_⟩
    generalize eH6 : upd H5 m2 _ = H6
    have sH6 := fr_same eH6 nm2
    have fm2 := fr_at eH6
    refine ⟨_, rfl, draw_rd (S5.same sH6) (by decide) (by decide) fun i2 H7 i2a i2b D7 S7 => ?_⟩
    obtain ⟨x2, ex2, hx2⟩ := all_ints (Pr := fun n => 0 < n ∧ n ≤ 10 ^ 30) (ns := [3, 30, 10 ^ 6, 10 ^ 30]) i2a i2b (by decide)
    refine ⟨m2, _, _, _, rfl, rfl, SqL.of (by walk_at "hp"), ex2, ?_⟩
    refine ⟨_, rfl, _, rfl, _, rfl, _, _, rfl, rfl, draw_rd S7 (by omega) (by omega) fun v2 H8 v2a v2b D8 S8 => ?_⟩
    refine ⟨_, rfl, lenk rfl, fun g2 ng2 => ?_⟩
    generalize eH9 : upd H8 g2 _ = H9
    have sH9 := fr_same eH9 ng2
    have fg2 := fr_at eH9
    refine ⟨_, rfl, draw_rd (S8.same sH9) (by decide) (by decide) fun j2 H10 j2a j2b D10 S10 => ?_⟩
    obtain ⟨y2, ey2, hy2⟩ := all_ints (Pr := fun n => n = 1 ∨ n = -1) (ns := [1, -1]) j2a j2b (by decide)
    refine ⟨g2, _, _, _, rfl, rfl, SqL.of (by walk_at "hp"), ey2, _, _, rfl, rfl, .inr ⟨by omega, by omega⟩, lenk rfl, fun t nt => ?_⟩
    have d1 : Drawn p H H10 := (((((Drawn.after sH1 D2).trans D3).same sH4).trans D5).same sH6).trans ((((D7.trans D8).same sH9).trans D10))
    exact k t _ _ _ (sgn_mul v1a (by omega) hy1) (sgn_mul v2a (by omega) hy2) (d1.free nt) (d1.same (Same.new nt)) upd_same
@[irreducible] def sp_lsize : Sp := fun vs H Q _ => ∃ p, vs = [.ref p] ∧ Src H p ∧ ∀ (n : Int) H', 1 ≤ n → n ≤ 10 ^ 30 → Drawn p H H' → Q (.int n) H'
theorem lsize_rd {H : Hp} {Q : VK} {E : XK} {p : Addr} (hp : Src H p) (k : ∀ (n : Int) H', 1 ≤ n → n ≤ 10 ^ 30 → Drawn p H H' → Src H' p → Q (.int n) H') : sp_lsize [.ref p] H Q E := by
  unfold sp_lsize
  exact ⟨p, rfl, hp, fun n H' h1 h2 d => k n H' h1 h2 d d.src⟩
theorem sc_lsize : FnScope ["_law_source_here"] ["_law_source_here"] (defScope s__law_size) := ⟨rfl, rfl, rfl, by decide +kernel, rfl, by decide +kernel, by decide +kernel⟩
theorem ok_lsize (T : TopL K mg) : Has P w K mg base CX0 2 (He.ga K "_law_size") ["_law_source_here"] [] sp_lsize := by
  obtain ⟨fd, F⟩ := fn__law_size T
  refine Has.of0 F sc_lsize (fun _ _ _ _ _ _ us hl => match us, hl with | [_], _ => rfl) (fun vs H Q E h => ?_) (fun cdv A outer s H vs Q E hr h => ?_)
  · unfold sp_lsize at h
    obtain ⟨p, rfl, _⟩ := h
    rfl
  · unfold sp_lsize at h
    obtain ⟨p, rfl, hp, k⟩ := h
    refine ⟨_, (pss_one (ps_ret (pe_op op_add pe_int (pe_callH (ok_drawD T) hr (mg__law_draw T) pass0 (pa_cons (pv 0) (pa_cons (pe_ix ix_list (pe_lst (pa_cons pe_int (pa_cons pe_int (pa_cons pe_int (pa_cons (pe_op op_pow pe_int pe_int) pa_nil))))) (pe_callH (ok_drawD T) hr (mg__law_draw T) pass0 (pa_cons (pv 0) (pa_cons pe_int pa_nil))) (fun _ _ => rfl)) pa_nil)))))), ?_⟩
    refine ⟨_, rfl, _, _, rfl, rfl, ⟨by decide, by decide, by decide⟩, lenk rfl, fun m nm => ?_⟩
    generalize eH1 : upd H m _ = H1
    have sH1 := fr_same eH1 nm
    have fm := fr_at eH1
    refine ⟨_, rfl, draw_rd (hp.same sH1) (by decide) (by decide) fun i1 H2 i1a i1b D2 S2 => ?_⟩
    obtain ⟨x1, ex1, hx1⟩ := all_ints (Pr := fun n => 0 < n ∧ n ≤ 10 ^ 30) (ns := [3, 12, 1000, 10 ^ 30]) i1a i1b (by decide)
    refine ⟨m, _, _, _, rfl, rfl, SqL.of (by walk_at "hp"), ex1, draw_rd S2 (by omega) (by omega) fun v1 H3 v1a v1b D3 S3 => ?_⟩
    exact ⟨_, _, rfl, rfl, k _ _ (by omega) (by omega) ((Drawn.after sH1 D2).trans D3)⟩
end
end Lw
/-! what was caught -/
namespace Lw
open PySem PySem.Spec PyProof.Rows L2 Rg
section
variable {P : Program} {w : World} {K : PySem.W.Frag} {mg : Str → Option Value} {base : Heap}
/-- what the head says of the error class at D: of which of the ten classes its instances are -/
structure ErrK (K : PySem.W.Frag) (D : Addr) (b1 b2 b3 b4 b5 b6 b7 b8 b9 : Bool) : Prop where
  xc : ExcC K D
  ex : PySem.W.exmOne K (.ref D) (.ref (He.ga K "RingError")) = some true
  k0 : PySem.W.kitOne K (.ref D) (.type "ValueError") = some true
  k1 : PySem.W.kitOne K (.ref D) (.ref (He.ga K "NoForm")) = some b1
  k2 : PySem.W.kitOne K (.ref D) (.ref (He.ga K "NoCounter")) = some b2
  k3 : PySem.W.kitOne K (.ref D) (.ref (He.ga K "NoScheme")) = some b3
  k4 : PySem.W.kitOne K (.ref D) (.ref (He.ga K "NoSize")) = some b4
  k5 : PySem.W.kitOne K (.ref D) (.ref (He.ga K "NoRing")) = some b5
  k6 : PySem.W.kitOne K (.ref D) (.ref (He.ga K "Outside")) = some b6
  k7 : PySem.W.kitOne K (.ref D) (.ref (He.ga K "NoRun")) = some b7
  k8 : PySem.W.kitOne K (.ref D) (.ref (He.ga K "NoSet")) = some b8
  k9 : PySem.W.kitOne K (.ref D) (.ref (He.ga K "TooLong")) = some b9
/-- a def of two arguments that refuses them with an error of class D -/
@[irreducible] def sp_ref (D : Addr) (Ok : V → V → Hp → Prop) : Sp := fun vs H Q E => ∃ x y, vs = [x, y] ∧ Ok x y H ∧ ∀ H', Same H H' → E (.ref D) none H'
theorem ref_rd {H : Hp} {Q : VK} {E : XK} {x y : V} {D : Addr} {Ok : V → V → Hp → Prop} (h : Ok x y H) (k : ∀ H', Same H H' → E (.ref D) none H') : sp_ref D Ok [x, y] H Q E := by
  unfold sp_ref
  exact ⟨x, y, rfl, h, k⟩
/-- the def at f refuses x and y -/
def Refs (P : Program) (w : World) (K : PySem.W.Frag) (mg : Str → Option Value) (base : Heap) (D f : Addr) (x y : V) (H : Hp) : Prop := ∃ ps Ok, Has P w K mg base (L2.CX P w) 7 f ps [] (sp_ref D Ok) ∧ ∀ H', Same H H' → Ok x y H'
def nmsL : List V := [.str "value", .str "form", .str "counter", .str "scheme", .str "size", .str "ring", .str "outside", .str "run", .str "set", .str "long"]
def wordsL (b1 b2 b3 b4 b5 b6 b7 b8 b9 : Bool) : List V := ((nmsL.zip [true, b1, b2, b3, b4, b5, b6, b7, b8, b9]).filter (·.2)).map (·.1)
@[irreducible] def sp_lcaught (P : Program) (w : World) (K : PySem.W.Frag) (mg : Str → Option Value) (base : Heap) : Sp := fun vs H Q _ => ∃ (f D : Addr) (x y : V) (b1 b2 b3 b4 b5 b6 b7 b8 b9 : Bool), vs = [.ref f, x, y] ∧ ErrK K D b1 b2 b3 b4 b5 b6 b7 b8 b9 ∧ Refs P w K mg base D f x y H ∧
  ∀ l H', Same H H' → H' l = some (.lst (wordsL b1 b2 b3 b4 b5 b6 b7 b8 b9)) → Q (.ref l) H'
theorem lcaught_rd {H : Hp} {Q : VK} {E : XK} {f D : Addr} {x y : V} {b1 b2 b3 b4 b5 b6 b7 b8 b9 : Bool} (ek : ErrK K D b1 b2 b3 b4 b5 b6 b7 b8 b9) (r : Refs P w K mg base D f x y H) (k : ∀ l H', Same H H' → H' l = some (.lst (wordsL b1 b2 b3 b4 b5 b6 b7 b8 b9)) → Q (.ref l) H') : sp_lcaught P w K mg base [.ref f, x, y] H Q E := by
  unfold sp_lcaught
  exact ⟨f, D, x, y, _, _, _, _, _, _, _, _, _, rfl, ek, r, k⟩
theorem sc_lcaught : FnScope ["_law_function", "_law_first", "_law_second", "_law_words", "e", "_law_names", "_law_name", "_law_there"] ["_law_function", "_law_first", "_law_second"] (defScope s__law_caught) := ⟨rfl, rfl, rfl, by decide +kernel, rfl, by decide +kernel, by decide +kernel⟩
theorem ok_lcaught (T : TopL K mg) : Has P w K mg base CX0 8 (He.ga K "_law_caught") ["_law_function", "_law_first", "_law_second"] [] (sp_lcaught P w K mg base) := by
  obtain ⟨fd, F⟩ := fn__law_caught T
  refine Has.of0 F sc_lcaught (fun _ _ _ _ _ _ us hl => match us, hl with | [_, _, _], _ => rfl) (fun vs H Q E h => ?_) (fun cdv A outer s H vs Q E hr h => ?_)
  · unfold sp_lcaught at h
    obtain ⟨f, D, x, y, _, _, _, _, _, _, _, _, _, rfl, _⟩ := h
    rfl
  · unfold sp_lcaught at h
    obtain ⟨f, D, x, y, b1, b2, b3, b4, b5, b6, b7, b8, b9, rfl, ek, ⟨ps, Ok, hf, ok⟩, k⟩ := h
    refine ⟨_, (pss_cons (ps_set (i := 3) sc_lcaught.nd rfl (Or.inl rfl) (pe_lst pa_nil))
      (pss_cons (ps_try_as (i := 4) rfl rfl sc_lcaught.nd rfl rfl (names_ref (mg_RingError T)) takes_no (fun W pn xe tk po => (pss_one (ps_expr (pe_callU (i := 0) (S := fun f sp => ∃ ps, Has P w K mg base (L2.CX P w) 7 f ps [] sp) (fun _ _ z => z) hr tk (pa_cons (pv 1) (pa_cons (pv 2) pa_nil)))))) (fun a oe cls d pn hz hf => (pss_cons (ps_set (i := 3) sc_lcaught.nd rfl (Or.inl rfl) (pe_lst (pa_cons (pe_callB (call_isX hz hf : CallR _ _ (rIsX K cls d a)) (by rfl) (fr_isinstance T) (by decide +kernel) (pa_cons (pv 4) (pa_cons (pe_bltn (v := .ty "ValueError") (u := .type "ValueError") rfl (fr_ValueError T) (by decide +kernel) rfl) pa_nil))) (pa_cons (pe_callB (call_isX hz hf : CallR _ _ (rIsX K cls d a)) (by rfl) (fr_isinstance T) (by decide +kernel) (pa_cons (pv 4) (pa_cons (pe_gref (mg_NoForm T)) pa_nil))) (pa_cons (pe_callB (call_isX hz hf : CallR _ _ (rIsX K cls d a)) (by rfl) (fr_isinstance T) (by decide +kernel) (pa_cons (pv 4) (pa_cons (pe_gref (mg_NoCounter T)) pa_nil))) (pa_cons (pe_callB (call_isX hz hf : CallR _ _ (rIsX K cls d a)) (by rfl) (fr_isinstance T) (by decide +kernel) (pa_cons (pv 4) (pa_cons (pe_gref (mg_NoScheme T)) pa_nil))) pa_nil))))))
      (pss_cons (ps_set (i := 3) sc_lcaught.nd rfl (Or.inl rfl) (pe_op op_cat (pv 3) (pe_lst (pa_cons (pe_callB (call_isX hz hf : CallR _ _ (rIsX K cls d a)) (by rfl) (fr_isinstance T) (by decide +kernel) (pa_cons (pv 4) (pa_cons (pe_gref (mg_NoSize T)) pa_nil))) (pa_cons (pe_callB (call_isX hz hf : CallR _ _ (rIsX K cls d a)) (by rfl) (fr_isinstance T) (by decide +kernel) (pa_cons (pv 4) (pa_cons (pe_gref (mg_NoRing T)) pa_nil))) (pa_cons (pe_callB (call_isX hz hf : CallR _ _ (rIsX K cls d a)) (by rfl) (fr_isinstance T) (by decide +kernel) (pa_cons (pv 4) (pa_cons (pe_gref (mg_Outside T)) pa_nil))) (pa_cons (pe_callB (call_isX hz hf : CallR _ _ (rIsX K cls d a)) (by rfl) (fr_isinstance T) (by decide +kernel) (pa_cons (pv 4) (pa_cons (pe_gref (mg_NoRun T)) pa_nil))) pa_nil)))))))
      (pss_one (ps_set (i := 3) sc_lcaught.nd rfl (Or.inl rfl) (pe_op op_cat (pv 3) (pe_lst (pa_cons (pe_callB (call_isX hz hf : CallR _ _ (rIsX K cls d a)) (by rfl) (fr_isinstance T) (by decide +kernel) (pa_cons (pv 4) (pa_cons (pe_gref (mg_NoSet T)) pa_nil))) (pa_cons (pe_callB (call_isX hz hf : CallR _ _ (rIsX K cls d a)) (by rfl) (fr_isinstance T) (by decide +kernel) (pa_cons (pv 4) (pa_cons (pe_gref (mg_TooLong T)) pa_nil))) pa_nil))))))))))
      (pss_cons (ps_set (i := 5) sc_lcaught.nd rfl (Or.inl rfl) (pe_lst (pa_cons pe_str (pa_cons pe_str (pa_cons pe_str (pa_cons pe_str (pa_cons pe_str (pa_cons pe_str (pa_cons pe_str (pa_cons pe_str (pa_cons pe_str (pa_cons pe_str pa_nil))))))))))))
      (pss_one (ps_ret (pe_lc (own := [("_law_name", 6), ("_law_there", 7)]) (g := gTup K 2 (gCons (gName 6) (gCons (gName 7) gNil))) rfl sc_lcaught.nd (pi_zip (by rfl) (fr_zip T) (pa_cons (pv 5) (pa_cons (pv 3) pa_nil))) (blkOk_by (N := ["_law_function", "_law_first", "_law_second", "_law_words", "e", "_law_names", "_law_name", "_law_there"]) (sc := defScope s__law_caught) (by decide +kernel)) (fun _ _ _ _ _ => (pg_tup rfl (pgs_cons (pg_name (i := 6) sc_lcaught.nd rfl (Or.inl rfl)) (pgs_cons (pg_name (i := 7) sc_lcaught.nd rfl (Or.inl rfl)) pgs_nil)))) (fun _ _ _ _ _ => (pts_one (pt_val (pv 7)))) (fun _ _ _ _ _ => (pv 6)))))))), ?_⟩
    refine ⟨lenk rfl, fun t0 nt0 => ?_⟩
    generalize eH1 : upd H t0 _ = H1
    have sH1 := fr_same eH1 nt0
    have ft0 := fr_at eH1
    refine ⟨f, _, rfl, ⟨ps, hf⟩, _, rfl, _, rfl, ref_rd (ok _ sH1) fun H2 s2 => ?_⟩
    refine ⟨true, ek.ex, fun _ a na => ?_, fun z => by cases z⟩
    refine ⟨_, rfl, _, rfl, rfl, ek.xc, _, _, _, rfl, fun u z => z, ek.k0, _, rfl, _, rfl, rfl, ek.xc, _, _, _, rfl, fun u z => z, ek.k1, _, rfl, _, rfl, rfl, ek.xc, _, _, _, rfl, fun u z => z, ek.k2, _, rfl, _, rfl, rfl, ek.xc, _, _, _, rfl, fun u z => z, ek.k3, lenk rfl, fun t1 nt1 => ?_⟩
    generalize eH3 : upd H2 t1 _ = H3
    have sH3 := fr_same eH3 nt1
    have ft1 := fr_at eH3
    refine ⟨_, rfl, _, rfl, _, rfl, rfl, ek.xc, _, _, _, rfl, fun u z => z, ek.k4, _, rfl, _, rfl, rfl, ek.xc, _, _, _, rfl, fun u z => z, ek.k5, _, rfl, _, rfl, rfl, ek.xc, _, _, _, rfl, fun u z => z, ek.k6, _, rfl, _, rfl, rfl, ek.xc, _, _, _, rfl, fun u z => z, ek.k7, lenk rfl, fun t2 nt2 => ?_⟩
    generalize eH4 : upd H3 t2 _ = H4
    have sH4 := fr_same eH4 nt2
    have ft2 := fr_at eH4
    refine ⟨t1, t2, _, _, rfl, rfl, sH4 _ _ ft1, ft2, lenk rfl, fun t3 nt3 => ?_⟩
    generalize eH5 : upd H4 t3 _ = H5
    have sH5 := fr_same eH5 nt3
    have ft3 := fr_at eH5
    refine ⟨_, rfl, _, rfl, _, rfl, rfl, ek.xc, _, _, _, rfl, fun u z => z, ek.k8, _, rfl, _, rfl, rfl, ek.xc, _, _, _, rfl, fun u z => z, ek.k9, lenk rfl, fun t4 nt4 => ?_⟩
    generalize eH6 : upd H5 t4 _ = H6
    have sH6 := fr_same eH6 nt4
    have ft4 := fr_at eH6
    refine ⟨t3, t4, _, _, rfl, rfl, sH6 _ _ ft3, ft4, lenk rfl, fun t5 nt5 => ?_⟩
    generalize eH7 : upd H6 t5 _ = H7
    have sH7 := fr_same eH7 nt5
    have ft5 := fr_at eH7
    refine ⟨lenk rfl, fun t6 nt6 => ?_⟩
    generalize eH8 : upd H7 t6 _ = H8
    have sH8 := fr_same eH8 nt6
    have ft6 := fr_at eH8
    have fB : H8 t5 = some (.lst ([true, b1, b2, b3, b4, b5, b6, b7, b8, b9].map V.bl)) := sH8 _ _ ft5
    have fN : H8 t6 = some (.lst nmsL) := ft6
    refine ⟨_, rfl, _, rfl, t6, t5, _, _, rfl, SqL.of ft6, SqL.of fB, fun D nD => lc_zipB (xs := nmsL) nD rfl (by decide) (SqL.of fN) (SqL.of fB) (fun _ _ => rfl) (fun _ _ => rfl) (fun _ _ => rfl) fun H9 s9 f9 => ?_⟩
    exact k _ _ (sH1.trans (s2.trans (sH3.trans (sH4.trans (sH5.trans (sH6.trans (sH7.trans (sH8.trans s9)))))))) f9
end
end Lw
/-! K03: forms refused -/
namespace Lw
open PySem PySem.Spec PyProof.Rows L2 Rg
section
variable {P : Program} {w : World} {K : PySem.W.Frag} {mg : Str → Option Value} {base : Heap}
theorem form_bad {H : Hp} {R : VK} {E : XK} {p d : Addr} {x y : V} (np : H p = none) (nd : H d = none) (h : NW K H x ∨ ∃ a, x = .int a ∧ NW K H y) (k : ∀ H', Same H H' → E (eNoForm K) none H') :
    sp_Form_init K [.ref p, x, y] (upd (upd H d (.own p)) p (.ins (CF K) d [])) R E := by
  have s : Same H (upd (upd H d (.own p)) p (.ins (CF K) d [])) := fun c u e => by
    rw [upd_ne (ne_of_none e np), upd_ne (ne_of_none e nd)]
    exact e
  unfold sp_Form_init
  rcases h with b | ⟨m, rfl, nw⟩
  · exact ⟨p, d, _, _, rfl, upd_same, .inr (.inl ⟨NW.same b s, k _ s⟩)⟩
  · exact ⟨p, d, _, _, rfl, upd_same, .inr (.inr ⟨m, rfl, NW.same nw s, k _ s⟩)⟩
theorem sc_lmadeX : FnScope ["_law_slope", "_law_base"] ["_law_slope", "_law_base"] (defScope s__law_made) := ⟨rfl, rfl, rfl, by decide +kernel, rfl, by decide +kernel, by decide +kernel⟩
def Ok_lmadeX (K : PySem.W.Frag) (x y : V) (H : Hp) : Prop := NW K H x ∨ ∃ a, x = .int a ∧ NW K H y
theorem ok_lmadeX (T : TopL K mg) : Has P w K mg base (L2.CX P w) 7 (He.ga K "_law_made") ["_law_slope", "_law_base"] [] (sp_ref (He.ga K "NoForm") (Ok_lmadeX K)) := by
  obtain ⟨fd, F⟩ := fn__law_made T
  refine Has.ofX F sc_lmadeX (fun _ _ _ _ _ _ us hl => match us, hl with | [_, _], _ => rfl) (fun vs H Q E h => ?_) (fun cdv A outer s H vs Q E hr h => ?_)
  · unfold sp_ref at h
    obtain ⟨x, y, rfl, _⟩ := h
    rfl
  · unfold sp_ref at h
    obtain ⟨x, y, rfl, ok, k⟩ := h
    refine ⟨_, (pss_one (ps_ret (pe_makeH (mk_Form T) (ok_Form_init T) hr (mg_Form T) (passes_call (takes_of rfl rfl rfl rfl) (fun _ _ _ _ h => h)) (pa_cons (pv 0) (pa_cons (pv 1) pa_nil))))), ?_⟩
    obtain ok | ok := ok
    · refine ⟨_, rfl, _, rfl, ?_⟩
      intro q dq nq ndq neq
      exact form_bad nq ndq (.inl ok) k
    · refine ⟨_, rfl, _, rfl, ?_⟩
      intro q dq nq ndq neq
      exact form_bad nq ndq (.inr ok) k
theorem sc_lsumX : FnScope ["_law_one", "_law_other_here"] ["_law_one", "_law_other_here"] (defScope s__law_sum) := ⟨rfl, rfl, rfl, by decide +kernel, rfl, by decide +kernel, by decide +kernel⟩
def Ok_lsumX (K : PySem.W.Frag) (x y : V) (H : Hp) : Prop := ((∃ p d a b, x = .ref p ∧ H p = some (fO (CF K) d a b)) ∧ Opr (CF K) H y ∧ NoOpd K H y) ∨ (NoOpd K H x ∧ ∃ p d a b T, y = .ref p ∧ H p = some (fO (CF K) d a b) ∧ Bt H x T ∧ T ≠ "int")
theorem ok_lsumX (T : TopL K mg) : Has P w K mg base (L2.CX P w) 7 (He.ga K "_law_sum") ["_law_one", "_law_other_here"] [] (sp_ref (He.ga K "NoForm") (Ok_lsumX K)) := by
  obtain ⟨fd, F⟩ := fn__law_sum T
  refine Has.ofX F sc_lsumX (fun _ _ _ _ _ _ us hl => match us, hl with | [_, _], _ => rfl) (fun vs H Q E h => ?_) (fun cdv A outer s H vs Q E hr h => ?_)
  · unfold sp_ref at h
    obtain ⟨x, y, rfl, _⟩ := h
    rfl
  · unfold sp_ref at h
    obtain ⟨x, y, rfl, ok, k⟩ := h
    refine ⟨_, (pss_one (ps_ret (pe_op (op_or (op_bin (bi_Form_Add T) (ok_Form_add T) hr (passes_call (takes_of rfl rfl rfl rfl) (fun _ _ _ _ h => h))) (op_ref decl_add (re_Form_Add T) (ok_Form_radd T) hr (passes_call (takes_of rfl rfl rfl rfl) (fun _ _ _ _ h => h)))) (pv 0) (pv 1)))), ?_⟩
    obtain ⟨⟨p, d, a, b, rfl, hp⟩, op, nw⟩ | ⟨nw, p, d, a, b, U, rfl, hp, bt, nt⟩ := ok
    · exact ⟨_, rfl, _, rfl, .inl ⟨p, d, _, rfl, hp, op, fop_no hp nw (k _ (Same.refl _))⟩⟩
    · exact ⟨_, rfl, _, rfl, .inr ⟨p, d, _, U, rfl, hp, bt, fop_no hp nw (k _ (Same.refl _))⟩⟩
theorem sc_ldiffX : FnScope ["_law_one", "_law_other_here"] ["_law_one", "_law_other_here"] (defScope s__law_difference) := ⟨rfl, rfl, rfl, by decide +kernel, rfl, by decide +kernel, by decide +kernel⟩
def Ok_ldiffX (K : PySem.W.Frag) (x y : V) (H : Hp) : Prop := ((∃ p d a b, x = .ref p ∧ H p = some (fO (CF K) d a b)) ∧ Opr (CF K) H y ∧ NoOpd K H y) ∨ (NoOpd K H x ∧ ∃ p d a b T, y = .ref p ∧ H p = some (fO (CF K) d a b) ∧ Bt H x T ∧ T ≠ "int")
theorem ok_ldiffX (T : TopL K mg) : Has P w K mg base (L2.CX P w) 7 (He.ga K "_law_difference") ["_law_one", "_law_other_here"] [] (sp_ref (He.ga K "NoForm") (Ok_ldiffX K)) := by
  obtain ⟨fd, F⟩ := fn__law_difference T
  refine Has.ofX F sc_ldiffX (fun _ _ _ _ _ _ us hl => match us, hl with | [_, _], _ => rfl) (fun vs H Q E h => ?_) (fun cdv A outer s H vs Q E hr h => ?_)
  · unfold sp_ref at h
    obtain ⟨x, y, rfl, _⟩ := h
    rfl
  · unfold sp_ref at h
    obtain ⟨x, y, rfl, ok, k⟩ := h
    refine ⟨_, (pss_one (ps_ret (pe_op (op_or (op_bin (bi_Form_Sub T) (ok_Form_sub T) hr (passes_call (takes_of rfl rfl rfl rfl) (fun _ _ _ _ h => h))) (op_ref decl_sub (re_Form_Sub T) (ok_Form_rsub T) hr (passes_call (takes_of rfl rfl rfl rfl) (fun _ _ _ _ h => h)))) (pv 0) (pv 1)))), ?_⟩
    obtain ⟨⟨p, d, a, b, rfl, hp⟩, op, nw⟩ | ⟨nw, p, d, a, b, U, rfl, hp, bt, nt⟩ := ok
    · exact ⟨_, rfl, _, rfl, .inl ⟨p, d, _, rfl, hp, op, fop_no hp nw (k _ (Same.refl _))⟩⟩
    · exact ⟨_, rfl, _, rfl, .inr ⟨p, d, _, U, rfl, hp, bt, fop_no hp nw (k _ (Same.refl _))⟩⟩
theorem sc_lprodX : FnScope ["_law_one", "_law_other_here"] ["_law_one", "_law_other_here"] (defScope s__law_product) := ⟨rfl, rfl, rfl, by decide +kernel, rfl, by decide +kernel, by decide +kernel⟩
def Ok_lprodX (K : PySem.W.Frag) (x y : V) (H : Hp) : Prop := ((∃ p d a b, x = .ref p ∧ H p = some (fO (CF K) d a b)) ∧ Opr (CF K) H y ∧ NW K H y) ∨ (∃ p d a b T, y = .ref p ∧ H p = some (fO (CF K) d a b) ∧ Bt H x T ∧ T ≠ "int")
theorem ok_lprodX (T : TopL K mg) : Has P w K mg base (L2.CX P w) 7 (He.ga K "_law_product") ["_law_one", "_law_other_here"] [] (sp_ref (He.ga K "NoForm") (Ok_lprodX K)) := by
  obtain ⟨fd, F⟩ := fn__law_product T
  refine Has.ofX F sc_lprodX (fun _ _ _ _ _ _ us hl => match us, hl with | [_, _], _ => rfl) (fun vs H Q E h => ?_) (fun cdv A outer s H vs Q E hr h => ?_)
  · unfold sp_ref at h
    obtain ⟨x, y, rfl, _⟩ := h
    rfl
  · unfold sp_ref at h
    obtain ⟨x, y, rfl, ok, k⟩ := h
    refine ⟨_, (pss_one (ps_ret (pe_op (op_or (op_bin (bi_Form_Mult T) (ok_Form_mul T) hr (passes_call (takes_of rfl rfl rfl rfl) (fun _ _ _ _ h => h))) (op_ref decl_mul (re_Form_Mult T) (ok_Form_rmul T) hr (passes_call (takes_of rfl rfl rfl rfl) (fun _ _ _ _ h => h)))) (pv 0) (pv 1)))), ?_⟩
    obtain ⟨⟨p, d, a, b, rfl, hp⟩, op, nw⟩ | ⟨p, d, a, b, U, rfl, hp, bt, nt⟩ := ok
    · exact ⟨_, rfl, _, rfl, .inl ⟨p, d, _, rfl, hp, op, fmul_no hp nw (k _ (Same.refl _))⟩⟩
    · exact ⟨_, rfl, _, rfl, .inr ⟨p, d, _, U, rfl, hp, bt, fmul_no hp (nw_bt bt nt) (k _ (Same.refl _))⟩⟩
theorem sc_lcmpX : FnScope ["_law_one", "_law_other_here"] ["_law_one", "_law_other_here"] (defScope s__law_compare) := ⟨rfl, rfl, rfl, by decide +kernel, rfl, by decide +kernel, by decide +kernel⟩
def Ok_lcmpX (K : PySem.W.Frag) (x y : V) (H : Hp) : Prop := (∃ p d a b, x = .ref p ∧ H p = some (fO (CF K) d a b)) ∧ Opr (CF K) H y ∧ NoF K H y
theorem ok_lcmpX (T : TopL K mg) : Has P w K mg base (L2.CX P w) 7 (He.ga K "_law_compare") ["_law_one", "_law_other_here"] [] (sp_ref (He.ga K "NoForm") (Ok_lcmpX K)) := by
  obtain ⟨fd, F⟩ := fn__law_compare T
  refine Has.ofX F sc_lcmpX (fun _ _ _ _ _ _ us hl => match us, hl with | [_, _], _ => rfl) (fun vs H Q E h => ?_) (fun cdv A outer s H vs Q E hr h => ?_)
  · unfold sp_ref at h
    obtain ⟨x, y, rfl, _⟩ := h
    rfl
  · unfold sp_ref at h
    obtain ⟨x, y, rfl, ok, k⟩ := h
    refine ⟨_, (pss_one (ps_ret (pe_cmpR (op_ltO (cm_Form_Lt T) (ok_Form_lt T) hr (passes_call (takes_of rfl rfl rfl rfl) (fun _ _ _ _ h => h))) (pv 0) (pv 1) (nomark _)))), ?_⟩
    obtain ⟨⟨p, d, a, b, rfl, hp⟩, op, nf⟩ := ok
    exact ⟨_, rfl, _, rfl, p, d, _, rfl, hp, op, fcmp_no hp nf (k _ (Same.refl _))⟩
theorem sc_lcmp2X : FnScope ["_law_one", "_law_other_here"] ["_law_one", "_law_other_here"] (defScope s__law_compare_too) := ⟨rfl, rfl, rfl, by decide +kernel, rfl, by decide +kernel, by decide +kernel⟩
def Ok_lcmp2X (K : PySem.W.Frag) (x y : V) (H : Hp) : Prop := (∃ p d a b, x = .ref p ∧ H p = some (fO (CF K) d a b)) ∧ Opr (CF K) H y ∧ NoF K H y
theorem ok_lcmp2X (T : TopL K mg) : Has P w K mg base (L2.CX P w) 7 (He.ga K "_law_compare_too") ["_law_one", "_law_other_here"] [] (sp_ref (He.ga K "NoForm") (Ok_lcmp2X K)) := by
  obtain ⟨fd, F⟩ := fn__law_compare_too T
  refine Has.ofX F sc_lcmp2X (fun _ _ _ _ _ _ us hl => match us, hl with | [_, _], _ => rfl) (fun vs H Q E h => ?_) (fun cdv A outer s H vs Q E hr h => ?_)
  · unfold sp_ref at h
    obtain ⟨x, y, rfl, _⟩ := h
    rfl
  · unfold sp_ref at h
    obtain ⟨x, y, rfl, ok, k⟩ := h
    refine ⟨_, (pss_one (ps_ret (pe_or (pe_cmpR (op_leO (cm_Form_LtE T) (ok_Form_le T) hr (passes_call (takes_of rfl rfl rfl rfl) (fun _ _ _ _ h => h))) (pv 0) (pv 1) (nomark _)) (pe_one (pe_cmpR (op_geO (cm_Form_GtE T) (ok_Form_ge T) hr (passes_call (takes_of rfl rfl rfl rfl) (fun _ _ _ _ h => h))) (pv 0) (pv 1) (nomark _)))))), ?_⟩
    obtain ⟨⟨p, d, a, b, rfl, hp⟩, op, nf⟩ := ok
    exact ⟨_, rfl, _, rfl, p, d, _, rfl, hp, op, fcmp_no hp nf (k _ (Same.refl _))⟩
theorem sc_lgrX : FnScope ["_law_one", "_law_other_here"] ["_law_one", "_law_other_here"] (defScope s__law_greater) := ⟨rfl, rfl, rfl, by decide +kernel, rfl, by decide +kernel, by decide +kernel⟩
def Ok_lgrX (K : PySem.W.Frag) (x y : V) (H : Hp) : Prop := (∃ p d a b, x = .ref p ∧ H p = some (fO (CF K) d a b)) ∧ Opr (CF K) H y ∧ NoF K H y
theorem ok_lgrX (T : TopL K mg) : Has P w K mg base (L2.CX P w) 7 (He.ga K "_law_greater") ["_law_one", "_law_other_here"] [] (sp_ref (He.ga K "NoForm") (Ok_lgrX K)) := by
  obtain ⟨fd, F⟩ := fn__law_greater T
  refine Has.ofX F sc_lgrX (fun _ _ _ _ _ _ us hl => match us, hl with | [_, _], _ => rfl) (fun vs H Q E h => ?_) (fun cdv A outer s H vs Q E hr h => ?_)
  · unfold sp_ref at h
    obtain ⟨x, y, rfl, _⟩ := h
    rfl
  · unfold sp_ref at h
    obtain ⟨x, y, rfl, ok, k⟩ := h
    refine ⟨_, (pss_one (ps_ret (pe_cmpR (op_gtO (cm_Form_Gt T) (ok_Form_gt T) hr (passes_call (takes_of rfl rfl rfl rfl) (fun _ _ _ _ h => h))) (pv 0) (pv 1) (nomark _)))), ?_⟩
    obtain ⟨⟨p, d, a, b, rfl, hp⟩, op, nf⟩ := ok
    exact ⟨_, rfl, _, rfl, p, d, _, rfl, hp, op, fcmp_no hp nf (k _ (Same.refl _))⟩
theorem sc_lgeX : FnScope ["_law_one", "_law_other_here"] ["_law_one", "_law_other_here"] (defScope s__law_at_least) := ⟨rfl, rfl, rfl, by decide +kernel, rfl, by decide +kernel, by decide +kernel⟩
def Ok_lgeX (K : PySem.W.Frag) (x y : V) (H : Hp) : Prop := (∃ p d a b, x = .ref p ∧ H p = some (fO (CF K) d a b)) ∧ Opr (CF K) H y ∧ NoF K H y
theorem ok_lgeX (T : TopL K mg) : Has P w K mg base (L2.CX P w) 7 (He.ga K "_law_at_least") ["_law_one", "_law_other_here"] [] (sp_ref (He.ga K "NoForm") (Ok_lgeX K)) := by
  obtain ⟨fd, F⟩ := fn__law_at_least T
  refine Has.ofX F sc_lgeX (fun _ _ _ _ _ _ us hl => match us, hl with | [_, _], _ => rfl) (fun vs H Q E h => ?_) (fun cdv A outer s H vs Q E hr h => ?_)
  · unfold sp_ref at h
    obtain ⟨x, y, rfl, _⟩ := h
    rfl
  · unfold sp_ref at h
    obtain ⟨x, y, rfl, ok, k⟩ := h
    refine ⟨_, (pss_one (ps_ret (pe_cmpR (op_geO (cm_Form_GtE T) (ok_Form_ge T) hr (passes_call (takes_of rfl rfl rfl rfl) (fun _ _ _ _ h => h))) (pv 0) (pv 1) (nomark _)))), ?_⟩
    obtain ⟨⟨p, d, a, b, rfl, hp⟩, op, nf⟩ := ok
    exact ⟨_, rfl, _, rfl, p, d, _, rfl, hp, op, fcmp_no hp nf (k _ (Same.refl _))⟩
theorem sc_lcallX : FnScope ["_law_form_here", "_law_n"] ["_law_form_here", "_law_n"] (defScope s__law_call) := ⟨rfl, rfl, rfl, by decide +kernel, rfl, by decide +kernel, by decide +kernel⟩
def Ok_lcallX (K : PySem.W.Frag) (x y : V) (H : Hp) : Prop := (∃ p d a b, x = .ref p ∧ H p = some (fO (CF K) d a b)) ∧ ((∃ n : Int, y = .int n ∧ ¬ (1 ≤ n ∧ n ≤ 10 ^ 30)) ∨ NW K H y)
theorem ok_lcallX (T : TopL K mg) : Has P w K mg base (L2.CX P w) 7 (He.ga K "_law_call") ["_law_form_here", "_law_n"] [] (sp_ref (He.ga K "NoSize") (Ok_lcallX K)) := by
  obtain ⟨fd, F⟩ := fn__law_call T
  refine Has.ofX F sc_lcallX (fun _ _ _ _ _ _ us hl => match us, hl with | [_, _], _ => rfl) (fun vs H Q E h => ?_) (fun cdv A outer s H vs Q E hr h => ?_)
  · unfold sp_ref at h
    obtain ⟨x, y, rfl, _⟩ := h
    rfl
  · unfold sp_ref at h
    obtain ⟨x, y, rfl, ok, k⟩ := h
    refine ⟨_, (pss_one (ps_ret (pe_callI (pv 0) (ca_Form T) (ok_Form_call T) hr (passes_call (takes_of rfl rfl rfl rfl) (fun _ _ _ _ h => h)) (pa_cons (pv 1) pa_nil)))), ?_⟩
    obtain ⟨⟨p, d, a, b, rfl, hp⟩, nf⟩ := ok
    exact ⟨_, rfl, p, rfl, _, rfl, ⟨_, _, hp⟩, fcall_no hp nf (k _ (Same.refl _))⟩
theorem bt_drawn {p : Addr} {H H' : Hp} {y : V} {U : String} (h : Bt H y U) (D : Drawn p H H') (n : y ≠ .ref p) : Bt H' y U := by
  cases h with
  | non => exact .non
  | bl x => exact .bl x
  | int x => exact .int x
  | str x => exact .str x
  | lst e => exact .lst (D.st _ _ e fun z => n (congrArg V.ref z))
  | tup e => exact .tup (D.st _ _ e fun z => n (congrArg V.ref z))
  | dK e => exact .dK (D.st _ _ e fun z => n (congrArg V.ref z))
/-- neither an int nor one of ours -/
def Odd (H : Hp) (p : Addr) (v : V) : Prop := (∃ T, T ≠ "int" ∧ Bt H v T) ∧ v ≠ .ref p
theorem Odd.same {H H' : Hp} {p : Addr} {v : V} (h : Odd H p v) (s : Same H H') : Odd H' p v := ⟨h.1.elim fun U z => ⟨U, z.1, z.2.same s⟩, h.2⟩
theorem Odd.drawn {H H' : Hp} {p : Addr} {v : V} (h : Odd H p v) (D : Drawn p H H') : Odd H' p v := ⟨h.1.elim fun U z => ⟨U, z.1, bt_drawn z.2 D h.2⟩, h.2⟩
@[irreducible] def sp_lother : Sp := fun vs H Q _ => ∃ p, vs = [.ref p] ∧ Src H p ∧ ∀ v H', Odd H' p v → Drawn p H H' → Q v H'
theorem lother_rd {H : Hp} {Q : VK} {E : XK} {p : Addr} (hp : Src H p) (k : ∀ v H', Odd H' p v → Drawn p H H' → Src H' p → Q v H') : sp_lother [.ref p] H Q E := by
  unfold sp_lother
  exact ⟨p, rfl, hp, fun v H' o d => k v H' o d d.src⟩
theorem sc_lother : FnScope ["_law_source_here", "_law_some"] ["_law_source_here"] (defScope s__law_other) := ⟨rfl, rfl, rfl, by decide +kernel, rfl, by decide +kernel, by decide +kernel⟩
theorem ok_lother (T : TopL K mg) : Has P w K mg base CX0 2 (He.ga K "_law_other") ["_law_source_here"] [] sp_lother := by
  obtain ⟨fd, F⟩ := fn__law_other T
  refine Has.of0 F sc_lother (fun _ _ _ _ _ _ us hl => match us, hl with | [_], _ => rfl) (fun vs H Q E h => ?_) (fun cdv A outer s H vs Q E hr h => ?_)
  · unfold sp_lother at h
    obtain ⟨p, rfl, _⟩ := h
    rfl
  · unfold sp_lother at h
    obtain ⟨p, rfl, S0, k⟩ := h
    refine ⟨_, (pss_cons (ps_set (i := 1) sc_lother.nd rfl (Or.inl rfl) (pe_lst (pa_cons pe_non (pa_cons pe_bl (pa_cons pe_bl (pa_cons pe_str (pa_cons pe_str (pa_cons pe_str (pa_cons (pe_tup (pa_cons pe_int (pa_cons pe_int pa_nil))) (pa_cons (pe_lst (pa_cons pe_int pa_nil)) (pa_cons (pe_lst pa_nil) (pa_cons pe_dnewK (pa_cons (pe_tup pa_nil) (pa_cons (pe_tup (pa_cons pe_int pa_nil)) (pa_cons (pe_disp (pps_cons pe_int pe_int pps_nil) (by rfl) (by rfl) (fun z => by cases z) (by decide)) (pa_cons (pe_lst (pa_cons pe_non pa_nil)) pa_nil))))))))))))))))
      (pss_one (ps_ret (pe_ix ix_list (pv 1) (pe_callH (ok_drawD T) hr (mg__law_draw T) pass0 (pa_cons (pv 0) (pa_cons pe_int pa_nil))) (fun _ _ => rfl))))), ?_⟩
    refine ⟨lenk rfl, fun o1 no1 => ?_⟩
    generalize eH1 : upd H o1 _ = H1
    have sH1 := fr_same eH1 no1
    have fo1 := fr_at eH1
    have S1 := S0.same sH1
    refine ⟨lenk rfl, fun o2 no2 => ?_⟩
    generalize eH2 : upd H1 o2 _ = H2
    have sH2 := fr_same eH2 no2
    have fo2 := fr_at eH2
    have S2 := S1.same sH2
    refine ⟨lenk rfl, fun o3 no3 => ?_⟩
    generalize eH3 : upd H2 o3 _ = H3
    have sH3 := fr_same eH3 no3
    have fo3 := fr_at eH3
    have S3 := S2.same sH3
    refine fun o4 no4 => ?_
    generalize eH4 : upd H3 o4 _ = H4
    have sH4 := fr_same eH4 no4
    have fo4 := fr_at eH4
    have S4 := S3.same sH4
    refine ⟨lenk rfl, fun o5 no5 => ?_⟩
    generalize eH5 : upd H4 o5 _ = H5
    have sH5 := fr_same eH5 no5
    have fo5 := fr_at eH5
    have S5 := S4.same sH5
    refine ⟨lenk rfl, fun o6 no6 => ?_⟩
    generalize eH6 : upd H5 o6 _ = H6
    have sH6 := fr_same eH6 no6
    have fo6 := fr_at eH6
    have S6 := S5.same sH6
    refine fun o7 no7 => ⟨upd_same, [(.inl 1, .int 2)], rfl, by decide, ?_⟩
    rw [upd_upd]
    generalize eH7 : upd H6 o7 _ = H7
    have sH7 := fr_same eH7 no7
    have fo7 := fr_at eH7
    have S7 := S6.same sH7
    refine ⟨lenk rfl, fun o8 no8 => ?_⟩
    generalize eH8 : upd H7 o8 _ = H8
    have sH8 := fr_same eH8 no8
    have fo8 := fr_at eH8
    have S8 := S7.same sH8
    refine ⟨lenk rfl, fun so nso => ?_⟩
    generalize eH9 : upd H8 so _ = H9
    have sH9 := fr_same eH9 nso
    have fso := fr_at eH9
    have S9 := S8.same sH9
    have g1 : H9 o1 = some (.tup _) := (sH9 _ _ (sH8 _ _ (sH7 _ _ (sH6 _ _ (sH5 _ _ (sH4 _ _ (sH3 _ _ (sH2 _ _ fo1))))))))
    have g2 : H9 o2 = some (.lst _) := (sH9 _ _ (sH8 _ _ (sH7 _ _ (sH6 _ _ (sH5 _ _ (sH4 _ _ (sH3 _ _ fo2)))))))
    have g3 : H9 o3 = some (.lst _) := (sH9 _ _ (sH8 _ _ (sH7 _ _ (sH6 _ _ (sH5 _ _ (sH4 _ _ fo3))))))
    have g4 : H9 o4 = some (.dK _) := (sH9 _ _ (sH8 _ _ (sH7 _ _ (sH6 _ _ (sH5 _ _ fo4)))))
    have g5 : H9 o5 = some (.tup _) := (sH9 _ _ (sH8 _ _ (sH7 _ _ (sH6 _ _ fo5))))
    have g6 : H9 o6 = some (.tup _) := (sH9 _ _ (sH8 _ _ (sH7 _ _ fo6)))
    have g7 : H9 o7 = some (.dK _) := (sH9 _ _ (sH8 _ _ fo7))
    have g8 : H9 o8 = some (.lst _) := (sH9 _ _ fo8)
    have rp : ∀ {q : Addr}, q ≠ p → V.ref q ≠ .ref p := fun n z => n (V.ref.inj z)
    refine ⟨_, rfl, _, rfl, draw_rd S9 (by decide) (by decide) fun i2 Hx i2a i2b Dx Sx => ?_⟩
    obtain ⟨odd, eodd, od⟩ := at_all (Pr := Odd H9 p) (xs := [.non, .bl true, .bl false, .str "", .str "1", .str "N", .ref o1, .ref o2, .ref o3, .ref o4, .ref o5, .ref o6, .ref o7, .ref o8]) i2a i2b (by
      intro x hx
      simp only [List.mem_cons, List.not_mem_nil, or_false] at hx
      rcases hx with rfl | rfl | rfl | rfl | rfl | rfl | rfl | rfl | rfl | rfl | rfl | rfl | rfl | rfl
      · exact ⟨⟨_, by decide, .non⟩, by intro z; cases z⟩
      · exact ⟨⟨_, by decide, .bl _⟩, by intro z; cases z⟩
      · exact ⟨⟨_, by decide, .bl _⟩, by intro z; cases z⟩
      · exact ⟨⟨_, by decide, .str _⟩, by intro z; cases z⟩
      · exact ⟨⟨_, by decide, .str _⟩, by intro z; cases z⟩
      · exact ⟨⟨_, by decide, .str _⟩, by intro z; cases z⟩
      · exact ⟨⟨_, by decide, .tup g1⟩, rp (S0.ne no1)⟩
      · exact ⟨⟨_, by decide, .lst g2⟩, rp (S1.ne no2)⟩
      · exact ⟨⟨_, by decide, .lst g3⟩, rp (S2.ne no3)⟩
      · exact ⟨⟨_, by decide, .dK g4⟩, rp (S3.ne no4)⟩
      · exact ⟨⟨_, by decide, .tup g5⟩, rp (S4.ne no5)⟩
      · exact ⟨⟨_, by decide, .tup g6⟩, rp (S5.ne no6)⟩
      · exact ⟨⟨_, by decide, .dK g7⟩, rp (S6.ne no7)⟩
      · exact ⟨⟨_, by decide, .lst g8⟩, rp (S7.ne no8)⟩)
    refine ⟨so, _, _, _, rfl, rfl, SqL.of (Dx.st _ _ fso (S8.ne nso)), eodd, ?_⟩
    exact k _ _ (od.drawn Dx) (Drawn.after (sH1.trans (sH2.trans (sH3.trans (sH4.trans (sH5.trans (sH6.trans (sH7.trans (sH8.trans (sH9))))))))) Dx)
end
end Lw
/-! K03: the law -/
namespace Lw
open PySem PySem.Spec PyProof.Rows L2 Rg
section
variable {P : Program} {w : World} {K : PySem.W.Frag} {mg : Str → Option Value} {base : Heap}
def dueF : List V := [.str "value", .str "form"]
def dueS : List V := [.str "value", .str "size"]
theorem wf_eq : wordsL true false false false false false false false false = dueF := rfl
theorem ws_eq : wordsL false false false true false false false false false = dueS := rfl
theorem dp_f {H : Hp} {l : Addr} (h : H l = some (.lst dueF)) : Dp K H (.ref l) (.list [.str "value", .str "form"]) := .lst (SqL.of h) (.cons (.str _) (.cons (.str _) .nil))
theorem dp_s {H : Hp} {l : Addr} (h : H l = some (.lst dueS)) : Dp K H (.ref l) (.list [.str "value", .str "size"]) := .lst (SqL.of h) (.cons (.str _) (.cons (.str _) .nil))
theorem shp_f : SeqAt.shaped (.list [.str "value", .str "form"]) = true := by decide +kernel
theorem shp_s : SeqAt.shaped (.list [.str "value", .str "size"]) = true := by decide +kernel
theorem eqv_f : PyData.eqv (.list [.str "value", .str "form"]) (.list [.str "value", .str "form"]) = true := by decide +kernel
theorem eqv_s : PyData.eqv (.list [.str "value", .str "size"]) (.list [.str "value", .str "size"]) = true := by decide +kernel
theorem errF (T : TopL K mg) : ErrK K (He.ga K "NoForm") true false false false false false false false false := ⟨xc_NoForm T, ex_NoForm_RingError T, kt_NoForm_ValueError T, ki_NoForm_NoForm T, ki_NoForm_NoCounter T, ki_NoForm_NoScheme T, ki_NoForm_NoSize T, ki_NoForm_NoRing T, ki_NoForm_Outside T, ki_NoForm_NoRun T, ki_NoForm_NoSet T, ki_NoForm_TooLong T⟩
theorem errS (T : TopL K mg) : ErrK K (He.ga K "NoSize") false false false true false false false false false := ⟨xc_NoSize T, ex_NoSize_RingError T, kt_NoSize_ValueError T, ki_NoSize_NoForm T, ki_NoSize_NoCounter T, ki_NoSize_NoScheme T, ki_NoSize_NoSize T, ki_NoSize_NoRing T, ki_NoSize_Outside T, ki_NoSize_NoRun T, ki_NoSize_NoSet T, ki_NoSize_TooLong T⟩
abbrev RefF (P : Program) (w : World) (K : PySem.W.Frag) (mg : Str → Option Value) (base : Heap) (f : Addr) (x y : V) (H : Hp) : Prop := Refs P w K mg base (He.ga K "NoForm") f x y H
/-- what a turn has at hand -/
structure Lo (K : PySem.W.Frag) (p c d L : Addr) (a b : Int) (odd : V) (H : Hp) : Prop where
  src : Src H p
  frm : H c = some (fO (CF K) d a b)
  due : H L = some (.lst dueF)
  od : Odd H p odd
section
variable {p c d L : Addr} {a b : Int} {odd : V} {H H' : Hp}
theorem Lo.same (g : Lo K p c d L a b odd H) (s : Same H H') : Lo K p c d L a b odd H' := ⟨g.src.same s, s _ _ g.frm, s _ _ g.due, g.od.same s⟩
theorem Lo.fo (g : Lo K p c d L a b odd H) (s : Same H H') : ∃ p d a b, V.ref c = .ref p ∧ H' p = some (fO (CF K) d a b) := ⟨c, d, a, b, rfl, s _ _ g.frm⟩
theorem Lo.opr (g : Lo K p c d L a b odd H) (s : Same H H') : Opr (CF K) H' odd := .inl (g.od.1.elim fun U z => ⟨U, z.2.same s⟩)
theorem Lo.nw (g : Lo K p c d L a b odd H) (s : Same H H') : NW K H' odd := g.od.1.elim fun U z => nw_bt (z.2.same s) z.1
theorem Lo.nof (T : TopL K mg) (g : Lo K p c d L a b odd H) (s : Same H H') : NoF K H' odd := g.od.1.elim fun U z => ⟨.type U, (z.2.same s).ty, (in_Form T).to U z.2.mem⟩
theorem Lo.noo (T : TopL K mg) (g : Lo K p c d L a b odd H) (s : Same H H') : NoOpd K H' odd := ⟨g.nw s, g.nof T s⟩
theorem Lo.foy (g : Lo K p c d L a b odd H) (s : Same H H') : ∃ p d a b T, V.ref c = .ref p ∧ H' p = some (fO (CF K) d a b) ∧ Bt H' odd T ∧ T ≠ "int" := g.od.1.elim fun U z => ⟨c, d, a, b, U, rfl, s _ _ g.frm, z.2.same s, z.1⟩
theorem rf_ops (T : TopL K mg) (g : Lo K p c d L a b odd H) {x : V} (hx : x ∈ [V.ref (He.ga K "_law_sum"), .ref (He.ga K "_law_difference"), .ref (He.ga K "_law_product")]) :
    ∃ f, x = .ref f ∧ RefF P w K mg base f (.ref c) odd H ∧ RefF P w K mg base f odd (.ref c) H := by
  simp only [List.mem_cons, List.not_mem_nil, or_false] at hx
  rcases hx with rfl | rfl | rfl
  · exact ⟨_, rfl, ⟨_, _, ok_lsumX T, fun H' s => .inl ⟨g.fo s, g.opr s, g.noo T s⟩⟩, ⟨_, _, ok_lsumX T, fun H' s => .inr ⟨g.noo T s, g.foy s⟩⟩⟩
  · exact ⟨_, rfl, ⟨_, _, ok_ldiffX T, fun H' s => .inl ⟨g.fo s, g.opr s, g.noo T s⟩⟩, ⟨_, _, ok_ldiffX T, fun H' s => .inr ⟨g.noo T s, g.foy s⟩⟩⟩
  · exact ⟨_, rfl, ⟨_, _, ok_lprodX T, fun H' s => .inl ⟨g.fo s, g.opr s, g.nw s⟩⟩, ⟨_, _, ok_lprodX T, fun H' s => .inr (g.foy s)⟩⟩
theorem rf_prod (T : TopL K mg) (g : Lo K p c d L a b odd H) {q e : Addr} {a2 b2 : Int} (hq : H q = some (fO (CF K) e a2 b2)) : RefF P w K mg base (He.ga K "_law_product") (.ref c) (.ref q) H :=
  ⟨_, _, ok_lprodX T, fun H' s => .inl ⟨g.fo s, .inr ⟨q, e, _, rfl, s _ _ hq⟩, nw_ins (in_Form T) (cl_Form T) (s _ _ hq)⟩⟩
theorem rf_cmp (T : TopL K mg) (g : Lo K p c d L a b odd H) {x y : V} (hx : x ∈ [V.ref (He.ga K "_law_compare"), .ref (He.ga K "_law_compare_too"), .ref (He.ga K "_law_greater"), .ref (He.ga K "_law_at_least")]) (hy : y = odd ∨ y = .int b) :
    ∃ f, x = .ref f ∧ RefF P w K mg base f (.ref c) y H := by
  have o1 : ∀ H', Same H H' → Opr (CF K) H' y := fun H' s => by
    rcases hy with rfl | rfl
    · exact g.opr s
    · exact .inl ⟨_, .int _⟩
  have n1 : ∀ H', Same H H' → NoF K H' y := fun H' s => by
    rcases hy with rfl | rfl
    · exact g.nof T s
    · exact ⟨_, .base (.int _), (in_Form T).to _ (by decide)⟩
  simp only [List.mem_cons, List.not_mem_nil, or_false] at hx
  rcases hx with rfl | rfl | rfl | rfl
  · exact ⟨_, rfl, _, _, ok_lcmpX T, fun H' s => ⟨g.fo s, o1 H' s, n1 H' s⟩⟩
  · exact ⟨_, rfl, _, _, ok_lcmp2X T, fun H' s => ⟨g.fo s, o1 H' s, n1 H' s⟩⟩
  · exact ⟨_, rfl, _, _, ok_lgrX T, fun H' s => ⟨g.fo s, o1 H' s, n1 H' s⟩⟩
  · exact ⟨_, rfl, _, _, ok_lgeX T, fun H' s => ⟨g.fo s, o1 H' s, n1 H' s⟩⟩
end
theorem sc_law : FnScope ["_law_script", "_law_due", "_law_turn", "_law_source_here", "_law_slope", "_law_base", "_law_form_here", "_law_odd", "_law_function", "_law_thing", "_law_n"] ["_law_script"] (defScope s_law) := ⟨rfl, rfl, rfl, by decide +kernel, rfl, by decide +kernel, by decide +kernel⟩
theorem ok_law (T : TopL K mg) {fd : FuncData} (F : FunD K d_law.name d_law.qual d_law.params d_law.body d_law.scope (d_law.dvs K) (d_law.kws K) (d_law.loc K) fd) : FnOk P w K mg base CX0 10 (He.ga K "law") fd ["_law_script"] (sp_law K) := by
  refine fn0 F sc_law (fun vs H Q E h => ?_) (fun cdv A outer s H vs Q E hr h => ?_)
  · obtain ⟨a, ns, rfl, _⟩ := h
    rfl
  · obtain ⟨a, ns, rfl, hS, hz, k⟩ := h
    refine ⟨_, (pss_cons (ps_set (i := 1) sc_law.nd rfl (Or.inl rfl) (pe_lst (pa_cons pe_str (pa_cons pe_str pa_nil))))
      (pss_cons (ps_for PassesOwn.never rfl (pi_range1 (by rfl) (fr_range T) (pa_cons (pe_callB (call_max2 rfl) (by rfl) (fr_max T) (by decide +kernel) (pa_cons pe_int (pa_cons (pe_callB (call_min2 rfl) (by rfl) (fr_min T) (by decide +kernel) (pa_cons (pe_callB call_len_seq (by rfl) (fr_len T) PySem.boot_len (pa_cons (pv 0) pa_nil)) (pa_cons pe_int pa_nil))) pa_nil))) pa_nil)) (pg_name (i := 2) sc_law.nd rfl (Or.inl rfl)) (pss_cons (ps_set (i := 3) sc_law.nd rfl (Or.inl rfl) (pe_callH (ok_sourceD T) hr (mg__law_source T) pass0 (pa_cons (pv 0) (pa_cons (pv 2) pa_nil))))
      (pss_cons (ps_asg (pe_callH (ok_lform T) hr (mg__law_form T) pass0 (pa_cons (pv 3) pa_nil)) (pg_tup rfl (pgs_cons (pg_name (i := 4) sc_law.nd rfl (Or.inl rfl)) (pgs_cons (pg_name (i := 5) sc_law.nd rfl (Or.inl rfl)) pgs_nil))))
      (pss_cons (ps_set (i := 6) sc_law.nd rfl (Or.inl rfl) (pe_makeH (mk_Form T) (ok_Form_init T) hr (mg_Form T) passL (pa_cons (pv 4) (pa_cons (pv 5) pa_nil))))
      (pss_cons (ps_set (i := 7) sc_law.nd rfl (Or.inl rfl) (pe_callH (ok_lother T) hr (mg__law_other T) pass0 (pa_cons (pv 3) pa_nil)))
      (pss_cons (ps_for PassesOwn.never rfl (pi_list (pe_lst (pa_cons (pe_gref (mg__law_sum T)) (pa_cons (pe_gref (mg__law_difference T)) (pa_cons (pe_gref (mg__law_product T)) pa_nil))))) (pg_name (i := 8) sc_law.nd rfl (Or.inl rfl)) (pss_cons (ps_if (pt_cmpR (op_neD hr.units) (pe_callH (ok_lcaught T) hr (mg__law_caught T) pass0 (pa_cons (pv 8) (pa_cons (pv 6) (pa_cons (pv 7) pa_nil)))) (pv 1) (nomark _)) (pss_one (ps_ret pe_bl)) pss_nil)
      (pss_one (ps_if (pt_cmpR (op_neD hr.units) (pe_callH (ok_lcaught T) hr (mg__law_caught T) pass0 (pa_cons (pv 8) (pa_cons (pv 7) (pa_cons (pv 6) pa_nil)))) (pv 1) (nomark _)) (pss_one (ps_ret pe_bl)) pss_nil))))
      (pss_cons (ps_if (pt_cmpR (op_neD hr.units) (pe_callH (ok_lcaught T) hr (mg__law_caught T) pass0 (pa_cons (pe_gref (mg__law_product T)) (pa_cons (pv 6) (pa_cons (pe_makeH (mk_Form T) (ok_Form_init T) hr (mg_Form T) passL (pa_cons pe_int (pa_cons pe_int pa_nil))) pa_nil)))) (pv 1) (nomark _)) (pss_one (ps_ret pe_bl)) pss_nil)
      (pss_cons (ps_if (pt_cmpR (op_neD hr.units) (pe_callH (ok_lcaught T) hr (mg__law_caught T) pass0 (pa_cons (pe_gref (mg__law_made T)) (pa_cons (pv 7) (pa_cons (pv 5) pa_nil)))) (pv 1) (nomark _)) (pss_one (ps_ret pe_bl)) pss_nil)
      (pss_cons (ps_if (pt_cmpR (op_neD hr.units) (pe_callH (ok_lcaught T) hr (mg__law_caught T) pass0 (pa_cons (pe_gref (mg__law_made T)) (pa_cons (pv 4) (pa_cons (pv 7) pa_nil)))) (pv 1) (nomark _)) (pss_one (ps_ret pe_bl)) pss_nil)
      (pss_cons (ps_for PassesOwn.never rfl (pi_list (pe_lst (pa_cons (pe_gref (mg__law_compare T)) (pa_cons (pe_gref (mg__law_compare_too T)) (pa_cons (pe_gref (mg__law_greater T)) (pa_cons (pe_gref (mg__law_at_least T)) pa_nil)))))) (pg_name (i := 8) sc_law.nd rfl (Or.inl rfl)) (pss_one (ps_for PassesOwn.never rfl (pi_list (pe_lst (pa_cons (pv 7) (pa_cons (pv 5) pa_nil)))) (pg_name (i := 9) sc_law.nd rfl (Or.inl rfl)) (pss_one (ps_if (pt_cmpR (op_neD hr.units) (pe_callH (ok_lcaught T) hr (mg__law_caught T) pass0 (pa_cons (pv 8) (pa_cons (pv 6) (pa_cons (pv 9) pa_nil)))) (pv 1) (nomark _)) (pss_one (ps_ret pe_bl)) pss_nil)))))
      (pss_cons (ps_for PassesOwn.never rfl (pi_list (pe_lst (pa_cons (pv 7) (pa_cons pe_int (pa_cons (pe_un un_neg pe_int) (pa_cons (pe_op op_add (pe_op op_pow pe_int pe_int) pe_int) pa_nil)))))) (pg_name (i := 10) sc_law.nd rfl (Or.inl rfl)) (pss_one (ps_if (pt_cmpR (op_neD hr.units) (pe_callH (ok_lcaught T) hr (mg__law_caught T) pass0 (pa_cons (pe_gref (mg__law_call T)) (pa_cons (pv 6) (pa_cons (pv 10) pa_nil)))) (pe_lst (pa_cons pe_str (pa_cons pe_str pa_nil))) (nomark _)) (pss_one (ps_ret pe_bl)) pss_nil)))
      (pss_one (ps_if (PW.pt (pw_or (pt_cmpR (op_neD hr.units) (pe_tup (pa_cons (pe_fld (pv 6) rfl) (pa_cons (pe_fld (pv 6) rfl) pa_nil))) (pe_tup (pa_cons (pv 4) (pa_cons (pv 5) pa_nil))) (nomark _)) (pw_or1 (pt_cmpR op_ne (pe_callI (pv 6) (ca_Form T) (ok_Form_call T) hr passL (pa_cons pe_int pa_nil)) (pe_op op_add (pv 4) (pv 5)) (nomark _))))) (pss_one (ps_ret pe_bl)) pss_nil)))))))))))))
      (pss_one (ps_ret pe_bl)))), ?_⟩
    refine ⟨lenk rfl, fun L nL => ?_⟩
    generalize eHL : upd H L _ = HL
    have sHL := fr_same eHL nL
    have fL := fr_at eHL
    have hS : SqL K HL a (ns.map V.int) := sHL.seq hS
    refine ⟨_, rfl, a, _, rfl, .inl hS, _, _, rfl, _, _, rfl, ?_⟩
    have hj1 := turns_rng 1 30 (by decide) (by decide) ((ns.map V.int).length : Int) (by omega)
    generalize (if (if 30 < ((ns.map V.int).length : Int) then (30 : Int) else ((ns.map V.int).length : Int)) > 1 then (if 30 < ((ns.map V.int).length : Int) then (30 : Int) else ((ns.map V.int).length : Int)) else 1) = j at hj1 ⊢
    refine ⟨_, rfl, by omega, by omega, for_range (n := j.toNat) (fun i σ H9 => ∃ (u2 u3 u4 u5 u6 u7 u8 u9 u10 : Option V), σ = [some (.ref a), some (.ref L), u2, u3, u4, u5, u6, u7, u8, u9, u10] ∧ Same HL H9)
      ⟨_, _, _, _, _, _, _, _, _, rfl, Same.refl _⟩ ?_ (fun σ H9 z => k H9)⟩
    rintro i σ H0 hi ⟨u2, u3, u4, u5, u6, u7, u8, u9, u10, rfl, s0⟩
    have hS0 : SqL K H0 a (ns.map V.int) := s0.seq hS
    refine ⟨_, rfl, _, rfl, source_rd hS0 (by omega) fun p H1 np s1 S1 => ?_⟩
    refine ⟨_, rfl, lform_rd S1 fun t a0 b0 H2 ra rb nt D2 S2 ft => ⟨t, _, rfl, SqT.of ft, rfl, _, _, rfl, _, _, rfl, rfl, ?_⟩⟩
    refine ⟨_, rfl, _, rfl, ?_⟩
    intro c d nc nd ne
    refine form_init nc nd ne fun H3 s3 hc => ⟨rfl, ?_⟩
    refine ⟨_, rfl, lother_rd (S2.same s3) fun odd H4 od D4 S4 => ?_⟩
    have nLp : L ≠ p := ne_of_none (s0 _ _ fL) np
    have g : Lo K p c d L a0 b0 odd H4 := ⟨S4, D4.st _ _ hc (S2.ne nc), D4.st _ _ (s3 _ _ (D2.st _ _ (s1 _ _ (s0 _ _ fL)) nLp)) nLp, od⟩
    refine ⟨lenk rfl, fun l5 nl5 => ?_⟩
    generalize eH5 : upd H4 l5 _ = H5
    have sH5 := fr_same eH5 nl5
    have fl5 := fr_at eH5
    have g5 := g.same sH5
    refine ⟨l5, rfl, ⟨_, SqL.of fl5⟩, for_each (SqL.of fl5) _ rfl (fun u x H6 hx s6 => ?_) (fun u H6 s6 => ?_)⟩
    · have g6 := g5.same s6
      obtain ⟨f, rfl, r1, _⟩ := rf_ops (P := P) (w := w) (base := base) T g6 hx
      refine ⟨_, rfl, _, rfl, _, rfl, lcaught_rd (errF T) (r1) fun l7 H7 s7 fl7 => ?_⟩
      have g7 := g6.same s7
      refine ⟨_, rfl, _, _, dp_f fl7, dp_f g7.due, shp_f, shp_f, ?_⟩
      rw [eqv_f]
      refine ⟨_, rfl, iteF ?_⟩
      obtain ⟨f', e', _, r2⟩ := rf_ops (P := P) (w := w) (base := base) T g7 hx
      obtain rfl := V.ref.inj e'
      refine ⟨_, rfl, _, rfl, _, rfl, lcaught_rd (errF T) (r2) fun l8 H8 s8 fl8 => ?_⟩
      have g8 := g7.same s8
      refine ⟨_, rfl, _, _, dp_f fl8, dp_f g8.due, shp_f, shp_f, ?_⟩
      rw [eqv_f]
      refine ⟨_, rfl, iteF ?_⟩
      exact ⟨⟨_, rfl⟩, s6.trans (s7.trans s8)⟩
    have g6 := g5.same s6
    refine ⟨_, rfl, ?_⟩
    intro q e nq nde neq
    refine form_init nq nde neq fun H7 s7 hq => ⟨rfl, ?_⟩
    have g7 := g6.same s7
    refine (lcaught_rd (errF T) (rf_prod T g7 hq) fun l8 H8 s8 fl8 => ?_)
    have g8 := g7.same s8
    refine ⟨_, rfl, _, _, dp_f fl8, dp_f g8.due, shp_f, shp_f, ?_⟩
    rw [eqv_f]
    refine ⟨_, rfl, iteF ?_⟩
    refine ⟨_, rfl, _, rfl, lcaught_rd (errF T) (⟨_, _, ok_lmadeX T, fun H' s => .inl (g8.nw s)⟩) fun l9 H9 s9 fl9 => ?_⟩
    have g9 := g8.same s9
    refine ⟨_, rfl, _, _, dp_f fl9, dp_f g9.due, shp_f, shp_f, ?_⟩
    rw [eqv_f]
    refine ⟨_, rfl, iteF ?_⟩
    refine ⟨_, rfl, _, rfl, lcaught_rd (errF T) (⟨_, _, ok_lmadeX T, fun H' s => .inr ⟨_, rfl, g9.nw s⟩⟩) fun l10 H10 s10 fl10 => ?_⟩
    have g10 := g9.same s10
    refine ⟨_, rfl, _, _, dp_f fl10, dp_f g10.due, shp_f, shp_f, ?_⟩
    rw [eqv_f]
    refine ⟨_, rfl, iteF ?_⟩
    -- compared
    refine ⟨lenk rfl, fun l11 nl11 => ?_⟩
    generalize eH11 : upd H10 l11 _ = H11
    have sH11 := fr_same eH11 nl11
    have fl11 := fr_at eH11
    have g11 := g10.same sH11
    refine ⟨l11, rfl, ⟨_, SqL.of fl11⟩, for_each2 (j := 9) (by decide) (SqL.of fl11) _ _ rfl (fun v x H12 hx s12 => ?_) (fun u v H12 s12 => ?_)⟩
    · have g12 := g11.same s12
      refine ⟨_, rfl, _, rfl, lenk rfl, fun l13 nl13 => ?_⟩
      generalize eH13 : upd H12 l13 _ = H13
      have sH13 := fr_same eH13 nl13
      have fl13 := fr_at eH13
      have g13 := g12.same sH13
      refine ⟨l13, rfl, ⟨_, SqL.of fl13⟩, for_each (SqL.of fl13) _ rfl (fun u y H14 hy s14 => ?_) (fun u H14 s14 => ?_)⟩
      · have g14 := g13.same s14
        have hy2 : y = odd ∨ y = .int b0 := by
          simp only [List.mem_cons, List.not_mem_nil, or_false] at hy
          exact hy
        obtain ⟨f, rfl, r1⟩ := rf_cmp (P := P) (w := w) (base := base) T g14 hx hy2
        refine ⟨_, rfl, _, rfl, _, rfl, lcaught_rd (errF T) (r1) fun l15 H15 s15 fl15 => ?_⟩
        have g15 := g14.same s15
        refine ⟨_, rfl, _, _, dp_f fl15, dp_f g15.due, shp_f, shp_f, ?_⟩
        rw [eqv_f]
        refine ⟨_, rfl, iteF ?_⟩
        exact ⟨⟨_, rfl⟩, s14.trans s15⟩
      exact ⟨⟨_, _, rfl⟩, s12.trans (sH13.trans s14)⟩
    have g12 := g11.same s12
    -- called
    refine ⟨_, rfl, _, rfl, _, _, rfl, rfl, ⟨by decide, by decide, by decide⟩, _, _, rfl, rfl, lenk rfl, fun l13 nl13 => ?_⟩
    generalize eH13 : upd H12 l13 _ = H13
    have sH13 := fr_same eH13 nl13
    have fl13 := fr_at eH13
    have g13 := g12.same sH13
    refine ⟨l13, rfl, ⟨_, SqL.of fl13⟩, for_each (SqL.of fl13) _ rfl (fun u x H14 hx s14 => ?_) (fun u H14 s14 => ?_)⟩
    · have g14 := g13.same s14
      have bx : ∀ H', Same H14 H' → (∃ n : Int, x = .int n ∧ ¬ (1 ≤ n ∧ n ≤ 10 ^ 30)) ∨ NW K H' x := by
        intro H' s'
        simp only [List.mem_cons, List.not_mem_nil, or_false] at hx
        rcases hx with rfl | rfl | rfl | rfl
        · exact .inr (g14.nw s')
        · exact .inl ⟨_, rfl, by decide⟩
        · exact .inl ⟨_, rfl, by decide⟩
        · exact .inl ⟨_, rfl, by decide⟩
      refine ⟨_, rfl, _, rfl, lcaught_rd (errS T) ⟨_, _, ok_lcallX T, fun H' s => ⟨g14.fo s, bx H' s⟩⟩ fun l15 H15 s15 fl15 => ?_⟩
      refine ⟨lenk rfl, fun l16 nl16 => ?_⟩
      generalize eH16 : upd H15 l16 _ = H16
      have sH16 := fr_same eH16 nl16
      have fl16 := fr_at eH16
      refine ⟨_, _, dp_s (sH16 _ _ fl15), dp_s fl16, shp_s, shp_s, ?_⟩
      rw [eqv_s]
      refine ⟨_, rfl, iteF ?_⟩
      exact ⟨⟨_, rfl⟩, s14.trans (s15.trans sH16)⟩
    have g14 := g13.same s14
    refine ⟨_, rfl, c, CF K, d, _, _, rfl, g14.frm, cl_Form T, na_Form_slope T, rfl, _, rfl, c, CF K, d, _, _, rfl, g14.frm, cl_Form T, na_Form_base T, rfl, lenk rfl, fun t1 nt1 => ?_⟩
    generalize eH15 : upd H14 t1 _ = H15
    have sH15 := fr_same eH15 nt1
    have ft1 := fr_at eH15
    refine ⟨_, rfl, _, rfl, lenk rfl, fun t2 nt2 => ?_⟩
    generalize eH16 : upd H15 t2 _ = H16
    have sH16 := fr_same eH16 nt2
    have ft2 := fr_at eH16
    refine ⟨_, _, dp_pair (sH16 _ _ ft1), dp_pair ft2, rfl, rfl, ?_⟩
    rw [eqv_pair, decide_eq_true ⟨rfl, rfl⟩]
    refine ⟨_, rfl, iteF ?_⟩
    have g16 := g14.same (sH15.trans sH16)
    refine ⟨_, rfl, c, rfl, ⟨_, _, g16.frm⟩, fcall_yes g16.frm ⟨by decide, by decide⟩ (bg_of (by omega) (by omega)) ?_⟩
    refine ⟨_, rfl, _, rfl, _, _, rfl, rfl, rfl, _, rfl, ?_⟩
    refine ifN (fun hc => absurd (congrArg V.int (by omega)) hc) (fun _ => ?_)
    exact ⟨_, _, _, _, _, _, _, _, _, rfl, s0.trans (Drawn.over s1 np (((D2.same s3).trans D4).same (sH5.trans (s6.trans (s7.trans (s8.trans (s9.trans (s10.trans (sH11.trans (s12.trans (sH13.trans (s14.trans (sH15.trans sH16)))))))))))))⟩
end
end Lw
/-! the end: the law's own def as the top has left it. -/
namespace Lw
open PySem PySem.Spec PyProof.Rows L2 Rg
theorem finish {P : Program} {w : World} {K : PySem.W.Frag} {mg : Str → Option Value} {fa : Addr} {h : Heap} (KX : K.In h) (G : h.Ns mainGlobals mg) (hmg : mg ("law" : Str) = some (.ref fa)) (c : SaysM faL fnL K) :
    ∃ (K : PySem.W.Frag) (fd : FuncData) (sp : Sp), K.In h ∧ (∀ (s : Shared) (u : Value), BindsTo s fd ⟨[u], []⟩ [("_law_script", u)]) ∧
      (∀ (H : Hp) (a : Addr) (ns : List Int), ns.length ≤ 63 → Only H → SqL K H a (ns.map V.int) → sp [.ref a] H (fun v _ => v = .bl true) fun _ _ _ => False) ∧
      ∀ base : Heap, K.In base → base.Ns mainGlobals mg → FnOk P w K mg base CX0 10 fa fd ["_law_script"] sp := by
  have T : TopL K mg := ⟨c, h, KX, G⟩
  obtain ⟨fd, F⟩ := fn_law T
  have e := hmg.symm.trans (mg_law T)
  cases e
  exact ⟨K, fd, sp_law K, KX, fun s u => FunD.bindsA (ps := ["_law_script"]) F (fun _ _ _ _ _ _ us hl => match us, hl with | [_], _ => rfl) s [u] rfl, fun H a ns hl _ hS => ⟨a, ns, rfl, hS, hl, fun _ => rfl⟩, fun base _ _ => ok_law T F⟩
end Lw
namespace Lw
open PySem PySem.Spec PyProof.Rows L2 Rg
def names0 : List PySem.Str := ["RingError", "NoForm", "NoCounter", "NoScheme", "NoSize", "NoRing", "Outside", "NoRun", "NoSet", "TooLong", "DIGITS", "LARGEST", "is_whole", "is_between", "is_size", "digits_in", "signed_in", "Form", "operand_of", "sign_of", "show_form", "slope_in", "form_in", "_law_source", "_law_draw", "_law_pick", "_law_form", "_law_size", "_law_caught", "_law_made"]
def names1 : List PySem.Str := ["_law_sum", "_law_difference", "_law_product", "_law_compare", "_law_compare_too", "_law_greater", "_law_at_least", "_law_call", "_law_other"]
def names : List PySem.Str := names0 ++ names1
abbrev RowL : PySem.W.OpenRow := PySem.W.OpenLaw.row PySem.Challenge.rw_ringindexes_k03_forms_refused
abbrev hk : PySem.W.Hook := hookM 7 faL fnL
def ob (s : PySem.W.SharedT) : AlM := obsMG 7 faL fnL (HandSHeadRun.getT s)
theorem ob_eq (s : PySem.W.SharedT) : ob s = hk.obs s.abs := obsMG_eq (HandSHeadRun.getT_eq s)
theorem run (w : World) : HandSHeadRun.RunEq RowL (PySem.W.view RowL.prog [43]) hk ob 6000 names w := by
  intro os
  kernel_rfl
end Lw
open PySem PySem.W PySem.Calls PyProof.Rows
set_option maxRecDepth 100000 in
set_option maxHeartbeats 0 in
theorem PySem.Challenge.cw_ringindexes_k03_forms_refused_holds : PySem.Challenge.rw_ringindexes_k03_forms_refused.Holds := by
  w_on; o_law
  refine HandSHeadRun.head_any (r := OpenLaw.row PySem.Challenge.rw_ringindexes_k03_forms_refused) (q := view (PySem.W.OpenLaw.row PySem.Challenge.rw_ringindexes_k03_forms_refused).prog [43]) (H := Lw.hk) (ob := Lw.ob) (M := 6000) (loose := Lw.names) (d := HandSHeadRun.topDef (PySem.W.OpenLaw.row PySem.Challenge.rw_ringindexes_k03_forms_refused).prog 43) (kwd := []) Lw.ob_eq
    (by kernel_rfl) (fun s => by kernel_rfl) Lw.run (by kernel_rfl) (by kernel_rfl) (by kernel_rfl) (by rfl) (by first | assumption | decide +kernel) (by decide +kernel) ⟨rfl, rfl, rfl, rfl, rfl, by decide +kernel⟩ ?hw ?hc
  case hw => w_witness2
  case hc =>
    refine L2.walk_ofE (l := PySem.Challenge.rw_ringindexes_k03_forms_refused) (n := 63) (k := 10) (x := "_law_script") (CX := L2.CX0) rfl (by decide) (by kernel_rfl) ⟨rfl, by decide, by decide⟩ ?F (fun _ _ _ _ z => z)
    intro w mg fa h Y G hmg0
    obtain ⟨K, KX, c⟩ := Y
    have hmg : mg ("law" : PySem.Str) = some (.ref fa) := by
      have e : (HandSHeadRun.topDef (PySem.W.OpenLaw.row PySem.Challenge.rw_ringindexes_k03_forms_refused).prog 43).name = ("law" : PySem.Str) := by kernel_rfl
      rw [← e]
      exact hmg0
    exact Lw.finish (P := (PySem.Challenge.rw_ringindexes_k03_forms_refused).prog) (w := w) KX G hmg c
