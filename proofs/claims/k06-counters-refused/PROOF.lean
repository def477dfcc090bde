import PyProof.Rows.All
import Wide.All
import OpenK.AllK
import Wide.FinOn
import KE.KStateDown
import Lean
import HandS.ForMost
import HandS.Exc
import HandS.TryOnly
import HandS.ExcOwn
import HandS.WordsExc
import HandS.Defaults
import HandS.Wide
import HandS.IsInst
import HandS.Star
import HandS.Property
import HandS.Flow
import HandS.Style
import HandS.Codes
import HandS.Head0
import HandS.Head1
import HandS.Head2
import HandS.HeadEnd
import HandS.HeadHook1
import HandS.HeadHook2
import HandS.ExcIs
import HandS.Iter
import HandS.CallSlots
import PySem.Challenge.RW_ringindexes_k06_counters_refused
set_option Elab.async false
set_option linter.all false
set_option maxRecDepth 100000
set_option maxHeartbeats 4000000
/-! GEN A: the head's facts as a list of Bool functions of the written part. -/
namespace Rg
open PySem PySem.Spec PyProof.Rows L2
abbrev Fct := PySem.W.Frag → Bool
/-- one def of the text: where it stands behind the top, what it is -/
structure DefM where
  loc : PySem.W.Frag → Addr
  name : Str
  qual : Str
  params : Arguments
  body : List Stmt
  scope : Scope
  dfl : List He.Dv
  kwd : List (Str × He.Dv)
abbrev SeenF : Type := Option (Str × Str × Arguments × FuncBody × Scope × (Addr × List (Str × Addr) × Addr))
def fnAt (K : PySem.W.Frag) (a : Addr) : Option FuncData := (K.lookup a).bind fun o => match o.data with
  | .func fd => some fd
  | _ => none
def DefM.seen (K : PySem.W.Frag) (d : DefM) : SeenF := (fnAt K (d.loc K)).map fun fd => (fd.name, fd.qualname, fd.params, fd.body, fd.scope, (fd.globals, fd.closure, fd.builtins))
def DefM.val (d : DefM) : SeenF := some (d.name, d.qual, d.params, .stmts d.body, d.scope, (mainGlobals, [], builtinsNs))
def DefM.dvs (K : PySem.W.Frag) (d : DefM) : List V := d.dfl.map (He.Dv.v K)
def DefM.kws (K : PySem.W.Frag) (d : DefM) : List (Str × V) := d.kwd.map fun q => (q.1, q.2.v K)
def DefM.ok (K : PySem.W.Frag) (d : DefM) : Bool := PySem.W.keepIn K (.ref (d.loc K)) && ((fnAt K (d.loc K)).any fun fd =>
  PySem.W.codeIn K fd.code d.qual && (He.dflB K fd.defaults (d.dvs K) && He.kwdB K fd.kwdefaults (d.kws K)))
theorem DefM.funD {K : PySem.W.Frag} {d : DefM} (e : d.seen K = d.val) (c : d.ok K = true) : ∃ fd, FunD K d.name d.qual d.params d.body d.scope (d.dvs K) (d.kws K) (d.loc K) fd := by
  obtain ⟨kp, c⟩ := Bool.and_eq_true_iff.mp c
  unfold DefM.seen DefM.val at e
  obtain ⟨fd, hf, e⟩ := Option.map_eq_some_iff.mp e
  rw [hf] at c
  simp only [Option.any_some, Bool.and_eq_true] at c
  obtain ⟨c1, c2, c3⟩ := c
  obtain ⟨o, ho, hd⟩ := Option.bind_eq_some_iff.mp hf
  obtain ⟨oc, od, dt, osl⟩ := o
  cases dt <;> first | cases hd | skip
  obtain ⟨n1, n2, n3, n4, n5, n6, n7, n8, n9, n10, n11, n12, n13, n14, n15⟩ := fd
  simp only [Prod.mk.injEq] at e
  obtain ⟨h1, h2, h3, h4, h5, h6, h7, h8⟩ := e
  subst h1 h2 h3 h4 h5 h6 h7 h8
  exact ⟨_, ⟨oc, od, n8, n9, n10, n11, n12, n13, n14, osl, rfl, ho, c1, He.dflB_ok c2, He.kwdB_ok c3⟩, kp⟩
/-- a property's getter and setter, a static method's def -/
def pgA (C f : Str) (K : PySem.W.Frag) : Addr := match PySem.W.recIn K (He.ma K (He.ga K C) f) "property" with
  | some (.ref g :: _) => g
  | _ => 0
def psA (C f : Str) (K : PySem.W.Frag) : Addr := match PySem.W.recIn K (He.ma K (He.ga K C) f) "property" with
  | some (_ :: .ref g :: _) => g
  | _ => 0
def smA (C f : Str) (K : PySem.W.Frag) : Addr := match PySem.W.recIn K (He.ma K (He.ga K C) f) "staticmethod" with
  | some (.ref g :: _) => g
  | _ => 0
abbrev AlM : Type := Bool × List SeenF
def obsM (fs : List Fct) (fn : List DefM) (K : PySem.W.Frag) : AlM := ((fs.all fun f => f K) && fn.all fun d => d.ok K, fn.map fun d => d.seen K)
def valM (fn : List DefM) : AlM := (true, fn.map DefM.val)
def SaysM (fs : List Fct) (fn : List DefM) (K : PySem.W.Frag) : Prop := obsM fs fn K = valM fn
def obsMG (n : Nat) (fs : List Fct) (fn : List DefM) (g : Addr → Option Obj) : AlM := obsM fs fn (He.frG g (He.asD g n))
def hookM (n : Nat) (fs : List Fct) (fn : List DefM) : PySem.W.Hook :=
  { α := AlM, obs := fun s => obsMG n fs fn s.heap.get?, val := fun _ => valM fn,
    says := fun _ h => ∃ K : PySem.W.Frag, K.In h ∧ SaysM fs fn K,
    of := fun _ _ e => ⟨_, He.frG_in, e⟩,
    keeps := fun _ _ _ z k => z.elim fun K q => ⟨K, PySem.W.Frag.In.keeps q.1 k, q.2⟩ }
theorem obsMG_eq {n : Nat} {fs : List Fct} {fn : List DefM} {g : Addr → Option Obj} {s : Shared} (h : ∀ a, g a = s.heap.get? a) :
    obsMG n fs fn g = (hookM n fs fn).obs s := by
  have q : g = s.heap.get? := funext h
  subst q
  rfl
theorem SaysM.fact {fs : List Fct} {fn : List DefM} {K : PySem.W.Frag} (c : SaysM fs fn K) (i : Nat) {f : Fct} (h : fs[i]? = some f) : f K = true := by
  have c0 : ((fs.all fun f => f K) && fn.all fun d => d.ok K) = true := congrArg (fun z : AlM => z.1) c
  exact List.all_eq_true.mp (Bool.and_eq_true_iff.mp c0).1 f (List.mem_of_getElem? h)
theorem SaysM.dfn {fs : List Fct} {fn : List DefM} {K : PySem.W.Frag} (c : SaysM fs fn K) (i : Nat) {d : DefM} (h : fn[i]? = some d) :
    ∃ fd, FunD K d.name d.qual d.params d.body d.scope (d.dvs K) (d.kws K) (d.loc K) fd := by
  have c0 : ((fs.all fun f => f K) && fn.all fun d => d.ok K) = true := congrArg (fun z : AlM => z.1) c
  have c1 : fn.map (fun d => d.seen K) = fn.map DefM.val := congrArg (fun z : AlM => z.2) c
  have c2 := congrArg (fun l : List SeenF => l[i]?) c1
  simp only [List.getElem?_map, h, Option.map_some, Option.some.injEq] at c2
  exact DefM.funD c2 (List.all_eq_true.mp (Bool.and_eq_true_iff.mp c0).2 d (List.mem_of_getElem? h))
/-- what the top has left -/
structure Top (fs : List Fct) (fn : List DefM) (K : PySem.W.Frag) (mg : Str → Option Value) : Prop where
  c : SaysM fs fn K
  ex : ∃ h : Heap, K.In h ∧ h.Ns mainGlobals mg
section
variable {fs : List Fct} {fn : List DefM} {K : PySem.W.Frag} {mg : Str → Option Value}
theorem Top.glo (T : Top fs fn K mg) {x : Str} (i : Nat) (h : fs[i]? = some (He.Fa.glo x).ok) : mg x = some (.ref (He.ga K x)) :=
  T.ex.elim fun _ q => He.glo_ok q.1 q.2 (T.c.fact i h)
theorem Top.free (T : Top fs fn K mg) {x : Str} (i : Nat) (h : fs[i]? = some (He.Fa.free x).ok) : mg x = none :=
  T.ex.elim fun _ q => He.free_ok q.1 q.2 (T.c.fact i h)
theorem Top.int (T : Top fs fn K mg) {x : Str} {n : Int} (i : Nat) (h : fs[i]? = some (He.Fa.int x n).ok) : ∃ t, mg x = some (.int n t) :=
  T.ex.elim fun _ q => He.int_ok q.1 q.2 (T.c.fact i h)
theorem Top.str (T : Top fs fn K mg) {x z : Str} (i : Nat) (h : fs[i]? = some (He.Fa.str x z).ok) : ∃ t, mg x = some (.str z t) :=
  T.ex.elim fun _ q => He.str_ok q.1 q.2 (T.c.fact i h)
theorem Top.cls (T : Top fs fn K mg) {x : Str} (i : Nat) (h : fs[i]? = some (He.Fa.cls x).ok) : Cls K (He.ga K x) := He.cls_ok (T.c.fact i h)
theorem Top.noat (T : Top fs fn K mg) {x f : Str} (i : Nat) (h : fs[i]? = some (He.Fa.noat x f).ok) : NoAttr K (He.ga K x) f := He.noat_ok (T.c.fact i h)
theorem Top.meth (T : Top fs fn K mg) {x m : Str} (i : Nat) (h : fs[i]? = some (He.Fa.meth x m).ok) : Meth K (He.ga K x) m (He.ma K (He.ga K x) m) := He.meth_ok (T.c.fact i h)
theorem Top.mkr (T : Top fs fn K mg) {x : Str} (i : Nat) (h : fs[i]? = some (He.Fa.mkr x).ok) : Mk K (He.ga K x) (He.ma K (He.ga K x) "__init__") := He.mkr_ok (T.c.fact i h)
end
/-- a def's promise with all that a caller wants -/
structure Has (P : Program) (w : World) (K : PySem.W.Frag) (mg : Str → Option Value) (base : Heap) (CX : CXT) (k : Nat) (f : Addr) (ps : List Str) (dvs : List V) (sp : Sp) : Prop where
  ex : ∃ (fd : FuncData) (ds : List Value), FnOk P w K mg base CX k f fd ps sp ∧ Binds K fd ps ds ∧ Vals dvs ds
  kp : PySem.W.keepIn K (.ref f) = true
end Rg
/-! GEN B: calls by Has; the bodies' rules. -/
namespace Rg
open PySem PySem.Spec PyProof.Rows L2
section
variable {P : Program} {w : World} {K : PySem.W.Frag} {mg : Str → Option Value} {base : Heap} {x qual : Str} {params : Arguments} {body : List Stmt} {scope : Scope} {dvs : List V} {kws : List (Str × V)} {f : Addr} {fd : FuncData} {N ps : List Str} {k : Nat} {sp : Sp}
abbrev BindsAll (x qual : Str) (params : Arguments) (body : List Stmt) (scope : Scope) (ps : List Str) : Prop :=
  ∀ (kV doc pm : Value) (an : Option Addr) (cdv ct : Value) (us : List Value), us.length = ps.length → bindArgs (PySem.W.fnOf x qual params body scope .none kV doc pm an cdv ct) ⟨us, []⟩ = pure (ps.zip us)
/-- a def that lets nothing out -/
theorem Has.of0 (F : FunD K x qual params body scope [] kws f fd) (S : FnScope N ps scope) (b : BindsAll x qual params body scope ps) (len : ∀ vs H Q E, sp vs H Q E → vs.length = ps.length)
    (go : ∀ (cdv : Value) (A : Around) (outer : List Env) (s : Shared) (H : Hp) (vs : List V) (Q : VK) (E : XK), Room k (A.deeper (envOfC qual scope s.heap.objs.size f cdv)) → sp vs H Q E →
      ∃ t, PSs (cxOf CX0 P w K mg base N qual scope f cdv A outer s H E).nox body t ∧ t { nx := fun _ H' => Q .non H', rt := Q } (start N vs) H) : Has P w K mg base CX0 (k + 1) f ps [] sp :=
  ⟨⟨fd, [], F.ok S len fun cdv A outer s H vs Q E hr h => (go cdv A outer s H vs Q E hr h).elim fun t z => ⟨t, z.1.nox, z.2⟩, F.bindsN b, .nil⟩, F.kp⟩
theorem fn0 (F : FunD K x qual params body scope [] kws f fd) (S : FnScope N ps scope) (len : ∀ vs H Q E, sp vs H Q E → vs.length = ps.length)
    (go : ∀ (cdv : Value) (A : Around) (outer : List Env) (s : Shared) (H : Hp) (vs : List V) (Q : VK) (E : XK), Room k (A.deeper (envOfC qual scope s.heap.objs.size f cdv)) → sp vs H Q E →
      ∃ t, PSs (cxOf CX0 P w K mg base N qual scope f cdv A outer s H E).nox body t ∧ t { nx := fun _ H' => Q .non H', rt := Q } (start N vs) H) : FnOk P w K mg base CX0 (k + 1) f fd ps sp :=
  F.ok S len fun cdv A outer s H vs Q E hr h => (go cdv A outer s H vs Q E hr h).elim fun t z => ⟨t, z.1.nox, z.2⟩
/-- a def that may raise -/
theorem Has.ofX (F : FunD K x qual params body scope [] kws f fd) (S : FnScope N ps scope) (b : BindsAll x qual params body scope ps) (len : ∀ vs H Q E, sp vs H Q E → vs.length = ps.length)
    (go : ∀ (cdv : Value) (A : Around) (outer : List Env) (s : Shared) (H : Hp) (vs : List V) (Q : VK) (E : XK), Room k (A.deeper (envOfC qual scope s.heap.objs.size f cdv)) → sp vs H Q E →
      ∃ t, PSs (cxOf (L2.CX P w) P w K mg base N qual scope f cdv A outer s H E) body t ∧ t { nx := fun _ H' => Q .non H', rt := Q } (start N vs) H) : Has P w K mg base (L2.CX P w) (k + 1) f ps [] sp :=
  ⟨⟨fd, [], F.ok S len go, F.bindsN b, .nil⟩, F.kp⟩
theorem Has.mono {CX : CXT} {j : Nat} (h : Has P w K mg base CX j f ps dvs sp) (l : j ≤ k) : Has P w K mg base CX k f ps dvs sp :=
  ⟨h.ex.elim fun fd z => z.elim fun ds q => ⟨fd, ds, q.1.mono l, q.2⟩, h.kp⟩
theorem Has.imp {CX : CXT} {sp' : Sp} (h : Has P w K mg base CX k f ps dvs sp) (l : ∀ vs H Q E, sp' vs H Q E → sp vs H Q E) : Has P w K mg base CX k f ps dvs sp' :=
  ⟨h.ex.elim fun fd z => z.elim fun ds q => ⟨fd, ds, q.1.imp l, q.2⟩, h.kp⟩
end
section
variable {X : Cx} {CX : CXT} {k j : Nat} {f C : Addr} {ps : List Str} {sp : Sp} {dvs : List V} {E : XK} {x m : Str} {p pos apos : Pos} {e o : Expr} {es : List Expr} {ta : TE} {t : TA}
theorem pe_callH (G : Has X.prog X.w X.K X.mg X.base CX k f ps dvs sp) (hr : Room j X.A) (hm : X.mg x = some (.ref f)) (hx : Passes CX X E) (ha : PA X (e :: es) t) (hkj : k ≤ j := by decide) (hg : Gl X x := by rfl) (hdb : (x == ("__debug__" : Str)) = false := by decide)
    (he : starEach (e :: es) X.env = (false, eval e X.env) :: starEach es X.env := by rfl) (hpl : (backTo pos (starEach es X.env)).any (·.1) = false := by rfl) :
    PE X (.Call (.Name x p) (e :: es) [] pos) (tCall sp dvs E t) := by
  obtain ⟨fd, ds, g1, g2, g3⟩ := G.ex
  exact pe_call g1 (hr.mono hkj) hg hm G.kp g2 g3 hx ha hdb he hpl
theorem pe_call0H (G : Has X.prog X.w X.K X.mg X.base CX k f ps dvs sp) (hr : Room j X.A) (hm : X.mg x = some (.ref f)) (hx : Passes CX X E) (hkj : k ≤ j := by decide) (hg : Gl X x := by rfl) (hdb : (x == ("__debug__" : Str)) = false := by decide) :
    PE X (.Call (.Name x p) [] [] pos) (tCall sp dvs E tNil) := by
  obtain ⟨fd, ds, g1, g2, g3⟩ := G.ex
  exact pe_call0 g1 (hr.mono hkj) hg hm G.kp g2 g3 hx hdb
theorem pe_methH {pl : Sem Bool} (he : PE X o ta) (c : Cls X.K C) (hm : Meth X.K C m f) (G : Has X.prog X.w X.K X.mg X.base CX k f ps dvs sp) (hr : Room j X.A) (hx : Passes CX X E) (ha : PA X (e :: es) t) (hkj : k ≤ j := by decide)
    (hst : starEach (e :: es) X.env = (false, eval e X.env) :: starEach es X.env := by rfl) (hpl : (backTo pos (starEach es X.env)).any (·.1) = false := by rfl)
    (ht : eval (.Call (.Attribute o m apos) (e :: es) [] pos) X.env = (eval o X.env >>= fun ov => standAt apos.atName >>= fun _ => holding [ov] (getMethod ov m pl) >>= fun z => callWith pos z.1 z.2 (backTo pos (starEach (e :: es) X.env)) (backToKw pos (keywordEach [] X.env))) := by rfl) :
    PE X (.Call (.Attribute o m apos) (e :: es) [] pos) (tMeth C m sp dvs E ta t) := by
  obtain ⟨fd, ds, g1, g2, g3⟩ := G.ex
  exact pe_meth (pl := pl) he c hm g1 (hr.mono hkj) g2 g3 hx ha hst hpl ht
theorem pe_meth0H {pl : Sem Bool} (he : PE X o ta) (c : Cls X.K C) (hm : Meth X.K C m f) (G : Has X.prog X.w X.K X.mg X.base CX k f ps dvs sp) (hr : Room j X.A) (hx : Passes CX X E) (hkj : k ≤ j := by decide)
    (ht : eval (.Call (.Attribute o m apos) [] [] pos) X.env = (eval o X.env >>= fun ov => standAt apos.atName >>= fun _ => holding [ov] (getMethod ov m pl) >>= fun z => callWith pos z.1 z.2 (backTo pos (starEach [] X.env)) (backToKw pos (keywordEach [] X.env))) := by rfl) :
    PE X (.Call (.Attribute o m apos) [] [] pos) (tMeth C m sp dvs E ta tNil) := by
  obtain ⟨fd, ds, g1, g2, g3⟩ := G.ex
  exact pe_meth0 (pl := pl) he c hm g1 (hr.mono hkj) g2 g3 hx ht
theorem pe_makeH (M : Mk X.K C f) (G : Has X.prog X.w X.K X.mg X.base CX k f ps dvs sp) (hr : Room j X.A) (hm : X.mg x = some (.ref C)) (hx : Passes CX X E) (ha : PA X (e :: es) t) (hkj : k + 1 ≤ j := by decide) (hg : Gl X x := by rfl) (hdb : (x == ("__debug__" : Str)) = false := by decide)
    (he : starEach (e :: es) X.env = (false, eval e X.env) :: starEach es X.env := by rfl) (hpl : (backTo pos (starEach es X.env)).any (·.1) = false := by rfl) :
    PE X (.Call (.Name x p) (e :: es) [] pos) (tMake C sp dvs E t) := by
  obtain ⟨fd, ds, g1, g2, g3⟩ := G.ex
  exact pe_make M g1 (hr.mono hkj) hg hm g2 g3 hx ha hdb he hpl
theorem pe_make0H (M : Mk X.K C f) (G : Has X.prog X.w X.K X.mg X.base CX k f ps dvs sp) (hr : Room j X.A) (hm : X.mg x = some (.ref C)) (hx : Passes CX X E) (hkj : k + 1 ≤ j := by decide) (hg : Gl X x := by rfl) (hdb : (x == ("__debug__" : Str)) = false := by decide) :
    PE X (.Call (.Name x p) [] [] pos) (tMake C sp dvs E tNil) := by
  obtain ⟨fd, ds, g1, g2, g3⟩ := G.ex
  exact pe_make0 M g1 (hr.mono hkj) hg hm g2 g3 hx hdb
end
/-! ### numbers -/
theorem atI_of {α : Type} {xs : List α} {i : Int} {v : α} (h0 : 0 ≤ i) (h : xs[i.toNat]? = some v) : atI xs i = some v := by
  have e : ((i.toNat : Nat) : Int) = i := Int.toNat_of_nonneg h0
  rw [← e]
  exact atI_nat h
theorem bits_of {m : Int} {n : Nat} (h0 : 0 < m) (h : m < 2 ^ n) : m.natAbs < 2 ^ n := by
  have e : (m.natAbs : Int) = m := Int.natAbs_of_nonneg (Int.le_of_lt h0)
  have q : ((m.natAbs : Nat) : Int) < ((2 ^ n : Nat) : Int) := by rw [e, Int.natCast_pow]; exact h
  exact Int.ofNat_lt.mp q
end Rg
namespace Rg
open PySem PySem.Spec PyProof.Rows L2
/-! ### tests -/
theorem ifD {c A B : Prop} [Decidable c] (h1 : c → A) (h2 : ¬ c → B) : if decide c = true then A else B := by
  by_cases h : c
  · rw [if_pos (decide_eq_true h)]
    exact h1 h
  · rw [if_neg (fun z => h (of_decide_eq_true z))]
    exact h2 h
theorem ifN {c A B : Prop} [Decidable c] (h1 : ¬ c → A) (h2 : c → B) : if (!decide c) = true then A else B := by
  by_cases h : c
  · rw [decide_eq_true h, if_neg (by decide)]
    exact h2 h
  · rw [decide_eq_false h, if_pos (by decide)]
    exact h1 h
theorem ifB {c : Bool} {A B : Prop} (h1 : c = true → A) (h2 : c = false → B) : if c = true then A else B := by
  cases c
  · rw [if_neg (by decide)]
    exact h2 rfl
  · rw [if_pos rfl]
    exact h1 rfl
theorem ifY {c : Bool} {A B : Prop} (h : c = true) (h1 : A) : if c = true then A else B := by
  rw [if_pos h]
  exact h1
theorem ifF {c : Bool} {A B : Prop} (h : c = false) (h1 : B) : if c = true then A else B := by
  rw [h, if_neg (by decide)]
  exact h1
theorem emod_rng {a m : Int} (h : 0 < m) : 0 ≤ a % m ∧ a % m < m := ⟨Int.emod_nonneg _ (by omega), Int.emod_lt_of_pos _ h⟩
theorem mul_small {i j : Int} (h0 : 0 ≤ i) (h : i < 2 ^ 64) : CMul i j := .inl ⟨by omega, h⟩
theorem abs_nn (i : Int) : 0 ≤ if i < 0 then -i else i := by split <;> omega
end Rg
namespace Rg
theorem lenk {n : Nat} (h : Nat.ble n 1000 = true) : n ≤ PySem.sizeLine := Nat.le_trans (Nat.le_of_ble_eq_true h) (by decide)
end Rg
namespace Rg
open PySem PySem.Spec PyProof.Rows L2
/-- a law's promise: a list of at most 63 ints is handed in, True comes out -/
def sp_law (K : PySem.W.Frag) : Sp := fun vs H Q _ => ∃ (a : Addr) (ns : List Int), vs = [.ref a] ∧ SqL K H a (ns.map V.int) ∧ ns.length ≤ 63 ∧ ∀ H', Q (.bl true) H'
end Rg
namespace Rg
open PySem PySem.Spec PyProof.Rows L2
section
variable {P : Program} {w : World} {K : PySem.W.Frag} {mg : Str → Option Value} {base : Heap} {x qual : Str} {params : Arguments} {body : List Stmt} {scope : Scope} {dvs dv : List V} {kws : List (Str × V)} {f : Addr} {fd : FuncData} {N ps : List Str} {k : Nat} {sp : Sp}
/-- a def with defaults, of which dv fill up -/
theorem Has.ofXd (F : FunD K x qual params body scope dvs kws f fd) (S : FnScope N ps scope) (b : ∃ ds, Vals dv ds ∧ Binds K fd ps ds) (len : ∀ vs H Q E, sp vs H Q E → vs.length = ps.length)
    (go : ∀ (cdv : Value) (A : Around) (outer : List Env) (s : Shared) (H : Hp) (vs : List V) (Q : VK) (E : XK), Room k (A.deeper (envOfC qual scope s.heap.objs.size f cdv)) → sp vs H Q E →
      ∃ t, PSs (cxOf (L2.CX P w) P w K mg base N qual scope f cdv A outer s H E) body t ∧ t { nx := fun _ H' => Q .non H', rt := Q } (start N vs) H) : Has P w K mg base (L2.CX P w) (k + 1) f ps dv sp :=
  ⟨b.elim fun ds z => ⟨fd, ds, F.ok S len go, z.2, z.1⟩, F.kp⟩
theorem Has.of0d (F : FunD K x qual params body scope dvs kws f fd) (S : FnScope N ps scope) (b : ∃ ds, Vals dv ds ∧ Binds K fd ps ds) (len : ∀ vs H Q E, sp vs H Q E → vs.length = ps.length)
    (go : ∀ (cdv : Value) (A : Around) (outer : List Env) (s : Shared) (H : Hp) (vs : List V) (Q : VK) (E : XK), Room k (A.deeper (envOfC qual scope s.heap.objs.size f cdv)) → sp vs H Q E →
      ∃ t, PSs (cxOf CX0 P w K mg base N qual scope f cdv A outer s H E).nox body t ∧ t { nx := fun _ H' => Q .non H', rt := Q } (start N vs) H) : Has P w K mg base CX0 (k + 1) f ps dv sp :=
  ⟨b.elim fun ds z => ⟨fd, ds, F.ok S len fun cdv A outer s H vs Q E hr h => (go cdv A outer s H vs Q E hr h).elim fun t z => ⟨t, z.1.nox, z.2⟩, z.2, z.1⟩, F.kp⟩
end
end Rg
/-! GEN C: operators that an own class defines. -/
namespace Rg
open PySem PySem.Spec PyProof.Rows L2
/-- a special name of the class at C is the def at f -/
structure Dun (K : PySem.W.Frag) (C : Addr) (m : Str) (f : Addr) : Prop where
  at_ : PySem.W.findIn K (.ref C) m = some (some (.ref f))
  fn : PySem.W.isFn K (.ref f) = true
theorem Dun.of {K : PySem.W.Frag} {C f : Addr} {m : Str} (h : Meth K C m f) : Dun K C m f := ⟨h.1, h.2⟩
section
variable {X : Cx} {CX : CXT} {k j : Nat} {f C : Addr} {ps : List Str} {sp : Sp} {dvs : List V} {E : XK} {pins : List (Addr × Obj)} {σ : L2.St} {H : Hp} {s : Shared}
theorem ins_at {a dx : Addr} {fs : List (Str × V)} (I : Inv X pins σ H s) (h : H a = some (.ins C dx fs)) : ∃ ox od, PySem.W.InstAt s.heap a ox C od := by
  obtain ⟨mA, O, _⟩ := ins_get I.hok h
  obtain ⟨od, J, _⟩ := O.look
  exact ⟨_, _, J⟩
/-- a def runs, called by the machine at A (one or two levels in) -/
theorem run_at {A : Around} {Q : VK} {us : List Value} {vs : List V} (G : Has X.prog X.w X.K X.mg X.base CX k f ps dvs sp) (hr : Room k A) (he : Env0 X.prog X.w X.K X.mg X.base A X.stack s H) (hx : Passes CX X E)
    (I : Inv X pins σ H s) (r : Vals vs us) (h : sp (vs ++ dvs) H Q E) : wpAny (model X.prog X.w) A (call (.ref f) us) (EP X pins σ Q) X.xe s := by
  obtain ⟨fd, ds, g1, g2, g3⟩ := G.ex
  have q := r.append g3
  have hl : (us ++ ds).length = ps.length := q.length ▸ g1.len _ _ _ _ h
  refine wpAny_call (codeAny_mono (g1.run A X.stack s H ⟨us, []⟩ (us ++ ds) (vs ++ dvs) Q E hr he (g2 s us I.kIn hl) q h) fun z s' hz => ?_)
  match z, hz with
  | .error e, hz => exact hx pins σ H s e s' I hz
  | .ok (.ret u), hz => exact I.after hz
  | .ok .next, hz => exact False.elim hz
  | .ok .brk, hz => exact False.elim hz
  | .ok .cont, hz => exact False.elim hz
theorem run_here {Q : VK} {us : List Value} {vs : List V} (G : Has X.prog X.w X.K X.mg X.base CX k f ps dvs sp) (hr : Room j X.A) (hkj : k ≤ j) (hx : Passes CX X E)
    (I : Inv X pins σ H s) (r : Vals vs us) (h : sp (vs ++ dvs) H Q E) : wpAny (model X.prog X.w) X.A (call (.ref f) us) (EP X pins σ Q) X.xe s := run_at G (hr.mono hkj) I.env0 hx I r h
theorem ep_cmp {Q : VK} {u : Value} {s' : Shared} (h : EP X pins σ Q u s') : PySem.W.CmpBack (EP X pins σ Q) u s' := by
  cases u with
  | notImplemented =>
    obtain ⟨v, H', _, r, _⟩ := h
    cases v <;> first | exact (nomatch r) | (obtain ⟨_, r⟩ := r; cases r)
  | _ => exact h
/-- len(o) -/
def rLenO (C : Addr) (sp : Sp) (dvs : List V) (E : XK) : List V → Hp → VK → Prop := fun xs H Q => ∃ a dx fs, xs = [.ref a] ∧ H a = some (.ins C dx fs) ∧ sp (.ref a :: dvs) H (fun v H' => ∃ n : Int, v = .int n ∧ 0 ≤ n ∧ n < 2 ^ 63 ∧ Q v H') E
theorem call_lenO (d : Dun X.K C "__len__" f) (G : Has X.prog X.w X.K X.mg X.base CX k f ps dvs sp) (hr : Room j X.A) (hx : Passes CX X E) (hkj : k + 1 ≤ j := by decide) : CallR X (.builtin "len") (rLenO C sp dvs E) := by
  intro pins s σ H xs us Q I r h
  obtain ⟨a, dx, fs, rfl, ha, h⟩ := h
  obtain ⟨u, rfl, rfl⟩ := vals1 r
  obtain ⟨ox, od, J⟩ := ins_at I ha
  obtain ⟨m, F⟩ := I.fr
  refine PySem.W.len_K F I.mod.kin J d.at_ d.fn (wpAny_mono (run_at (vs := [.ref a]) G (Room.in1 (hr.mono hkj)) I.env0.in1 hx I (.cons rfl .nil) h) (fun u s' z => ?_) fun _ _ z => z)
  obtain ⟨v, H', I', rv, n, rfl, n0, n1, q⟩ := z
  obtain ⟨t, rfl⟩ := rv
  exact ⟨⟨n0, n1⟩, .int n, H', I'.tok _, ⟨_, rfl⟩, q⟩
/-- the truth of o -/
def rTruO (C : Addr) (sp : Sp) (dvs : List V) (E : XK) : V → Hp → (Bool → Hp → Prop) → Prop := fun x H Q => ∃ a dx fs, x = .ref a ∧ H a = some (.ins C dx fs) ∧ sp (.ref a :: dvs) H (fun v H' => ∃ b, v = .bl b ∧ Q b H') E
theorem tru_at {A : Around} {a dx : Addr} {fs : List (Str × V)} {Q : Bool → Hp → Prop} (d : Dun X.K C "__bool__" f) (G : Has X.prog X.w X.K X.mg X.base CX k f ps dvs sp) (hr : Room k A) (he : Env0 X.prog X.w X.K X.mg X.base A X.stack s H) (hx : Passes CX X E)
    (I : Inv X pins σ H s) (ha : H a = some (.ins C dx fs)) (h : sp (.ref a :: dvs) H (fun v H' => ∃ b, v = .bl b ∧ Q b H') E) :
    wpAny (model X.prog X.w) A (truthy (.ref a)) (TP X pins σ Q) X.xe s := by
  obtain ⟨ox, od, J⟩ := ins_at I ha
  obtain ⟨m, F⟩ := I.fr
  refine PySem.W.truthy_K F I.mod.kin J d.at_ d.fn (wpAny_mono (run_at (vs := [.ref a]) G hr he hx I (.cons rfl .nil) h) (fun u s' z => ?_) fun _ _ z => z)
  obtain ⟨v, H', I', rv, b, rfl, q⟩ := z
  cases rv
  exact ⟨H', I', q⟩
theorem tru_own (d : Dun X.K C "__bool__" f) (G : Has X.prog X.w X.K X.mg X.base CX k f ps dvs sp) (hr : Room j X.A) (hx : Passes CX X E) (hkj : k ≤ j := by decide) : TruR X (rTruO C sp dvs E) := by
  intro pins s σ H x v Q I r h
  obtain ⟨a, dx, fs, rfl, ha, h⟩ := h
  cases r
  exact tru_at d G (hr.mono hkj) I.env0 hx I ha h
theorem new_boolO {prog : Program} {w : World} (x : Value) : MeetsIn prog w (Builtin.«bool.__new__» ⟨[.type "bool", x], []⟩)
    (fun A R s => wpAny (model prog w) A.in1 (truthy x) (fun b s1 => R (.ok (.ret (.bool b))) s1) (fun e s1 => R (.error e) s1) s) :=
  .of_wp fun A R s h => by
    obtain ⟨hp, g, d, tk, os⟩ := s
    have f1 := F.conv_sub_bool
    repeat (any_goals (first | assumption | (with_reducible refine wpAny_mono h (fun b s1 z => ?_) (fun _ _ z => z)) | wp_step))
    all_goals exact ⟨_, rfl, z⟩
/-- bool(o) -/
def rBoolO (C : Addr) (sp : Sp) (dvs : List V) (E : XK) : List V → Hp → VK → Prop := fun xs H Q => ∃ a dx fs, xs = [.ref a] ∧ H a = some (.ins C dx fs) ∧ sp (.ref a :: dvs) H (fun v H' => ∃ b, v = .bl b ∧ Q (.bl b) H') E
theorem call_boolO (d : Dun X.K C "__bool__" f) (G : Has X.prog X.w X.K X.mg X.base CX k f ps dvs sp) (hr : Room j X.A) (hx : Passes CX X E) (hkj : k + 2 ≤ j := by decide) : CallR X (.type "bool") (rBoolO C sp dvs E) := by
  intro pins s σ H xs us Q I r h
  obtain ⟨a, dx, fs, rfl, ha, h⟩ := h
  obtain ⟨u, rfl, rfl⟩ := vals1 r
  have rm : Room k X.A.in1.in1 := Room.in1 (Room.in1 (hr.mono hkj))
  refine callType_newIn F.called_bool F.newNe_bool (F.typeCall_bool_1 _) (F.newCall_bool_1 _) (fun obj => F.args_object_init_2 obj _) F.entry_bool_new (new_boolO _) ?_
  refine wpAny_mono (tru_at (Q := fun b H' => Q (.bl b) H') d G rm I.env0.in1.in1 hx I ha h) (fun b s' z => ?_) fun _ _ z => z
  obtain ⟨H', I', q⟩ := z
  exact ⟨rfl, .bl b, H', I', rfl, q⟩
/-- x in o -/
def rInO (C : Addr) (sp : Sp) (dvs : List V) (E : XK) : R2 := fun x y H Q => ∃ a dx fs, y = .ref a ∧ H a = some (.ins C dx fs) ∧ sp (.ref a :: x :: dvs) H (fun v H' => ∃ b, v = .bl b ∧ Q (.bl b) H') E
theorem op_inO (d : Dun X.K C "__contains__" f) (G : Has X.prog X.w X.K X.mg X.base CX k f ps dvs sp) (hr : Room j X.A) (hx : Passes CX X E) (hkj : k ≤ j := by decide) : OpR X (compareOp .In) (rInO C sp dvs E) := by
  intro pins s σ H x y v u Q I rx ry h
  obtain ⟨a, dx, fs, rfl, ha, h⟩ := h
  cases ry
  obtain ⟨ox, od, J⟩ := ins_at I ha
  obtain ⟨m, F⟩ := I.fr
  refine PySem.W.in_K F I.mod.kin J d.at_ d.fn (wpAny_mono (run_here (vs := [.ref a, x]) G hr hkj hx I (.cons rfl (.cons rx .nil)) h) (fun u s' z => ?_) fun _ _ z => z)
  obtain ⟨z, H', I', rz, b, rfl, q⟩ := z
  cases rz
  exact wpAny_pure ⟨.bl b, H', I', rfl, q⟩
end
end Rg
/-! GEN D: data compared. -/
namespace Rg
open PySem PySem.Spec PyProof.Rows L2
theorem shp_ints (ns : List Int) : SeqAt.shaped (.list (ns.map PyData.int)) = true := by
  have a : ∀ l : List Int, PyData.canLayAll0 (l.map PyData.int) = true ∧ PyData.depthAll (l.map PyData.int) = 0 := by
    intro l
    induction l with
    | nil => exact ⟨rfl, rfl⟩
    | cons x r ih =>
      refine ⟨?_, ?_⟩
      · rw [List.map_cons, PyData.canLayAll0, ih.1]
        rfl
      · rw [List.map_cons, PyData.depthAll, ih.2]
        rfl
  unfold SeqAt.shaped
  rw [PyData.canLay0, (a ns).1, PyData.depth, (a ns).2]
  rfl
theorem dp_all {K : PySem.W.Frag} {H : Hp} : ∀ ns : List Int, DpAll K H (ns.map V.int) (ns.map PyData.int)
  | [] => .nil
  | x :: r => .cons (.int x) (dp_all r)
theorem dp_ints {K : PySem.W.Frag} {H : Hp} {a : Addr} {ns : List Int} (h : SqL K H a (ns.map V.int)) : Dp K H (.ref a) (.list (ns.map PyData.int)) := .lst h (dp_all ns)
theorem dp_nil {K : PySem.W.Frag} {H : Hp} {a : Addr} (h : SqL K H a []) : Dp K H (.ref a) (.list []) := .lst h .nil
theorem eqv_all : ∀ ns ms : List Int, PyData.eqvAll (ns.map PyData.int) (ms.map PyData.int) = decide (ns = ms)
  | [], [] => rfl
  | [], _ :: _ => rfl
  | _ :: _, [] => rfl
  | x :: r, y :: t => by
    rw [List.map_cons, List.map_cons, PyData.eqvAll, PyData.eqv, eqv_all r t]
    by_cases h : x = y
    · subst h
      simp
    · simp [h]
theorem eqv_ints (ns ms : List Int) : PyData.eqv (.list (ns.map PyData.int)) (.list (ms.map PyData.int)) = decide (ns = ms) := by rw [PyData.eqv, eqv_all]
theorem eqv_nil (ns : List Int) : PyData.eqv (.list (ns.map PyData.int)) (.list []) = decide (ns = []) := eqv_ints ns []
/-- all that was tracked stays, but at l -/
def Chg (l : Addr) (o : HO) (H H' : Hp) : Prop := H' l = some o ∧ ∀ b u, H b = some u → b ≠ l → H' b = some u
theorem Same.new {H : Hp} {p : Addr} {o : HO} (h : H p = none) : Same H (upd H p o) := fun b u e => (upd_ne (ne_of_none e h)).trans e
theorem Same.mut {H H' : Hp} {p : Addr} {o : HO} (e : Same H H') (h : H p = none) : Same H (upd H' p o) := fun b u z => (upd_ne (ne_of_none z h)).trans (e b u z)
theorem Same.at_ {H H' : Hp} (e : Same H H') {p : Addr} {o : HO} (h : H p = some o) : H' p = some o := e p o h
theorem Same.chg {H H' H'' : Hp} {p : Addr} {o : HO} (e : Same H H') (c : Chg p o H' H'') (h : H p = none) : Same H H'' := fun b u z => c.2 b u (e b u z) (ne_of_none z h)
theorem Chg.ne {H H' : Hp} {p q : Addr} {o u : HO} (c : Chg p o H H') (h : H q = some u) (n : q ≠ p) : H' q = some u := c.2 q u h n
theorem scal_same (v : V) (h : flatV v = true) (hb : ∀ b, v ≠ .flt b) (hr : ∀ a, v ≠ .ref a) : scal v v = true := by
  cases v <;> first | rfl | (exact absurd rfl (hb _)) | (exact absurd rfl (hr _)) | cases h
end Rg
namespace Rg
open PySem PySem.Spec PyProof.Rows L2
theorem seq0 {n : Nat} : seqIndex? 0 (n + 1) = some 0 := by
  have h := seqIndex_of (k := 0) (n := n + 1) (by omega) (by omega)
  simpa using h
end Rg
namespace Rg
open PySem PySem.Spec PyProof.Rows L2
/-- all stays but at the places ws -/
def Stay (ws : List Addr) (H H' : Hp) : Prop := ∀ b u, H b = some u → b ∉ ws → H' b = some u
theorem Stay.refl (ws : List Addr) (H : Hp) : Stay ws H H := fun _ _ h _ => h
theorem Stay.same {ws : List Addr} {H H' H'' : Hp} (a : Stay ws H H') (b : Same H' H'') : Stay ws H H'' := fun c u h n => b c u (a c u h n)
theorem Stay.upd {ws : List Addr} {H H' : Hp} {p : Addr} {o : HO} (a : Stay ws H H') (h : p ∈ ws) : Stay ws H (L2.upd H' p o) := fun c u z n => (upd_ne (fun e : c = p => n (by rw [e]; exact h))).trans (a c u z n)
theorem Stay.new {ws : List Addr} {H H' : Hp} {p : Addr} {o : HO} (a : Stay ws H H') (h : H' p = none) : Stay ws H (L2.upd H' p o) := fun c u z n => (upd_ne (ne_of_none (a c u z n) h)).trans (a c u z n)
theorem Stay.chg {ws : List Addr} {H H' H'' : Hp} {p : Addr} {o : HO} (a : Stay ws H H') (c : Chg p o H' H'') (h : p ∈ ws) : Stay ws H H'' := fun b u z n => c.2 b u (a b u z n) (fun e : b = p => n (by rw [e]; exact h))
theorem Stay.at_ {ws : List Addr} {H H' : Hp} (a : Stay ws H H') {p : Addr} {o : HO} (h : H p = some o) (n : p ∉ ws) : H' p = some o := a p o h n
theorem Same.seqT {K : PySem.W.Frag} {H H' : Hp} {a : Addr} {xs : List V} (e : Same H H') (h : SqT K H a xs) : SqT K H' a xs := by
  rcases h with (h | ⟨o, h⟩) | h
  · exact .inl (.inl (e _ _ h))
  · exact .inl (.inr ⟨o, e _ _ h⟩)
  · exact .inr h
end Rg
namespace Rg
open PySem PySem.Spec PyProof.Rows L2
theorem fr_same {H H' : Hp} {p : Addr} {o : HO} (e : L2.upd H p o = H') (h : H p = none) : Same H H' := e ▸ Same.new h
theorem fr_at {H H' : Hp} {p : Addr} {o : HO} (e : L2.upd H p o = H') : H' p = some o := e ▸ upd_same
end Rg
namespace Rg
open PySem PySem.Spec PyProof.Rows L2
theorem eqv_pair (a b c d : Int) : PyData.eqv (.tuple [.int a, .int b]) (.tuple [.int c, .int d]) = decide (a = c ∧ b = d) := by
  rw [PyData.eqv, PyData.eqvAll, PyData.eqvAll, PyData.eqvAll, PyData.eqv, PyData.eqv]
  by_cases h : a = c <;> by_cases h2 : b = d <;> simp [h, h2]
theorem dp_pair {K : PySem.W.Frag} {H : Hp} {t : Addr} {a b : Int} (h : H t = some (.tup [.int a, .int b])) : Dp K H (.ref t) (.tuple [.int a, .int b]) := .tup (SqT.of h) (.cons (.int a) (.cons (.int b) .nil))
end Rg
/-! GEN E: operators by own classes, the operands of two kinds; kinds of values. -/
namespace Rg
open PySem PySem.Spec PyProof.Rows L2
/-- a plain instance stands there -/
abbrev PlainAt (h : Heap) (x : Addr) : Prop := ∃ o, h.get? x = some o ∧ o.data = .plain
theorem meets_no (nm : String) (f : Int → Int → Sem Fin) (k : Int) (t : Tok) (x : Addr) : Meets (Builtin.Int.intBinary nm f false ⟨[.int k t, .ref x], []⟩) (fun _ R s => PlainAt s.heap x ∧ R (.ok (.ret .notImplemented)) s) :=
  Meets.of_wp fun prog w A R s hs => by
    obtain ⟨⟨o, ho, hd⟩, hq⟩ := hs
    obtain ⟨hp, g, d, tk, os⟩ := s
    unfold Builtin.Int.intBinary
    refine wpAny_bind (wpAny_of_eq (a := (Value.int k t, [Value.ref x])) (by rfl) ?_)
    refine wpAny_bind (wpAny_of_eq (a := k) (by rfl) ?_)
    refine wpAny_bind ?_
    show wpAny _ _ (load x >>= _) _ _ _
    refine wpAny_bind (wpAny_load ho ?_)
    rw [hd]
    refine wpAny_pure ?_
    exact wpAny_bind (wpAny_rule (wpAny_pure ⟨_, rfl, hq⟩))
theorem meets_noB (nm : String) (f : Int → Int → Sem Fin) (b : Bool) (x : Addr) : Meets (Builtin.Int.intBinary nm f false ⟨[.bool b, .ref x], []⟩) (fun _ R s => PlainAt s.heap x ∧ R (.ok (.ret .notImplemented)) s) :=
  Meets.of_wp fun prog w A R s hs => by
    obtain ⟨⟨o, ho, hd⟩, hq⟩ := hs
    obtain ⟨hp, g, d, tk, os⟩ := s
    unfold Builtin.Int.intBinary
    refine wpAny_bind (wpAny_of_eq (a := (Value.bool b, [Value.ref x])) (by rfl) ?_)
    refine wpAny_bind (wpAny_of_eq (a := if b then 1 else 0) (by cases b <;> rfl) ?_)
    refine wpAny_bind ?_
    show wpAny _ _ (load x >>= _) _ _ _
    refine wpAny_bind (wpAny_load ho ?_)
    rw [hd]
    refine wpAny_pure ?_
    exact wpAny_bind (wpAny_rule (wpAny_pure ⟨_, rfl, hq⟩))
end Rg
namespace Rg
open PySem PySem.Spec PyProof.Rows L2 PySem.W
section
variable {prog : Program} {w : World} {A : Around} {E : Value → Shared → Prop} {s : Shared} {K : Frag} {x C f g : Addr} {ox : Obj} {od : Option Obj} {T : String}
def numB (fo ro : Option Value) : Bool := (fo.isSome && !isSeqSlot fo) || (ro.isSome && !isSeqSlot ro)
/-- a op o, a of a built-in type that declines, o of an own class with the reflected method -/
theorem refl_at {op : Operator} {a : Value} {fo ro : Option Value} {Q : Value → Shared → Prop} (X : K.In s.heap) (I : InstAt s.heap x ox C od) (ta : Looks (model prog w) s.heap (typeOf a) (.type T)) (hc : selfFirst K C = true)
    (hs : findIn K (.ref C) (PySem.dunder op.info.2) = some (some (.ref g))) (hr : findIn K (.ref C) (dunderR op.info.2) = some (some (.ref f))) (hf : isFn K (.ref f) = true)
    (h1 : findIn K (.type T) (PySem.dunder op.info.2) = some fo) (h2 : findIn K (.type T) (dunderR op.info.2) = some ro) (hsub : subIn K (.ref C) (.type T) = some false)
    (no : numB fo ro = true → ∀ (Q : Option Value → Shared → Prop), Q none s → wpAny (model prog w) A (tryMethod a (PySem.dunder op.info.2) (.ref x)) Q E s)
    (h : wpAny (model prog w) A (call (.ref f) [.ref x, a]) (PySem.W.CmpBack Q) E s) : wpAny (model prog w) A (binaryOp op a (.ref x)) Q E s := by
  obtain ⟨cd, rest, hcd, hm⟩ := ksp_first hc
  rcases hi : op.info with ⟨sym, nm'⟩
  rw [hi] at hs hr h1 h2 no
  dsimp only at hs hr h1 h2 no
  have two := ksp_try X I hr hf h
  obtain ⟨hh, gg, d, tt, os⟩ := s
  have A1 : Looks (model prog w) hh (typeOf a) (.type T) := ta
  have A2 : Looks (model prog w) hh (typeOf (.ref x)) (.ref C) := I.type
  have A3 : Looks (model prog w) hh (fillsNumberSlot (.type T) nm') (numB fo ro) := ksp_fillsT X h1 h2
  have A4 : Looks (model prog w) hh (fillsNumberSlot (.ref C) nm') true := fills_K X hcd hm hs
  have A5 : Looks (model prog w) hh (isSubtype (.ref C) (.type T)) false := looks_subIn X hsub
  have A6 : Looks (model prog w) hh (numberSlotInPython (.type T) nm') false := Looks.of_pure rfl
  have ne : (Value.type T == Value.ref C) = false := Bool.eq_false_iff.mpr fun q => by cases beq_iff_eq.mp q
  simp only [binaryOp, hi]
  refine wpAny_holding (wpAny_bind ?_)
  unfold binaryOp1
  refine wpAny_bind (A1.at (wpAny_bind (A2.at (wpAny_bind (A3.at ?_)))))
  simp only [ne, Bool.false_eq_true, if_false]
  generalize numB fo ro = lf at A3 no
  cases lf with
  | false =>
    ksp_lk
    refine wpAny_mono two (fun r s' z => ?_) fun _ _ e => e
    obtain ⟨v, rfl, hq⟩ := z
    ksp_lk
    exact hq
  | true =>
    ksp_lk
    refine no rfl _ ?_
    ksp_lk
    refine wpAny_mono two (fun r s' z => ?_) fun _ _ e => e
    obtain ⟨v, rfl, hq⟩ := z
    ksp_lk
    exact hq
/-- o op b, b of a built-in type as it stands in the heap -/
theorem left_at {op : Operator} {b : Value} {fo ro rc : Option Value} {Q : Value → Shared → Prop} (X : K.In s.heap) (I : InstAt s.heap x ox C od) (tb : Looks (model prog w) s.heap (typeOf b) (.type T)) (hc : selfFirst K C = true)
    (hs : findIn K (.ref C) (PySem.dunder op.info.2) = some (some (.ref f))) (hf : isFn K (.ref f) = true) (hr : findIn K (.ref C) (dunderR op.info.2) = some rc) (hp : rc = none ∨ ∃ g : Addr, rc = some (.ref g))
    (h1 : findIn K (.type T) (PySem.dunder op.info.2) = some fo) (h2 : findIn K (.type T) (dunderR op.info.2) = some ro) (hsub : subIn K (.type T) (.ref C) = some false)
    (h : wpAny (model prog w) A (call (.ref f) [.ref x, b]) (PySem.W.CmpBack Q) E s) : wpAny (model prog w) A (binaryOp op (.ref x) b) Q E s := by
  obtain ⟨cd, rest, hcd, hm⟩ := ksp_first hc
  rcases hi : op.info with ⟨sym, nm'⟩
  rw [hi] at hs hr h1 h2
  dsimp only at hs hr h1 h2
  have two := ksp_try X I hs hf h
  obtain ⟨hh, gg, d, tt, os⟩ := s
  have A1 : Looks (model prog w) hh (typeOf (.ref x)) (.ref C) := I.type
  have A2 : Looks (model prog w) hh (typeOf b) (.type T) := tb
  have A3 : Looks (model prog w) hh (fillsNumberSlot (.ref C) nm') true := fills_K X hcd hm hs
  have A4 : Looks (model prog w) hh (fillsNumberSlot (.type T) nm') (numB fo ro) := ksp_fillsT X h1 h2
  have A5 : Looks (model prog w) hh (isSubtype (.type T) (.ref C)) false := looks_subIn X hsub
  have A6 : Looks (model prog w) hh (numberSlotInPython (.ref C) nm') true := ksp_inPy X hs hr hp
  have A7 : Looks (model prog w) hh (numberSlotInPython (.type T) nm') false := Looks.of_pure rfl
  have A8 : Looks (model prog w) hh (typeLookup (.type T) (dunderR nm')) ro := looks_findIn X h2
  have ne : (Value.ref C == Value.type T) = false := Bool.eq_false_iff.mpr fun q => by cases beq_iff_eq.mp q
  simp only [binaryOp, hi]
  refine wpAny_holding (wpAny_bind ?_)
  unfold binaryOp1
  refine wpAny_bind (A1.at (wpAny_bind (A2.at (wpAny_bind (A3.at ?_)))))
  simp only [ne, Bool.false_eq_true, if_false]
  generalize numB fo ro = lf at A4
  cases lf with
  | false =>
    ksp_lk
    refine wpAny_mono two (fun r s' z => ?_) fun _ _ e => e
    obtain ⟨v, rfl, hq⟩ := z
    ksp_lk
    exact hq
  | true =>
    ksp_lk
    refine wpAny_mono two (fun r s' z => ?_) fun _ _ e => e
    obtain ⟨v, rfl, hq⟩ := z
    ksp_lk
    exact hq
end
end Rg
namespace Rg
open PySem PySem.Spec PyProof.Rows L2 PySem.W
section
variable {prog : Program} {w : World} {A : Around} {E : Value → Shared → Prop} {s : Shared} {K : Frag} {x C f : Addr} {ox : Obj} {od : Option Obj} {b tb : Value}
theorem check_ne (X : K.In s.heap) (I : InstAt s.heap x ox C od) (ho : subIn K (.ref C) (.type "object") = some true) {M : Model} {Q : Unit → Shared → Prop} (q : Q () s) :
    wpAny M A (checkBuiltinCall "object.__ne__" ⟨[.ref x, b], []⟩) Q E s := by
  have k : argsOk "object.__ne__" ⟨[.ref x, b], []⟩ := F.cmpArgs_ne _ _
  simp only [checkBuiltinCall, F.cmpKind_ne, F.cmpSplit_ne]
  refine wpAny_bind ?_
  unfold isInstance
  refine wpAny_bind (I.type.here ((looks_subIn X ho).here ?_))
  cases e : Manifest.signature? "object.__ne__" with
  | none => exact wpAny_pure q
  | some sig =>
    simp only [argsOk, e] at k
    have k2 : Bind.checkArgs "object.__ne__" sig ⟨[.ref x, b], []⟩ = pure () := k
    show wpAny M A (Bind.checkArgs "object.__ne__" sig ⟨[.ref x, b], []⟩) Q E s
    rw [k2]
    exact wpAny_pure q
/-- o != b where the class has __eq__ alone -/
theorem ne_at {Q : Value → Shared → Prop} (hu : A.units + 1 < cLine) (X : K.In s.heap) (I : InstAt s.heap x ox C od) (hb : Looks (model prog w) s.heap (typeOf b) tb) (hn : notFirst K C tb = true)
    (hne : findIn K (.ref C) "__ne__" = some (some (.builtin "object.__ne__"))) (ho : subIn K (.ref C) (.type "object") = some true) (he : findIn K (.ref C) "__eq__" = some (some (.ref f))) (hf : isFn K (.ref f) = true)
    (h : wpAny (model prog w) A.in1 (call (.ref f) [.ref x, b]) (PySem.W.BoolBack fun z s' => Q (.bool (!z)) s') E s) : wpAny (model prog w) A (richCompare .NotEq (.ref x) b) Q E s := by
  have S : Slot "object" "__ne__" "object.__ne__" := F.cmp_object.ne
  have two : wpAny (model prog w) A (tryCompare (.ref x) "__ne__" b) (fun r s' => ∃ z : Bool, r = some (.bool (!z)) ∧ Q (.bool (!z)) s') E s := by
    unfold tryCompare
    refine wpAny_bind ?_
    simp only [callSpecialIfBound?, bindSpecialIfBound?]
    refine wpAny_holding (wpAny_bind (wpAny_bind (wpAny_bind (I.type.here ((looks_findIn X hne).here ?_)))))
    simp only [S.bind]
    refine wpAny_bind (wpAny_askSetting (wpAny_ite ?_))
    have fin : wpAny (model prog w) A (call (.builtin "object.__ne__") ([.ref x] ++ [b]) >>= fun v => pure (some v)) (fun r s' => wpAny (model prog w) A (match r with | some .notImplemented | none => pure none | some v => pure (some v)) (fun r s' => ∃ z : Bool, r = some (.bool (!z)) ∧ Q (.bool (!z)) s') E s') E s := by
      refine wpAny_bind (wpAny_call (codeAny_call_builtin S.plain F.cmpEntry_ne (check_ne X I ho ?_)))
      unfold Builtin.«object.__ne__»
      refine wpAny_bind (wpAny_of_eq (a := (Value.ref x, [b])) (by rfl) ?_)
      refine wpAny_bind (wpAny_cRoomFor hu ?_)
      refine wpAny_bind (ifBound_K X I he hf (wpAny_mono h (fun v s' z => ?_) fun _ _ z => z))
      cases v <;> first | exact z.elim | skip
      refine wpAny_bind (wpAny_pure ?_)
      exact wpAny_pure (wpAny_pure (wpAny_pure ⟨_, rfl, z⟩))
    split
    · exact wpAny_bind (wpAny_pure (wpAny_pure fin))
    · exact wpAny_tryCatch (wpAny_bind (wpAny_pure (wpAny_pure fin)))
  unfold richCompare
  simp only [oneThing_ref]
  refine wpAny_holding (wpAny_bind (wpAny_cRoomFor (by omega) ?_))
  refine wpAny_bind (I.type.here (wpAny_bind (hb.here ?_)))
  split
  · rename_i q
    have e : subIn K tb (.ref C) = some false := by
      rcases Bool.or_eq_true_iff.mp hn with z | z
      · rw [beq_iff_eq.mp z] at q
        simp at q
      · exact beq_iff_eq.mp z
    refine wpAny_bind ((looks_subIn X e).here ?_)
    simp only [Bool.false_eq_true, if_false]
    refine wpAny_bind (wpAny_mono two (fun r s' z => ?_) fun _ _ z => z)
    obtain ⟨v, rfl, hq⟩ := z
    exact wpAny_pure hq
  · refine wpAny_bind (wpAny_pure ?_)
    simp only [Bool.false_eq_true, if_false]
    refine wpAny_bind (wpAny_mono two (fun r s' z => ?_) fun _ _ z => z)
    obtain ⟨v, rfl, hq⟩ := z
    exact wpAny_pure hq
end
end Rg
namespace Rg
open PySem PySem.Spec PyProof.Rows L2
/-- a value of a built-in type -/
inductive Bt (H : Hp) : V → String → Prop where
  | non : Bt H .non "NoneType"
  | bl (x : Bool) : Bt H (.bl x) "bool"
  | int (i : Int) : Bt H (.int i) "int"
  | str (x : Str) : Bt H (.str x) "str"
  | lst {a : Addr} {xs : List V} (e : H a = some (.lst xs)) : Bt H (.ref a) "list"
  | tup {a : Addr} {xs : List V} (e : H a = some (.tup xs)) : Bt H (.ref a) "tuple"
  | dK {a : Addr} {kvs : List (Key × V)} (e : H a = some (.dK kvs)) : Bt H (.ref a) "dict"
def btNames : List String := ["NoneType", "bool", "int", "str", "list", "tuple", "dict"]
theorem Bt.mem {H : Hp} {v : V} {T : String} (h : Bt H v T) : T ∈ btNames := by cases h <;> decide
theorem Bt.ty {K : PySem.W.Frag} {H : Hp} {v : V} {T : String} (h : Bt H v T) : TyX K H v (.type T) := by
  cases h with
  | non => exact .base .non
  | bl x => exact .base (.bl x)
  | int x => exact .base (.int x)
  | str x => exact .base (.str x)
  | lst e => exact .base (.lst e)
  | tup e => exact .base (.tup e)
  | dK e => exact .base (.dK e)
theorem Bt.same {H H' : Hp} {v : V} {T : String} (h : Bt H v T) (s : Same H H') : Bt H' v T := by
  cases h with
  | non => exact .non
  | bl x => exact .bl x
  | int x => exact .int x
  | str x => exact .str x
  | lst e => exact .lst (s _ _ e)
  | tup e => exact .tup (s _ _ e)
  | dK e => exact .dK (s _ _ e)
theorem looks_cls {M : Model} {h : Heap} {a : Addr} {o : Obj} {t : Value} (ho : h.get? a = some o) (hc : o.cls = t) : PySem.W.Looks M h (typeOf (.ref a)) t := by
  intro A Q E s k q
  subst hc
  unfold typeOf
  refine wpAny_bind (wpAny_loadPart (k _ _ ho) ?_)
  exact wpAny_pure q
section
variable {X : Cx} {pins : List (Addr × Obj)} {σ : L2.St} {H : Hp} {s : Shared}
theorem Bt.looks {v : V} {u : Value} {T : String} {M : Model} (h : Bt H v T) (I : Inv X pins σ H s) (r : RelV v u) : PySem.W.Looks M s.heap (typeOf u) (.type T) := by
  cases h with
  | non => cases r; exact PySem.W.Looks.of_pure rfl
  | bl x => cases r; exact PySem.W.Looks.of_pure rfl
  | int x => obtain ⟨t, rfl⟩ := r; exact PySem.W.Looks.of_pure rfl
  | str x => obtain ⟨t, rfl⟩ := r; exact PySem.W.Looks.of_pure rfl
  | lst e =>
    cases r
    obtain ⟨_, its, n, _, g⟩ := I.hok _ _ e
    exact looks_cls g rfl
  | tup e =>
    cases r
    obtain ⟨_, its, _, o, g, c, _⟩ := I.hok _ _ e
    exact looks_cls g c
  | dK e =>
    cases r
    obtain ⟨_, _, vs, _, o, es, ep, g, c, _⟩ := I.hok _ _ e
    exact looks_cls g c.1
end
end Rg
namespace Rg
open PySem PySem.Spec PyProof.Rows L2
/-! ### facts of an own class's operators, as Bool functions of the written part -/
def ma' (K : PySem.W.Frag) (C : Str) (m : Str) : Addr := He.ma K (He.ga K C) m
def dunF (C m : Str) : Fct := fun K => decide (PySem.W.findIn K (.ref (He.ga K C)) m = some (some (.ref (He.ma K (He.ga K C) m)))) && PySem.W.isFn K (.ref (He.ma K (He.ga K C) m))
theorem dunF_ok {C m : Str} {K : PySem.W.Frag} (h : dunF C m K = true) : Dun K (He.ga K C) m (He.ma K (He.ga K C) m) := by
  obtain ⟨a, b⟩ := Bool.and_eq_true_iff.mp h
  exact ⟨of_decide_eq_true a, b⟩
def refOk : Option (Option Value) → Bool
  | some none => true
  | some (some (.ref _)) => true
  | _ => false
def binF (C : Str) (op : Operator) : Fct := fun K => (PySem.W.selfFirst K (He.ga K C) && refOk (PySem.W.findIn K (.ref (He.ga K C)) (dunderR op.info.2))) && (dunF C (PySem.dunder op.info.2) K &&
  btNames.all fun T => ((PySem.W.findIn K (.type T) (PySem.dunder op.info.2)).isSome && (PySem.W.findIn K (.type T) (dunderR op.info.2)).isSome) && decide (PySem.W.subIn K (.type T) (.ref (He.ga K C)) = some false))
structure BinX (K : PySem.W.Frag) (C : Addr) (op : Operator) (f : Addr) : Prop where
  sf : PySem.W.selfFirst K C = true
  rc : ∃ rc, PySem.W.findIn K (.ref C) (dunderR op.info.2) = some rc ∧ (rc = none ∨ ∃ g : Addr, rc = some (.ref g))
  d : Dun K C (PySem.dunder op.info.2) f
  t : ∀ T ∈ btNames, (∃ fo, PySem.W.findIn K (.type T) (PySem.dunder op.info.2) = some fo) ∧ (∃ ro, PySem.W.findIn K (.type T) (dunderR op.info.2) = some ro) ∧ PySem.W.subIn K (.type T) (.ref C) = some false
theorem refOk_ok {o : Option (Option Value)} (h : refOk o = true) : ∃ rc, o = some rc ∧ (rc = none ∨ ∃ g : Addr, rc = some (.ref g)) := by
  match o, h with
  | some none, _ => exact ⟨none, rfl, .inl rfl⟩
  | some (some (.ref g)), _ => exact ⟨_, rfl, .inr ⟨g, rfl⟩⟩
theorem binF_ok {C : Str} {op : Operator} {K : PySem.W.Frag} (h : binF C op K = true) : BinX K (He.ga K C) op (He.ma K (He.ga K C) (PySem.dunder op.info.2)) := by
  obtain ⟨a, b⟩ := Bool.and_eq_true_iff.mp h
  obtain ⟨a1, a2⟩ := Bool.and_eq_true_iff.mp a
  obtain ⟨b1, b2⟩ := Bool.and_eq_true_iff.mp b
  refine ⟨a1, refOk_ok a2, dunF_ok b1, fun T hT => ?_⟩
  obtain ⟨c, d⟩ := Bool.and_eq_true_iff.mp (List.all_eq_true.mp b2 T hT)
  obtain ⟨c1, c2⟩ := Bool.and_eq_true_iff.mp c
  exact ⟨Option.isSome_iff_exists.mp c1, Option.isSome_iff_exists.mp c2, of_decide_eq_true d⟩
/-- the second operand: a thing of a built-in type, or an instance of the same class -/
def Opr (C : Addr) (H : Hp) (y : V) : Prop := (∃ T, Bt H y T) ∨ ∃ b dy gs, y = .ref b ∧ H b = some (.ins C dy gs)
def rBin (C : Addr) (sp : Sp) (E : XK) : R2 := fun x y H Q => ∃ a dx fs, x = .ref a ∧ H a = some (.ins C dx fs) ∧ Opr C H y ∧ sp [x, y] H Q E
section
variable {X : Cx} {CX : CXT} {k j : Nat} {f C : Addr} {ps : List Str} {sp : Sp} {E : XK}
theorem op_bin {op : Operator} (d : BinX X.K C op f) (G : Has X.prog X.w X.K X.mg X.base CX k f ps [] sp) (hr : Room j X.A) (hx : Passes CX X E) (hkj : k ≤ j := by decide) : OpR X (binaryOp op) (rBin C sp E) := by
  intro pins s σ H x y v u Q I rx ry h
  obtain ⟨a, dx, fs, rfl, ha, o, h⟩ := h
  cases rx
  obtain ⟨ox, od, J⟩ := ins_at I ha
  have go := run_here (vs := [.ref a, y]) (us := [.ref a, u]) G hr hkj hx I (.cons rfl (.cons ry .nil)) h
  have go2 := wpAny_mono go (fun v s' z => ep_cmp z) fun _ _ z => z
  rcases o with ⟨T, b⟩ | ⟨b, dy, gs, rfl, hb⟩
  · obtain ⟨⟨fo, h1⟩, ⟨ro, h2⟩, h3⟩ := d.t T b.mem
    obtain ⟨rc, r1, r2⟩ := d.rc
    exact left_at I.kIn J (b.looks I ry) d.sf d.d.at_ d.d.fn r1 r2 h1 h2 h3 go2
  · cases ry
    obtain ⟨oy, oe, J2⟩ := ins_at I hb
    obtain ⟨m, F⟩ := I.fr
    exact PySem.W.binop_K F I.mod.kin J J2.type d.sf d.d.at_ d.d.fn go2
/-! ### reflected -/
structure Decl (op : Operator) (id : String) : Prop where
  si : Slot "int" (PySem.dunder op.info.2) id
  sb : Slot "bool" (PySem.dunder op.info.2) id
  en : ∃ (nm : String) (f : Int → Int → Sem Fin), entryFor table id = some (Builtin.Int.intBinary nm f false)
  ar : ∀ a b : Value, argsOk id ⟨[a, b], []⟩
theorem decl_add : Decl .Add "int.__add__" := ⟨F.slot_int_add, F.slot_bool_add, ⟨_, _, F.entry_int_add⟩, fun a b => F.args_int_add_2 a b⟩
theorem decl_sub : Decl .Sub "int.__sub__" := ⟨F.slot_int_sub, F.slot_bool_sub, ⟨_, _, F.entry_int_sub⟩, fun a b => F.args_int_sub_2 a b⟩
theorem decl_mul : Decl .Mult "int.__mul__" := ⟨F.slot_int_mul, F.slot_bool_mul, ⟨_, _, F.entry_int_mul⟩, fun a b => F.args_int_mul_2 a b⟩
theorem Decl.no {op : Operator} {id : String} {prog : Program} {w : World} {A : Around} {E : Value → Shared → Prop} {s : Shared} {v : V} {u : Value} {T : String} {x : Addr} {H : Hp} {Q : Option Value → Shared → Prop} (d : Decl op id) (hT : T = "int" ∨ T = "bool") (b : Bt H v T) (r : RelV v u) (hx : PlainAt s.heap x) (q : Q none s) :
    wpAny (model prog w) A (tryMethod u (PySem.dunder op.info.2) (.ref x)) Q E s := by
  obtain ⟨nm, f, en⟩ := d.en
  cases b with
  | int n =>
    obtain ⟨t, rfl⟩ := r
    exact wpAny_tryMethod_declines (T := "int") (by exact rfl) d.si (call_meets d.si (by exact rfl) en (d.ar _ _) (meets_no nm f n t x) ⟨hx, rfl, q⟩)
  | bl z =>
    cases r
    exact wpAny_tryMethod_declines (T := "bool") (by exact rfl) d.sb (call_meets d.sb (by exact rfl) en (d.ar _ _) (meets_noB nm f z x) ⟨hx, rfl, q⟩)
  | _ => rcases hT with e | e <;> exact absurd e (by decide)
def refF (C : Str) (op : Operator) : Fct := fun K => (PySem.W.selfFirst K (He.ga K C) && dunF C (dunderR op.info.2) K) && (dunF C (PySem.dunder op.info.2) K &&
  btNames.all fun T => match PySem.W.findIn K (.type T) (PySem.dunder op.info.2), PySem.W.findIn K (.type T) (dunderR op.info.2) with
    | some fo, some ro => decide (PySem.W.subIn K (.ref (He.ga K C)) (.type T) = some false) && (!numB fo ro || (decide (T = "int") || decide (T = "bool")))
    | _, _ => false)
structure RefX (K : PySem.W.Frag) (C : Addr) (op : Operator) (f : Addr) : Prop where
  sf : PySem.W.selfFirst K C = true
  g : ∃ g : Addr, PySem.W.findIn K (.ref C) (PySem.dunder op.info.2) = some (some (.ref g))
  d : Dun K C (dunderR op.info.2) f
  t : ∀ T ∈ btNames, ∃ fo ro, PySem.W.findIn K (.type T) (PySem.dunder op.info.2) = some fo ∧ PySem.W.findIn K (.type T) (dunderR op.info.2) = some ro ∧ PySem.W.subIn K (.ref C) (.type T) = some false ∧ (numB fo ro = true → T = "int" ∨ T = "bool")
theorem refF_ok {C : Str} {op : Operator} {K : PySem.W.Frag} (h : refF C op K = true) : RefX K (He.ga K C) op (He.ma K (He.ga K C) (dunderR op.info.2)) := by
  obtain ⟨a, b⟩ := Bool.and_eq_true_iff.mp h
  obtain ⟨a1, a2⟩ := Bool.and_eq_true_iff.mp a
  obtain ⟨b1, b2⟩ := Bool.and_eq_true_iff.mp b
  refine ⟨a1, ⟨_, (dunF_ok b1).at_⟩, dunF_ok a2, fun T hT => ?_⟩
  have z := List.all_eq_true.mp b2 T hT
  cases e1 : PySem.W.findIn K (.type T) (PySem.dunder op.info.2) with
  | none => simp only [e1] at z; cases z
  | some fo =>
    cases e2 : PySem.W.findIn K (.type T) (dunderR op.info.2) with
    | none => simp only [e1, e2] at z; cases z
    | some ro =>
      simp only [e1, e2, Bool.and_eq_true, Bool.or_eq_true, decide_eq_true_eq, Bool.not_eq_true'] at z
      refine ⟨fo, ro, rfl, rfl, z.1, fun q => ?_⟩
      rcases z.2 with y | y
      · rw [y] at q; cases q
      · exact y
def rRef (C : Addr) (sp : Sp) (E : XK) : R2 := fun x y H Q => ∃ a dx fs T, y = .ref a ∧ H a = some (.ins C dx fs) ∧ Bt H x T ∧ sp [y, x] H Q E
theorem op_ref {op : Operator} {id : String} (dc : Decl op id) (d : RefX X.K C op f) (G : Has X.prog X.w X.K X.mg X.base CX k f ps [] sp) (hr : Room j X.A) (hx : Passes CX X E) (hkj : k ≤ j := by decide) : OpR X (binaryOp op) (rRef C sp E) := by
  intro pins s σ H x y v u Q I rx ry h
  obtain ⟨a, dx, fs, T, rfl, ha, b, h⟩ := h
  cases ry
  obtain ⟨ox, od, J, pd⟩ := StX.insC_at (C := C) I (.inr ⟨dx, fs, ha⟩)
  have go := run_here (vs := [.ref a, x]) (us := [.ref a, v]) G hr hkj hx I (.cons rfl (.cons rx .nil)) h
  have go2 := wpAny_mono go (fun v s' z => ep_cmp z) fun _ _ z => z
  obtain ⟨fo, ro, h1, h2, h3, h4⟩ := d.t T b.mem
  obtain ⟨g, hg⟩ := d.g
  exact refl_at I.kIn J (b.looks I rx) d.sf hg d.d.at_ d.d.fn h1 h2 h3 (fun z Q q => dc.no (h4 z) b rx ⟨ox, J.at_, pd⟩ q) go2
/-! ### comparisons -/
def cmpF (C : Str) (op : CmpOp) : Fct := fun K => dunF C (cmpInfo op).2.1 K && btNames.all fun T => PySem.W.notFirst K (He.ga K C) (.type T)
structure CmpX (K : PySem.W.Frag) (C : Addr) (op : CmpOp) (f : Addr) : Prop where
  d : Dun K C (cmpInfo op).2.1 f
  t : ∀ T ∈ btNames, PySem.W.notFirst K C (.type T) = true
theorem cmpF_ok {C : Str} {op : CmpOp} {K : PySem.W.Frag} (h : cmpF C op K = true) : CmpX K (He.ga K C) op (He.ma K (He.ga K C) (cmpInfo op).2.1) := by
  obtain ⟨a, b⟩ := Bool.and_eq_true_iff.mp h
  exact ⟨dunF_ok a, fun T hT => List.all_eq_true.mp b T hT⟩
theorem rich_own {op : CmpOp} {pins : List (Addr × Obj)} {s : Shared} {σ : L2.St} {H : Hp} {x y : V} {v u : Value} {Q : VK} (d : CmpX X.K C op f) (G : Has X.prog X.w X.K X.mg X.base CX k f ps [] sp) (hr : Room j X.A) (hx : Passes CX X E) (hkj : k ≤ j)
    (I : Inv X pins σ H s) (rx : RelV x v) (ry : RelV y u) (h : rBin C sp E x y H Q) : wpAny (model X.prog X.w) X.A (richCompare op v u) (EP X pins σ Q) X.xe s := by
  obtain ⟨a, dx, fs, rfl, ha, o, h⟩ := h
  cases rx
  obtain ⟨ox, od, J⟩ := ins_at I ha
  obtain ⟨m, F⟩ := I.fr
  have go := run_here (vs := [.ref a, y]) (us := [.ref a, u]) G hr hkj hx I (.cons rfl (.cons ry .nil)) h
  have go2 := wpAny_mono go (fun v s' z => ep_cmp z) fun _ _ z => z
  rcases o with ⟨T, b⟩ | ⟨b, dy, gs, rfl, hb⟩
  · exact PySem.W.cmp_K hr.units0 F I.mod.kin J (b.looks I ry) (d.t T b.mem) d.d.at_ d.d.fn go2
  · cases ry
    obtain ⟨oy, oe, J2⟩ := ins_at I hb
    exact PySem.W.cmp_K hr.units0 F I.mod.kin J J2.type (by unfold PySem.W.notFirst; simp) d.d.at_ d.d.fn go2
theorem op_eqO (d : CmpX X.K C .Eq f) (G : Has X.prog X.w X.K X.mg X.base CX k f ps [] sp) (hr : Room j X.A) (hx : Passes CX X E) (hkj : k ≤ j := by decide) : OpR X (compareOp .Eq) (rBin C sp E) :=
  fun pins s σ H x y v u Q I rx ry h => rich_own d G hr hx hkj I rx ry h
theorem op_ltO (d : CmpX X.K C .Lt f) (G : Has X.prog X.w X.K X.mg X.base CX k f ps [] sp) (hr : Room j X.A) (hx : Passes CX X E) (hkj : k ≤ j := by decide) : OpR X (compareOp .Lt) (rBin C sp E) :=
  fun pins s σ H x y v u Q I rx ry h => rich_own d G hr hx hkj I rx ry h
theorem op_leO (d : CmpX X.K C .LtE f) (G : Has X.prog X.w X.K X.mg X.base CX k f ps [] sp) (hr : Room j X.A) (hx : Passes CX X E) (hkj : k ≤ j := by decide) : OpR X (compareOp .LtE) (rBin C sp E) :=
  fun pins s σ H x y v u Q I rx ry h => rich_own d G hr hx hkj I rx ry h
theorem op_gtO (d : CmpX X.K C .Gt f) (G : Has X.prog X.w X.K X.mg X.base CX k f ps [] sp) (hr : Room j X.A) (hx : Passes CX X E) (hkj : k ≤ j := by decide) : OpR X (compareOp .Gt) (rBin C sp E) :=
  fun pins s σ H x y v u Q I rx ry h => rich_own d G hr hx hkj I rx ry h
theorem op_geO (d : CmpX X.K C .GtE f) (G : Has X.prog X.w X.K X.mg X.base CX k f ps [] sp) (hr : Room j X.A) (hx : Passes CX X E) (hkj : k ≤ j := by decide) : OpR X (compareOp .GtE) (rBin C sp E) :=
  fun pins s σ H x y v u Q I rx ry h => rich_own d G hr hx hkj I rx ry h
def neF (C : Str) : Fct := fun K => (decide (PySem.W.findIn K (.ref (He.ga K C)) "__ne__" = some (some (.builtin "object.__ne__"))) && decide (PySem.W.subIn K (.ref (He.ga K C)) (.type "object") = some true)) && cmpF C .Eq K
structure NeX (K : PySem.W.Frag) (C : Addr) (f : Addr) : Prop where
  n : PySem.W.findIn K (.ref C) "__ne__" = some (some (.builtin "object.__ne__"))
  o : PySem.W.subIn K (.ref C) (.type "object") = some true
  c : CmpX K C .Eq f
theorem neF_ok {C : Str} {K : PySem.W.Frag} (h : neF C K = true) : NeX K (He.ga K C) (He.ma K (He.ga K C) "__eq__") := by
  obtain ⟨a, b⟩ := Bool.and_eq_true_iff.mp h
  obtain ⟨a1, a2⟩ := Bool.and_eq_true_iff.mp a
  exact ⟨of_decide_eq_true a1, of_decide_eq_true a2, cmpF_ok b⟩
theorem op_neO (d : NeX X.K C f) (G : Has X.prog X.w X.K X.mg X.base CX k f ps [] sp) (hr : Room j X.A) (hx : Passes CX X E) (hkj : k + 1 ≤ j := by decide) : OpR X (compareOp .NotEq) (fun x y H Q => rBin C sp E x y H fun v H' => ∃ b, v = .bl b ∧ Q (.bl (!b)) H') := by
  intro pins s σ H x y v u Q I rx ry h
  obtain ⟨a, dx, fs, rfl, ha, o, h⟩ := h
  cases rx
  obtain ⟨ox, od, J⟩ := ins_at I ha
  have go := run_at (vs := [.ref a, y]) (us := [.ref a, u]) G (Room.in1 (hr.mono hkj)) I.env0.in1 hx I (.cons rfl (.cons ry .nil)) h
  have go2 : wpAny (model X.prog X.w) X.A.in1 (call (.ref f) [.ref a, u]) (PySem.W.BoolBack fun z s' => EP X pins σ Q (.bool (!z)) s') X.xe s := wpAny_mono go (fun v s' z => by
    obtain ⟨w, H', I', rw', b, rfl, q⟩ := z
    cases rw'
    exact ⟨.bl (!b), H', I', rfl, q⟩) fun _ _ z => z
  have hu : X.A.units + 1 < cLine := hu_of hr
  rcases o with ⟨T, b⟩ | ⟨b, dy, gs, rfl, hb⟩
  · exact ne_at hu I.kIn J (b.looks I ry) (d.c.t T b.mem) d.n d.o d.c.d.at_ d.c.d.fn go2
  · cases ry
    obtain ⟨oy, oe, J2⟩ := ins_at I hb
    exact ne_at hu I.kIn J J2.type (by unfold PySem.W.notFirst; simp) d.n d.o d.c.d.at_ d.c.d.fn go2
/-! ### minus, in place, items, calls -/
theorem un_negO (d : Dun X.K C "__neg__" f) (G : Has X.prog X.w X.K X.mg X.base CX k f ps [] sp) (hr : Room j X.A) (hx : Passes CX X E) (hkj : k ≤ j := by decide) : UnR X (unaryOp .USub) (fun x H Q => ∃ a dx fs, x = .ref a ∧ H a = some (.ins C dx fs) ∧ sp [x] H Q E) := by
  intro pins s σ H x v Q I rx h
  obtain ⟨a, dx, fs, rfl, ha, h⟩ := h
  cases rx
  obtain ⟨ox, od, J⟩ := ins_at I ha
  obtain ⟨m, F⟩ := I.fr
  exact PySem.W.ksp_neg F I.mod.kin J d.at_ d.fn (run_here (vs := [.ref a]) (us := [.ref a]) G hr hkj hx I (.cons rfl .nil) h)
def inpF (C : Str) (op : Operator) : Fct := fun K => PySem.W.selfFirst K (He.ga K C) && dunF C (dunderI op.info.2) K
theorem inpF_ok {C : Str} {op : Operator} {K : PySem.W.Frag} (h : inpF C op K = true) : PySem.W.selfFirst K (He.ga K C) = true ∧ Dun K (He.ga K C) (dunderI op.info.2) (He.ma K (He.ga K C) (dunderI op.info.2)) := by
  obtain ⟨a, b⟩ := Bool.and_eq_true_iff.mp h
  exact ⟨a, dunF_ok b⟩
theorem inp_own {op : Operator} (sf : PySem.W.selfFirst X.K C = true) (d : Dun X.K C (dunderI op.info.2) f) (G : Has X.prog X.w X.K X.mg X.base CX k f ps [] sp) (hr : Room j X.A) (hx : Passes CX X E) (hkj : k ≤ j := by decide) :
    PIp X op (fun x y H Q => ∃ a dx fs, x = .ref a ∧ H a = some (.ins C dx fs) ∧ sp [x, y] H Q E) := by
  intro pins s σ H x y v u Q I rx ry h
  obtain ⟨a, dx, fs, rfl, ha, h⟩ := h
  cases rx
  obtain ⟨ox, od, J⟩ := ins_at I ha
  obtain ⟨m, F⟩ := I.fr
  refine PySem.W.ksp_inplace F I.mod.kin J sf d.at_ d.fn ?_
  exact wpAny_mono (run_here (vs := [.ref a, y]) (us := [.ref a, u]) G hr hkj hx I (.cons rfl (.cons ry .nil)) h) (fun v s' z => ep_cmp z) fun _ _ z => z
def setF (C : Str) : Fct := fun K => PySem.W.noSeq K (He.ga K C) && dunF C "__setitem__" K
theorem set_own (nq : PySem.W.noSeq X.K C = true) (d : Dun X.K C "__setitem__" f) (G : Has X.prog X.w X.K X.mg X.base CX k f ps [] sp) (hr : Room j X.A) (hx : Passes CX X E) (hkj : k ≤ j := by decide) :
    PSet X (fun o i v H Q => ∃ a dx fs, o = .ref a ∧ H a = some (.ins C dx fs) ∧ sp [o, i, v] H (fun _ H' => Q H') E) := by
  intro pins s σ H o i v ov iv u Q I ro ri rv h
  obtain ⟨a, dx, fs, rfl, ha, h⟩ := h
  cases ro
  obtain ⟨ox, od, J⟩ := ins_at I ha
  obtain ⟨m, F⟩ := I.fr
  refine PySem.W.ksp_setItem F I.mod.kin J nq d.at_ d.fn ?_
  exact wpAny_mono (run_here (vs := [.ref a, i, v]) (us := [.ref a, iv, u]) G hr hkj hx I (.cons rfl (.cons ri (.cons rv .nil))) h) (fun _ s' z => z.elim fun w z => z.elim fun H' q => ⟨H', q.1, q.2.2⟩) fun _ _ z => z
def getF (C : Str) : Fct := fun K => PySem.W.fnIn K (He.ma K (He.ga K C) "__getitem__") && dunF C "__getitem__" K
def IxO (X : Cx) (r : R2) : Prop := ∀ (value slice : Expr) (pins : List (Addr × Obj)) (s : Shared) (σ : L2.St) (H : Hp) (x y : V) (v u : Value) (Q : VK), Inv X pins σ H s → RelV x v → RelV y u → r x y H Q →
  (∀ a, subscripted slice true (.ref a) u = runValue (.builtin "lifetime.subscript" ⟨[.ref a, u], []⟩)) → wpAny (model X.prog X.w) X.A (subscriptTail value slice v u) (EP X pins σ Q) X.xe s
theorem ix_own (fi : PySem.W.fnIn X.K f = true) (d : Dun X.K C "__getitem__" f) (G : Has X.prog X.w X.K X.mg X.base CX k f ps [] sp) (hr : Room j X.A) (hx : Passes CX X E) (hkj : k + 1 ≤ j := by decide) :
    IxO X (fun x y H Q => ∃ a dx fs, x = .ref a ∧ H a = some (.ins C dx fs) ∧ sp [x, y] H Q E) := by
  intro value slice pins s σ H x y v u Q I rx ry h hs
  obtain ⟨a, dx, fs, rfl, ha, h⟩ := h
  cases rx
  obtain ⟨ox, od, J⟩ := ins_at I ha
  obtain ⟨m, F⟩ := I.fr
  exact PySem.W.sub_K F I.mod.kin J d.at_ fi d.fn (run_at (vs := [.ref a, y]) (us := [.ref a, u]) G (Room.in1 (hr.mono hkj)) I.env0.in1 hx I (.cons rfl (.cons ry .nil)) h) (hs a)
end
end Rg
namespace Rg
open PySem PySem.Spec PyProof.Rows L2
/-! GEN F: isinstance of own classes, raises, items and calls of own instances. -/
def insF (C : Str) : Fct := fun K => ((decide (PySem.W.findIn K (.ref (He.ga K C)) "__class__" = some (some (.builtin "object.__class__"))) && decide (PySem.W.specialIn K (.builtin "object.__class__") "__get__" = some (some (.builtin "getset_descriptor.__get__")))) &&
  (decide (PySem.W.takesIn K (.builtin "object.__class__") = some true) && decide (PySem.W.mroIn K (He.ga K C) (.type "object") = some true))) &&
  ((btNames.all fun T => decide (PySem.W.kitOne K (.ref (He.ga K C)) (.type T) = some false)) && ((btNames.all fun T => decide (PySem.W.kitOne K (.type T) (.ref (He.ga K C)) = some false)) && decide (PySem.W.kitOne K (.ref (He.ga K C)) (.ref (He.ga K C)) = some true)))
structure InsX (K : PySem.W.Frag) (C : Addr) : Prop where
  ha : PySem.W.findIn K (.ref C) "__class__" = some (some (.builtin "object.__class__"))
  hn : PySem.W.specialIn K (.builtin "object.__class__") "__get__" = some (some (.builtin "getset_descriptor.__get__"))
  ht : PySem.W.takesIn K (.builtin "object.__class__") = some true
  hm : PySem.W.mroIn K C (.type "object") = some true
  ot : ∀ T ∈ btNames, PySem.W.kitOne K (.ref C) (.type T) = some false
  to : ∀ T ∈ btNames, PySem.W.kitOne K (.type T) (.ref C) = some false
  me : PySem.W.kitOne K (.ref C) (.ref C) = some true
theorem insF_ok {C : Str} {K : PySem.W.Frag} (h : insF C K = true) : InsX K (He.ga K C) := by
  unfold insF at h
  simp only [Bool.and_eq_true, decide_eq_true_eq, List.all_eq_true] at h
  obtain ⟨⟨⟨h1, h2⟩, h3, h4⟩, h5, h6, h7⟩ := h
  exact ⟨h1, h2, h3, h4, h5, h6, h7⟩
theorem ty_ins {K : PySem.W.Frag} {H : Hp} {a C dx : Addr} {fs : List (Str × V)} (h : InsX K C) (cl : Cls K C) (e : H a = some (.ins C dx fs)) : TyX K H (.ref a) (.ref C) := .base (.ins e cl h.ha h.hn h.ht h.hm)
/-- no int, or a bool -/
def NW (K : PySem.W.Frag) (H : Hp) (v : V) : Prop := ∃ t i b, TyX K H v t ∧ PySem.W.kitOne K t (.type "int") = some i ∧ PySem.W.kitOne K t (.type "bool") = some b ∧ (i && !b) = false
theorem nw_bt {K : PySem.W.Frag} {H : Hp} {v : V} {T : String} (h : Bt H v T) (n : T ≠ "int") : NW K H v := by
  refine ⟨.type T, decide (T = "bool"), decide (T = "bool"), h.ty, ?_, ?_, ?_⟩
  · cases h <;> first | exact absurd rfl n | exact kit_ty (by decide +kernel)
  · cases h <;> first | exact absurd rfl n | exact kit_ty (by decide +kernel)
  · cases h <;> first | exact absurd rfl n | decide
theorem nw_ins {K : PySem.W.Frag} {H : Hp} {a C dx : Addr} {fs : List (Str × V)} (h : InsX K C) (cl : Cls K C) (e : H a = some (.ins C dx fs)) : NW K H (.ref a) :=
  ⟨.ref C, false, false, ty_ins h cl e, h.ot _ (by decide), h.ot _ (by decide), rfl⟩
theorem kit_int {K : PySem.W.Frag} : PySem.W.kitOne K (.type "int") (.type "int") = some true := kit_ty (by decide +kernel)
theorem kit_ib {K : PySem.W.Frag} : PySem.W.kitOne K (.type "int") (.type "bool") = some false := kit_ty (by decide +kernel)
section
variable {X : Cx} {CX : CXT} {k j : Nat} {f C : Addr} {ps : List Str} {sp : Sp} {dvs : List V} {E : XK} {a b e : Expr} {es : List Expr} {ta tb : TE} {t : TA} {x m : Str} {pos p p2 pos2 : Pos} {i : Nat}
theorem pe_ixO {r : R2} (hr : IxO X r) (ha : PE X a ta) (hb : PE X b tb) (hs : ∀ o u, subscripted b true (.ref o) u = runValue (.builtin "lifetime.subscript" ⟨[.ref o, u], []⟩)) : PE X (.Subscript a b pos) (tOp r ta tb) := by
  refine ⟨fun pins s σ H Q I h => ?_⟩
  exact Subscript_ (binT ha hb I h fun v u s2 x y H2 I2 rx ry q => hr a b pins s2 σ H2 x y v u Q I2 rx ry q fun o => hs o u)
abbrev ExcX (K : PySem.W.Frag) (C : Addr) : Prop := PySem.W.excIn K C He.veBase "ValueError.__new__" = true ∧ PySem.W.keepIn K (.ref C) = true ∧ PySem.W.subIn K (.ref C) (.type "BaseException") = some true ∧ PySem.W.typeIn K (.ref C) = some (.type "type")
theorem raiseO {W : WX} (h : ExcX X.K C) (tk : Takes X W) (gC : X.mg x = some (.ref C)) (hc : X.calm = true := by rfl) (hg : Gl X x := by rfl) (hdb : (x == ("__debug__" : Str)) = false := by decide) :
    PS X (.Raise (some (.Call (.Name x p) [.Constant (.str m) i p2] [] pos)) none pos2) (fun _ σ H => W (.ref C) none σ H) :=
  ps_raise hc tk (pmk_own PySem.F.excBase_ValueError h.1 gC h.2.1 (raises_own h.2.2.1 h.2.2.2) hg hdb)
theorem pe_gint {n : Int} {t' : Tok} (hm : X.mg x = some (.int n t')) (hg : Gl X x := by rfl) (hd : (x == ("__debug__" : Str)) = false := by decide) : PE X (.Name x pos) (tC (.int n)) := pe_glob hg hm ⟨_, rfl⟩ hd
theorem pe_gstr {z : Str} {t' : Tok} (hm : X.mg x = some (.str z t')) (hg : Gl X x := by rfl) (hd : (x == ("__debug__" : Str)) = false := by decide) : PE X (.Name x pos) (tC (.str z)) := pe_glob hg hm ⟨_, rfl⟩ hd
theorem pe_gref {c : Addr} (hm : X.mg x = some (.ref c)) (hg : Gl X x := by rfl) (hd : (x == ("__debug__" : Str)) = false := by decide) : PE X (.Name x pos) (tC (.ref c)) := pe_glob (v := .ref c) hg hm rfl hd
theorem lt1k {n : Nat} (h : Nat.ble (n + 1) 1000 = true) : n < 1000 := Nat.le_of_ble_eq_true h
theorem Has.raw {P : Program} {w : World} {K : PySem.W.Frag} {mg : Str → Option Value} {base : Heap} (G : Has P w K mg base CX k f ps [] sp) : FnR P w K mg base CX k f sp := by
  obtain ⟨fd, ds, g1, g2, g3⟩ := G.ex
  exact (g1.raw g2 g3).imp fun vs H Q E h => by rw [List.append_nil]; exact h
/-- f(e, ..), f an expression that gives an instance of C -/
def tCallI (C : Addr) (sp : Sp) (E : XK) (tf : TE) (t : TA) : TE := fun σ H Q => tf σ H fun y H1 => ∃ a, y = V.ref a ∧ t σ H1 fun vs H2 => (∃ dx fs, H2 a = some (.ins C dx fs)) ∧ sp (V.ref a :: vs) H2 Q E
theorem pe_callI {fe : Expr} {tf : TE} (hf : PE X fe tf) (c : StX.CallO X.K C f) (G : Has X.prog X.w X.K X.mg X.base CX k f ps [] sp) (hr : Room j X.A) (hx : Passes CX X E) (ha : PA X (e :: es) t) (hkj : k ≤ j := by decide)
    (ht : eval (.Call fe (e :: es) [] pos) X.env = (eval fe X.env >>= fun u => callWith pos u [] (backTo pos (starEach (e :: es) X.env)) (backToKw pos (keywordEach [] X.env))) := by rfl)
    (he : starEach (e :: es) X.env = (false, eval e X.env) :: starEach es X.env := by rfl) (hpl : (backTo pos (starEach es X.env)).any (·.1) = false := by rfl) : PE X (.Call fe (e :: es) [] pos) (tCallI C sp E tf t) := by
  refine ⟨fun pins s σ H Q I h => ?_⟩
  refine Call_ (thn (hf.run pins s σ H _ I h) fun u s1 z => ?_) ht
  obtain ⟨y, H1, I1, ry, a, rfl, q⟩ := z
  cases ry
  refine StX.callO_with (thn (ha.run pos pins s1 σ H1 _ I1 q) fun us s2 z => ?_) he hpl
  obtain ⟨vs, H2, I2, r, ⟨dx, fs, hi⟩, q2⟩ := z
  obtain ⟨ox, od, J, hd⟩ := StX.insC_at (C := C) I2 (.inr ⟨dx, fs, hi⟩)
  exact ⟨⟨C, ox, od, J, hd⟩, StX.run_callO c (Has.raw G) (hr.mono hkj) hx I2 (.inr ⟨dx, fs, hi⟩) r q2⟩
def callF (C : Str) : Fct := fun K => PySem.W.fnIn K (He.ma K (He.ga K C) "__call__") && dunF C "__call__" K
theorem callF_ok {C : Str} {K : PySem.W.Frag} (h : callF C K = true) : StX.CallO K (He.ga K C) (He.ma K (He.ga K C) "__call__") := by
  obtain ⟨a, b⟩ := Bool.and_eq_true_iff.mp h
  exact ⟨(dunF_ok b).at_, (dunF_ok b).fn, a⟩
end
end Rg
namespace Rg
open PySem PySem.Spec PyProof.Rows L2
/-- of less than 300 bits -/
def Bg (x : Int) : Prop := x.natAbs < 2 ^ 300
theorem bg_of {x : Int} (h0 : -(10 ^ 80) ≤ x) (h1 : x ≤ 10 ^ 80) : Bg x := Nat.lt_of_le_of_lt (show x.natAbs ≤ 10 ^ 80 by omega) (by decide)
theorem bg_mul {x y : Int} (hx : Bg x) (hy : Bg y) : CMulW x y := wide_mul hx hy (by decide) (by decide) (by decide)
end Rg
namespace Rg
open PySem PySem.Spec PyProof.Rows L2
/-! GEN G: comprehensions over a list, elements that leave what stood. -/
theorem lc_map {K : PySem.W.Frag} {a : Addr} {xs : List V} {i : Nat} {te : TE} {vs : List Nat} {σ : L2.St} {H1 : Hp} {D : Addr} {Qd : Hp → Prop} (f : V → V) (nD : H1 D = none) (hz : xs.length ≤ 1000) (hS : SqL K H1 a xs)
    (hw : ∀ x : V, wipe ((wipe σ vs).set i (some x)) vs = wipe σ vs)
    (step : ∀ (x : V) (H : Hp), x ∈ xs → Same H1 H → ∀ (R : VK), (∀ H', Same H H' → R (f x) H') → te ((wipe σ vs).set i (some x)) H R)
    (hd : ∀ H, Same H1 H → H D = some (.lst (xs.map f)) → Qd H) :
    ∃ W : Nat → Nat → Hp → Prop, (∃ m, W 0 m (L2.upd H1 D (.lst []))) ∧ ∀ j m H, W j m H →
      ((Itl K a).stop j H ∧ Qd H) ∨ ((Itl K a).go j H ∧ ∃ Nx : Hp → Prop, (∀ H', Nx H' → ∃ m', m' < m ∧ W (j + 1) m' H') ∧ ∀ x H', (Itl K a).yld j H x H' → gName i x (wipe σ vs) H' fun σ2 H2 => wipe σ2 vs = wipe σ vs ∧ tYes σ2 H2 fun b H3 =>
        if b = true then te σ2 H3 fun y H4 => ∃ acc, H4 D = some (.lst acc) ∧ acc.length < sizeLine ∧ Nx (L2.upd H4 D (.lst (acc ++ [y]))) else Nx H3) := by
  refine lc_list (xs := xs) (fun j H => Same H1 H ∧ H D = some (.lst ((xs.take j).map f))) ⟨Same.new nD, upd_same⟩ (fun j H _ z => z.1.seq hS) (fun j x H hx z => ?_) fun H z => hd H z.1 (by rw [z.2, List.take_of_length_le (Nat.le_refl _)])
  obtain ⟨sm, hD⟩ := z
  have hj : j < xs.length := (List.getElem?_eq_some_iff.mp hx).1
  refine ⟨hw x, ?_⟩
  unfold tYes
  dsimp only
  rw [if_pos rfl]
  refine step x H (List.mem_of_getElem? hx) sm _ fun H' s' => ⟨_, s' _ _ hD, ?_, ?_, ?_⟩
  · rw [List.length_map, List.length_take]
    exact Nat.lt_of_le_of_lt (Nat.le_trans (Nat.min_le_left _ _) (Nat.le_trans (Nat.le_of_lt hj) hz)) (by decide)
  · exact Same.mut (sm.trans s') nD
  · rw [upd_same, List.take_add_one, hx]
    simp
theorem lc_fmap {K : PySem.W.Frag} {a : Addr} {xs : List V} {i : Nat} {tt : TT} {te : TE} {vs : List Nat} {σ : L2.St} {H1 : Hp} {D : Addr} {Qd : Hp → Prop} (p : V → Bool) (f : V → V) (nD : H1 D = none) (hz : xs.length ≤ 1000) (hS : SqL K H1 a xs)
    (hw : ∀ x : V, wipe ((wipe σ vs).set i (some x)) vs = wipe σ vs)
    (tst : ∀ (x : V) (H : Hp), x ∈ xs → Same H1 H → ∀ (R : Bool → Hp → Prop), (∀ H', Same H H' → R (p x) H') → tt ((wipe σ vs).set i (some x)) H R)
    (step : ∀ (x : V) (H : Hp), x ∈ xs → p x = true → Same H1 H → ∀ (R : VK), (∀ H', Same H H' → R (f x) H') → te ((wipe σ vs).set i (some x)) H R)
    (hd : ∀ H, Same H1 H → H D = some (.lst ((xs.filter p).map f)) → Qd H) :
    ∃ W : Nat → Nat → Hp → Prop, (∃ m, W 0 m (L2.upd H1 D (.lst []))) ∧ ∀ j m H, W j m H →
      ((Itl K a).stop j H ∧ Qd H) ∨ ((Itl K a).go j H ∧ ∃ Nx : Hp → Prop, (∀ H', Nx H' → ∃ m', m' < m ∧ W (j + 1) m' H') ∧ ∀ x H', (Itl K a).yld j H x H' → gName i x (wipe σ vs) H' fun σ2 H2 => wipe σ2 vs = wipe σ vs ∧ tt σ2 H2 fun b H3 =>
        if b = true then te σ2 H3 fun y H4 => ∃ acc, H4 D = some (.lst acc) ∧ acc.length < sizeLine ∧ Nx (L2.upd H4 D (.lst (acc ++ [y]))) else Nx H3) := by
  refine lc_list (xs := xs) (fun j H => Same H1 H ∧ H D = some (.lst (((xs.take j).filter p).map f))) ⟨Same.new nD, upd_same⟩ (fun j H _ z => z.1.seq hS) (fun j x H hx z => ?_) fun H z => hd H z.1 (by rw [z.2, List.take_of_length_le (Nat.le_refl _)])
  obtain ⟨sm, hD⟩ := z
  have hj : j < xs.length := (List.getElem?_eq_some_iff.mp hx).1
  have hl : ((xs.take j).filter p).length < 1000 := by
    have := List.length_filter_le p (xs.take j)
    rw [List.length_take] at this
    omega
  refine ⟨hw x, ?_⟩
  refine tst x H (List.mem_of_getElem? hx) sm _ fun H' s' => ?_
  by_cases hp : p x = true
  · rw [if_pos hp]
    refine step x H' (List.mem_of_getElem? hx) hp (sm.trans s') _ fun H2 s2 => ⟨_, s2 _ _ (s' _ _ hD), ?_, ?_, ?_⟩
    · rw [List.length_map]
      exact Nat.lt_trans hl (by decide)
    · exact Same.mut (sm.trans (s'.trans s2)) nD
    · rw [upd_same, List.take_add_one, hx]
      simp [hp]
  · rw [if_neg hp]
    refine ⟨sm.trans s', ?_⟩
    rw [s' _ _ hD, List.take_add_one, hx]
    simp [hp]
end Rg
namespace Rg
open PySem PySem.Spec PyProof.Rows L2
/-! GEN H: properties, read and assigned. -/
theorem slot_pset : Slot "property" "__set__" "property.__set__" :=
  Slot.of (owner := "property") (n := "__set__") (by rw [typeLookup_type, builtinLookup_eq_fast]; kernel_rfl)
    (by decide +kernel) (by decide +kernel) (by decide +kernel) (by first | exact .inl (by decide +kernel) | exact .inr (by decide +kernel))
    (by rw [isSubtype_type]; kernel_rfl)
theorem entry_pset : entryFor table "property.__set__" = some Builtin.«property.__set__» := entryFor_of_tree (by kernel_rfl)
theorem args_pset (a b c : Value) : argsOk "property.__set__" ⟨[a, b, c], []⟩ := by
  unfold argsOk
  kernel_rfl
section
variable {prog : Program} {w : World} {A : Around} {s : Shared} {K : PySem.W.Frag} {p x g fs : Addr} {rest : List Value} {v g0 : Value} {R : Result → Shared → Prop}
theorem prop_set (X : K.In s.heap) (hp : PySem.W.recIn K p "property" = some (g0 :: .ref fs :: rest))
    (h : wpAny (model prog w) A.in1 (call (.ref fs) [.ref x, v]) (fun _ s' => R (.ok (.ret .none)) s') (fun e s' => R (.error e) s') s) :
    codeAny (model prog w) A (.call (.builtin "property.__set__") ⟨[.ref p, .ref x, v], []⟩) R s := by
  obtain ⟨d, sl, ho⟩ := PySem.W.rec_of X hp
  refine codeAny_call_builtin slot_pset.plain entry_pset (slot_pset.check _ _ _ _ _ _ _ _ ⟨_, ho, rfl⟩ (args_pset _ _ _) ?_)
  unfold Builtin.«property.__set__»
  have q : wpAny (model prog w) A.in1 (field (.ref p) 1) (fun z s' => z = .ref fs ∧ s' = s) (fun e s' => R (.error e) s') s := by
    unfold field fieldsOf
    refine wpAny_bind (wpAny_bind (wpAny_load ho ?_))
    exact wpAny_pure (wpAny_pure ⟨rfl, rfl⟩)
  refine wpAny_bind (wpAny_mono q (fun z s' e => ?_) fun _ _ z => z)
  obtain ⟨rfl, rfl⟩ := e
  dsimp only
  rw [if_neg (fun z => by cases beq_iff_eq.mp z)]
  refine wpAny_bind (wpAny_mono h (fun _ s2 z => ?_) fun _ _ z => z)
  exact wpAny_pure z
end
section
variable {X : Cx} {CX : CXT} {k j : Nat} {C p g a dx : Addr} {fs : List (Str × V)} {f : Str} {ps : List Str} {sp : Sp} {E : XK} {e o value : Expr} {pos pos' : Pos} {ta tv : TE}
/-- the class has the name as a property at p with getter gg and setter gs -/
structure PropX (K : PySem.W.Frag) (C : Addr) (f : Str) (p : Addr) (gg : Addr) : Prop where
  at_ : PySem.W.findIn K (.ref C) f = some (some (.ref p))
  get : PySem.W.specialIn K (.ref p) "__get__" = some (some (.builtin "property.__get__"))
  tak : PySem.W.takesIn K (.ref p) = some true
  rec_ : ∃ rest, PySem.W.recIn K p "property" = some (.ref gg :: rest)
theorem PropX.of {K : PySem.W.Frag} {gg : Addr} (h : PropX K C f p gg) : PropOf K C f p gg := ⟨h.at_, h.get, h.tak, h.rec_⟩
theorem pe_propH (he : PE X e ta) (c : Cls X.K C) (hp : PropX X.K C f p g) (G : Has X.prog X.w X.K X.mg X.base CX k g ps [] sp) (hr : Room j X.A) (hx : Passes CX X.nox E) (hkj : k + 1 ≤ j := by decide)
    (hab : attributeBase e f X.env (eval e X.env) = eval e X.env := by rfl) : PE X (.Attribute e f pos) (tProp C sp [] E ta) := by
  obtain ⟨fd, ds, g1, g2, g3⟩ := G.ex
  exact pe_prop he c hp.of g1 (hr.mono hkj) g2 g3 hx hab
/-- its setter -/
structure SetX (K : PySem.W.Frag) (C : Addr) (f : Str) (p : Addr) (gs : Addr) : Prop where
  at_ : PySem.W.findIn K (.ref C) f = some (some (.ref p))
  tak : PySem.W.takesIn K (.ref p) = some true
  ty : PySem.W.typeIn K (.ref p) = some (.type "property")
  rec_ : ∃ g0 rest, PySem.W.recIn K p "property" = some (g0 :: .ref gs :: rest)
theorem setprop_ok {pins : List (Addr × Obj)} {σ : L2.St} {H : Hp} {s : Shared} {y : V} {u : Value} {Q : Hp → Prop} (I : Inv X pins σ H s) (ea : H a = some (.ins C dx fs)) (c : Cls X.K C) (hp : SetX X.K C f p g) (G : Has X.prog X.w X.K X.mg X.base CX k g ps [] sp)
    (hr : Room j X.A) (hx : Passes CX X E) (hkj : k + 2 ≤ j) (ry : RelV y u) (h : sp [.ref a, y] H (fun _ H' => Q H') E) :
    wpAny (model X.prog X.w) X.A (setAttr (.ref a) f u) (fun _ s' => ∃ H', Inv X pins σ H' s' ∧ Q H') X.xe s := by
  obtain ⟨ox, od, J⟩ := ins_at I ea
  obtain ⟨g0, rest, hrec⟩ := hp.rec_
  have I1 := I.tok (s.toks + 1)
  have tk : PySem.W.takerIn X.K C f = some (some (.ref p)) := by
    unfold PySem.W.takerIn
    rw [hp.at_]
    show (PySem.W.takesIn X.K (.ref p)).map _ = _
    rw [hp.tak]
    rfl
  obtain ⟨dp, sl, ho⟩ := PySem.W.rec_of (h := s.heap) I.kIn hrec
  refine PySem.W.set_plain I.kIn J c.sa (PySem.W.osa_open (s := { s with toks := s.toks + 1 }) I1.kIn J c.po tk fun b => ?_)
  unfold PySem.Builtin.ObjectAttr.setByDescriptor
  refine wpAny_bind (wpAny_rule ?_)
  have rm : Room k X.A.in1.in1 := Room.in1 (Room.in1 (hr.mono hkj))
  refine wpAny_bind (wpAny_holding (wpAny_callSpecial?_slot (T := "property") ⟨_, ho, rfl⟩ slot_pset (wpAny_call (prop_set I1.kIn hrec ?_))))
  refine wpAny_mono (run_at (vs := [.ref a, y]) (us := [.ref a, u]) (Q := fun _ H' => Q H') G rm I1.env0.in1.in1 hx I1 (.cons rfl (.cons ry .nil)) h) (fun z s' q => ?_) fun _ _ z => z
  obtain ⟨_, H', I', _, q⟩ := q
  exact wpAny_pure ⟨H', I', q⟩
def sFldP (C : Addr) (sp : Sp) (E : XK) (ta tv : TE) : TS := fun D σ H => tv σ H fun y H1 => ta σ H1 fun x H2 => ∃ a dx fs, x = .ref a ∧ H2 a = some (.ins C dx fs) ∧ sp [.ref a, y] H2 (fun _ H' => D.nx σ H') E
theorem ps_fldP (ha : PE X o ta) (hv : PE X value tv) (c : Cls X.K C) (hp : SetX X.K C f p g) (G : Has X.prog X.w X.K X.mg X.base CX k g ps [] sp) (hr : Room j X.A) (hx : Passes CX X E) (hkj : k + 2 ≤ j := by decide)
    (hs : swapsWith value (some (.Attribute o f pos')) pos.line X.env = pure false := by rfl) : PS X (.Assign [.Attribute o f pos'] value pos) (sFldP C sp E ta tv) := by
  refine ⟨fun pins s σ H D I h => ?_⟩
  refine plainObj_wpAny_Assign_Attribute (thn (hv.run pins s σ H _ I h) fun u s1 z => ?_) hs
  obtain ⟨y, H1, I1, ry, q⟩ := z
  refine thn (ha.run pins s1 σ H1 _ I1 q) fun ov s2 z => ?_
  obtain ⟨x, H2, I2, rx, a, dx, fs, rfl, ea, q2⟩ := z
  cases rx
  refine wpAny_mono (setprop_ok (Q := fun H' => D.nx σ H') I2 ea c hp G hr hx hkj ry q2) (fun _ s3 z => ?_) fun _ _ z => z
  obtain ⟨H3, I3, q3⟩ := z
  exact ⟨σ, H3, I3, q3⟩
end
def propF (C f : Str) : Fct := fun K => (decide (PySem.W.findIn K (.ref (He.ga K C)) f = some (some (.ref (He.ma K (He.ga K C) f)))) && decide (PySem.W.specialIn K (.ref (He.ma K (He.ga K C) f)) "__get__" = some (some (.builtin "property.__get__")))) &&
  (decide (PySem.W.takesIn K (.ref (He.ma K (He.ga K C) f)) = some true) && (match PySem.W.recIn K (He.ma K (He.ga K C) f) "property" with
    | some (.ref _ :: _) => true
    | _ => false))
theorem propF_ok {C f : Str} {K : PySem.W.Frag} (h : propF C f K = true) : PropX K (He.ga K C) f (He.ma K (He.ga K C) f) (pgA C f K) := by
  obtain ⟨h1, h2⟩ := Bool.and_eq_true_iff.mp h
  obtain ⟨a1, a2⟩ := Bool.and_eq_true_iff.mp h1
  obtain ⟨a3, a4⟩ := Bool.and_eq_true_iff.mp h2
  refine ⟨of_decide_eq_true a1, of_decide_eq_true a2, of_decide_eq_true a3, ?_⟩
  unfold pgA
  split at a4
  · rename_i g rest e
    rw [e]
    exact ⟨rest, rfl⟩
  · cases a4
def setpF (C f : Str) : Fct := fun K => (decide (PySem.W.findIn K (.ref (He.ga K C)) f = some (some (.ref (He.ma K (He.ga K C) f)))) && decide (PySem.W.typeIn K (.ref (He.ma K (He.ga K C) f)) = some (.type "property"))) &&
  (decide (PySem.W.takesIn K (.ref (He.ma K (He.ga K C) f)) = some true) && (match PySem.W.recIn K (He.ma K (He.ga K C) f) "property" with
    | some (_ :: .ref _ :: _) => true
    | _ => false))
theorem setpF_ok {C f : Str} {K : PySem.W.Frag} (h : setpF C f K = true) : SetX K (He.ga K C) f (He.ma K (He.ga K C) f) (psA C f K) := by
  obtain ⟨h1, h2⟩ := Bool.and_eq_true_iff.mp h
  obtain ⟨a1, a2⟩ := Bool.and_eq_true_iff.mp h1
  obtain ⟨a3, a4⟩ := Bool.and_eq_true_iff.mp h2
  refine ⟨of_decide_eq_true a1, of_decide_eq_true a3, of_decide_eq_true a2, ?_⟩
  unfold psA
  split at a4
  · rename_i g0 g rest e
    rw [e]
    exact ⟨g0, rest, rfl⟩
  · cases a4
end Rg
namespace Rg
open PySem PySem.Spec PyProof.Rows L2
/-! GEN I: try, what was caught, a def held by a name, zip. -/
section
variable {X : Cx} {CX : CXT} {k j i : Nat} {f C : Addr} {ps : List Str} {sp : Sp} {dvs : List V} {E : XK} {x m : Str} {p pos apos : Pos} {e o : Expr} {es : List Expr} {ta : TE} {t : TA} {W : WX}
theorem takes_no : Takes X (fun _ _ _ _ => False) := fun _ _ z => by
  obtain ⟨_, _, _, _, _, _, _, _, _, _, _, _, _, _, _, _, w⟩ := z
  exact w.elim
theorem names_ref {c : Addr} (hm : X.mg x = some (.ref c)) (hg : Gl X x := by rfl) (hdb : (x == ("__debug__" : Str)) = false := by decide) : Names X x (.ref c) := ⟨hg, hdb, .inl hm⟩
/-- f(e, ..), f a name's def; what is raised is wished for at the caller's slots -/
def tCallU (i : Nat) (S : Addr → Sp → Prop) (W : WX) (t : TA) : TE := fun σ H Q => ∃ f sp, σ[i]? = some (some (.ref f)) ∧ S f sp ∧ t σ H fun vs H1 => sp vs H1 Q (WE W σ)
theorem pe_callU {S : Addr → Sp → Prop} (hS : ∀ f sp, S f sp → ∃ ps, Has X.prog X.w X.K X.mg X.base (L2.CX X.prog X.w) k f ps [] sp) (hr : Room j X.A) (tk : Takes X W) (ha : PA X (e :: es) t) (hkj : k ≤ j := by decide)
    (hN : X.N[i]? = some x := by rfl) (hv : Vis X.env.scope x := by first | exact Or.inl rfl | exact Or.inr (Or.inl rfl) | exact Or.inr (Or.inr rfl))
    (hdb : (x == ("__debug__" : Str)) = false := by decide) (hcd : (x == ("__classdict__" : Str)) = false := by decide)
    (he : starEach (e :: es) X.env = (false, eval e X.env) :: starEach es X.env := by rfl) (hpl : (backTo pos (starEach es X.env)).any (·.1) = false := by rfl) : PE X (.Call (.Name x p) (e :: es) [] pos) (tCallU i S W t) := by
  refine ⟨fun pins s σ H Q I h => ?_⟩
  obtain ⟨f, sp, hs, hSf, ht⟩ := h
  obtain ⟨ps, G⟩ := hS f sp hSf
  obtain ⟨fd, ds, F, hb, hd⟩ := G.ex
  refine wpAny_Call_Name_kw (thn ((pe_var (pos := p) hN hv hdb hcd).run pins s σ H (fun v H1 => v = .ref f ∧ H1 = H) I ⟨.ref f, hs, rfl, rfl⟩) fun u s1 ⟨v, H1, I1, r1, q1⟩ => ?_)
  obtain ⟨rfl, rfl⟩ := q1
  cases r1
  refine PySem.W.callWith_K (h₀ := X.base) I.ok.mod.kin G.kp (thn (ha.run pos pins s1 σ _ _ I1 ht) fun us s2 ⟨vs, H2, I2, r, q⟩ => ⟨I2.kIn, ?_⟩) he hpl
  exact run_fnSD (E := WE W) F (hr.mono hkj) hb hd (passAt tk σ) I2 r (by rw [List.append_nil]; exact q)
/-- isinstance of what the suite holds -/
def rIsX (K : PySem.W.Frag) (cls : Value) (d : Option Addr) (a : Addr) : List V → Hp → VK → Prop := fun xs H Q => ∃ D, cls = .ref D ∧ d = none ∧ ExcC K D ∧ rIsE K D a xs H Q
theorem call_isX {a : Addr} {oe : Obj} {pn : List (Addr × Obj)} {cls : Value} {d : Option Addr} (hz : Zc cls d oe) (hf : ∃ vs, oe.data = .fields vs) : CallR (X.suite a ((a, oe) :: pn)) (.builtin "isinstance") (rIsX X.K cls d a) := by
  intro pins s σ H xs us Q I r h
  obtain ⟨D, rfl, rfl, C, h⟩ := h
  exact call_isE C hz hf pins s σ H xs us Q I r h
theorem op_or {op : Value → Value → Sem Value} {r1 r2 : R2} (h1 : OpR X op r1) (h2 : OpR X op r2) : OpR X op (fun x y H Q => r1 x y H Q ∨ r2 x y H Q) := by
  intro pins s σ H x y v u Q I rx ry h
  rcases h with h | h
  · exact h1 pins s σ H x y v u Q I rx ry h
  · exact h2 pins s σ H x y v u Q I rx ry h
end
/-! ### what the head says of error classes -/
def xccF (C : Str) : Fct := fun K => ((decide (PySem.W.findIn K (.ref (He.ga K C)) "__getattribute__" = some (some (.builtin "BaseException.__getattribute__"))) && decide (PySem.W.findIn K (.ref (He.ga K C)) "__getattr__" = some none)) &&
  (decide (PySem.W.subIn K (.ref (He.ga K C)) (.type "BaseException") = some true) && PySem.W.hasDictIn K (He.ga K C))) &&
  ((decide (PySem.W.findIn K (.ref (He.ga K C)) "__class__" = some (some (.builtin "object.__class__"))) && decide (PySem.W.specialIn K (.builtin "object.__class__") "__get__" = some (some (.builtin "getset_descriptor.__get__")))) &&
  (decide (PySem.W.takesIn K (.builtin "object.__class__") = some true) && decide (PySem.W.mroIn K (He.ga K C) (.type "object") = some true)))
theorem xccF_ok {C : Str} {K : PySem.W.Frag} (h : xccF C K = true) : ExcC K (He.ga K C) := by
  unfold xccF at h
  simp only [Bool.and_eq_true, decide_eq_true_eq] at h
  obtain ⟨⟨⟨h1, h2⟩, h3, h4⟩, ⟨h5, h6⟩, h7, h8⟩ := h
  exact ⟨h1, h2, h3, h4, h5, h6, h7, h8⟩
/-- of which class is an instance of C -/
def kitF (C D : Str) (b : Bool) : Fct := fun K => decide (PySem.W.kitOne K (.ref (He.ga K C)) (.ref (He.ga K D)) = some b)
theorem kitF_ok {C D : Str} {b : Bool} {K : PySem.W.Frag} (h : kitF C D b K = true) : PySem.W.kitOne K (.ref (He.ga K C)) (.ref (He.ga K D)) = some b := of_decide_eq_true h
def kitTF (C : Str) (D : String) (b : Bool) : Fct := fun K => decide (PySem.W.kitOne K (.ref (He.ga K C)) (.type D) = some b)
theorem kitTF_ok {C : Str} {D : String} {b : Bool} {K : PySem.W.Frag} (h : kitTF C D b K = true) : PySem.W.kitOne K (.ref (He.ga K C)) (.type D) = some b := of_decide_eq_true h
def exmF (C D : Str) (b : Bool) : Fct := fun K => decide (PySem.W.exmOne K (.ref (He.ga K C)) (.ref (He.ga K D)) = some b)
theorem exmF_ok {C D : Str} {b : Bool} {K : PySem.W.Frag} (h : exmF C D b K = true) : PySem.W.exmOne K (.ref (He.ga K C)) (.ref (He.ga K D)) = some b := of_decide_eq_true h
/-! ### [x for x, y in zip(xs, ys) if y] -/
theorem lc_zip {K : PySem.W.Frag} {a b : Addr} {xs ys : List V} {g : TG} {tt : TT} {te : TE} {vs : List Nat} {σ : L2.St} {H1 : Hp} {D : Addr} {Qd : Hp → Prop} (hl : xs.length = ys.length) (Pv : Nat → Hp → Prop) (h0 : Pv 0 (L2.upd H1 D (.lst [])))
    (hq : ∀ i H, Pv i H → SqL K H a xs ∧ SqL K H b ys)
    (hs : ∀ (i : Nat) (x y : V) (T : Addr) (H : Hp), xs[i]? = some x → ys[i]? = some y → Pv i H → H T = none → g (.ref T) (wipe σ vs) (L2.upd H T (.tup [x, y])) fun σ2 H2 => wipe σ2 vs = wipe σ vs ∧ tt σ2 H2 fun b H3 =>
      if b = true then te σ2 H3 fun y H4 => ∃ acc, H4 D = some (.lst acc) ∧ acc.length < sizeLine ∧ Pv (i + 1) (L2.upd H4 D (.lst (acc ++ [y]))) else Pv (i + 1) H3) (hd : ∀ H, Pv xs.length H → Qd H) :
    ∃ W : Nat → Nat → Hp → Prop, (∃ m, W 0 m (L2.upd H1 D (.lst []))) ∧ ∀ i m H, W i m H →
      ((Itz K a b).stop i H ∧ Qd H) ∨ ((Itz K a b).go i H ∧ ∃ Nx : Hp → Prop, (∀ H', Nx H' → ∃ m', m' < m ∧ W (i + 1) m' H') ∧ ∀ x H', (Itz K a b).yld i H x H' → g x (wipe σ vs) H' fun σ2 H2 => wipe σ2 vs = wipe σ vs ∧ tt σ2 H2 fun b H3 =>
        if b = true then te σ2 H3 fun y H4 => ∃ acc, H4 D = some (.lst acc) ∧ acc.length < sizeLine ∧ Nx (L2.upd H4 D (.lst (acc ++ [y]))) else Nx H3) := by
  refine ⟨fun i m H => m = xs.length - i ∧ i ≤ xs.length ∧ Pv i H, ⟨xs.length, rfl, Nat.zero_le _, h0⟩, ?_⟩
  rintro i m H ⟨rfl, hi, p⟩
  obtain ⟨q1, q2⟩ := hq i H p
  by_cases hlt : i < xs.length
  · have hlt2 : i < ys.length := by omega
    refine .inr ⟨⟨xs, ys, xs[i], ys[i], q1, q2, by simp [hlt], by simp [hlt2]⟩, Pv (i + 1), fun H' p' => ⟨xs.length - (i + 1), by omega, rfl, hlt, p'⟩, fun v H' y => ?_⟩
    obtain ⟨T, x, y, rfl, nT, rfl, e1, e2⟩ := y
    exact hs i x y T H (e1 xs q1) (e2 ys q2) p nT
  · have e : i = xs.length := by omega
    subst e
    exact .inl ⟨⟨xs, ys, q1, q2, .inl (Nat.le_refl _)⟩, hd H p⟩
theorem lc_zipB {K : PySem.W.Frag} {a b : Addr} {xs : List V} {bs : List Bool} {i j : Nat} {vs : List Nat} {σ : L2.St} {H1 : Hp} {D : Addr} {Qd : Hp → Prop} (nD : H1 D = none) (hl : xs.length = bs.length) (hz : xs.length ≤ 1000) (hS : SqL K H1 a xs) (hB : SqL K H1 b (bs.map V.bl))
    (hw : ∀ x y : V, wipe (((wipe σ vs).set i (some x)).set j (some y)) vs = wipe σ vs) (hi : ∀ x y : V, (((wipe σ vs).set i (some x)).set j (some y))[i]? = some (some x)) (hj : ∀ x y : V, (((wipe σ vs).set i (some x)).set j (some y))[j]? = some (some y))
    (hd : ∀ H, Same H1 H → H D = some (.lst (((xs.zip bs).filter (·.2)).map (·.1))) → Qd H) :
    ∃ W : Nat → Nat → Hp → Prop, (∃ m, W 0 m (L2.upd H1 D (.lst []))) ∧ ∀ n m H, W n m H →
      ((Itz K a b).stop n H ∧ Qd H) ∨ ((Itz K a b).go n H ∧ ∃ Nx : Hp → Prop, (∀ H', Nx H' → ∃ m', m' < m ∧ W (n + 1) m' H') ∧ ∀ x H', (Itz K a b).yld n H x H' → gTup K 2 (gCons (gName i) (gCons (gName j) gNil)) x (wipe σ vs) H' fun σ2 H2 => wipe σ2 vs = wipe σ vs ∧ tB (tVar j) σ2 H2 fun b H3 =>
        if b = true then tVar i σ2 H3 fun y H4 => ∃ acc, H4 D = some (.lst acc) ∧ acc.length < sizeLine ∧ Nx (L2.upd H4 D (.lst (acc ++ [y]))) else Nx H3) := by
  refine lc_zip (xs := xs) (ys := bs.map V.bl) (by rw [List.length_map, hl]) (fun n H => Same H1 H ∧ H D = some (.lst ((((xs.zip bs).take n).filter (·.2)).map (·.1)))) ⟨Same.new nD, upd_same⟩ (fun n H z => ⟨z.1.seq hS, z.1.seq hB⟩) (fun n x y T H hx hy z nT => ?_) fun H z => hd H z.1 ?_
  · obtain ⟨sm, hD⟩ := z
    rw [List.getElem?_map] at hy
    obtain ⟨c, hc, rfl⟩ := Option.map_eq_some_iff.mp hy
    have hn : n < xs.length := (List.getElem?_eq_some_iff.mp hx).1
    have hzp : (xs.zip bs)[n]? = some (x, c) := by rw [List.getElem?_zip_eq_some]; exact ⟨hx, hc⟩
    refine ⟨T, _, rfl, SqT.of upd_same, rfl, x, _, rfl, _, _, rfl, rfl, hw _ _, _, hj _ _, c, rfl, ?_⟩
    have s2 : Same H (L2.upd H T (.tup [x, .bl c])) := Same.new nT
    cases c with
    | true =>
      refine iteT ?_
      refine ⟨_, hi _ _, _, s2 _ _ hD, ?_, Same.mut (sm.trans s2) nD, ?_⟩
      · rw [List.length_map]
        have := List.length_filter_le (fun p : V × Bool => p.2) ((xs.zip bs).take n)
        rw [List.length_take] at this
        exact Nat.lt_of_le_of_lt this (Nat.lt_of_le_of_lt (Nat.min_le_left _ _) (Nat.lt_trans hn (Nat.lt_of_le_of_lt hz (by decide))))
      · rw [upd_same, List.take_add_one, hzp]
        simp
    | false =>
      refine iteF ?_
      refine ⟨sm.trans s2, ?_⟩
      rw [s2 _ _ hD, List.take_add_one, hzp]
      simp
  · rw [z.2, List.take_of_length_le (by rw [List.length_zip]; omega)]
/-- a loop over a list whose body leaves what stood -/
theorem for_each {K : PySem.W.Frag} {a : Addr} {xs : List V} {i : Nat} {tb : TS} {D : Ends} {σ : L2.St} {H : Hp} (hl : SqL K H a xs) (u0 : Option V) (h0 : σ = σ.set i u0)
    (hs : ∀ (u : Option V) (x : V) (H' : Hp), x ∈ xs → Same H H' → tb { D with nx := fun σ' H9 => (∃ u, σ' = σ.set i u) ∧ Same H H9, ct := fun σ' H9 => (∃ u, σ' = σ.set i u) ∧ Same H H9, bk := D.nx } (σ.set i (some x)) H') (hd : ∀ u H', Same H H' → D.nx (σ.set i u) H') :
    ∃ W : Nat → Nat → L2.St → Hp → Prop, (∃ m, W 0 m σ H) ∧ ∀ j m σ H, W j m σ H →
      ((Itl K a).stop j H ∧ D.nx σ H) ∨ ((Itl K a).go j H ∧ ∃ N : L2.St → Hp → Prop, (∀ σ' H', N σ' H' → ∃ m', m' < m ∧ W (j + 1) m' σ' H') ∧ ∀ x H', (Itl K a).yld j H x H' → gName i x σ H' fun σ2 H2 => tb { D with nx := N, ct := N, bk := D.nx } σ2 H2) := by
  refine for_list (xs := xs) (fun _ σ' H' => (∃ u, σ' = σ.set i u) ∧ Same H H') ⟨⟨u0, h0⟩, Same.refl _⟩ (fun _ _ _ _ z => z.2.seq hl) (fun j x σ' H' hx z => ?_) (fun σ' H' z => ?_)
  · obtain ⟨⟨u, rfl⟩, s⟩ := z
    show tb _ ((σ.set i u).set i (some x)) H'
    rw [List.set_set]
    exact hs u x H' (List.mem_of_getElem? hx) s
  · obtain ⟨⟨u, rfl⟩, s⟩ := z
    exact hd u H' s
theorem tyx_same {K : PySem.W.Frag} {H H' : Hp} {v : V} {t : Value} (h : TyX K H v t) (s : Same H H') : TyX K H' v t := by
  cases h with
  | base b =>
    refine .base ?_
    cases b with
    | non => exact .non
    | bl x => exact .bl x
    | int x => exact .int x
    | str x => exact .str x
    | flt x => exact .flt x
    | lst e => exact .lst (s _ _ e)
    | frz e => exact .frz (s _ _ e)
    | tup e => exact .tup (s _ _ e)
    | dK e => exact .dK (s _ _ e)
    | dT e => exact .dT (s _ _ e)
    | ins e cl ha hn htk hm => exact .ins (s _ _ e) cl ha hn htk hm
  | byt b => exact .byt b
  | set e => exact .set (s _ _ e)
  | kList e c => exact .kList e c
  | kTuple e c => exact .kTuple e c
  | kDict e c => exact .kDict e c
  | fTuple e => exact .fTuple (s _ _ e)
  | fDict e => exact .fDict (s _ _ e)
theorem NW.same {K : PySem.W.Frag} {H H' : Hp} {v : V} (h : NW K H v) (s : Same H H') : NW K H' v := by
  obtain ⟨t, i, b, ty, z⟩ := h
  exact ⟨t, i, b, tyx_same ty s, z⟩
end Rg
namespace Lw
open PySem PySem.Spec PyProof.Rows L2 Rg
def top (i : Nat) : Stmt := PySem.Challenge.pw_ringindexes_k06_counters_refused.main.body.getD i (.Pass ⟨0, 0, 0, 0⟩)
abbrev s_is_whole : Stmt := top 12
abbrev s_is_between : Stmt := top 13
abbrev s_whole_of : Stmt := top 17
abbrev s_divisor_of : Stmt := top 18
abbrev s__law_source : Stmt := top 20
abbrev s__law_draw : Stmt := top 21
abbrev s__law_pick : Stmt := top 22
abbrev s__law_caught : Stmt := top 23
abbrev s__law_made : Stmt := top 24
abbrev s__law_sum : Stmt := top 25
abbrev s__law_difference : Stmt := top 26
abbrev s__law_more : Stmt := top 27
abbrev s__law_less : Stmt := top 28
abbrev s__law_rest : Stmt := top 29
abbrev s__law_parts : Stmt := top 30
abbrev s__law_masked : Stmt := top 31
abbrev s__law_change : Stmt := top 32
abbrev s_law : Stmt := top 33
abbrev s_Counter___init__ : Stmt := inClass (top 16) 0
abbrev s_Counter_change : Stmt := inClass (top 16) 3
abbrev s_Counter___add__ : Stmt := inClass (top 16) 4
abbrev s_Counter___radd__ : Stmt := inClass (top 16) 5
abbrev s_Counter___sub__ : Stmt := inClass (top 16) 6
abbrev s_Counter___iadd__ : Stmt := inClass (top 16) 7
abbrev s_Counter___isub__ : Stmt := inClass (top 16) 8
abbrev s_Counter___mod__ : Stmt := inClass (top 16) 9
abbrev s_Counter___floordiv__ : Stmt := inClass (top 16) 10
abbrev s_Counter___and__ : Stmt := inClass (top 16) 11
abbrev s_Counter___eq__ : Stmt := inClass (top 16) 12
abbrev s_Counter_value : Stmt := inClass (top 16) 1
abbrev s_Counter_value_set : Stmt := inClass (top 16) 2
def d_is_whole : DefM := ⟨fun K => He.ga K "is_whole", "is_whole", "is_whole", defArgs s_is_whole, defBody s_is_whole, defScope s_is_whole, [], []⟩
def d_is_between : DefM := ⟨fun K => He.ga K "is_between", "is_between", "is_between", defArgs s_is_between, defBody s_is_between, defScope s_is_between, [], []⟩
def d_whole_of : DefM := ⟨fun K => He.ga K "whole_of", "whole_of", "whole_of", defArgs s_whole_of, defBody s_whole_of, defScope s_whole_of, [], []⟩
def d_divisor_of : DefM := ⟨fun K => He.ga K "divisor_of", "divisor_of", "divisor_of", defArgs s_divisor_of, defBody s_divisor_of, defScope s_divisor_of, [], []⟩
def d__law_source : DefM := ⟨fun K => He.ga K "_law_source", "_law_source", "_law_source", defArgs s__law_source, defBody s__law_source, defScope s__law_source, [], []⟩
def d__law_draw : DefM := ⟨fun K => He.ga K "_law_draw", "_law_draw", "_law_draw", defArgs s__law_draw, defBody s__law_draw, defScope s__law_draw, [], []⟩
def d__law_pick : DefM := ⟨fun K => He.ga K "_law_pick", "_law_pick", "_law_pick", defArgs s__law_pick, defBody s__law_pick, defScope s__law_pick, [], []⟩
def d__law_caught : DefM := ⟨fun K => He.ga K "_law_caught", "_law_caught", "_law_caught", defArgs s__law_caught, defBody s__law_caught, defScope s__law_caught, [], []⟩
def d__law_made : DefM := ⟨fun K => He.ga K "_law_made", "_law_made", "_law_made", defArgs s__law_made, defBody s__law_made, defScope s__law_made, [], []⟩
def d__law_sum : DefM := ⟨fun K => He.ga K "_law_sum", "_law_sum", "_law_sum", defArgs s__law_sum, defBody s__law_sum, defScope s__law_sum, [], []⟩
def d__law_difference : DefM := ⟨fun K => He.ga K "_law_difference", "_law_difference", "_law_difference", defArgs s__law_difference, defBody s__law_difference, defScope s__law_difference, [], []⟩
def d__law_more : DefM := ⟨fun K => He.ga K "_law_more", "_law_more", "_law_more", defArgs s__law_more, defBody s__law_more, defScope s__law_more, [], []⟩
def d__law_less : DefM := ⟨fun K => He.ga K "_law_less", "_law_less", "_law_less", defArgs s__law_less, defBody s__law_less, defScope s__law_less, [], []⟩
def d__law_rest : DefM := ⟨fun K => He.ga K "_law_rest", "_law_rest", "_law_rest", defArgs s__law_rest, defBody s__law_rest, defScope s__law_rest, [], []⟩
def d__law_parts : DefM := ⟨fun K => He.ga K "_law_parts", "_law_parts", "_law_parts", defArgs s__law_parts, defBody s__law_parts, defScope s__law_parts, [], []⟩
def d__law_masked : DefM := ⟨fun K => He.ga K "_law_masked", "_law_masked", "_law_masked", defArgs s__law_masked, defBody s__law_masked, defScope s__law_masked, [], []⟩
def d__law_change : DefM := ⟨fun K => He.ga K "_law_change", "_law_change", "_law_change", defArgs s__law_change, defBody s__law_change, defScope s__law_change, [], []⟩
def d_law : DefM := ⟨fun K => He.ga K "law", "law", "law", defArgs s_law, defBody s_law, defScope s_law, [], []⟩
def d_Counter___init__ : DefM := ⟨fun K => He.ma K (He.ga K "Counter") "__init__", "__init__", "Counter.__init__", defArgs s_Counter___init__, defBody s_Counter___init__, defScope s_Counter___init__, [.int 0], []⟩
def d_Counter_change : DefM := ⟨fun K => He.ma K (He.ga K "Counter") "change", "change", "Counter.change", defArgs s_Counter_change, defBody s_Counter_change, defScope s_Counter_change, [], []⟩
def d_Counter___add__ : DefM := ⟨fun K => He.ma K (He.ga K "Counter") "__add__", "__add__", "Counter.__add__", defArgs s_Counter___add__, defBody s_Counter___add__, defScope s_Counter___add__, [], []⟩
def d_Counter___radd__ : DefM := ⟨fun K => He.ma K (He.ga K "Counter") "__radd__", "__radd__", "Counter.__radd__", defArgs s_Counter___radd__, defBody s_Counter___radd__, defScope s_Counter___radd__, [], []⟩
def d_Counter___sub__ : DefM := ⟨fun K => He.ma K (He.ga K "Counter") "__sub__", "__sub__", "Counter.__sub__", defArgs s_Counter___sub__, defBody s_Counter___sub__, defScope s_Counter___sub__, [], []⟩
def d_Counter___iadd__ : DefM := ⟨fun K => He.ma K (He.ga K "Counter") "__iadd__", "__iadd__", "Counter.__iadd__", defArgs s_Counter___iadd__, defBody s_Counter___iadd__, defScope s_Counter___iadd__, [], []⟩
def d_Counter___isub__ : DefM := ⟨fun K => He.ma K (He.ga K "Counter") "__isub__", "__isub__", "Counter.__isub__", defArgs s_Counter___isub__, defBody s_Counter___isub__, defScope s_Counter___isub__, [], []⟩
def d_Counter___mod__ : DefM := ⟨fun K => He.ma K (He.ga K "Counter") "__mod__", "__mod__", "Counter.__mod__", defArgs s_Counter___mod__, defBody s_Counter___mod__, defScope s_Counter___mod__, [], []⟩
def d_Counter___floordiv__ : DefM := ⟨fun K => He.ma K (He.ga K "Counter") "__floordiv__", "__floordiv__", "Counter.__floordiv__", defArgs s_Counter___floordiv__, defBody s_Counter___floordiv__, defScope s_Counter___floordiv__, [], []⟩
def d_Counter___and__ : DefM := ⟨fun K => He.ma K (He.ga K "Counter") "__and__", "__and__", "Counter.__and__", defArgs s_Counter___and__, defBody s_Counter___and__, defScope s_Counter___and__, [], []⟩
def d_Counter___eq__ : DefM := ⟨fun K => He.ma K (He.ga K "Counter") "__eq__", "__eq__", "Counter.__eq__", defArgs s_Counter___eq__, defBody s_Counter___eq__, defScope s_Counter___eq__, [], []⟩
def d_Counter_value : DefM := ⟨pgA "Counter" "value", "value", "Counter.value", defArgs s_Counter_value, defBody s_Counter_value, defScope s_Counter_value, [], []⟩
def d_Counter_value_set : DefM := ⟨psA "Counter" "value", "value", "Counter.value", defArgs s_Counter_value_set, defBody s_Counter_value_set, defScope s_Counter_value_set, [], []⟩
def fnL : List DefM := [d_is_whole, d_is_between, d_whole_of, d_divisor_of, d__law_source, d__law_draw, d__law_pick, d__law_caught, d__law_made, d__law_sum, d__law_difference, d__law_more, d__law_less, d__law_rest, d__law_parts, d__law_masked, d__law_change, d_law, d_Counter___init__, d_Counter_change, d_Counter___add__, d_Counter___radd__, d_Counter___sub__, d_Counter___iadd__, d_Counter___isub__, d_Counter___mod__, d_Counter___floordiv__, d_Counter___and__, d_Counter___eq__, d_Counter_value, d_Counter_value_set]
def faL : List Fct := [(He.Fa.glo "is_whole").ok,
  (He.Fa.glo "is_between").ok,
  (He.Fa.glo "whole_of").ok,
  (He.Fa.glo "divisor_of").ok,
  (He.Fa.glo "_law_source").ok,
  (He.Fa.glo "_law_draw").ok,
  (He.Fa.glo "_law_pick").ok,
  (He.Fa.glo "_law_caught").ok,
  (He.Fa.glo "_law_made").ok,
  (He.Fa.glo "_law_sum").ok,
  (He.Fa.glo "_law_difference").ok,
  (He.Fa.glo "_law_more").ok,
  (He.Fa.glo "_law_less").ok,
  (He.Fa.glo "_law_rest").ok,
  (He.Fa.glo "_law_parts").ok,
  (He.Fa.glo "_law_masked").ok,
  (He.Fa.glo "_law_change").ok,
  (He.Fa.glo "law").ok,
  (He.Fa.free "len").ok,
  (He.Fa.free "range").ok,
  (He.Fa.free "max").ok,
  (He.Fa.free "min").ok,
  (He.Fa.free "abs").ok,
  (He.Fa.free "int").ok,
  (He.Fa.free "bool").ok,
  (He.Fa.free "isinstance").ok,
  (He.Fa.free "str").ok,
  (He.Fa.free "zip").ok,
  (He.Fa.free "ValueError").ok,
  (He.Fa.glo "Counter").ok,
  (He.Fa.cls "Counter").ok,
  (He.Fa.noat "Counter" "modulus").ok,
  (He.Fa.noat "Counter" "own_value").ok,
  (He.Fa.mkr "Counter").ok,
  (He.Fa.meth "Counter" "change").ok,
  (He.Fa.meth "Counter" "__add__").ok,
  (He.Fa.meth "Counter" "__radd__").ok,
  (He.Fa.meth "Counter" "__sub__").ok,
  (He.Fa.meth "Counter" "__iadd__").ok,
  (He.Fa.meth "Counter" "__isub__").ok,
  (He.Fa.meth "Counter" "__mod__").ok,
  (He.Fa.meth "Counter" "__floordiv__").ok,
  (He.Fa.meth "Counter" "__and__").ok,
  (He.Fa.meth "Counter" "__eq__").ok,
  (He.Fa.int "LARGEST_MODULUS" (10 ^ 40)).ok,
  insF "Counter",
  (He.Fa.exc "NoCounter").ok,
  (He.Fa.glo "NoCounter").ok,
  propF "Counter" "value",
  setpF "Counter" "value",
  binF "Counter" .Add,
  binF "Counter" .Sub,
  binF "Counter" .Mod,
  binF "Counter" .FloorDiv,
  binF "Counter" .BitAnd,
  refF "Counter" .Add,
  inpF "Counter" .Add,
  inpF "Counter" .Sub,
  cmpF "Counter" .Eq,
  (He.Fa.glo "NoForm").ok,
  (He.Fa.glo "NoScheme").ok,
  (He.Fa.glo "NoSize").ok,
  (He.Fa.glo "NoRing").ok,
  (He.Fa.glo "Outside").ok,
  (He.Fa.glo "NoRun").ok,
  (He.Fa.glo "NoSet").ok,
  (He.Fa.glo "TooLong").ok,
  (He.Fa.glo "RingError").ok,
  xccF "NoCounter",
  kitTF "NoCounter" "ValueError" true,
  exmF "NoCounter" "RingError" true,
  kitF "NoCounter" "NoForm" false,
  kitF "NoCounter" "NoCounter" true,
  kitF "NoCounter" "NoScheme" false,
  kitF "NoCounter" "NoSize" false,
  kitF "NoCounter" "NoRing" false,
  kitF "NoCounter" "Outside" false,
  kitF "NoCounter" "NoRun" false,
  kitF "NoCounter" "NoSet" false,
  kitF "NoCounter" "TooLong" false]
abbrev TopL (K : PySem.W.Frag) (mg : Str → Option Value) : Prop := Top faL fnL K mg
section
variable {K : PySem.W.Frag} {mg : Str → Option Value}
theorem mg_is_whole (T : TopL K mg) : mg "is_whole" = some (.ref (He.ga K "is_whole")) := T.glo 0 rfl
theorem mg_is_between (T : TopL K mg) : mg "is_between" = some (.ref (He.ga K "is_between")) := T.glo 1 rfl
theorem mg_whole_of (T : TopL K mg) : mg "whole_of" = some (.ref (He.ga K "whole_of")) := T.glo 2 rfl
theorem mg_divisor_of (T : TopL K mg) : mg "divisor_of" = some (.ref (He.ga K "divisor_of")) := T.glo 3 rfl
theorem mg__law_source (T : TopL K mg) : mg "_law_source" = some (.ref (He.ga K "_law_source")) := T.glo 4 rfl
theorem mg__law_draw (T : TopL K mg) : mg "_law_draw" = some (.ref (He.ga K "_law_draw")) := T.glo 5 rfl
theorem mg__law_pick (T : TopL K mg) : mg "_law_pick" = some (.ref (He.ga K "_law_pick")) := T.glo 6 rfl
theorem mg__law_caught (T : TopL K mg) : mg "_law_caught" = some (.ref (He.ga K "_law_caught")) := T.glo 7 rfl
theorem mg__law_made (T : TopL K mg) : mg "_law_made" = some (.ref (He.ga K "_law_made")) := T.glo 8 rfl
theorem mg__law_sum (T : TopL K mg) : mg "_law_sum" = some (.ref (He.ga K "_law_sum")) := T.glo 9 rfl
theorem mg__law_difference (T : TopL K mg) : mg "_law_difference" = some (.ref (He.ga K "_law_difference")) := T.glo 10 rfl
theorem mg__law_more (T : TopL K mg) : mg "_law_more" = some (.ref (He.ga K "_law_more")) := T.glo 11 rfl
theorem mg__law_less (T : TopL K mg) : mg "_law_less" = some (.ref (He.ga K "_law_less")) := T.glo 12 rfl
theorem mg__law_rest (T : TopL K mg) : mg "_law_rest" = some (.ref (He.ga K "_law_rest")) := T.glo 13 rfl
theorem mg__law_parts (T : TopL K mg) : mg "_law_parts" = some (.ref (He.ga K "_law_parts")) := T.glo 14 rfl
theorem mg__law_masked (T : TopL K mg) : mg "_law_masked" = some (.ref (He.ga K "_law_masked")) := T.glo 15 rfl
theorem mg__law_change (T : TopL K mg) : mg "_law_change" = some (.ref (He.ga K "_law_change")) := T.glo 16 rfl
theorem mg_law (T : TopL K mg) : mg "law" = some (.ref (He.ga K "law")) := T.glo 17 rfl
theorem fr_len (T : TopL K mg) : mg "len" = none := T.free 18 rfl
theorem fr_range (T : TopL K mg) : mg "range" = none := T.free 19 rfl
theorem fr_max (T : TopL K mg) : mg "max" = none := T.free 20 rfl
theorem fr_min (T : TopL K mg) : mg "min" = none := T.free 21 rfl
theorem fr_abs (T : TopL K mg) : mg "abs" = none := T.free 22 rfl
theorem fr_int (T : TopL K mg) : mg "int" = none := T.free 23 rfl
theorem fr_bool (T : TopL K mg) : mg "bool" = none := T.free 24 rfl
theorem fr_isinstance (T : TopL K mg) : mg "isinstance" = none := T.free 25 rfl
theorem fr_str (T : TopL K mg) : mg "str" = none := T.free 26 rfl
theorem fr_zip (T : TopL K mg) : mg "zip" = none := T.free 27 rfl
theorem fr_ValueError (T : TopL K mg) : mg "ValueError" = none := T.free 28 rfl
theorem mg_Counter (T : TopL K mg) : mg "Counter" = some (.ref (He.ga K "Counter")) := T.glo 29 rfl
theorem cl_Counter (T : TopL K mg) : Cls K (He.ga K "Counter") := T.cls 30 rfl
theorem na_Counter_modulus (T : TopL K mg) : NoAttr K (He.ga K "Counter") "modulus" := T.noat 31 rfl
theorem na_Counter_own_value (T : TopL K mg) : NoAttr K (He.ga K "Counter") "own_value" := T.noat 32 rfl
theorem mk_Counter (T : TopL K mg) : Mk K (He.ga K "Counter") (He.ma K (He.ga K "Counter") "__init__") := T.mkr 33 rfl
theorem me_Counter_change (T : TopL K mg) : Meth K (He.ga K "Counter") "change" (He.ma K (He.ga K "Counter") "change") := T.meth 34 rfl
theorem me_Counter___add__ (T : TopL K mg) : Meth K (He.ga K "Counter") "__add__" (He.ma K (He.ga K "Counter") "__add__") := T.meth 35 rfl
theorem me_Counter___radd__ (T : TopL K mg) : Meth K (He.ga K "Counter") "__radd__" (He.ma K (He.ga K "Counter") "__radd__") := T.meth 36 rfl
theorem me_Counter___sub__ (T : TopL K mg) : Meth K (He.ga K "Counter") "__sub__" (He.ma K (He.ga K "Counter") "__sub__") := T.meth 37 rfl
theorem me_Counter___iadd__ (T : TopL K mg) : Meth K (He.ga K "Counter") "__iadd__" (He.ma K (He.ga K "Counter") "__iadd__") := T.meth 38 rfl
theorem me_Counter___isub__ (T : TopL K mg) : Meth K (He.ga K "Counter") "__isub__" (He.ma K (He.ga K "Counter") "__isub__") := T.meth 39 rfl
theorem me_Counter___mod__ (T : TopL K mg) : Meth K (He.ga K "Counter") "__mod__" (He.ma K (He.ga K "Counter") "__mod__") := T.meth 40 rfl
theorem me_Counter___floordiv__ (T : TopL K mg) : Meth K (He.ga K "Counter") "__floordiv__" (He.ma K (He.ga K "Counter") "__floordiv__") := T.meth 41 rfl
theorem me_Counter___and__ (T : TopL K mg) : Meth K (He.ga K "Counter") "__and__" (He.ma K (He.ga K "Counter") "__and__") := T.meth 42 rfl
theorem me_Counter___eq__ (T : TopL K mg) : Meth K (He.ga K "Counter") "__eq__" (He.ma K (He.ga K "Counter") "__eq__") := T.meth 43 rfl
theorem gi_LARGEST_MODULUS (T : TopL K mg) : ∃ t, mg "LARGEST_MODULUS" = some (.int (10 ^ 40) t) := T.int 44 rfl
theorem in_Counter (T : TopL K mg) : InsX K (He.ga K "Counter") := insF_ok (T.c.fact 45 rfl)
theorem xx_NoCounter (T : TopL K mg) : ExcX K (He.ga K "NoCounter") := He.exc_ok (T.c.fact 46 rfl)
theorem mg_NoCounter (T : TopL K mg) : mg "NoCounter" = some (.ref (He.ga K "NoCounter")) := T.glo 47 rfl
theorem pr_Counter_value (T : TopL K mg) : PropX K (He.ga K "Counter") "value" (He.ma K (He.ga K "Counter") "value") (pgA "Counter" "value" K) := propF_ok (T.c.fact 48 rfl)
theorem st_Counter_value (T : TopL K mg) : SetX K (He.ga K "Counter") "value" (He.ma K (He.ga K "Counter") "value") (psA "Counter" "value" K) := setpF_ok (T.c.fact 49 rfl)
theorem bi_Counter_Add (T : TopL K mg) : BinX K (He.ga K "Counter") .Add (He.ma K (He.ga K "Counter") "__add__") := binF_ok (T.c.fact 50 rfl)
theorem bi_Counter_Sub (T : TopL K mg) : BinX K (He.ga K "Counter") .Sub (He.ma K (He.ga K "Counter") "__sub__") := binF_ok (T.c.fact 51 rfl)
theorem bi_Counter_Mod (T : TopL K mg) : BinX K (He.ga K "Counter") .Mod (He.ma K (He.ga K "Counter") "__mod__") := binF_ok (T.c.fact 52 rfl)
theorem bi_Counter_FloorDiv (T : TopL K mg) : BinX K (He.ga K "Counter") .FloorDiv (He.ma K (He.ga K "Counter") "__floordiv__") := binF_ok (T.c.fact 53 rfl)
theorem bi_Counter_BitAnd (T : TopL K mg) : BinX K (He.ga K "Counter") .BitAnd (He.ma K (He.ga K "Counter") "__and__") := binF_ok (T.c.fact 54 rfl)
theorem re_Counter_Add (T : TopL K mg) : RefX K (He.ga K "Counter") .Add (He.ma K (He.ga K "Counter") "__radd__") := refF_ok (T.c.fact 55 rfl)
theorem ip_Counter_Add (T : TopL K mg) : PySem.W.selfFirst K (He.ga K "Counter") = true ∧ Dun K (He.ga K "Counter") "__iadd__" (He.ma K (He.ga K "Counter") "__iadd__") := inpF_ok (T.c.fact 56 rfl)
theorem ip_Counter_Sub (T : TopL K mg) : PySem.W.selfFirst K (He.ga K "Counter") = true ∧ Dun K (He.ga K "Counter") "__isub__" (He.ma K (He.ga K "Counter") "__isub__") := inpF_ok (T.c.fact 57 rfl)
theorem cm_Counter_Eq (T : TopL K mg) : CmpX K (He.ga K "Counter") .Eq (He.ma K (He.ga K "Counter") "__eq__") := cmpF_ok (T.c.fact 58 rfl)
theorem mg_NoForm (T : TopL K mg) : mg "NoForm" = some (.ref (He.ga K "NoForm")) := T.glo 59 rfl
theorem mg_NoScheme (T : TopL K mg) : mg "NoScheme" = some (.ref (He.ga K "NoScheme")) := T.glo 60 rfl
theorem mg_NoSize (T : TopL K mg) : mg "NoSize" = some (.ref (He.ga K "NoSize")) := T.glo 61 rfl
theorem mg_NoRing (T : TopL K mg) : mg "NoRing" = some (.ref (He.ga K "NoRing")) := T.glo 62 rfl
theorem mg_Outside (T : TopL K mg) : mg "Outside" = some (.ref (He.ga K "Outside")) := T.glo 63 rfl
theorem mg_NoRun (T : TopL K mg) : mg "NoRun" = some (.ref (He.ga K "NoRun")) := T.glo 64 rfl
theorem mg_NoSet (T : TopL K mg) : mg "NoSet" = some (.ref (He.ga K "NoSet")) := T.glo 65 rfl
theorem mg_TooLong (T : TopL K mg) : mg "TooLong" = some (.ref (He.ga K "TooLong")) := T.glo 66 rfl
theorem mg_RingError (T : TopL K mg) : mg "RingError" = some (.ref (He.ga K "RingError")) := T.glo 67 rfl
theorem xc_NoCounter (T : TopL K mg) : ExcC K (He.ga K "NoCounter") := xccF_ok (T.c.fact 68 rfl)
theorem kt_NoCounter_ValueError (T : TopL K mg) : PySem.W.kitOne K (.ref (He.ga K "NoCounter")) (.type "ValueError") = some true := kitTF_ok (T.c.fact 69 rfl)
theorem ex_NoCounter_RingError (T : TopL K mg) : PySem.W.exmOne K (.ref (He.ga K "NoCounter")) (.ref (He.ga K "RingError")) = some true := exmF_ok (T.c.fact 70 rfl)
theorem ki_NoCounter_NoForm (T : TopL K mg) : PySem.W.kitOne K (.ref (He.ga K "NoCounter")) (.ref (He.ga K "NoForm")) = some false := kitF_ok (T.c.fact 71 rfl)
theorem ki_NoCounter_NoCounter (T : TopL K mg) : PySem.W.kitOne K (.ref (He.ga K "NoCounter")) (.ref (He.ga K "NoCounter")) = some true := kitF_ok (T.c.fact 72 rfl)
theorem ki_NoCounter_NoScheme (T : TopL K mg) : PySem.W.kitOne K (.ref (He.ga K "NoCounter")) (.ref (He.ga K "NoScheme")) = some false := kitF_ok (T.c.fact 73 rfl)
theorem ki_NoCounter_NoSize (T : TopL K mg) : PySem.W.kitOne K (.ref (He.ga K "NoCounter")) (.ref (He.ga K "NoSize")) = some false := kitF_ok (T.c.fact 74 rfl)
theorem ki_NoCounter_NoRing (T : TopL K mg) : PySem.W.kitOne K (.ref (He.ga K "NoCounter")) (.ref (He.ga K "NoRing")) = some false := kitF_ok (T.c.fact 75 rfl)
theorem ki_NoCounter_Outside (T : TopL K mg) : PySem.W.kitOne K (.ref (He.ga K "NoCounter")) (.ref (He.ga K "Outside")) = some false := kitF_ok (T.c.fact 76 rfl)
theorem ki_NoCounter_NoRun (T : TopL K mg) : PySem.W.kitOne K (.ref (He.ga K "NoCounter")) (.ref (He.ga K "NoRun")) = some false := kitF_ok (T.c.fact 77 rfl)
theorem ki_NoCounter_NoSet (T : TopL K mg) : PySem.W.kitOne K (.ref (He.ga K "NoCounter")) (.ref (He.ga K "NoSet")) = some false := kitF_ok (T.c.fact 78 rfl)
theorem ki_NoCounter_TooLong (T : TopL K mg) : PySem.W.kitOne K (.ref (He.ga K "NoCounter")) (.ref (He.ga K "TooLong")) = some false := kitF_ok (T.c.fact 79 rfl)
theorem fn_is_whole (T : TopL K mg) : ∃ fd, FunD K d_is_whole.name d_is_whole.qual d_is_whole.params d_is_whole.body d_is_whole.scope (d_is_whole.dvs K) (d_is_whole.kws K) (d_is_whole.loc K) fd := T.c.dfn 0 rfl
theorem fn_is_between (T : TopL K mg) : ∃ fd, FunD K d_is_between.name d_is_between.qual d_is_between.params d_is_between.body d_is_between.scope (d_is_between.dvs K) (d_is_between.kws K) (d_is_between.loc K) fd := T.c.dfn 1 rfl
theorem fn_whole_of (T : TopL K mg) : ∃ fd, FunD K d_whole_of.name d_whole_of.qual d_whole_of.params d_whole_of.body d_whole_of.scope (d_whole_of.dvs K) (d_whole_of.kws K) (d_whole_of.loc K) fd := T.c.dfn 2 rfl
theorem fn_divisor_of (T : TopL K mg) : ∃ fd, FunD K d_divisor_of.name d_divisor_of.qual d_divisor_of.params d_divisor_of.body d_divisor_of.scope (d_divisor_of.dvs K) (d_divisor_of.kws K) (d_divisor_of.loc K) fd := T.c.dfn 3 rfl
theorem fn__law_source (T : TopL K mg) : ∃ fd, FunD K d__law_source.name d__law_source.qual d__law_source.params d__law_source.body d__law_source.scope (d__law_source.dvs K) (d__law_source.kws K) (d__law_source.loc K) fd := T.c.dfn 4 rfl
theorem fn__law_draw (T : TopL K mg) : ∃ fd, FunD K d__law_draw.name d__law_draw.qual d__law_draw.params d__law_draw.body d__law_draw.scope (d__law_draw.dvs K) (d__law_draw.kws K) (d__law_draw.loc K) fd := T.c.dfn 5 rfl
theorem fn__law_pick (T : TopL K mg) : ∃ fd, FunD K d__law_pick.name d__law_pick.qual d__law_pick.params d__law_pick.body d__law_pick.scope (d__law_pick.dvs K) (d__law_pick.kws K) (d__law_pick.loc K) fd := T.c.dfn 6 rfl
theorem fn__law_caught (T : TopL K mg) : ∃ fd, FunD K d__law_caught.name d__law_caught.qual d__law_caught.params d__law_caught.body d__law_caught.scope (d__law_caught.dvs K) (d__law_caught.kws K) (d__law_caught.loc K) fd := T.c.dfn 7 rfl
theorem fn__law_made (T : TopL K mg) : ∃ fd, FunD K d__law_made.name d__law_made.qual d__law_made.params d__law_made.body d__law_made.scope (d__law_made.dvs K) (d__law_made.kws K) (d__law_made.loc K) fd := T.c.dfn 8 rfl
theorem fn__law_sum (T : TopL K mg) : ∃ fd, FunD K d__law_sum.name d__law_sum.qual d__law_sum.params d__law_sum.body d__law_sum.scope (d__law_sum.dvs K) (d__law_sum.kws K) (d__law_sum.loc K) fd := T.c.dfn 9 rfl
theorem fn__law_difference (T : TopL K mg) : ∃ fd, FunD K d__law_difference.name d__law_difference.qual d__law_difference.params d__law_difference.body d__law_difference.scope (d__law_difference.dvs K) (d__law_difference.kws K) (d__law_difference.loc K) fd := T.c.dfn 10 rfl
theorem fn__law_more (T : TopL K mg) : ∃ fd, FunD K d__law_more.name d__law_more.qual d__law_more.params d__law_more.body d__law_more.scope (d__law_more.dvs K) (d__law_more.kws K) (d__law_more.loc K) fd := T.c.dfn 11 rfl
theorem fn__law_less (T : TopL K mg) : ∃ fd, FunD K d__law_less.name d__law_less.qual d__law_less.params d__law_less.body d__law_less.scope (d__law_less.dvs K) (d__law_less.kws K) (d__law_less.loc K) fd := T.c.dfn 12 rfl
theorem fn__law_rest (T : TopL K mg) : ∃ fd, FunD K d__law_rest.name d__law_rest.qual d__law_rest.params d__law_rest.body d__law_rest.scope (d__law_rest.dvs K) (d__law_rest.kws K) (d__law_rest.loc K) fd := T.c.dfn 13 rfl
theorem fn__law_parts (T : TopL K mg) : ∃ fd, FunD K d__law_parts.name d__law_parts.qual d__law_parts.params d__law_parts.body d__law_parts.scope (d__law_parts.dvs K) (d__law_parts.kws K) (d__law_parts.loc K) fd := T.c.dfn 14 rfl
theorem fn__law_masked (T : TopL K mg) : ∃ fd, FunD K d__law_masked.name d__law_masked.qual d__law_masked.params d__law_masked.body d__law_masked.scope (d__law_masked.dvs K) (d__law_masked.kws K) (d__law_masked.loc K) fd := T.c.dfn 15 rfl
theorem fn__law_change (T : TopL K mg) : ∃ fd, FunD K d__law_change.name d__law_change.qual d__law_change.params d__law_change.body d__law_change.scope (d__law_change.dvs K) (d__law_change.kws K) (d__law_change.loc K) fd := T.c.dfn 16 rfl
theorem fn_law (T : TopL K mg) : ∃ fd, FunD K d_law.name d_law.qual d_law.params d_law.body d_law.scope (d_law.dvs K) (d_law.kws K) (d_law.loc K) fd := T.c.dfn 17 rfl
theorem fn_Counter___init__ (T : TopL K mg) : ∃ fd, FunD K d_Counter___init__.name d_Counter___init__.qual d_Counter___init__.params d_Counter___init__.body d_Counter___init__.scope (d_Counter___init__.dvs K) (d_Counter___init__.kws K) (d_Counter___init__.loc K) fd := T.c.dfn 18 rfl
theorem fn_Counter_change (T : TopL K mg) : ∃ fd, FunD K d_Counter_change.name d_Counter_change.qual d_Counter_change.params d_Counter_change.body d_Counter_change.scope (d_Counter_change.dvs K) (d_Counter_change.kws K) (d_Counter_change.loc K) fd := T.c.dfn 19 rfl
theorem fn_Counter___add__ (T : TopL K mg) : ∃ fd, FunD K d_Counter___add__.name d_Counter___add__.qual d_Counter___add__.params d_Counter___add__.body d_Counter___add__.scope (d_Counter___add__.dvs K) (d_Counter___add__.kws K) (d_Counter___add__.loc K) fd := T.c.dfn 20 rfl
theorem fn_Counter___radd__ (T : TopL K mg) : ∃ fd, FunD K d_Counter___radd__.name d_Counter___radd__.qual d_Counter___radd__.params d_Counter___radd__.body d_Counter___radd__.scope (d_Counter___radd__.dvs K) (d_Counter___radd__.kws K) (d_Counter___radd__.loc K) fd := T.c.dfn 21 rfl
theorem fn_Counter___sub__ (T : TopL K mg) : ∃ fd, FunD K d_Counter___sub__.name d_Counter___sub__.qual d_Counter___sub__.params d_Counter___sub__.body d_Counter___sub__.scope (d_Counter___sub__.dvs K) (d_Counter___sub__.kws K) (d_Counter___sub__.loc K) fd := T.c.dfn 22 rfl
theorem fn_Counter___iadd__ (T : TopL K mg) : ∃ fd, FunD K d_Counter___iadd__.name d_Counter___iadd__.qual d_Counter___iadd__.params d_Counter___iadd__.body d_Counter___iadd__.scope (d_Counter___iadd__.dvs K) (d_Counter___iadd__.kws K) (d_Counter___iadd__.loc K) fd := T.c.dfn 23 rfl
theorem fn_Counter___isub__ (T : TopL K mg) : ∃ fd, FunD K d_Counter___isub__.name d_Counter___isub__.qual d_Counter___isub__.params d_Counter___isub__.body d_Counter___isub__.scope (d_Counter___isub__.dvs K) (d_Counter___isub__.kws K) (d_Counter___isub__.loc K) fd := T.c.dfn 24 rfl
theorem fn_Counter___mod__ (T : TopL K mg) : ∃ fd, FunD K d_Counter___mod__.name d_Counter___mod__.qual d_Counter___mod__.params d_Counter___mod__.body d_Counter___mod__.scope (d_Counter___mod__.dvs K) (d_Counter___mod__.kws K) (d_Counter___mod__.loc K) fd := T.c.dfn 25 rfl
theorem fn_Counter___floordiv__ (T : TopL K mg) : ∃ fd, FunD K d_Counter___floordiv__.name d_Counter___floordiv__.qual d_Counter___floordiv__.params d_Counter___floordiv__.body d_Counter___floordiv__.scope (d_Counter___floordiv__.dvs K) (d_Counter___floordiv__.kws K) (d_Counter___floordiv__.loc K) fd := T.c.dfn 26 rfl
theorem fn_Counter___and__ (T : TopL K mg) : ∃ fd, FunD K d_Counter___and__.name d_Counter___and__.qual d_Counter___and__.params d_Counter___and__.body d_Counter___and__.scope (d_Counter___and__.dvs K) (d_Counter___and__.kws K) (d_Counter___and__.loc K) fd := T.c.dfn 27 rfl
theorem fn_Counter___eq__ (T : TopL K mg) : ∃ fd, FunD K d_Counter___eq__.name d_Counter___eq__.qual d_Counter___eq__.params d_Counter___eq__.body d_Counter___eq__.scope (d_Counter___eq__.dvs K) (d_Counter___eq__.kws K) (d_Counter___eq__.loc K) fd := T.c.dfn 28 rfl
theorem fn_Counter_value (T : TopL K mg) : ∃ fd, FunD K d_Counter_value.name d_Counter_value.qual d_Counter_value.params d_Counter_value.body d_Counter_value.scope (d_Counter_value.dvs K) (d_Counter_value.kws K) (d_Counter_value.loc K) fd := T.c.dfn 29 rfl
theorem fn_Counter_value_set (T : TopL K mg) : ∃ fd, FunD K d_Counter_value_set.name d_Counter_value_set.qual d_Counter_value_set.params d_Counter_value_set.body d_Counter_value_set.scope (d_Counter_value_set.dvs K) (d_Counter_value_set.kws K) (d_Counter_value_set.loc K) fd := T.c.dfn 30 rfl
end
end Lw
open PySem PySem.Spec PyProof.Rows L2 Rg
local macro_rules | `(tactic| walk_at "pos") => `(tactic| (show (0 : Int) < _; first | assumption | decide | omega))
local macro_rules | `(tactic| walk_at "mul") => `(tactic| (show CMul _ _; first | exact Or.inr ⟨by decide, by decide⟩ | exact Or.inl ⟨by decide, by decide⟩ | exact Or.inl ⟨by omega, by omega⟩ | exact Or.inr ⟨by omega, by omega⟩))
local macro_rules | `(tactic| walk_at "pow") => `(tactic| (show CPow _ _; exact ⟨by decide, by decide, by decide⟩))
local macro_rules | `(tactic| walk_at "div") => `(tactic| (show CDiv _ _; exact ⟨by decide, by decide⟩))
local macro_rules | `(tactic| walk_at "divw") => `(tactic| (show CDivW _ _; exact ⟨by decide, by decide⟩))
local macro_rules | `(tactic| walk_at "cond") => `(tactic| first | walk_at "pos" | walk_at "mul" | walk_at "pow" | walk_at "div")
local macro_rules | `(tactic| walk_at "ne") => `(tactic| first | assumption | (apply Ne.symm; assumption) | (refine' ne_of_none ?zA ?zB; (case zB => assumption); (case zA => walk_at "hp")) | (refine' Ne.symm (ne_of_none ?zA ?zB); (case zB => assumption); (case zA => walk_at "hp")))
local macro_rules | `(tactic| walk_at "hp") => `(tactic| first | assumption | exact upd_same | (refine Eq.trans (upd_ne ?zC) ?zD; (case zC => walk_at "ne"); (case zD => walk_at "hp")) | (refine' Same.at_ ?zE ?zF; (case zE => assumption); (case zF => walk_at "hp")))
local macro_rules | `(tactic| walk_at "sq") => `(tactic| first | assumption | exact SqL.of (by walk_at "hp") | exact Same.seq (by assumption) (by assumption))
local macro_rules | `(tactic| walk_at "g1") => `(tactic| first
  | with_reducible exact rfl
  | refine ⟨_, _, rfl, rfl, And.intro (by walk_at "cond") ?_⟩
  | refine ⟨_, _, rfl, rfl, ?_⟩
  | refine ⟨_, rfl, ?_⟩
  | refine ⟨rfl, ?_⟩
  | refine ⟨_, _, _, _, rfl, rfl, (by walk_at "sq"), rfl, ?_⟩
  | refine ⟨_, _, rfl, Or.inl (by walk_at "sq"), ?_⟩
  | refine ⟨_, _, _, _, rfl, rfl, (by walk_at "hp"), rfl, ?_⟩
  | refine Or.inl ⟨_, rfl, ?_⟩)
local macro_rules | `(tactic| walk_at "g") => `(tactic| repeat walk_at "g1")
/-! LAW A: the cells of the script, the draws. -/
namespace Lw
open PySem PySem.Spec PyProof.Rows L2 Rg
section
variable {P : Program} {w : World} {K : PySem.W.Frag} {mg : Str → Option Value} {base : Heap}
/-- a source of draws -/
def srcO (n s : Int) : HO := .lst [.int n, .int s]
def sp_source (K : PySem.W.Frag) : Sp := fun vs H Q _ => ∃ (a : Addr) (ns : List Int) (t : Int), vs = [.ref a, .int t] ∧ SqL K H a (ns.map V.int) ∧ 0 ≤ t ∧
  ∀ p n s, H p = none → 0 ≤ n → 0 ≤ s → s < 2147483647 → Q (.ref p) (upd H p (srcO n s))
def sp_draw : Sp := fun vs H Q _ => ∃ (p : Addr) (n s m : Int), vs = [.ref p, .int m] ∧ H p = some (srcO n s) ∧ (0 ≤ n ∧ 0 ≤ s ∧ s < 2147483647) ∧ (0 < m ∧ m < 2 ^ 250) ∧
  ∀ d n' s', 0 ≤ d → d < m → 0 ≤ n' → 0 ≤ s' → s' < 2147483647 → Q (.int d) (upd H p (srcO n' s'))
theorem sc_source : FnScope ["_law_script", "_law_turn", "_law_cell", "_law_number", "_law_seed"] ["_law_script", "_law_turn"] (defScope s__law_source) := ⟨rfl, rfl, rfl, by decide +kernel, rfl, by decide +kernel, by decide +kernel⟩
theorem ok_source (T : TopL K mg) : Has P w K mg base CX0 1 (He.ga K "_law_source") ["_law_script", "_law_turn"] [] (sp_source K) := by
  obtain ⟨fd, F⟩ := fn__law_source T
  refine Has.of0 F sc_source (fun _ _ _ _ _ _ us hl => match us, hl with | [_, _], _ => rfl) (fun vs H Q E h => ?_) (fun cdv A outer s H vs Q E hr h => ?_)
  · obtain ⟨a, ns, t, rfl, _⟩ := h
    rfl
  · obtain ⟨a, ns, t, rfl, hS, h0, k⟩ := h
    refine ⟨_, (pss_cons (ps_set (i := 2) sc_source.nd rfl (Or.inl rfl) pe_int)
      (pss_cons (ps_if (pt_cmpR op_lt (pv 1) (pe_callB call_len_seq (by rfl) (fr_len T) PySem.boot_len (pa_cons (pv 0) pa_nil)) (nomark _)) (pss_one (ps_set (i := 2) sc_source.nd rfl (Or.inl rfl) (pe_ix ix_list (pv 0) (pv 1) (fun _ _ => rfl)))) pss_nil)
      (pss_cons (ps_set (i := 3) sc_source.nd rfl (Or.inl rfl) (pe_callB call_abs (by rfl) (fr_abs T) (by decide +kernel) (pa_cons (pv 2) pa_nil)))
      (pss_cons (ps_set (i := 4) sc_source.nd rfl (Or.inl rfl) (pe_op op_mod (pe_callTy call_int1 (by rfl) (fr_int T) (by decide +kernel) (pa_cons (pe_op op_add (pe_op op_add (pe_op op_mul (pe_op op_mod (pe_callTy call_int1 (by rfl) (fr_int T) (by decide +kernel) (pa_cons (pv 3) pa_nil)) pe_int) pe_int) (pe_op op_mul pe_int (pv 1))) pe_int) pa_nil)) pe_int))
      (pss_cons (ps_if (pt_cmpR op_lt (pv 3) (pe_op op_pow pe_int pe_int) (nomark _)) (pss_one (ps_set (i := 3) sc_source.nd rfl (Or.inl rfl) pe_int)) pss_nil)
      (pss_one (ps_ret (pe_lst (pa_cons (pv 3) (pa_cons (pv 4) pa_nil)))))))))), ?_⟩
    walk_at "g"
    have fin : ∀ (c : Int) (z : Int), ∀ p, H p = none → 0 ≤ z → Q (.ref p) (upd H p (srcO z (((if c < 0 then -c else c) % 2147483629 * 16807 + 104729 * t + 11) % 2147483647))) := fun c z p hp hz =>
      k p z _ hp hz (emod_rng (by decide)).1 (emod_rng (by decide)).2
    refine ifD (fun hc => ?_) (fun hc => ?_)
    · rw [List.length_map] at hc
      have hi : t.toNat < ns.length := by omega
      refine ⟨_, rfl, _, rfl, _, _, _, _, rfl, rfl, hS, atI_of h0 (by rw [List.getElem?_map, List.getElem?_eq_getElem hi]; rfl), ?_⟩
      generalize ns[t.toNat]'hi = c
      walk_at "g"
      refine ifD (fun hc => ?_) (fun hc => ?_)
      · walk_at "g"
        refine ⟨lenk rfl, fun p hp => ?_⟩
        exact fin c 0 p hp (by decide)
      · walk_at "g"
        refine ⟨lenk rfl, fun p hp => ?_⟩
        exact fin c _ p hp (abs_nn c)
    · walk_at "g"
      refine ⟨lenk rfl, fun p hp => ?_⟩
      exact fin 0 0 p hp (by decide)
theorem sc_draw : FnScope ["_law_source_here", "_law_amount", "_law_digit", "_law_found"] ["_law_source_here", "_law_amount"] (defScope s__law_draw) := ⟨rfl, rfl, rfl, by decide +kernel, rfl, by decide +kernel, by decide +kernel⟩
theorem src_get {n s : Int} {H : Hp} {p : Addr} (h : H p = some (srcO n s)) : SqL K H p [.int n, .int s] := SqL.of h
theorem ok_draw (T : TopL K mg) : Has P w K mg base CX0 1 (He.ga K "_law_draw") ["_law_source_here", "_law_amount"] [] sp_draw := by
  obtain ⟨fd, F⟩ := fn__law_draw T
  refine Has.of0 F sc_draw (fun _ _ _ _ _ _ us hl => match us, hl with | [_, _], _ => rfl) (fun vs H Q E h => ?_) (fun cdv A outer s H vs Q E hr h => ?_)
  · obtain ⟨p, n, s, m, rfl, _⟩ := h
    rfl
  · obtain ⟨p, n, sd, m, rfl, hp, ⟨hn, hs0, hs1⟩, ⟨hm0, hm1⟩, k⟩ := h
    refine ⟨_, (pss_cons (ps_if (pt_cmpR op_gt (pe_ix ix_list (pv 0) pe_int (fun _ _ => rfl)) pe_int (nomark _)) (pss_cons (ps_set (i := 2) sc_draw.nd rfl (Or.inl rfl) (pe_op op_mod (pe_callTy call_int1 (by rfl) (fr_int T) (by decide +kernel) (pa_cons (pe_ix ix_list (pv 0) pe_int (fun _ _ => rfl)) pa_nil)) (pv 1)))
      (pss_cons (ps_asg (pe_op op_fdivW (pe_ix ix_list (pv 0) pe_int (fun _ _ => rfl)) (pv 1)) (pg_sub (pv 0) pe_int set_list))
      (pss_one (ps_ret (pv 2))))) pss_nil)
      (pss_cons (ps_asg (pe_op op_mod (pe_callTy call_int1 (by rfl) (fr_int T) (by decide +kernel) (pa_cons (pe_op op_add (pe_op op_mul (pe_ix ix_list (pv 0) pe_int (fun _ _ => rfl)) pe_int) pe_int) pa_nil)) pe_int) (pg_sub (pv 0) pe_int set_list))
      (pss_cons (ps_set (i := 3) sc_draw.nd rfl (Or.inl rfl) (pe_op op_fdiv (pe_op op_mod (pe_callTy call_int1 (by rfl) (fr_int T) (by decide +kernel) (pa_cons (pe_op op_mul (pe_ix ix_list (pv 0) pe_int (fun _ _ => rfl)) (pe_ix ix_list (pv 0) pe_int (fun _ _ => rfl))) pa_nil)) pe_int) pe_int))
      (pss_cons (ps_if (pt_cmpR op_gt (pv 1) (pe_op op_pow pe_int pe_int) (nomark _)) (pss_cons (ps_asg (pe_op op_mod (pe_callTy call_int1 (by rfl) (fr_int T) (by decide +kernel) (pa_cons (pe_op op_add (pe_op op_mul (pe_ix ix_list (pv 0) pe_int (fun _ _ => rfl)) pe_int) pe_int) pa_nil)) pe_int) (pg_sub (pv 0) pe_int set_list))
      (pss_one (ps_set (i := 3) sc_draw.nd rfl (Or.inl rfl) (pe_op op_add (pe_op op_mul (pv 3) pe_int) (pe_op op_fdiv (pe_op op_mod (pe_callTy call_int1 (by rfl) (fr_int T) (by decide +kernel) (pa_cons (pe_op op_mul (pe_ix ix_list (pv 0) pe_int (fun _ _ => rfl)) (pe_ix ix_list (pv 0) pe_int (fun _ _ => rfl))) pa_nil)) pe_int) pe_int))))) pss_nil)
      (pss_one (ps_ret (pe_op op_mod (pe_callTy call_int1 (by rfl) (fr_int T) (by decide +kernel) (pa_cons (pv 3) pa_nil)) (pv 1)))))))), ?_⟩
    have hp' : H p = some (.lst [.int n, .int sd]) := hp
    walk_at "g"
    refine ifD (fun hc => ?_) (fun hc => ?_)
    · walk_at "g"
      refine ⟨wide_div hm0 (bits_of hm0 hm1) (by decide) (by decide), ?_⟩
      walk_at "g"
      exact k _ _ _ (emod_rng hm0).1 (emod_rng hm0).2 (Int.ediv_nonneg hn (by omega)) hs0 hs1
    · have B : ∀ z : Int, 0 ≤ z % 2147483647 ∧ z % 2147483647 < 2147483647 := fun z => emod_rng (by decide)
      walk_at "g"
      have b1 := B (sd * 48271 + 11)
      refine ifD (fun hc2 => ?_) (fun hc2 => ?_)
      · walk_at "g"
        have b2 := B ((sd * 48271 + 11) % 2147483647 * 39373 + 17)
        rw [upd_upd]
        exact k _ _ _ (emod_rng hm0).1 (emod_rng hm0).2 hn b2.1 b2.2
      · walk_at "g"
        exact k _ _ _ (emod_rng hm0).1 (emod_rng hm0).2 hn b1.1 b1.2
end
end Lw
/-! LAW B: draws, what stood stays. -/
namespace Lw
open PySem PySem.Spec PyProof.Rows L2 Rg
section
variable {P : Program} {w : World} {K : PySem.W.Frag} {mg : Str → Option Value} {base : Heap}
/-- a source of draws stands at p -/
def Src (H : Hp) (p : Addr) : Prop := ∃ n s, (0 ≤ n ∧ 0 ≤ s ∧ s < 2147483647) ∧ H p = some (srcO n s)
theorem Src.same {H H' : Hp} {p : Addr} (h : Src H p) (s : Same H H') : Src H' p := h.elim fun n z => z.elim fun k q => ⟨n, k, q.1, s _ _ q.2⟩
theorem Src.ne {H : Hp} {p q : Addr} (h : Src H p) (n : H q = none) : q ≠ p := h.elim fun _ z => z.elim fun _ k => (ne_of_none k.2 n).symm
/-- the source at p has gone on, all else stands -/
structure Drawn (p : Addr) (H H' : Hp) : Prop where
  src : Src H' p
  st : ∀ b u, H b = some u → b ≠ p → H' b = some u
theorem Drawn.at_ {p b : Addr} {H H' : Hp} {u : HO} (d : Drawn p H H') (h : H b = some u) (n : b ≠ p) : H' b = some u := d.st b u h n
theorem Drawn.trans {p : Addr} {H H' H'' : Hp} (a : Drawn p H H') (b : Drawn p H' H'') : Drawn p H H'' := ⟨b.src, fun c u h n => b.st c u (a.st c u h n) n⟩
theorem Drawn.same {p : Addr} {H H' H'' : Hp} (a : Drawn p H H') (b : Same H' H'') : Drawn p H H'' := ⟨a.src.same b, fun c u h n => b c u (a.st c u h n)⟩
theorem Drawn.after {p : Addr} {H H' H'' : Hp} (a : Same H H') (b : Drawn p H' H'') : Drawn p H H'' := ⟨b.src, fun c u h n => b.st c u (a c u h) n⟩
theorem Drawn.refl {p : Addr} {H : Hp} (h : Src H p) : Drawn p H H := ⟨h, fun _ _ e _ => e⟩
/-- from a heap without the source -/
theorem Drawn.over {p : Addr} {H H' H'' : Hp} (s : Same H H') (n : H p = none) (d : Drawn p H' H'') : Same H H'' := fun b u h => d.st b u (s b u h) (ne_of_none h n)
theorem Drawn.free {p q : Addr} {H H' : Hp} (d : Drawn p H H') (h : H' q = none) : H q = none := by
  have qp : q ≠ p := d.src.ne h
  cases e : H q with
  | none => rfl
  | some u => rw [d.st q u e qp] at h; cases h
@[irreducible] def sp_sourceD (K : PySem.W.Frag) : Sp := fun vs H Q _ => ∃ (a : Addr) (ns : List Int) (t : Int), vs = [.ref a, .int t] ∧ SqL K H a (ns.map V.int) ∧ 0 ≤ t ∧ ∀ p H', H p = none → Same H H' → Src H' p → Q (.ref p) H'
@[irreducible] def sp_drawD : Sp := fun vs H Q _ => ∃ (p : Addr) (m : Int), vs = [.ref p, .int m] ∧ Src H p ∧ (0 < m ∧ m < 2 ^ 250) ∧ ∀ d H', 0 ≤ d → d < m → Drawn p H H' → Q (.int d) H'
theorem ok_sourceD (T : TopL K mg) : Has P w K mg base CX0 1 (He.ga K "_law_source") ["_law_script", "_law_turn"] [] (sp_sourceD K) := (ok_source T).imp fun vs H Q E h => by
  unfold sp_sourceD at h
  obtain ⟨a, ns, t, rfl, hS, h0, k⟩ := h
  exact ⟨a, ns, t, rfl, hS, h0, fun p n s np hn hs ht => k p _ np (Same.new np) ⟨n, s, ⟨hn, hs, ht⟩, upd_same⟩⟩
theorem ok_drawD (T : TopL K mg) : Has P w K mg base CX0 1 (He.ga K "_law_draw") ["_law_source_here", "_law_amount"] [] sp_drawD := (ok_draw T).imp fun vs H Q E h => by
  unfold sp_drawD at h
  obtain ⟨p, m, rfl, ⟨n, s, z, hp⟩, hm, k⟩ := h
  exact ⟨p, n, s, m, rfl, hp, z, hm, fun d n' s' h0 h1 hn hs ht => k d _ h0 h1 ⟨⟨n', s', ⟨hn, hs, ht⟩, upd_same⟩, fun b u e ne => (upd_ne ne).trans e⟩⟩
theorem source_rd {H : Hp} {Q : VK} {E : XK} {a : Addr} {ns : List Int} {t : Int} (hS : SqL K H a (ns.map V.int)) (h0 : 0 ≤ t) (k : ∀ p H', H p = none → Same H H' → Src H' p → Q (.ref p) H') : sp_sourceD K [.ref a, .int t] H Q E := by
  unfold sp_sourceD
  exact ⟨a, ns, t, rfl, hS, h0, k⟩
theorem draw_rd {H : Hp} {Q : VK} {E : XK} {p : Addr} {m : Int} (hp : Src H p) (h0 : 0 < m) (h1 : m < 2 ^ 250) (k : ∀ d H', 0 ≤ d → d < m → Drawn p H H' → Src H' p → Q (.int d) H') : sp_drawD [.ref p, .int m] H Q E := by
  unfold sp_drawD
  exact ⟨p, m, rfl, hp, ⟨h0, h1⟩, fun d H' a b z => k d H' a b z z.src⟩
theorem at_all {Pr : V → Prop} {xs : List V} {d : Int} (h0 : 0 ≤ d) (h1 : d < xs.length) (hP : ∀ v ∈ xs, Pr v) : ∃ v, atI xs d = some v ∧ Pr v := by
  have hi : d.toNat < xs.length := by omega
  exact ⟨xs[d.toNat], atI_of h0 (List.getElem?_eq_getElem hi), hP _ (List.getElem_mem hi)⟩
theorem all_ints {Pr : Int → Prop} {ns : List Int} {d : Int} (h0 : 0 ≤ d) (h1 : d < ns.length) (hP : ∀ n ∈ ns, Pr n) : ∃ n, atI (ns.map V.int) d = some (.int n) ∧ Pr n := by
  obtain ⟨v, e, n, rfl, q⟩ := at_all (Pr := fun v => ∃ n, v = .int n ∧ Pr n) (xs := ns.map V.int) h0 (by rw [List.length_map]; exact h1) (fun v hv => by
    obtain ⟨n, hn, rfl⟩ := List.mem_map.mp hv
    exact ⟨n, rfl, hP n hn⟩)
  exact ⟨n, e, q⟩
/-- how many turns the law's loop takes -/
theorem turns_rng (lo hi : Int) (h0 : 0 ≤ lo) (h1 : lo ≤ hi) (z : Int) (hz : 0 ≤ z) : 0 ≤ (if (if hi < z then hi else z) > lo then (if hi < z then hi else z) else lo) ∧ (if (if hi < z then hi else z) > lo then (if hi < z then hi else z) else lo) ≤ hi := by
  split <;> split <;> omega
end
end Lw
namespace Lw
theorem em_add (v s m : Int) : (v + s) % m = (v % m + s) % m := (Int.emod_add_emod v m s).symm
theorem em_sub (v s m : Int) : (v - s) % m = (v % m - s) % m := by rw [Int.sub_eq_add_neg, Int.sub_eq_add_neg, em_add]
end Lw
local macro_rules | `(tactic| walk_at "ne") => `(tactic| first | assumption | (apply Ne.symm; assumption) | (refine' ne_of_none ?zA ?zB; (case zB => assumption); (case zA => walk_at "hp")) | (refine' Ne.symm (ne_of_none ?zA ?zB); (case zB => assumption); (case zA => walk_at "hp")) | (refine' Lw.Src.ne ?zJ ?zK; (case zK => assumption); (case zJ => assumption)) | (refine' Ne.symm (Lw.Src.ne ?zJ ?zK); (case zK => assumption); (case zJ => assumption)))
local macro_rules | `(tactic| walk_at "hp") => `(tactic| first | assumption | exact upd_same | (refine Eq.trans (upd_ne ?zC) ?zD; (case zC => walk_at "ne"); (case zD => walk_at "hp")) | (refine' Same.at_ ?zE ?zF; (case zE => assumption); (case zF => walk_at "hp")) | (refine' Lw.Drawn.at_ ?zG ?zH ?zI; (case zG => assumption); (case zH => walk_at "hp"); (case zI => walk_at "ne")))
/-! whole numbers -/
namespace Lw
open PySem PySem.Spec PyProof.Rows L2 Rg
section
variable {P : Program} {w : World} {K : PySem.W.Frag} {mg : Str → Option Value} {base : Heap}
@[irreducible] def sp_is_whole (K : PySem.W.Frag) : Sp := fun vs H Q _ => ∃ (v : V) (t : Value) (i b : Bool), vs = [v] ∧ TyX K H v t ∧ PySem.W.kitOne K t (.type "int") = some i ∧ PySem.W.kitOne K t (.type "bool") = some b ∧ Q (.bl (i && !b)) H
theorem sc_is_whole : FnScope ["thing"] ["thing"] (defScope s_is_whole) := ⟨rfl, rfl, rfl, by decide +kernel, rfl, by decide +kernel, by decide +kernel⟩
theorem ok_is_whole (T : TopL K mg) : Has P w K mg base CX0 1 (He.ga K "is_whole") ["thing"] [] (sp_is_whole K) := by
  obtain ⟨fd, F⟩ := fn_is_whole T
  refine Has.of0 F sc_is_whole (fun _ _ _ _ _ _ us hl => match us, hl with | [_], _ => rfl) (fun vs H Q E h => ?_) (fun cdv A outer s H vs Q E hr h => ?_)
  · unfold sp_is_whole at h
    obtain ⟨v, t, i, b, rfl, _⟩ := h
    rfl
  · unfold sp_is_whole at h
    obtain ⟨v, t, i, b, rfl, ty, k1, k2, k⟩ := h
    refine ⟨_, (pss_one (ps_ret (pe_and (pe_callB (call_isi : CallR _ _ (rIsi K)) (by rfl) (fr_isinstance T) (by decide +kernel) (pa_cons (pv 0) (pa_cons (pe_bltn (v := .ty "int") (u := .type "int") rfl (fr_int T) (by decide +kernel) rfl) pa_nil))) (pe_one (pe_not (pe_callB (call_isi : CallR _ _ (rIsi K)) (by rfl) (fr_isinstance T) (by decide +kernel) (pa_cons (pv 0) (pa_cons (pe_bltn (v := .ty "bool") (u := .type "bool") rfl (fr_bool T) (by decide +kernel) rfl) pa_nil)))))))), ?_⟩
    refine ⟨_, rfl, _, _, t, _, i, rfl, .ty _, ty, k1, i, rfl, ?_⟩
    cases i
    · exact iteF k
    · exact iteT ⟨_, rfl, _, _, t, _, b, rfl, .ty _, ty, k2, b, rfl, k⟩
theorem whole_int {H : Hp} {Q : VK} {E : XK} {n : Int} (k : Q (.bl true) H) : sp_is_whole K [.int n] H Q E := by
  unfold sp_is_whole
  exact ⟨_, _, true, false, rfl, .base (.int n), kit_int, kit_ib, k⟩
theorem whole_not {H : Hp} {Q : VK} {E : XK} {v : V} (h : NW K H v) (k : Q (.bl false) H) : sp_is_whole K [v] H Q E := by
  obtain ⟨t, i, b, ty, k1, k2, e⟩ := h
  unfold sp_is_whole
  exact ⟨v, t, i, b, rfl, ty, k1, k2, by rw [e]; exact k⟩
@[irreducible] def sp_is_between (K : PySem.W.Frag) : Sp := fun vs H Q _ => ∃ (v : V) (lo hi : Int), vs = [v, .int lo, .int hi] ∧ ((∃ n, v = .int n ∧ Q (.bl (decide (lo ≤ n ∧ n ≤ hi))) H) ∨ (NW K H v ∧ Q (.bl false) H))
theorem sc_is_between : FnScope ["thing", "low", "high"] ["thing", "low", "high"] (defScope s_is_between) := ⟨rfl, rfl, rfl, by decide +kernel, rfl, by decide +kernel, by decide +kernel⟩
theorem ok_is_between (T : TopL K mg) : Has P w K mg base CX0 2 (He.ga K "is_between") ["thing", "low", "high"] [] (sp_is_between K) := by
  obtain ⟨fd, F⟩ := fn_is_between T
  refine Has.of0 F sc_is_between (fun _ _ _ _ _ _ us hl => match us, hl with | [_, _, _], _ => rfl) (fun vs H Q E h => ?_) (fun cdv A outer s H vs Q E hr h => ?_)
  · unfold sp_is_between at h
    obtain ⟨v, lo, hi, rfl, _⟩ := h
    rfl
  · unfold sp_is_between at h
    obtain ⟨v, lo, hi, rfl, k⟩ := h
    refine ⟨_, (pss_one (ps_ret (pe_and (pe_callH (ok_is_whole T) hr (mg_is_whole T) pass0 (pa_cons (pv 0) pa_nil)) (pe_one (pe_chain op_le op_le (pv 1) (pv 0) (pv 2)))))), ?_⟩
    rcases k with ⟨n, rfl, k⟩ | ⟨nw, k⟩
    · refine ⟨_, rfl, whole_int ⟨true, rfl, iteT ?_⟩⟩
      refine ⟨_, rfl, _, rfl, _, _, rfl, rfl, _, rfl, ?_⟩
      refine ifD (fun hc => ?_) (fun hc => ?_)
      · refine ⟨_, rfl, _, _, rfl, rfl, ?_⟩
        have e : decide (lo ≤ n ∧ n ≤ hi) = decide (n ≤ hi) := by simp [hc]
        rw [e] at k
        exact k
      · have e : decide (lo ≤ n ∧ n ≤ hi) = false := by simp [hc]
        rw [e] at k
        exact k
    · exact ⟨_, rfl, whole_not nw ⟨false, rfl, iteF k⟩⟩
theorem betw_int {H : Hp} {Q : VK} {E : XK} {n lo hi : Int} (k : Q (.bl (decide (lo ≤ n ∧ n ≤ hi))) H) : sp_is_between K [.int n, .int lo, .int hi] H Q E := by
  unfold sp_is_between
  exact ⟨_, _, _, rfl, .inl ⟨n, rfl, k⟩⟩
theorem betw_yes {H : Hp} {Q : VK} {E : XK} {n lo hi : Int} (h : lo ≤ n ∧ n ≤ hi) (k : Q (.bl true) H) : sp_is_between K [.int n, .int lo, .int hi] H Q E := betw_int (by rw [decide_eq_true h]; exact k)
theorem betw_no {H : Hp} {Q : VK} {E : XK} {n lo hi : Int} (h : ¬ (lo ≤ n ∧ n ≤ hi)) (k : Q (.bl false) H) : sp_is_between K [.int n, .int lo, .int hi] H Q E := betw_int (by rw [decide_eq_false h]; exact k)
theorem betw_not {H : Hp} {Q : VK} {E : XK} {v : V} {lo hi : Int} (h : NW K H v) (k : Q (.bl false) H) : sp_is_between K [v, .int lo, .int hi] H Q E := by
  unfold sp_is_between
  exact ⟨_, _, _, rfl, .inr ⟨h, k⟩⟩
end
end Lw
/-! counters -/
namespace Lw
open PySem PySem.Spec PyProof.Rows L2 Rg
section
variable {P : Program} {w : World} {K : PySem.W.Frag} {mg : Str → Option Value} {base : Heap}
abbrev CC (K : PySem.W.Frag) : Addr := He.ga K "Counter"
abbrev eNoCounter (K : PySem.W.Frag) : Value := .ref (He.ga K "NoCounter")
def cO (C d : Addr) (m v : Int) : HO := .ins C d [("modulus", .int m), ("own_value", .int v)]
def MOk (m : Int) : Prop := 1 ≤ m ∧ m ≤ 10 ^ 40
/-- no int within the bounds -/
def Bad (K : PySem.W.Frag) (H : Hp) (x : V) (lo hi : Int) : Prop := (∃ n, x = .int n ∧ ¬ (lo ≤ n ∧ n ≤ hi)) ∨ NW K H x
theorem betw_bad {H : Hp} {Q : VK} {E : XK} {v : V} {lo hi : Int} (h : Bad K H v lo hi) (k : Q (.bl false) H) : sp_is_between K [v, .int lo, .int hi] H Q E := by
  rcases h with ⟨n, rfl, h⟩ | h
  · exact betw_no h k
  · exact betw_not h k
@[irreducible] def sp_Counter_init (K : PySem.W.Frag) : Sp := fun vs H Q E => ∃ (p d : Addr) (x y : V), vs = [.ref p, x, y] ∧ H p = some (.ins (CC K) d []) ∧
  ((∃ m v, x = .int m ∧ y = .int v ∧ MOk m ∧ Q .non (upd H p (cO (CC K) d m (v % m)))) ∨ (Bad K H x 1 (10 ^ 40) ∧ E (eNoCounter K) none H) ∨ (∃ m, x = .int m ∧ MOk m ∧ NW K H y ∧ E (eNoCounter K) none H))
theorem sc_Counter_init : FnScope ["self", "modulus", "value"] ["self", "modulus", "value"] (defScope s_Counter___init__) := ⟨rfl, rfl, rfl, by decide +kernel, rfl, by decide +kernel, by decide +kernel⟩
theorem ok_Counter_init (T : TopL K mg) : Has P w K mg base (L2.CX P w) 3 (He.ma K (CC K) "__init__") ["self", "modulus", "value"] [] (sp_Counter_init K) := by
  obtain ⟨fd, F⟩ := fn_Counter___init__ T
  obtain ⟨tL, g_LARGEST_MODULUS⟩ := gi_LARGEST_MODULUS T
  refine Has.ofXd F sc_Counter_init (F.binds1 3 1 (by intro z; cases z) rfl fun T kV doc pm an cdv ct us its l1 l2 => match us, l1, its, l2 with | [_, _, _], _, [_], _ => ⟨_, rfl, rfl⟩) (fun vs H Q E h => ?_) (fun cdv A outer s H vs Q E hr h => ?_)
  · unfold sp_Counter_init at h
    obtain ⟨p, d, x, y, rfl, _⟩ := h
    rfl
  · unfold sp_Counter_init at h
    obtain ⟨p, d, x, y, rfl, hp, k⟩ := h
    refine ⟨_, (pss_cons (ps_if (PW.pt (pw_or (pt_not (pt_val (pe_callH (ok_is_between T) hr (mg_is_between T) pass0 (pa_cons (pv 1) (pa_cons pe_int (pa_cons (pe_gint g_LARGEST_MODULUS) pa_nil)))))) (pw_or1 (pt_not (pt_val (pe_callH (ok_is_whole T) hr (mg_is_whole T) pass0 (pa_cons (pv 2) pa_nil))))))) (pss_one (raiseO (xx_NoCounter T) (takes_of rfl rfl rfl rfl) (mg_NoCounter T))) pss_nil)
      (pss_cons (ps_fld (pv 0) (pv 1) rfl)
      (pss_one (ps_fld (pv 0) (pe_op op_mod (pe_callTy call_int1 (by rfl) (fr_int T) (by decide +kernel) (pa_cons (pv 2) pa_nil)) (pv 1)) rfl)))), ?_⟩
    rcases k with ⟨m, v, rfl, rfl, hm, k⟩ | ⟨b, k⟩ | ⟨m, rfl, hm, nw, k⟩
    · refine ⟨_, rfl, betw_yes hm ⟨true, rfl, ?_⟩⟩
      refine iteF ⟨_, rfl, whole_int ⟨true, rfl, ?_⟩⟩
      refine iteF ?_
      refine ⟨_, rfl, _, rfl, p, CC K, d, _, rfl, hp, cl_Counter T, na_Counter_modulus T, lt1k rfl, ?_⟩
      refine ⟨_, rfl, .inl ⟨_, rfl, _, rfl, _, _, rfl, rfl, (show 0 < m by have := hm.1; omega), _, rfl, p, CC K, d, _, rfl, upd_same, cl_Counter T, na_Counter_own_value T, lt1k rfl, ?_⟩⟩
      rw [upd_upd]
      exact k
    · refine ⟨_, rfl, betw_bad b ⟨false, rfl, ?_⟩⟩
      exact iteT (iteT k)
    · refine ⟨_, rfl, betw_yes hm ⟨true, rfl, ?_⟩⟩
      refine iteF ⟨_, rfl, whole_not nw ⟨false, rfl, ?_⟩⟩
      exact iteT k
theorem ok_Counter_init1 (T : TopL K mg) : Has P w K mg base (L2.CX P w) 3 (He.ma K (CC K) "__init__") ["self", "modulus", "value"] [.int 0] (sp_Counter_init K) := by
  obtain ⟨fd, F⟩ := fn_Counter___init__ T
  obtain ⟨tL, g_LARGEST_MODULUS⟩ := gi_LARGEST_MODULUS T
  refine Has.ofXd F sc_Counter_init (F.binds1 2 0 (by intro z; cases z) rfl fun T kV doc pm an cdv ct us its l1 l2 => match us, l1, its, l2 with | [_, _], _, [_], _ => ⟨_, rfl, rfl⟩) (fun vs H Q E h => ?_) (fun cdv A outer s H vs Q E hr h => ?_)
  · unfold sp_Counter_init at h
    obtain ⟨p, d, x, y, rfl, _⟩ := h
    rfl
  · unfold sp_Counter_init at h
    obtain ⟨p, d, x, y, rfl, hp, k⟩ := h
    refine ⟨_, (pss_cons (ps_if (PW.pt (pw_or (pt_not (pt_val (pe_callH (ok_is_between T) hr (mg_is_between T) pass0 (pa_cons (pv 1) (pa_cons pe_int (pa_cons (pe_gint g_LARGEST_MODULUS) pa_nil)))))) (pw_or1 (pt_not (pt_val (pe_callH (ok_is_whole T) hr (mg_is_whole T) pass0 (pa_cons (pv 2) pa_nil))))))) (pss_one (raiseO (xx_NoCounter T) (takes_of rfl rfl rfl rfl) (mg_NoCounter T))) pss_nil)
      (pss_cons (ps_fld (pv 0) (pv 1) rfl)
      (pss_one (ps_fld (pv 0) (pe_op op_mod (pe_callTy call_int1 (by rfl) (fr_int T) (by decide +kernel) (pa_cons (pv 2) pa_nil)) (pv 1)) rfl)))), ?_⟩
    rcases k with ⟨m, v, rfl, rfl, hm, k⟩ | ⟨b, k⟩ | ⟨m, rfl, hm, nw, k⟩
    · refine ⟨_, rfl, betw_yes hm ⟨true, rfl, ?_⟩⟩
      refine iteF ⟨_, rfl, whole_int ⟨true, rfl, ?_⟩⟩
      refine iteF ?_
      refine ⟨_, rfl, _, rfl, p, CC K, d, _, rfl, hp, cl_Counter T, na_Counter_modulus T, lt1k rfl, ?_⟩
      refine ⟨_, rfl, .inl ⟨_, rfl, _, rfl, _, _, rfl, rfl, (show 0 < m by have := hm.1; omega), _, rfl, p, CC K, d, _, rfl, upd_same, cl_Counter T, na_Counter_own_value T, lt1k rfl, ?_⟩⟩
      rw [upd_upd]
      exact k
    · refine ⟨_, rfl, betw_bad b ⟨false, rfl, ?_⟩⟩
      exact iteT (iteT k)
    · refine ⟨_, rfl, betw_yes hm ⟨true, rfl, ?_⟩⟩
      refine iteF ⟨_, rfl, whole_not nw ⟨false, rfl, ?_⟩⟩
      exact iteT k
theorem counter_init {H : Hp} {R : VK} {E : XK} {p d : Addr} {m v : Int} (np : H p = none) (nd : H d = none) (ne : d ≠ p) (hm : MOk m) (k : ∀ H', Same H H' → H' p = some (cO (CC K) d m (v % m)) → R .non H') :
    sp_Counter_init K [.ref p, .int m, .int v] (upd (upd H d (.own p)) p (.ins (CC K) d [])) R E := by
  unfold sp_Counter_init
  refine ⟨p, d, _, _, rfl, upd_same, .inl ⟨m, v, rfl, rfl, hm, k _ (fun c u e => ?_) upd_same⟩⟩
  rw [upd_ne (ne_of_none e np), upd_ne (ne_of_none e np), upd_ne (ne_of_none e nd)]
  exact e
/-- a new counter -/
def NewC (K : PySem.W.Frag) (H : Hp) (Q : VK) (m v : Int) : Prop := ∀ p d H', H p = none → Same H H' → H' p = some (cO (CC K) d m (v % m)) → Q (.ref p) H'
def sp_Counter_value (K : PySem.W.Frag) : Sp := fun vs H Q _ => ∃ (p d : Addr) (m v : Int), vs = [.ref p] ∧ H p = some (cO (CC K) d m v) ∧ Q (.int v) H
theorem sc_Counter_value : FnScope ["self"] ["self"] (defScope s_Counter_value) := ⟨rfl, rfl, rfl, by decide +kernel, rfl, by decide +kernel, by decide +kernel⟩
theorem ok_Counter_value (T : TopL K mg) : Has P w K mg base (CX0) 1 (pgA "Counter" "value" K) ["self"] [] (sp_Counter_value K) := by
  obtain ⟨fd, F⟩ := fn_Counter_value T
  refine Has.of0 F sc_Counter_value (fun _ _ _ _ _ _ us hl => match us, hl with | [_], _ => rfl) (fun vs H Q E h => ?_) (fun cdv A outer s H vs Q E hr h => ?_)
  · skip
    obtain ⟨p, d, m, v, rfl, hp, k⟩ := h
    rfl
  · skip
    obtain ⟨p, d, m, v, rfl, hp, k⟩ := h
    refine ⟨_, (pss_one (ps_ret (pe_fld (pv 0) rfl))), ?_⟩
    exact ⟨_, rfl, p, CC K, d, _, _, rfl, hp, cl_Counter T, na_Counter_own_value T, rfl, k⟩
@[irreducible] def sp_Counter_set (K : PySem.W.Frag) : Sp := fun vs H Q E => ∃ (p d : Addr) (m v : Int) (y : V), vs = [.ref p, y] ∧ H p = some (cO (CC K) d m v) ∧
  ((∃ n, y = .int n ∧ (0 ≤ n ∧ n ≤ m - 1) ∧ Q .non (upd H p (cO (CC K) d m n))) ∨ (Bad K H y 0 (m - 1) ∧ E (eNoCounter K) none H))
theorem sc_Counter_set : FnScope ["self", "value"] ["self", "value"] (defScope s_Counter_value_set) := ⟨rfl, rfl, rfl, by decide +kernel, rfl, by decide +kernel, by decide +kernel⟩
theorem ok_Counter_set (T : TopL K mg) : Has P w K mg base (L2.CX P w) 3 (psA "Counter" "value" K) ["self", "value"] [] (sp_Counter_set K) := by
  obtain ⟨fd, F⟩ := fn_Counter_value_set T
  refine Has.ofX F sc_Counter_set (fun _ _ _ _ _ _ us hl => match us, hl with | [_, _], _ => rfl) (fun vs H Q E h => ?_) (fun cdv A outer s H vs Q E hr h => ?_)
  · unfold sp_Counter_set at h
    obtain ⟨p, d, m, v, y, rfl, hp, k⟩ := h
    rfl
  · unfold sp_Counter_set at h
    obtain ⟨p, d, m, v, y, rfl, hp, k⟩ := h
    refine ⟨_, (pss_cons (ps_if (pt_not (pt_val (pe_callH (ok_is_between T) hr (mg_is_between T) pass0 (pa_cons (pv 1) (pa_cons pe_int (pa_cons (pe_op op_sub (pe_fld (pv 0) rfl) pe_int) pa_nil)))))) (pss_one (raiseO (xx_NoCounter T) (takes_of rfl rfl rfl rfl) (mg_NoCounter T))) pss_nil)
      (pss_one (ps_fld (pv 0) (pv 1) rfl))), ?_⟩
    rcases k with ⟨n, rfl, hn, k⟩ | ⟨b, k⟩
    · refine ⟨_, rfl, _, rfl, p, CC K, d, _, _, rfl, hp, cl_Counter T, na_Counter_modulus T, rfl, _, _, rfl, rfl, betw_yes hn ⟨true, rfl, ?_⟩⟩
      refine iteF ?_
      exact ⟨_, rfl, _, rfl, p, CC K, d, _, rfl, hp, cl_Counter T, na_Counter_own_value T, lt1k rfl, k⟩
    · refine ⟨_, rfl, _, rfl, p, CC K, d, _, _, rfl, hp, cl_Counter T, na_Counter_modulus T, rfl, _, _, rfl, rfl, betw_bad b ⟨false, rfl, ?_⟩⟩
      exact iteT k
theorem cset_yes {H : Hp} {Q : VK} {E : XK} {p d : Addr} {m v n : Int} (hp : H p = some (cO (CC K) d m v)) (h : 0 ≤ n ∧ n ≤ m - 1) (k : Q .non (upd H p (cO (CC K) d m n))) : sp_Counter_set K [.ref p, .int n] H Q E := by
  unfold sp_Counter_set
  exact ⟨p, d, m, v, _, rfl, hp, .inl ⟨n, rfl, h, k⟩⟩
theorem cset_no {H : Hp} {Q : VK} {E : XK} {p d : Addr} {m v : Int} {y : V} (hp : H p = some (cO (CC K) d m v)) (h : Bad K H y 0 (m - 1)) (k : E (eNoCounter K) none H) : sp_Counter_set K [.ref p, y] H Q E := by
  unfold sp_Counter_set
  exact ⟨p, d, m, v, _, rfl, hp, .inr ⟨h, k⟩⟩
theorem sc_Counter_change : FnScope ["self", "value"] ["self", "value"] (defScope s_Counter_change) := ⟨rfl, rfl, rfl, by decide +kernel, rfl, by decide +kernel, by decide +kernel⟩
theorem ok_Counter_change (T : TopL K mg) : Has P w K mg base (L2.CX P w) 6 (He.ma K (CC K) "change") ["self", "value"] [] (sp_Counter_set K) := by
  obtain ⟨fd, F⟩ := fn_Counter_change T
  refine Has.ofX F sc_Counter_change (fun _ _ _ _ _ _ us hl => match us, hl with | [_, _], _ => rfl) (fun vs H Q E h => ?_) (fun cdv A outer s H vs Q E hr h => ?_)
  · unfold sp_Counter_set at h
    obtain ⟨p, d, m, v, y, rfl, hp, k⟩ := h
    rfl
  · unfold sp_Counter_set at h
    obtain ⟨p, d, m, v, y, rfl, hp, k⟩ := h
    refine ⟨_, (pss_one (ps_fldP (pv 0) (pv 1) (cl_Counter T) (st_Counter_value T) (ok_Counter_set T) hr (passes_call (takes_of rfl rfl rfl rfl) (fun _ _ _ _ h => h)))), ?_⟩
    rcases k with ⟨n, rfl, hn, k⟩ | ⟨b, k⟩
    · exact ⟨_, rfl, _, rfl, p, d, _, rfl, hp, cset_yes hp hn k⟩
    · exact ⟨_, rfl, _, rfl, p, d, _, rfl, hp, cset_no hp b k⟩
@[irreducible] def sp_whole_of (K : PySem.W.Frag) : Sp := fun vs H Q E => ∃ v, vs = [v] ∧ ((∃ n, v = .int n ∧ Q (.int n) H) ∨ (NW K H v ∧ E (eNoCounter K) none H))
theorem wof_yes {H : Hp} {Q : VK} {E : XK} {n : Int} (k : Q (.int n) H) : sp_whole_of K [.int n] H Q E := by
  unfold sp_whole_of
  exact ⟨_, rfl, .inl ⟨n, rfl, k⟩⟩
theorem wof_no {H : Hp} {Q : VK} {E : XK} {v : V} (h : NW K H v) (k : E (eNoCounter K) none H) : sp_whole_of K [v] H Q E := by
  unfold sp_whole_of
  exact ⟨_, rfl, .inr ⟨h, k⟩⟩
theorem sc_whole_of : FnScope ["thing"] ["thing"] (defScope s_whole_of) := ⟨rfl, rfl, rfl, by decide +kernel, rfl, by decide +kernel, by decide +kernel⟩
theorem ok_whole_of (T : TopL K mg) : Has P w K mg base (L2.CX P w) 2 (He.ga K "whole_of") ["thing"] [] (sp_whole_of K) := by
  obtain ⟨fd, F⟩ := fn_whole_of T
  refine Has.ofX F sc_whole_of (fun _ _ _ _ _ _ us hl => match us, hl with | [_], _ => rfl) (fun vs H Q E h => ?_) (fun cdv A outer s H vs Q E hr h => ?_)
  · unfold sp_whole_of at h
    obtain ⟨v, rfl, k⟩ := h
    rfl
  · unfold sp_whole_of at h
    obtain ⟨v, rfl, k⟩ := h
    refine ⟨_, (pss_cons (ps_if (pt_not (pt_val (pe_callH (ok_is_whole T) hr (mg_is_whole T) pass0 (pa_cons (pv 0) pa_nil)))) (pss_one (raiseO (xx_NoCounter T) (takes_of rfl rfl rfl rfl) (mg_NoCounter T))) pss_nil)
      (pss_one (ps_ret (pv 0)))), ?_⟩
    rcases k with ⟨n, rfl, k⟩ | ⟨nw, k⟩
    · refine ⟨_, rfl, whole_int ⟨true, rfl, ?_⟩⟩
      exact iteF ⟨_, rfl, k⟩
    · refine ⟨_, rfl, whole_not nw ⟨false, rfl, ?_⟩⟩
      exact iteT k
@[irreducible] def sp_divisor_of (K : PySem.W.Frag) : Sp := fun vs H Q E => ∃ v, vs = [v] ∧ ((∃ n, v = .int n ∧ 1 ≤ n ∧ Q (.int n) H) ∨ (((∃ n, v = .int n ∧ n < 1) ∨ NW K H v) ∧ E (eNoCounter K) none H))
theorem dof_yes {H : Hp} {Q : VK} {E : XK} {n : Int} (h : 1 ≤ n) (k : Q (.int n) H) : sp_divisor_of K [.int n] H Q E := by
  unfold sp_divisor_of
  exact ⟨_, rfl, .inl ⟨n, rfl, h, k⟩⟩
theorem dof_no {H : Hp} {Q : VK} {E : XK} {v : V} (h : (∃ n, v = .int n ∧ n < 1) ∨ NW K H v) (k : E (eNoCounter K) none H) : sp_divisor_of K [v] H Q E := by
  unfold sp_divisor_of
  exact ⟨_, rfl, .inr ⟨h, k⟩⟩
theorem sc_divisor_of : FnScope ["thing"] ["thing"] (defScope s_divisor_of) := ⟨rfl, rfl, rfl, by decide +kernel, rfl, by decide +kernel, by decide +kernel⟩
theorem ok_divisor_of (T : TopL K mg) : Has P w K mg base (L2.CX P w) 3 (He.ga K "divisor_of") ["thing"] [] (sp_divisor_of K) := by
  obtain ⟨fd, F⟩ := fn_divisor_of T
  refine Has.ofX F sc_divisor_of (fun _ _ _ _ _ _ us hl => match us, hl with | [_], _ => rfl) (fun vs H Q E h => ?_) (fun cdv A outer s H vs Q E hr h => ?_)
  · unfold sp_divisor_of at h
    obtain ⟨v, rfl, k⟩ := h
    rfl
  · unfold sp_divisor_of at h
    obtain ⟨v, rfl, k⟩ := h
    refine ⟨_, (pss_cons (ps_if (pt_cmpR op_lt (pe_callH (ok_whole_of T) hr (mg_whole_of T) (passes_call (takes_of rfl rfl rfl rfl) (fun _ _ _ _ h => h)) (pa_cons (pv 0) pa_nil)) pe_int (nomark _)) (pss_one (raiseO (xx_NoCounter T) (takes_of rfl rfl rfl rfl) (mg_NoCounter T))) pss_nil)
      (pss_one (ps_ret (pv 0)))), ?_⟩
    rcases k with ⟨n, rfl, hn, k⟩ | ⟨⟨n, rfl, hn⟩ | nw, k⟩
    · refine ⟨_, rfl, wof_yes ⟨_, _, rfl, rfl, _, rfl, ?_⟩⟩
      refine ifD (fun hc => absurd hc (by omega)) (fun _ => ?_)
      exact ⟨_, rfl, k⟩
    · refine ⟨_, rfl, wof_yes ⟨_, _, rfl, rfl, _, rfl, ?_⟩⟩
      exact ifD (fun _ => k) (fun hc => absurd hn hc)
    · exact ⟨_, rfl, wof_no nw k⟩
@[irreducible] def sp_Counter_add (K : PySem.W.Frag) (f : Int → Int → Int) : Sp := fun vs H Q E => ∃ (p d : Addr) (m v : Int) (y : V), vs = [.ref p, y] ∧ H p = some (cO (CC K) d m v) ∧ MOk m ∧
  ((∃ n, y = .int n ∧ NewC K H Q m (f v n)) ∨ (NW K H y ∧ E (eNoCounter K) none H))
theorem cadd_yes {H : Hp} {Q : VK} {E : XK} {p d : Addr} {m v n : Int} {f : Int → Int → Int} (hp : H p = some (cO (CC K) d m v)) (hm : MOk m) (k : NewC K H Q m (f v n)) : sp_Counter_add K f [.ref p, .int n] H Q E := by
  unfold sp_Counter_add
  exact ⟨p, d, m, v, _, rfl, hp, hm, .inl ⟨n, rfl, k⟩⟩
theorem cadd_no {H : Hp} {Q : VK} {E : XK} {p d : Addr} {m v : Int} {y : V} {f : Int → Int → Int} (hp : H p = some (cO (CC K) d m v)) (hm : MOk m) (h : NW K H y) (k : E (eNoCounter K) none H) : sp_Counter_add K f [.ref p, y] H Q E := by
  unfold sp_Counter_add
  exact ⟨p, d, m, v, _, rfl, hp, hm, .inr ⟨h, k⟩⟩
theorem sc_Counter_add : FnScope ["self", "other"] ["self", "other"] (defScope s_Counter___add__) := ⟨rfl, rfl, rfl, by decide +kernel, rfl, by decide +kernel, by decide +kernel⟩
theorem ok_Counter_add (T : TopL K mg) : Has P w K mg base (L2.CX P w) 5 (He.ma K (CC K) "__add__") ["self", "other"] [] (sp_Counter_add K (fun x y => x + y)) := by
  obtain ⟨fd, F⟩ := fn_Counter___add__ T
  refine Has.ofX F sc_Counter_add (fun _ _ _ _ _ _ us hl => match us, hl with | [_, _], _ => rfl) (fun vs H Q E h => ?_) (fun cdv A outer s H vs Q E hr h => ?_)
  · unfold sp_Counter_add at h
    obtain ⟨p, d, m, v, y, rfl, hp, hm, k⟩ := h
    rfl
  · unfold sp_Counter_add at h
    obtain ⟨p, d, m, v, y, rfl, hp, hm, k⟩ := h
    refine ⟨_, (pss_one (ps_ret (pe_makeH (mk_Counter T) (ok_Counter_init T) hr (mg_Counter T) (passes_call (takes_of rfl rfl rfl rfl) (fun _ _ _ _ h => h)) (pa_cons (pe_fld (pv 0) rfl) (pa_cons (pe_op op_add (pe_fld (pv 0) rfl) (pe_callH (ok_whole_of T) hr (mg_whole_of T) (passes_call (takes_of rfl rfl rfl rfl) (fun _ _ _ _ h => h)) (pa_cons (pv 1) pa_nil))) pa_nil))))), ?_⟩
    rcases k with ⟨n, rfl, k⟩ | ⟨nw, k⟩
    · refine ⟨_, rfl, p, CC K, d, _, _, rfl, hp, cl_Counter T, na_Counter_modulus T, rfl, _, rfl, p, CC K, d, _, _, rfl, hp, cl_Counter T, na_Counter_own_value T, rfl, _, rfl, wof_yes ⟨_, _, rfl, rfl, ?_⟩⟩
      intro q dq nq ndq neq
      exact counter_init nq ndq neq hm fun H' s' hq => ⟨rfl, k q dq H' nq s' hq⟩
    · exact ⟨_, rfl, p, CC K, d, _, _, rfl, hp, cl_Counter T, na_Counter_modulus T, rfl, _, rfl, p, CC K, d, _, _, rfl, hp, cl_Counter T, na_Counter_own_value T, rfl, _, rfl, wof_no nw k⟩
theorem sc_Counter_radd : FnScope ["self", "other"] ["self", "other"] (defScope s_Counter___radd__) := ⟨rfl, rfl, rfl, by decide +kernel, rfl, by decide +kernel, by decide +kernel⟩
theorem ok_Counter_radd (T : TopL K mg) : Has P w K mg base (L2.CX P w) 5 (He.ma K (CC K) "__radd__") ["self", "other"] [] (sp_Counter_add K (fun x y => x + y)) := by
  obtain ⟨fd, F⟩ := fn_Counter___radd__ T
  refine Has.ofX F sc_Counter_radd (fun _ _ _ _ _ _ us hl => match us, hl with | [_, _], _ => rfl) (fun vs H Q E h => ?_) (fun cdv A outer s H vs Q E hr h => ?_)
  · unfold sp_Counter_add at h
    obtain ⟨p, d, m, v, y, rfl, hp, hm, k⟩ := h
    rfl
  · unfold sp_Counter_add at h
    obtain ⟨p, d, m, v, y, rfl, hp, hm, k⟩ := h
    refine ⟨_, (pss_one (ps_ret (pe_makeH (mk_Counter T) (ok_Counter_init T) hr (mg_Counter T) (passes_call (takes_of rfl rfl rfl rfl) (fun _ _ _ _ h => h)) (pa_cons (pe_fld (pv 0) rfl) (pa_cons (pe_op op_add (pe_fld (pv 0) rfl) (pe_callH (ok_whole_of T) hr (mg_whole_of T) (passes_call (takes_of rfl rfl rfl rfl) (fun _ _ _ _ h => h)) (pa_cons (pv 1) pa_nil))) pa_nil))))), ?_⟩
    rcases k with ⟨n, rfl, k⟩ | ⟨nw, k⟩
    · refine ⟨_, rfl, p, CC K, d, _, _, rfl, hp, cl_Counter T, na_Counter_modulus T, rfl, _, rfl, p, CC K, d, _, _, rfl, hp, cl_Counter T, na_Counter_own_value T, rfl, _, rfl, wof_yes ⟨_, _, rfl, rfl, ?_⟩⟩
      intro q dq nq ndq neq
      exact counter_init nq ndq neq hm fun H' s' hq => ⟨rfl, k q dq H' nq s' hq⟩
    · exact ⟨_, rfl, p, CC K, d, _, _, rfl, hp, cl_Counter T, na_Counter_modulus T, rfl, _, rfl, p, CC K, d, _, _, rfl, hp, cl_Counter T, na_Counter_own_value T, rfl, _, rfl, wof_no nw k⟩
@[irreducible] def sp_Counter_sub (K : PySem.W.Frag) : Sp := fun vs H Q E => ∃ (p d : Addr) (m v : Int) (y : V), vs = [.ref p, y] ∧ H p = some (cO (CC K) d m v) ∧ MOk m ∧
  ((∃ n, y = .int n ∧ NewC K H Q m (v - n)) ∨ (∃ q e v', y = .ref q ∧ H q = some (cO (CC K) e m v') ∧ Q (.int ((v - v') % m)) H) ∨
   ((∃ q e m' v', y = .ref q ∧ H q = some (cO (CC K) e m' v') ∧ m' ≠ m) ∧ E (eNoCounter K) none H) ∨ (NW K H y ∧ (∃ t, TyX K H y t ∧ PySem.W.kitOne K t (.ref (CC K)) = some false) ∧ E (eNoCounter K) none H))
theorem csub_int {H : Hp} {Q : VK} {E : XK} {p d : Addr} {m v n : Int} (hp : H p = some (cO (CC K) d m v)) (hm : MOk m) (k : NewC K H Q m (v - n)) : sp_Counter_sub K [.ref p, .int n] H Q E := by
  unfold sp_Counter_sub
  exact ⟨p, d, m, v, _, rfl, hp, hm, .inl ⟨n, rfl, k⟩⟩
theorem csub_two {H : Hp} {Q : VK} {E : XK} {p d q e : Addr} {m v v' : Int} (hp : H p = some (cO (CC K) d m v)) (hm : MOk m) (hq : H q = some (cO (CC K) e m v')) (k : Q (.int ((v - v') % m)) H) : sp_Counter_sub K [.ref p, .ref q] H Q E := by
  unfold sp_Counter_sub
  exact ⟨p, d, m, v, _, rfl, hp, hm, .inr (.inl ⟨q, e, v', rfl, hq, k⟩)⟩
theorem csub_other {H : Hp} {Q : VK} {E : XK} {p d q e : Addr} {m v m' v' : Int} (hp : H p = some (cO (CC K) d m v)) (hm : MOk m) (hq : H q = some (cO (CC K) e m' v')) (hne : m' ≠ m) (k : E (eNoCounter K) none H) : sp_Counter_sub K [.ref p, .ref q] H Q E := by
  unfold sp_Counter_sub
  exact ⟨p, d, m, v, _, rfl, hp, hm, .inr (.inr (.inl ⟨⟨q, e, m', v', rfl, hq, hne⟩, k⟩))⟩
theorem csub_no {H : Hp} {Q : VK} {E : XK} {p d : Addr} {m v : Int} {y : V} {t : Value} (hp : H p = some (cO (CC K) d m v)) (hm : MOk m) (h : NW K H y) (ty : TyX K H y t) (kt : PySem.W.kitOne K t (.ref (CC K)) = some false) (k : E (eNoCounter K) none H) : sp_Counter_sub K [.ref p, y] H Q E := by
  unfold sp_Counter_sub
  exact ⟨p, d, m, v, _, rfl, hp, hm, .inr (.inr (.inr ⟨h, ⟨t, ty, kt⟩, k⟩))⟩
theorem sc_Counter_sub : FnScope ["self", "other"] ["self", "other"] (defScope s_Counter___sub__) := ⟨rfl, rfl, rfl, by decide +kernel, rfl, by decide +kernel, by decide +kernel⟩
theorem ok_Counter_sub (T : TopL K mg) : Has P w K mg base (L2.CX P w) 5 (He.ma K (CC K) "__sub__") ["self", "other"] [] (sp_Counter_sub K) := by
  obtain ⟨fd, F⟩ := fn_Counter___sub__ T
  refine Has.ofX F sc_Counter_sub (fun _ _ _ _ _ _ us hl => match us, hl with | [_, _], _ => rfl) (fun vs H Q E h => ?_) (fun cdv A outer s H vs Q E hr h => ?_)
  · unfold sp_Counter_sub at h
    obtain ⟨p, d, m, v, y, rfl, hp, hm, k⟩ := h
    rfl
  · unfold sp_Counter_sub at h
    obtain ⟨p, d, m, v, y, rfl, hp, hm, k⟩ := h
    refine ⟨_, (pss_cons (ps_if (pt_not (pt_val (pe_callB (call_isi : CallR _ _ (rIsi K)) (by rfl) (fr_isinstance T) (by decide +kernel) (pa_cons (pv 1) (pa_cons (pe_gref (mg_Counter T)) pa_nil))))) (pss_one (ps_ret (pe_makeH (mk_Counter T) (ok_Counter_init T) hr (mg_Counter T) (passes_call (takes_of rfl rfl rfl rfl) (fun _ _ _ _ h => h)) (pa_cons (pe_fld (pv 0) rfl) (pa_cons (pe_op op_sub (pe_fld (pv 0) rfl) (pe_callH (ok_whole_of T) hr (mg_whole_of T) (passes_call (takes_of rfl rfl rfl rfl) (fun _ _ _ _ h => h)) (pa_cons (pv 1) pa_nil))) pa_nil))))) pss_nil)
      (pss_cons (ps_if (pt_cmpR op_ne (pe_fld (pv 1) rfl) (pe_fld (pv 0) rfl) (nomark _)) (pss_one (raiseO (xx_NoCounter T) (takes_of rfl rfl rfl rfl) (mg_NoCounter T))) pss_nil)
      (pss_one (ps_ret (pe_op op_mod (pe_op op_sub (pe_fld (pv 0) rfl) (pe_fld (pv 1) rfl)) (pe_fld (pv 0) rfl)))))), ?_⟩
    rcases k with ⟨n, rfl, k⟩ | ⟨q, e, v', rfl, hq, k⟩ | ⟨⟨q, e, m', v', rfl, hq, hne⟩, k⟩ | ⟨nw, ⟨t, ty, kt⟩, k⟩
    · refine ⟨_, rfl, _, _, _, _, false, rfl, .own _, .base (.int n), (in_Counter T).to _ (by decide), false, rfl, ?_⟩
      refine iteT ?_
      refine ⟨_, rfl, p, CC K, d, _, _, rfl, hp, cl_Counter T, na_Counter_modulus T, rfl, _, rfl, p, CC K, d, _, _, rfl, hp, cl_Counter T, na_Counter_own_value T, rfl, _, rfl, wof_yes ⟨_, _, rfl, rfl, ?_⟩⟩
      intro q dq nq ndq neq
      exact counter_init nq ndq neq hm fun H' s' hq => ⟨rfl, k q dq H' nq s' hq⟩
    · refine ⟨_, rfl, _, _, _, _, true, rfl, .own _, ty_ins (in_Counter T) (cl_Counter T) hq, (in_Counter T).me, true, rfl, ?_⟩
      refine iteF ?_
      refine ⟨_, rfl, q, CC K, e, _, _, rfl, hq, cl_Counter T, na_Counter_modulus T, rfl, _, rfl, p, CC K, d, _, _, rfl, hp, cl_Counter T, na_Counter_modulus T, rfl, rfl, _, rfl, ?_⟩
      refine ifN (fun hc => absurd rfl hc) (fun _ => ?_)
      exact ⟨_, rfl, p, CC K, d, _, _, rfl, hp, cl_Counter T, na_Counter_own_value T, rfl, _, rfl, q, CC K, e, _, _, rfl, hq, cl_Counter T, na_Counter_own_value T, rfl, _, _, rfl, rfl, _, rfl, p, CC K, d, _, _, rfl, hp, cl_Counter T, na_Counter_modulus T, rfl, _, _, rfl, rfl, (show 0 < m by have := hm.1; omega), k⟩
    · refine ⟨_, rfl, _, _, _, _, true, rfl, .own _, ty_ins (in_Counter T) (cl_Counter T) hq, (in_Counter T).me, true, rfl, ?_⟩
      refine iteF ?_
      refine ⟨_, rfl, q, CC K, e, _, _, rfl, hq, cl_Counter T, na_Counter_modulus T, rfl, _, rfl, p, CC K, d, _, _, rfl, hp, cl_Counter T, na_Counter_modulus T, rfl, rfl, _, rfl, ?_⟩
      exact ifN (fun _ => k) (fun hc => absurd (V.int.inj hc) hne)
    · refine ⟨_, rfl, _, _, t, _, false, rfl, .own _, ty, kt, false, rfl, ?_⟩
      refine iteT ?_
      exact ⟨_, rfl, p, CC K, d, _, _, rfl, hp, cl_Counter T, na_Counter_modulus T, rfl, _, rfl, p, CC K, d, _, _, rfl, hp, cl_Counter T, na_Counter_own_value T, rfl, _, rfl, wof_no nw k⟩
@[irreducible] def sp_Counter_iadd (K : PySem.W.Frag) (f : Int → Int → Int) : Sp := fun vs H Q E => ∃ (p d : Addr) (m v : Int) (y : V), vs = [.ref p, y] ∧ H p = some (cO (CC K) d m v) ∧ MOk m ∧
  ((∃ n, y = .int n ∧ Q (.ref p) (upd H p (cO (CC K) d m (f v n % m)))) ∨ (NW K H y ∧ E (eNoCounter K) none H))
theorem ciadd_yes {H : Hp} {Q : VK} {E : XK} {p d : Addr} {m v n : Int} {f : Int → Int → Int} (hp : H p = some (cO (CC K) d m v)) (hm : MOk m) (k : Q (.ref p) (upd H p (cO (CC K) d m (f v n % m)))) : sp_Counter_iadd K f [.ref p, .int n] H Q E := by
  unfold sp_Counter_iadd
  exact ⟨p, d, m, v, _, rfl, hp, hm, .inl ⟨n, rfl, k⟩⟩
theorem ciadd_no {H : Hp} {Q : VK} {E : XK} {p d : Addr} {m v : Int} {y : V} {f : Int → Int → Int} (hp : H p = some (cO (CC K) d m v)) (hm : MOk m) (h : NW K H y) (k : E (eNoCounter K) none H) : sp_Counter_iadd K f [.ref p, y] H Q E := by
  unfold sp_Counter_iadd
  exact ⟨p, d, m, v, _, rfl, hp, hm, .inr ⟨h, k⟩⟩
theorem sc_Counter_iadd : FnScope ["self", "other"] ["self", "other"] (defScope s_Counter___iadd__) := ⟨rfl, rfl, rfl, by decide +kernel, rfl, by decide +kernel, by decide +kernel⟩
theorem ok_Counter_iadd (T : TopL K mg) : Has P w K mg base (L2.CX P w) 3 (He.ma K (CC K) "__iadd__") ["self", "other"] [] (sp_Counter_iadd K (fun x y => x + y)) := by
  obtain ⟨fd, F⟩ := fn_Counter___iadd__ T
  refine Has.ofX F sc_Counter_iadd (fun _ _ _ _ _ _ us hl => match us, hl with | [_, _], _ => rfl) (fun vs H Q E h => ?_) (fun cdv A outer s H vs Q E hr h => ?_)
  · unfold sp_Counter_iadd at h
    obtain ⟨p, d, m, v, y, rfl, hp, hm, k⟩ := h
    rfl
  · unfold sp_Counter_iadd at h
    obtain ⟨p, d, m, v, y, rfl, hp, hm, k⟩ := h
    refine ⟨_, (pss_cons (ps_fld (pv 0) (pe_op op_mod (pe_op op_add (pe_fld (pv 0) rfl) (pe_callH (ok_whole_of T) hr (mg_whole_of T) (passes_call (takes_of rfl rfl rfl rfl) (fun _ _ _ _ h => h)) (pa_cons (pv 1) pa_nil))) (pe_fld (pv 0) rfl)) rfl)
      (pss_one (ps_ret (pv 0)))), ?_⟩
    rcases k with ⟨n, rfl, k⟩ | ⟨nw, k⟩
    · refine ⟨_, rfl, p, CC K, d, _, _, rfl, hp, cl_Counter T, na_Counter_own_value T, rfl, _, rfl, wof_yes ⟨_, _, rfl, rfl, _, rfl, p, CC K, d, _, _, rfl, hp, cl_Counter T, na_Counter_modulus T, rfl, _, _, rfl, rfl, (show 0 < m by have := hm.1; omega), _, rfl, p, CC K, d, _, rfl, hp, cl_Counter T, na_Counter_own_value T, lt1k rfl, ?_⟩⟩
      exact ⟨_, rfl, k⟩
    · exact ⟨_, rfl, p, CC K, d, _, _, rfl, hp, cl_Counter T, na_Counter_own_value T, rfl, _, rfl, wof_no nw k⟩
theorem sc_Counter_isub : FnScope ["self", "other"] ["self", "other"] (defScope s_Counter___isub__) := ⟨rfl, rfl, rfl, by decide +kernel, rfl, by decide +kernel, by decide +kernel⟩
theorem ok_Counter_isub (T : TopL K mg) : Has P w K mg base (L2.CX P w) 3 (He.ma K (CC K) "__isub__") ["self", "other"] [] (sp_Counter_iadd K (fun x y => x - y)) := by
  obtain ⟨fd, F⟩ := fn_Counter___isub__ T
  refine Has.ofX F sc_Counter_isub (fun _ _ _ _ _ _ us hl => match us, hl with | [_, _], _ => rfl) (fun vs H Q E h => ?_) (fun cdv A outer s H vs Q E hr h => ?_)
  · unfold sp_Counter_iadd at h
    obtain ⟨p, d, m, v, y, rfl, hp, hm, k⟩ := h
    rfl
  · unfold sp_Counter_iadd at h
    obtain ⟨p, d, m, v, y, rfl, hp, hm, k⟩ := h
    refine ⟨_, (pss_cons (ps_fld (pv 0) (pe_op op_mod (pe_op op_sub (pe_fld (pv 0) rfl) (pe_callH (ok_whole_of T) hr (mg_whole_of T) (passes_call (takes_of rfl rfl rfl rfl) (fun _ _ _ _ h => h)) (pa_cons (pv 1) pa_nil))) (pe_fld (pv 0) rfl)) rfl)
      (pss_one (ps_ret (pv 0)))), ?_⟩
    rcases k with ⟨n, rfl, k⟩ | ⟨nw, k⟩
    · refine ⟨_, rfl, p, CC K, d, _, _, rfl, hp, cl_Counter T, na_Counter_own_value T, rfl, _, rfl, wof_yes ⟨_, _, rfl, rfl, _, rfl, p, CC K, d, _, _, rfl, hp, cl_Counter T, na_Counter_modulus T, rfl, _, _, rfl, rfl, (show 0 < m by have := hm.1; omega), _, rfl, p, CC K, d, _, rfl, hp, cl_Counter T, na_Counter_own_value T, lt1k rfl, ?_⟩⟩
      exact ⟨_, rfl, k⟩
    · exact ⟨_, rfl, p, CC K, d, _, _, rfl, hp, cl_Counter T, na_Counter_own_value T, rfl, _, rfl, wof_no nw k⟩
@[irreducible] def sp_Counter_div (K : PySem.W.Frag) (f : Int → Int → Int) : Sp := fun vs H Q E => ∃ (p d : Addr) (m v : Int) (y : V), vs = [.ref p, y] ∧ H p = some (cO (CC K) d m v) ∧
  ((∃ n, y = .int n ∧ (1 ≤ n ∧ Bg n) ∧ Q (.int (f v n)) H) ∨ (((∃ n, y = .int n ∧ n < 1) ∨ NW K H y) ∧ E (eNoCounter K) none H))
theorem cdiv_yes {H : Hp} {Q : VK} {E : XK} {p d : Addr} {m v n : Int} {f : Int → Int → Int} (hp : H p = some (cO (CC K) d m v)) (hn : 1 ≤ n ∧ Bg n) (k : Q (.int (f v n)) H) : sp_Counter_div K f [.ref p, .int n] H Q E := by
  unfold sp_Counter_div
  exact ⟨p, d, m, v, _, rfl, hp, .inl ⟨n, rfl, hn, k⟩⟩
theorem cdiv_no {H : Hp} {Q : VK} {E : XK} {p d : Addr} {m v : Int} {y : V} {f : Int → Int → Int} (hp : H p = some (cO (CC K) d m v)) (h : (∃ n, y = .int n ∧ n < 1) ∨ NW K H y) (k : E (eNoCounter K) none H) : sp_Counter_div K f [.ref p, y] H Q E := by
  unfold sp_Counter_div
  exact ⟨p, d, m, v, _, rfl, hp, .inr ⟨h, k⟩⟩
theorem bg_div {i n : Int} (h1 : 1 ≤ n) (h : Bg n) : CDivW i n := wide_div (b := 300) (by omega) h (by decide) (by decide)
theorem sc_Counter_mod : FnScope ["self", "other"] ["self", "other"] (defScope s_Counter___mod__) := ⟨rfl, rfl, rfl, by decide +kernel, rfl, by decide +kernel, by decide +kernel⟩
theorem ok_Counter_mod (T : TopL K mg) : Has P w K mg base (L2.CX P w) 4 (He.ma K (CC K) "__mod__") ["self", "other"] [] (sp_Counter_div K (fun x y => x % y)) := by
  obtain ⟨fd, F⟩ := fn_Counter___mod__ T
  refine Has.ofX F sc_Counter_mod (fun _ _ _ _ _ _ us hl => match us, hl with | [_, _], _ => rfl) (fun vs H Q E h => ?_) (fun cdv A outer s H vs Q E hr h => ?_)
  · unfold sp_Counter_div at h
    obtain ⟨p, d, m, v, y, rfl, hp, k⟩ := h
    rfl
  · unfold sp_Counter_div at h
    obtain ⟨p, d, m, v, y, rfl, hp, k⟩ := h
    refine ⟨_, (pss_one (ps_ret (pe_op op_mod (pe_fld (pv 0) rfl) (pe_callH (ok_divisor_of T) hr (mg_divisor_of T) (passes_call (takes_of rfl rfl rfl rfl) (fun _ _ _ _ h => h)) (pa_cons (pv 1) pa_nil))))), ?_⟩
    rcases k with ⟨n, rfl, hn, k⟩ | ⟨b, k⟩
    · exact ⟨_, rfl, p, CC K, d, _, _, rfl, hp, cl_Counter T, na_Counter_own_value T, rfl, _, rfl, dof_yes hn.1 ⟨_, _, rfl, rfl, (show 0 < n by omega), k⟩⟩
    · exact ⟨_, rfl, p, CC K, d, _, _, rfl, hp, cl_Counter T, na_Counter_own_value T, rfl, _, rfl, dof_no b k⟩
theorem sc_Counter_floordiv : FnScope ["self", "other"] ["self", "other"] (defScope s_Counter___floordiv__) := ⟨rfl, rfl, rfl, by decide +kernel, rfl, by decide +kernel, by decide +kernel⟩
theorem ok_Counter_floordiv (T : TopL K mg) : Has P w K mg base (L2.CX P w) 4 (He.ma K (CC K) "__floordiv__") ["self", "other"] [] (sp_Counter_div K (fun x y => x / y)) := by
  obtain ⟨fd, F⟩ := fn_Counter___floordiv__ T
  refine Has.ofX F sc_Counter_floordiv (fun _ _ _ _ _ _ us hl => match us, hl with | [_, _], _ => rfl) (fun vs H Q E h => ?_) (fun cdv A outer s H vs Q E hr h => ?_)
  · unfold sp_Counter_div at h
    obtain ⟨p, d, m, v, y, rfl, hp, k⟩ := h
    rfl
  · unfold sp_Counter_div at h
    obtain ⟨p, d, m, v, y, rfl, hp, k⟩ := h
    refine ⟨_, (pss_one (ps_ret (pe_op op_fdivW (pe_fld (pv 0) rfl) (pe_callH (ok_divisor_of T) hr (mg_divisor_of T) (passes_call (takes_of rfl rfl rfl rfl) (fun _ _ _ _ h => h)) (pa_cons (pv 1) pa_nil))))), ?_⟩
    rcases k with ⟨n, rfl, hn, k⟩ | ⟨b, k⟩
    · exact ⟨_, rfl, p, CC K, d, _, _, rfl, hp, cl_Counter T, na_Counter_own_value T, rfl, _, rfl, dof_yes hn.1 ⟨_, _, rfl, rfl, bg_div hn.1 hn.2, k⟩⟩
    · exact ⟨_, rfl, p, CC K, d, _, _, rfl, hp, cl_Counter T, na_Counter_own_value T, rfl, _, rfl, dof_no b k⟩
@[irreducible] def sp_Counter_and (K : PySem.W.Frag) : Sp := fun vs H Q E => ∃ (p d : Addr) (m v : Int) (y : V), vs = [.ref p, y] ∧ H p = some (cO (CC K) d m v) ∧
  ((∃ n, y = .int n ∧ 0 ≤ n ∧ Q (.int (Builtin.bitAnd v n)) H) ∨ (((∃ n, y = .int n ∧ n < 0) ∨ NW K H y) ∧ E (eNoCounter K) none H))
theorem cand_yes {H : Hp} {Q : VK} {E : XK} {p d : Addr} {m v n : Int} (hp : H p = some (cO (CC K) d m v)) (hn : 0 ≤ n) (k : Q (.int (Builtin.bitAnd v n)) H) : sp_Counter_and K [.ref p, .int n] H Q E := by
  unfold sp_Counter_and
  exact ⟨p, d, m, v, _, rfl, hp, .inl ⟨n, rfl, hn, k⟩⟩
theorem cand_no {H : Hp} {Q : VK} {E : XK} {p d : Addr} {m v : Int} {y : V} (hp : H p = some (cO (CC K) d m v)) (h : (∃ n, y = .int n ∧ n < 0) ∨ NW K H y) (k : E (eNoCounter K) none H) : sp_Counter_and K [.ref p, y] H Q E := by
  unfold sp_Counter_and
  exact ⟨p, d, m, v, _, rfl, hp, .inr ⟨h, k⟩⟩
theorem sc_Counter_and : FnScope ["self", "other"] ["self", "other"] (defScope s_Counter___and__) := ⟨rfl, rfl, rfl, by decide +kernel, rfl, by decide +kernel, by decide +kernel⟩
theorem ok_Counter_and (T : TopL K mg) : Has P w K mg base (L2.CX P w) 3 (He.ma K (CC K) "__and__") ["self", "other"] [] (sp_Counter_and K) := by
  obtain ⟨fd, F⟩ := fn_Counter___and__ T
  refine Has.ofX F sc_Counter_and (fun _ _ _ _ _ _ us hl => match us, hl with | [_, _], _ => rfl) (fun vs H Q E h => ?_) (fun cdv A outer s H vs Q E hr h => ?_)
  · unfold sp_Counter_and at h
    obtain ⟨p, d, m, v, y, rfl, hp, k⟩ := h
    rfl
  · unfold sp_Counter_and at h
    obtain ⟨p, d, m, v, y, rfl, hp, k⟩ := h
    refine ⟨_, (pss_cons (ps_if (pt_cmpR op_lt (pe_callH (ok_whole_of T) hr (mg_whole_of T) (passes_call (takes_of rfl rfl rfl rfl) (fun _ _ _ _ h => h)) (pa_cons (pv 1) pa_nil)) pe_int (nomark _)) (pss_one (raiseO (xx_NoCounter T) (takes_of rfl rfl rfl rfl) (mg_NoCounter T))) pss_nil)
      (pss_one (ps_ret (pe_op op_and (pe_fld (pv 0) rfl) (pv 1))))), ?_⟩
    rcases k with ⟨n, rfl, hn, k⟩ | ⟨⟨n, rfl, hn⟩ | nw, k⟩
    · refine ⟨_, rfl, wof_yes ⟨_, _, rfl, rfl, _, rfl, ?_⟩⟩
      refine ifD (fun hc => absurd hc (by omega)) (fun _ => ?_)
      exact ⟨_, rfl, p, CC K, d, _, _, rfl, hp, cl_Counter T, na_Counter_own_value T, rfl, _, rfl, _, _, rfl, rfl, k⟩
    · refine ⟨_, rfl, wof_yes ⟨_, _, rfl, rfl, _, rfl, ?_⟩⟩
      exact ifD (fun _ => k) (fun hc => absurd hn hc)
    · exact ⟨_, rfl, wof_no nw k⟩
@[irreducible] def sp_Counter_eq (K : PySem.W.Frag) : Sp := fun vs H Q _ => ∃ (p d : Addr) (a b : Int) (v : V), vs = [.ref p, v] ∧ H p = some (cO (CC K) d a b) ∧
  ((∃ q e c f, v = .ref q ∧ H q = some (cO (CC K) e c f) ∧ Q (.bl (decide (a = c ∧ b = f))) H) ∨ ((∃ t, TyX K H v t ∧ PySem.W.kitOne K t (.ref (CC K)) = some false) ∧ Q (.bl false) H))
theorem ceq_yes {H : Hp} {Q : VK} {E : XK} {p d q e : Addr} {a b c f : Int} (hp : H p = some (cO (CC K) d a b)) (hq : H q = some (cO (CC K) e c f)) (k : Q (.bl (decide (a = c ∧ b = f))) H) : sp_Counter_eq K [.ref p, .ref q] H Q E := by
  unfold sp_Counter_eq
  exact ⟨p, d, a, b, _, rfl, hp, .inl ⟨q, e, c, f, rfl, hq, k⟩⟩
theorem ceq_no {H : Hp} {Q : VK} {E : XK} {p d : Addr} {a b : Int} {v : V} {t : Value} (hp : H p = some (cO (CC K) d a b)) (ty : TyX K H v t) (kt : PySem.W.kitOne K t (.ref (CC K)) = some false) (k : Q (.bl false) H) : sp_Counter_eq K [.ref p, v] H Q E := by
  unfold sp_Counter_eq
  exact ⟨p, d, a, b, _, rfl, hp, .inr ⟨⟨t, ty, kt⟩, k⟩⟩
theorem sc_Counter_eq : FnScope ["self", "other"] ["self", "other"] (defScope s_Counter___eq__) := ⟨rfl, rfl, rfl, by decide +kernel, rfl, by decide +kernel, by decide +kernel⟩
theorem ok_Counter_eq (T : TopL K mg) : Has P w K mg base (CX0) 1 (He.ma K (CC K) "__eq__") ["self", "other"] [] (sp_Counter_eq K) := by
  obtain ⟨fd, F⟩ := fn_Counter___eq__ T
  refine Has.of0 F sc_Counter_eq (fun _ _ _ _ _ _ us hl => match us, hl with | [_, _], _ => rfl) (fun vs H Q E h => ?_) (fun cdv A outer s H vs Q E hr h => ?_)
  · unfold sp_Counter_eq at h
    obtain ⟨p, d, a, b, v, rfl, hp, k⟩ := h
    rfl
  · unfold sp_Counter_eq at h
    obtain ⟨p, d, a, b, v, rfl, hp, k⟩ := h
    refine ⟨_, (pss_one (ps_ret (pe_and (pe_callB (call_isi : CallR _ _ (rIsi K)) (by rfl) (fr_isinstance T) (by decide +kernel) (pa_cons (pv 1) (pa_cons (pe_gref (mg_Counter T)) pa_nil))) (pe_and (pe_cmpR op_eq (pe_fld (pv 0) rfl) (pe_fld (pv 1) rfl) (nomark _)) (pe_one (pe_cmpR op_eq (pe_fld (pv 0) rfl) (pe_fld (pv 1) rfl) (nomark _))))))), ?_⟩
    rcases k with ⟨q, e, c, f, rfl, hq, k⟩ | ⟨⟨t, ty, kt⟩, k⟩
    · refine ⟨_, rfl, _, _, _, _, true, rfl, .own _, ty_ins (in_Counter T) (cl_Counter T) hq, (in_Counter T).me, true, rfl, ?_⟩
      refine iteT ?_
      refine ⟨_, rfl, p, CC K, d, _, _, rfl, hp, cl_Counter T, na_Counter_modulus T, rfl, _, rfl, q, CC K, e, _, _, rfl, hq, cl_Counter T, na_Counter_modulus T, rfl, rfl, _, rfl, ?_⟩
      refine ifD (fun hc => ?_) (fun hc => ?_)
      · refine ⟨_, rfl, p, CC K, d, _, _, rfl, hp, cl_Counter T, na_Counter_own_value T, rfl, _, rfl, q, CC K, e, _, _, rfl, hq, cl_Counter T, na_Counter_own_value T, rfl, rfl, ?_⟩
        have z : decide (a = c ∧ b = f) = decide (V.int b = V.int f) := by
          have ac : a = c := V.int.inj hc
          rw [dec_int, ac]
          by_cases h : b = f <;> simp [h]
        rw [z] at k
        exact k
      · have z : decide (a = c ∧ b = f) = false := decide_eq_false fun q => hc (by rw [q.1])
        rw [z] at k
        exact k
    · refine ⟨_, rfl, _, _, t, _, false, rfl, .own _, ty, kt, false, rfl, ?_⟩
      exact iteF k
end
end Lw
/-! K06: counters refused -/
namespace Lw
open PySem PySem.Spec PyProof.Rows L2 Rg
section
variable {P : Program} {w : World} {K : PySem.W.Frag} {mg : Str → Option Value} {base : Heap}
theorem Bad.same {H H' : Hp} {x : V} {lo hi : Int} (h : Bad K H x lo hi) (s : Same H H') : Bad K H' x lo hi := h.imp id fun z => NW.same z s
theorem counter_bad {H : Hp} {R : VK} {E : XK} {p d : Addr} {x y : V} (np : H p = none) (nd : H d = none) (h : Bad K H x 1 (10 ^ 40) ∨ ∃ m, x = .int m ∧ MOk m ∧ NW K H y) (k : ∀ H', Same H H' → E (eNoCounter K) none H') :
    sp_Counter_init K [.ref p, x, y] (upd (upd H d (.own p)) p (.ins (CC K) d [])) R E := by
  have s : Same H (upd (upd H d (.own p)) p (.ins (CC K) d [])) := fun c u e => by
    rw [upd_ne (ne_of_none e np), upd_ne (ne_of_none e nd)]
    exact e
  unfold sp_Counter_init
  rcases h with b | ⟨m, rfl, hm, nw⟩
  · exact ⟨p, d, _, _, rfl, upd_same, .inr (.inl ⟨b.same s, k _ s⟩)⟩
  · exact ⟨p, d, _, _, rfl, upd_same, .inr (.inr ⟨m, rfl, hm, NW.same nw s, k _ s⟩)⟩
/-- a def of two arguments that refuses them -/
@[irreducible] def sp_ref (K : PySem.W.Frag) (Ok : V → V → Hp → Prop) : Sp := fun vs H Q E => ∃ x y, vs = [x, y] ∧ Ok x y H ∧ ∀ H', Same H H' → E (eNoCounter K) none H'
def Oth (K : PySem.W.Frag) (H : Hp) (y : V) : Prop := ∃ t, TyX K H y t ∧ PySem.W.kitOne K t (.ref (CC K)) = some false
theorem sc_lmadeX : FnScope ["_law_modulus", "_law_value"] ["_law_modulus", "_law_value"] (defScope s__law_made) := ⟨rfl, rfl, rfl, by decide +kernel, rfl, by decide +kernel, by decide +kernel⟩
def Ok_lmadeX (K : PySem.W.Frag) (x y : V) (H : Hp) : Prop := (Bad K H x 1 (10 ^ 40) ∧ y = .int 0) ∨ (∃ m, x = .int m ∧ MOk m ∧ NW K H y)
theorem ok_lmadeX (T : TopL K mg) : Has P w K mg base (L2.CX P w) 7 (He.ga K "_law_made") ["_law_modulus", "_law_value"] [] (sp_ref K (Ok_lmadeX K)) := by
  obtain ⟨fd, F⟩ := fn__law_made T
  refine Has.ofX F sc_lmadeX (fun _ _ _ _ _ _ us hl => match us, hl with | [_, _], _ => rfl) (fun vs H Q E h => ?_) (fun cdv A outer s H vs Q E hr h => ?_)
  · unfold sp_ref at h
    obtain ⟨x, y, rfl, _⟩ := h
    rfl
  · unfold sp_ref at h
    obtain ⟨x, y, rfl, ok, k⟩ := h
    refine ⟨_, (pss_one (ps_ret (pe_makeH (mk_Counter T) (ok_Counter_init T) hr (mg_Counter T) (passes_call (takes_of rfl rfl rfl rfl) (fun _ _ _ _ h => h)) (pa_cons (pv 0) (pa_cons (pv 1) pa_nil))))), ?_⟩
    obtain ok | ⟨m, rfl, hm, nw⟩ := ok
    · obtain ⟨b, rfl⟩ := ok
      refine ⟨_, rfl, _, rfl, ?_⟩
      intro q dq nq ndq neq
      exact counter_bad nq ndq (.inl b) k
    · refine ⟨_, rfl, _, rfl, ?_⟩
      intro q dq nq ndq neq
      exact counter_bad nq ndq (.inr ⟨m, rfl, hm, nw⟩) k
theorem sc_lsumX : FnScope ["_law_one", "_law_other"] ["_law_one", "_law_other"] (defScope s__law_sum) := ⟨rfl, rfl, rfl, by decide +kernel, rfl, by decide +kernel, by decide +kernel⟩
def Ok_lsumX (K : PySem.W.Frag) (x y : V) (H : Hp) : Prop := ((∃ p d m v, x = .ref p ∧ H p = some (cO (CC K) d m v) ∧ MOk m) ∧ Opr (CC K) H y ∧ NW K H y) ∨ (∃ p d m v T, y = .ref p ∧ H p = some (cO (CC K) d m v) ∧ MOk m ∧ Bt H x T ∧ T ≠ "int")
theorem ok_lsumX (T : TopL K mg) : Has P w K mg base (L2.CX P w) 7 (He.ga K "_law_sum") ["_law_one", "_law_other"] [] (sp_ref K (Ok_lsumX K)) := by
  obtain ⟨fd, F⟩ := fn__law_sum T
  refine Has.ofX F sc_lsumX (fun _ _ _ _ _ _ us hl => match us, hl with | [_, _], _ => rfl) (fun vs H Q E h => ?_) (fun cdv A outer s H vs Q E hr h => ?_)
  · unfold sp_ref at h
    obtain ⟨x, y, rfl, _⟩ := h
    rfl
  · unfold sp_ref at h
    obtain ⟨x, y, rfl, ok, k⟩ := h
    refine ⟨_, (pss_one (ps_ret (pe_op (op_or (op_bin (bi_Counter_Add T) (ok_Counter_add T) hr (passes_call (takes_of rfl rfl rfl rfl) (fun _ _ _ _ h => h))) (op_ref decl_add (re_Counter_Add T) (ok_Counter_radd T) hr (passes_call (takes_of rfl rfl rfl rfl) (fun _ _ _ _ h => h)))) (pv 0) (pv 1)))), ?_⟩
    obtain ⟨⟨p, d, m, v, rfl, hp, hm⟩, op, nw⟩ | ⟨p, d, m, v, U, rfl, hp, hm, b, nt⟩ := ok
    · exact ⟨_, rfl, _, rfl, .inl ⟨p, d, _, rfl, hp, op, cadd_no hp hm nw (k _ (Same.refl _))⟩⟩
    · exact ⟨_, rfl, _, rfl, .inr ⟨p, d, _, U, rfl, hp, b, cadd_no hp hm (nw_bt b nt) (k _ (Same.refl _))⟩⟩
theorem sc_ldiffX : FnScope ["_law_one", "_law_other"] ["_law_one", "_law_other"] (defScope s__law_difference) := ⟨rfl, rfl, rfl, by decide +kernel, rfl, by decide +kernel, by decide +kernel⟩
def Ok_ldiffX (K : PySem.W.Frag) (x y : V) (H : Hp) : Prop := (∃ p d m v, x = .ref p ∧ H p = some (cO (CC K) d m v) ∧ MOk m) ∧ Opr (CC K) H y ∧ ((NW K H y ∧ Oth K H y) ∨ (∃ p d m v q e m2 v2, x = .ref p ∧ H p = some (cO (CC K) d m v) ∧ y = .ref q ∧ H q = some (cO (CC K) e m2 v2) ∧ m2 ≠ m))
theorem ok_ldiffX (T : TopL K mg) : Has P w K mg base (L2.CX P w) 7 (He.ga K "_law_difference") ["_law_one", "_law_other"] [] (sp_ref K (Ok_ldiffX K)) := by
  obtain ⟨fd, F⟩ := fn__law_difference T
  refine Has.ofX F sc_ldiffX (fun _ _ _ _ _ _ us hl => match us, hl with | [_, _], _ => rfl) (fun vs H Q E h => ?_) (fun cdv A outer s H vs Q E hr h => ?_)
  · unfold sp_ref at h
    obtain ⟨x, y, rfl, _⟩ := h
    rfl
  · unfold sp_ref at h
    obtain ⟨x, y, rfl, ok, k⟩ := h
    refine ⟨_, (pss_one (ps_ret (pe_op (op_bin (bi_Counter_Sub T) (ok_Counter_sub T) hr (passes_call (takes_of rfl rfl rfl rfl) (fun _ _ _ _ h => h))) (pv 0) (pv 1)))), ?_⟩
    obtain ⟨⟨p, d, m, v, rfl, hp, hm⟩, op, ⟨nw, t, ty, kt⟩ | ⟨p2, d2, m0, v0, q, e, m2, v2, e1, hp2, rfl, hq, hne⟩⟩ := ok
    · exact ⟨_, rfl, _, rfl, p, d, _, rfl, hp, op, csub_no hp hm nw ty kt (k _ (Same.refl _))⟩
    · obtain rfl : p = p2 := V.ref.inj e1
      obtain ⟨_, e2⟩ : d = d2 ∧ m = m0 := by
        rw [hp] at hp2
        injection hp2 with e3
        injection e3 with _ e4 e5
        injection e5 with e6 _
        injection e6 with _ e7
        exact ⟨e4, V.int.inj e7⟩
      exact ⟨_, rfl, _, rfl, p, d, _, rfl, hp, op, csub_other hp hm hq (by rw [e2]; exact hne) (k _ (Same.refl _))⟩
theorem sc_lmoreX : FnScope ["_law_one", "_law_other"] ["_law_one", "_law_other"] (defScope s__law_more) := ⟨rfl, rfl, rfl, by decide +kernel, rfl, by decide +kernel, by decide +kernel⟩
def Ok_lmoreX (K : PySem.W.Frag) (x y : V) (H : Hp) : Prop := (∃ p d m v, x = .ref p ∧ H p = some (cO (CC K) d m v) ∧ MOk m) ∧ NW K H y
theorem ok_lmoreX (T : TopL K mg) : Has P w K mg base (L2.CX P w) 7 (He.ga K "_law_more") ["_law_one", "_law_other"] [] (sp_ref K (Ok_lmoreX K)) := by
  obtain ⟨fd, F⟩ := fn__law_more T
  refine Has.ofX F sc_lmoreX (fun _ _ _ _ _ _ us hl => match us, hl with | [_, _], _ => rfl) (fun vs H Q E h => ?_) (fun cdv A outer s H vs Q E hr h => ?_)
  · unfold sp_ref at h
    obtain ⟨x, y, rfl, _⟩ := h
    rfl
  · unfold sp_ref at h
    obtain ⟨x, y, rfl, ok, k⟩ := h
    refine ⟨_, (pss_cons (ps_aug (i := 0) sc_lmoreX.nd rfl (Or.inl rfl) (pv 1) (inp_own (ip_Counter_Add T).1 (ip_Counter_Add T).2 (ok_Counter_iadd T) hr (passes_call (takes_of rfl rfl rfl rfl) (fun _ _ _ _ h => h))))
      (pss_one (ps_ret (pv 0)))), ?_⟩
    obtain ⟨⟨p, d, m, v, rfl, hp, hm⟩, nw⟩ := ok
    exact ⟨_, rfl, _, rfl, p, d, _, rfl, hp, ciadd_no hp hm nw (k _ (Same.refl _))⟩
theorem sc_llessX : FnScope ["_law_one", "_law_other"] ["_law_one", "_law_other"] (defScope s__law_less) := ⟨rfl, rfl, rfl, by decide +kernel, rfl, by decide +kernel, by decide +kernel⟩
def Ok_llessX (K : PySem.W.Frag) (x y : V) (H : Hp) : Prop := (∃ p d m v, x = .ref p ∧ H p = some (cO (CC K) d m v) ∧ MOk m) ∧ NW K H y
theorem ok_llessX (T : TopL K mg) : Has P w K mg base (L2.CX P w) 7 (He.ga K "_law_less") ["_law_one", "_law_other"] [] (sp_ref K (Ok_llessX K)) := by
  obtain ⟨fd, F⟩ := fn__law_less T
  refine Has.ofX F sc_llessX (fun _ _ _ _ _ _ us hl => match us, hl with | [_, _], _ => rfl) (fun vs H Q E h => ?_) (fun cdv A outer s H vs Q E hr h => ?_)
  · unfold sp_ref at h
    obtain ⟨x, y, rfl, _⟩ := h
    rfl
  · unfold sp_ref at h
    obtain ⟨x, y, rfl, ok, k⟩ := h
    refine ⟨_, (pss_cons (ps_aug (i := 0) sc_llessX.nd rfl (Or.inl rfl) (pv 1) (inp_own (ip_Counter_Sub T).1 (ip_Counter_Sub T).2 (ok_Counter_isub T) hr (passes_call (takes_of rfl rfl rfl rfl) (fun _ _ _ _ h => h))))
      (pss_one (ps_ret (pv 0)))), ?_⟩
    obtain ⟨⟨p, d, m, v, rfl, hp, hm⟩, nw⟩ := ok
    exact ⟨_, rfl, _, rfl, p, d, _, rfl, hp, ciadd_no hp hm nw (k _ (Same.refl _))⟩
theorem sc_lrestX : FnScope ["_law_one", "_law_other"] ["_law_one", "_law_other"] (defScope s__law_rest) := ⟨rfl, rfl, rfl, by decide +kernel, rfl, by decide +kernel, by decide +kernel⟩
def Ok_lrestX (K : PySem.W.Frag) (x y : V) (H : Hp) : Prop := (∃ p d m v, x = .ref p ∧ H p = some (cO (CC K) d m v) ∧ MOk m) ∧ Opr (CC K) H y ∧ ((∃ n, y = .int n ∧ n < 1) ∨ NW K H y)
theorem ok_lrestX (T : TopL K mg) : Has P w K mg base (L2.CX P w) 7 (He.ga K "_law_rest") ["_law_one", "_law_other"] [] (sp_ref K (Ok_lrestX K)) := by
  obtain ⟨fd, F⟩ := fn__law_rest T
  refine Has.ofX F sc_lrestX (fun _ _ _ _ _ _ us hl => match us, hl with | [_, _], _ => rfl) (fun vs H Q E h => ?_) (fun cdv A outer s H vs Q E hr h => ?_)
  · unfold sp_ref at h
    obtain ⟨x, y, rfl, _⟩ := h
    rfl
  · unfold sp_ref at h
    obtain ⟨x, y, rfl, ok, k⟩ := h
    refine ⟨_, (pss_one (ps_ret (pe_op (op_bin (bi_Counter_Mod T) (ok_Counter_mod T) hr (passes_call (takes_of rfl rfl rfl rfl) (fun _ _ _ _ h => h))) (pv 0) (pv 1)))), ?_⟩
    obtain ⟨⟨p, d, m, v, rfl, hp, hm⟩, op, b⟩ := ok
    exact ⟨_, rfl, _, rfl, p, d, _, rfl, hp, op, cdiv_no hp b (k _ (Same.refl _))⟩
theorem sc_lpartsX : FnScope ["_law_one", "_law_other"] ["_law_one", "_law_other"] (defScope s__law_parts) := ⟨rfl, rfl, rfl, by decide +kernel, rfl, by decide +kernel, by decide +kernel⟩
def Ok_lpartsX (K : PySem.W.Frag) (x y : V) (H : Hp) : Prop := (∃ p d m v, x = .ref p ∧ H p = some (cO (CC K) d m v) ∧ MOk m) ∧ Opr (CC K) H y ∧ ((∃ n, y = .int n ∧ n < 1) ∨ NW K H y)
theorem ok_lpartsX (T : TopL K mg) : Has P w K mg base (L2.CX P w) 7 (He.ga K "_law_parts") ["_law_one", "_law_other"] [] (sp_ref K (Ok_lpartsX K)) := by
  obtain ⟨fd, F⟩ := fn__law_parts T
  refine Has.ofX F sc_lpartsX (fun _ _ _ _ _ _ us hl => match us, hl with | [_, _], _ => rfl) (fun vs H Q E h => ?_) (fun cdv A outer s H vs Q E hr h => ?_)
  · unfold sp_ref at h
    obtain ⟨x, y, rfl, _⟩ := h
    rfl
  · unfold sp_ref at h
    obtain ⟨x, y, rfl, ok, k⟩ := h
    refine ⟨_, (pss_one (ps_ret (pe_op (op_bin (bi_Counter_FloorDiv T) (ok_Counter_floordiv T) hr (passes_call (takes_of rfl rfl rfl rfl) (fun _ _ _ _ h => h))) (pv 0) (pv 1)))), ?_⟩
    obtain ⟨⟨p, d, m, v, rfl, hp, hm⟩, op, b⟩ := ok
    exact ⟨_, rfl, _, rfl, p, d, _, rfl, hp, op, cdiv_no hp b (k _ (Same.refl _))⟩
theorem sc_lmaskX : FnScope ["_law_one", "_law_other"] ["_law_one", "_law_other"] (defScope s__law_masked) := ⟨rfl, rfl, rfl, by decide +kernel, rfl, by decide +kernel, by decide +kernel⟩
def Ok_lmaskX (K : PySem.W.Frag) (x y : V) (H : Hp) : Prop := (∃ p d m v, x = .ref p ∧ H p = some (cO (CC K) d m v) ∧ MOk m) ∧ Opr (CC K) H y ∧ ((∃ n, y = .int n ∧ n < 0) ∨ NW K H y)
theorem ok_lmaskX (T : TopL K mg) : Has P w K mg base (L2.CX P w) 7 (He.ga K "_law_masked") ["_law_one", "_law_other"] [] (sp_ref K (Ok_lmaskX K)) := by
  obtain ⟨fd, F⟩ := fn__law_masked T
  refine Has.ofX F sc_lmaskX (fun _ _ _ _ _ _ us hl => match us, hl with | [_, _], _ => rfl) (fun vs H Q E h => ?_) (fun cdv A outer s H vs Q E hr h => ?_)
  · unfold sp_ref at h
    obtain ⟨x, y, rfl, _⟩ := h
    rfl
  · unfold sp_ref at h
    obtain ⟨x, y, rfl, ok, k⟩ := h
    refine ⟨_, (pss_one (ps_ret (pe_op (op_bin (bi_Counter_BitAnd T) (ok_Counter_and T) hr (passes_call (takes_of rfl rfl rfl rfl) (fun _ _ _ _ h => h))) (pv 0) (pv 1)))), ?_⟩
    obtain ⟨⟨p, d, m, v, rfl, hp, hm⟩, op, b⟩ := ok
    exact ⟨_, rfl, _, rfl, p, d, _, rfl, hp, op, cand_no hp b (k _ (Same.refl _))⟩
theorem sc_lchX : FnScope ["_law_one", "_law_other"] ["_law_one", "_law_other"] (defScope s__law_change) := ⟨rfl, rfl, rfl, by decide +kernel, rfl, by decide +kernel, by decide +kernel⟩
def Ok_lchX (K : PySem.W.Frag) (x y : V) (H : Hp) : Prop := ∃ p d m v, x = .ref p ∧ H p = some (cO (CC K) d m v) ∧ Bad K H y 0 (m - 1)
theorem ok_lchX (T : TopL K mg) : Has P w K mg base (L2.CX P w) 7 (He.ga K "_law_change") ["_law_one", "_law_other"] [] (sp_ref K (Ok_lchX K)) := by
  obtain ⟨fd, F⟩ := fn__law_change T
  refine Has.ofX F sc_lchX (fun _ _ _ _ _ _ us hl => match us, hl with | [_, _], _ => rfl) (fun vs H Q E h => ?_) (fun cdv A outer s H vs Q E hr h => ?_)
  · unfold sp_ref at h
    obtain ⟨x, y, rfl, _⟩ := h
    rfl
  · unfold sp_ref at h
    obtain ⟨x, y, rfl, ok, k⟩ := h
    refine ⟨_, (pss_one (ps_ret (pe_methH (pv 0) (cl_Counter T) (me_Counter_change T) (ok_Counter_change T) hr (passes_call (takes_of rfl rfl rfl rfl) (fun _ _ _ _ h => h)) (pa_cons (pv 1) pa_nil)))), ?_⟩
    obtain ⟨p, d, m, v, rfl, hp, b⟩ := ok
    exact ⟨_, rfl, p, d, _, rfl, hp, rfl, _, rfl, cset_no hp b (k _ (Same.refl _))⟩
/-- the def at f refuses x and y -/
def Refs (P : Program) (w : World) (K : PySem.W.Frag) (mg : Str → Option Value) (base : Heap) (f : Addr) (x y : V) (H : Hp) : Prop := ∃ ps Ok, Has P w K mg base (L2.CX P w) 7 f ps [] (sp_ref K Ok) ∧ ∀ H', Same H H' → Ok x y H'
def dueL : List V := [.str "value", .str "counter"]
@[irreducible] def sp_lcaught (P : Program) (w : World) (K : PySem.W.Frag) (mg : Str → Option Value) (base : Heap) : Sp := fun vs H Q _ => ∃ (f : Addr) (x y : V), vs = [.ref f, x, y] ∧ Refs P w K mg base f x y H ∧ ∀ l H', Same H H' → H' l = some (.lst dueL) → Q (.ref l) H'
theorem lcaught_rd {H : Hp} {Q : VK} {E : XK} {f : Addr} {x y : V} (r : Refs P w K mg base f x y H) (k : ∀ l H', Same H H' → H' l = some (.lst dueL) → Q (.ref l) H') : sp_lcaught P w K mg base [.ref f, x, y] H Q E := by
  unfold sp_lcaught
  exact ⟨f, x, y, rfl, r, k⟩
theorem ref_rd {H : Hp} {Q : VK} {E : XK} {x y : V} {Ok : V → V → Hp → Prop} (h : Ok x y H) (k : ∀ H', Same H H' → E (eNoCounter K) none H') : sp_ref K Ok [x, y] H Q E := by
  unfold sp_ref
  exact ⟨x, y, rfl, h, k⟩
theorem sc_lcaught : FnScope ["_law_function", "_law_first", "_law_second", "_law_words", "e", "_law_names", "_law_name", "_law_there"] ["_law_function", "_law_first", "_law_second"] (defScope s__law_caught) := ⟨rfl, rfl, rfl, by decide +kernel, rfl, by decide +kernel, by decide +kernel⟩
theorem ok_lcaught (T : TopL K mg) : Has P w K mg base CX0 8 (He.ga K "_law_caught") ["_law_function", "_law_first", "_law_second"] [] (sp_lcaught P w K mg base) := by
  obtain ⟨fd, F⟩ := fn__law_caught T
  refine Has.of0 F sc_lcaught (fun _ _ _ _ _ _ us hl => match us, hl with | [_, _, _], _ => rfl) (fun vs H Q E h => ?_) (fun cdv A outer s H vs Q E hr h => ?_)
  · unfold sp_lcaught at h
    obtain ⟨f, x, y, rfl, _⟩ := h
    rfl
  · unfold sp_lcaught at h
    obtain ⟨f, x, y, rfl, ⟨ps, Ok, hf, ok⟩, k⟩ := h
    refine ⟨_, (pss_cons (ps_set (i := 3) sc_lcaught.nd rfl (Or.inl rfl) (pe_lst pa_nil))
      (pss_cons (ps_try_as (i := 4) rfl rfl sc_lcaught.nd rfl rfl (names_ref (mg_RingError T)) takes_no (fun W pn xe tk po => (pss_one (ps_expr (pe_callU (i := 0) (S := fun f sp => ∃ ps, Has P w K mg base (L2.CX P w) 7 f ps [] sp) (fun _ _ z => z) hr tk (pa_cons (pv 1) (pa_cons (pv 2) pa_nil)))))) (fun a oe cls d pn hz hf => (pss_cons (ps_set (i := 3) sc_lcaught.nd rfl (Or.inl rfl) (pe_lst (pa_cons (pe_callB (call_isX hz hf : CallR _ _ (rIsX K cls d a)) (by rfl) (fr_isinstance T) (by decide +kernel) (pa_cons (pv 4) (pa_cons (pe_bltn (v := .ty "ValueError") (u := .type "ValueError") rfl (fr_ValueError T) (by decide +kernel) rfl) pa_nil))) (pa_cons (pe_callB (call_isX hz hf : CallR _ _ (rIsX K cls d a)) (by rfl) (fr_isinstance T) (by decide +kernel) (pa_cons (pv 4) (pa_cons (pe_gref (mg_NoForm T)) pa_nil))) (pa_cons (pe_callB (call_isX hz hf : CallR _ _ (rIsX K cls d a)) (by rfl) (fr_isinstance T) (by decide +kernel) (pa_cons (pv 4) (pa_cons (pe_gref (mg_NoCounter T)) pa_nil))) (pa_cons (pe_callB (call_isX hz hf : CallR _ _ (rIsX K cls d a)) (by rfl) (fr_isinstance T) (by decide +kernel) (pa_cons (pv 4) (pa_cons (pe_gref (mg_NoScheme T)) pa_nil))) pa_nil))))))
      (pss_cons (ps_set (i := 3) sc_lcaught.nd rfl (Or.inl rfl) (pe_op op_cat (pv 3) (pe_lst (pa_cons (pe_callB (call_isX hz hf : CallR _ _ (rIsX K cls d a)) (by rfl) (fr_isinstance T) (by decide +kernel) (pa_cons (pv 4) (pa_cons (pe_gref (mg_NoSize T)) pa_nil))) (pa_cons (pe_callB (call_isX hz hf : CallR _ _ (rIsX K cls d a)) (by rfl) (fr_isinstance T) (by decide +kernel) (pa_cons (pv 4) (pa_cons (pe_gref (mg_NoRing T)) pa_nil))) (pa_cons (pe_callB (call_isX hz hf : CallR _ _ (rIsX K cls d a)) (by rfl) (fr_isinstance T) (by decide +kernel) (pa_cons (pv 4) (pa_cons (pe_gref (mg_Outside T)) pa_nil))) (pa_cons (pe_callB (call_isX hz hf : CallR _ _ (rIsX K cls d a)) (by rfl) (fr_isinstance T) (by decide +kernel) (pa_cons (pv 4) (pa_cons (pe_gref (mg_NoRun T)) pa_nil))) pa_nil)))))))
      (pss_one (ps_set (i := 3) sc_lcaught.nd rfl (Or.inl rfl) (pe_op op_cat (pv 3) (pe_lst (pa_cons (pe_callB (call_isX hz hf : CallR _ _ (rIsX K cls d a)) (by rfl) (fr_isinstance T) (by decide +kernel) (pa_cons (pv 4) (pa_cons (pe_gref (mg_NoSet T)) pa_nil))) (pa_cons (pe_callB (call_isX hz hf : CallR _ _ (rIsX K cls d a)) (by rfl) (fr_isinstance T) (by decide +kernel) (pa_cons (pv 4) (pa_cons (pe_gref (mg_TooLong T)) pa_nil))) pa_nil))))))))))
      (pss_cons (ps_set (i := 5) sc_lcaught.nd rfl (Or.inl rfl) (pe_lst (pa_cons pe_str (pa_cons pe_str (pa_cons pe_str (pa_cons pe_str (pa_cons pe_str (pa_cons pe_str (pa_cons pe_str (pa_cons pe_str (pa_cons pe_str (pa_cons pe_str pa_nil))))))))))))
      (pss_one (ps_ret (pe_lc (own := [("_law_name", 6), ("_law_there", 7)]) (g := gTup K 2 (gCons (gName 6) (gCons (gName 7) gNil))) rfl sc_lcaught.nd (pi_zip (by rfl) (fr_zip T) (pa_cons (pv 5) (pa_cons (pv 3) pa_nil))) (blkOk_by (N := ["_law_function", "_law_first", "_law_second", "_law_words", "e", "_law_names", "_law_name", "_law_there"]) (sc := defScope s__law_caught) (by decide +kernel)) (fun _ _ _ _ _ => (pg_tup rfl (pgs_cons (pg_name (i := 6) sc_lcaught.nd rfl (Or.inl rfl)) (pgs_cons (pg_name (i := 7) sc_lcaught.nd rfl (Or.inl rfl)) pgs_nil)))) (fun _ _ _ _ _ => (pts_one (pt_val (pv 7)))) (fun _ _ _ _ _ => (pv 6)))))))), ?_⟩
    refine ⟨lenk rfl, fun t0 nt0 => ?_⟩
    generalize eH1 : upd H t0 _ = H1
    have sH1 := fr_same eH1 nt0
    have ft0 := fr_at eH1
    refine ⟨f, _, rfl, ⟨ps, hf⟩, _, rfl, _, rfl, ref_rd (ok _ sH1) fun H2 s2 => ?_⟩
    refine ⟨true, ex_NoCounter_RingError T, fun _ a na => ?_, fun z => by cases z⟩
    refine ⟨_, rfl, _, rfl, rfl, xc_NoCounter T, _, _, _, rfl, fun u z => z, kt_NoCounter_ValueError T, _, rfl, _, rfl, rfl, xc_NoCounter T, _, _, _, rfl, fun u z => z, ki_NoCounter_NoForm T, _, rfl, _, rfl, rfl, xc_NoCounter T, _, _, _, rfl, fun u z => z, ki_NoCounter_NoCounter T, _, rfl, _, rfl, rfl, xc_NoCounter T, _, _, _, rfl, fun u z => z, ki_NoCounter_NoScheme T, lenk rfl, fun t1 nt1 => ?_⟩
    generalize eH3 : upd H2 t1 _ = H3
    have sH3 := fr_same eH3 nt1
    have ft1 := fr_at eH3
    refine ⟨_, rfl, _, rfl, _, rfl, rfl, xc_NoCounter T, _, _, _, rfl, fun u z => z, ki_NoCounter_NoSize T, _, rfl, _, rfl, rfl, xc_NoCounter T, _, _, _, rfl, fun u z => z, ki_NoCounter_NoRing T, _, rfl, _, rfl, rfl, xc_NoCounter T, _, _, _, rfl, fun u z => z, ki_NoCounter_Outside T, _, rfl, _, rfl, rfl, xc_NoCounter T, _, _, _, rfl, fun u z => z, ki_NoCounter_NoRun T, lenk rfl, fun t2 nt2 => ?_⟩
    generalize eH4 : upd H3 t2 _ = H4
    have sH4 := fr_same eH4 nt2
    have ft2 := fr_at eH4
    refine ⟨t1, t2, _, _, rfl, rfl, sH4 _ _ ft1, ft2, lenk rfl, fun t3 nt3 => ?_⟩
    generalize eH5 : upd H4 t3 _ = H5
    have sH5 := fr_same eH5 nt3
    have ft3 := fr_at eH5
    refine ⟨_, rfl, _, rfl, _, rfl, rfl, xc_NoCounter T, _, _, _, rfl, fun u z => z, ki_NoCounter_NoSet T, _, rfl, _, rfl, rfl, xc_NoCounter T, _, _, _, rfl, fun u z => z, ki_NoCounter_TooLong T, lenk rfl, fun t4 nt4 => ?_⟩
    generalize eH6 : upd H5 t4 _ = H6
    have sH6 := fr_same eH6 nt4
    have ft4 := fr_at eH6
    refine ⟨t3, t4, _, _, rfl, rfl, sH6 _ _ ft3, ft4, lenk rfl, fun t5 nt5 => ?_⟩
    generalize eH7 : upd H6 t5 _ = H7
    have sH7 := fr_same eH7 nt5
    have ft5 := fr_at eH7
    refine ⟨lenk rfl, fun t6 nt6 => ?_⟩
    generalize eH8 : upd H7 t6 _ = H8
    have sH8 := fr_same eH8 nt6
    have ft6 := fr_at eH8
    have fB : H8 t5 = some (.lst ([true, false, true, false, false, false, false, false, false, false].map V.bl)) := sH8 _ _ ft5
    refine ⟨_, rfl, _, rfl, t6, t5, _, _, rfl, SqL.of ft6, SqL.of fB, fun D nD => lc_zipB nD rfl (by decide) (SqL.of ft6) (SqL.of fB) (fun _ _ => rfl) (fun _ _ => rfl) (fun _ _ => rfl) fun H9 s9 f9 => ?_⟩
    exact k _ _ (sH1.trans (s2.trans (sH3.trans (sH4.trans (sH5.trans (sH6.trans (sH7.trans (sH8.trans s9)))))))) f9
end
end Lw
/-! K06: the law -/
namespace Lw
open PySem PySem.Spec PyProof.Rows L2 Rg
section
variable {P : Program} {w : World} {K : PySem.W.Frag} {mg : Str → Option Value} {base : Heap}
theorem dp_due {H : Hp} {l : Addr} (h : H l = some (.lst dueL)) : Dp K H (.ref l) (.list [.str "value", .str "counter"]) := .lst (SqL.of h) (.cons (.str _) (.cons (.str _) .nil))
theorem shp_due : SeqAt.shaped (.list [.str "value", .str "counter"]) = true := by decide +kernel
theorem eqv_due : PyData.eqv (.list [.str "value", .str "counter"]) (.list [.str "value", .str "counter"]) = true := by decide +kernel
/-- what a turn has at hand -/
structure Lo (K : PySem.W.Frag) (p c d L : Addr) (M v : Int) (odd : V) (H : Hp) : Prop where
  src : Src H p
  ctr : H c = some (cO (CC K) d M v)
  cp : c ≠ p
  due : H L = some (.lst dueL)
  lp : L ≠ p
  od : ∃ T, T ≠ "int" ∧ Bt H odd T
  op : odd ≠ .ref p
  mok : MOk M
section
variable {p c d L : Addr} {M v : Int} {odd : V} {H H' : Hp}
theorem bt_drawn {y : V} {U : String} (h : Bt H y U) (D : Drawn p H H') (n : y ≠ .ref p) : Bt H' y U := by
  cases h with
  | non => exact .non
  | bl x => exact .bl x
  | int x => exact .int x
  | str x => exact .str x
  | lst e => exact .lst (D.st _ _ e fun z => n (congrArg V.ref z))
  | tup e => exact .tup (D.st _ _ e fun z => n (congrArg V.ref z))
  | dK e => exact .dK (D.st _ _ e fun z => n (congrArg V.ref z))
theorem Lo.same (g : Lo K p c d L M v odd H) (s : Same H H') : Lo K p c d L M v odd H' :=
  ⟨g.src.same s, s _ _ g.ctr, g.cp, s _ _ g.due, g.lp, g.od.elim fun U z => ⟨U, z.1, z.2.same s⟩, g.op, g.mok⟩
theorem Lo.drawn (g : Lo K p c d L M v odd H) (D : Drawn p H H') : Lo K p c d L M v odd H' :=
  ⟨D.src, D.st _ _ g.ctr g.cp, g.cp, D.st _ _ g.due g.lp, g.lp, g.od.elim fun U z => ⟨U, z.1, bt_drawn z.2 D g.op⟩, g.op, g.mok⟩
theorem Lo.co (g : Lo K p c d L M v odd H) (s : Same H H') : ∃ p d m v, V.ref c = .ref p ∧ H' p = some (cO (CC K) d m v) ∧ MOk m := ⟨c, d, M, v, rfl, s _ _ g.ctr, g.mok⟩
theorem Lo.opr (g : Lo K p c d L M v odd H) (s : Same H H') : Opr (CC K) H' odd := .inl (g.od.elim fun U z => ⟨U, z.2.same s⟩)
theorem Lo.nw (g : Lo K p c d L M v odd H) (s : Same H H') : NW K H' odd := g.od.elim fun U z => nw_bt (z.2.same s) z.1
theorem Lo.oth (T : TopL K mg) (g : Lo K p c d L M v odd H) (s : Same H H') : Oth K H' odd := g.od.elim fun U z => ⟨.type U, (z.2.same s).ty, (in_Counter T).to U z.2.mem⟩
theorem rf_sum (T : TopL K mg) (g : Lo K p c d L M v odd H) : Refs P w K mg base (He.ga K "_law_sum") (.ref c) odd H := ⟨_, _, ok_lsumX T, fun H' s => .inl ⟨g.co s, g.opr s, g.nw s⟩⟩
theorem rf_sum2 (T : TopL K mg) (g : Lo K p c d L M v odd H) : Refs P w K mg base (He.ga K "_law_sum") odd (.ref c) H := ⟨_, _, ok_lsumX T, fun H' s => .inr (g.od.elim fun U z => ⟨c, d, M, v, U, rfl, s _ _ g.ctr, g.mok, z.2.same s, z.1⟩)⟩
theorem rf_diff (T : TopL K mg) (g : Lo K p c d L M v odd H) : Refs P w K mg base (He.ga K "_law_difference") (.ref c) odd H := ⟨_, _, ok_ldiffX T, fun H' s => ⟨g.co s, g.opr s, .inl ⟨g.nw s, g.oth T s⟩⟩⟩
theorem rf_more (T : TopL K mg) (g : Lo K p c d L M v odd H) : Refs P w K mg base (He.ga K "_law_more") (.ref c) odd H := ⟨_, _, ok_lmoreX T, fun H' s => ⟨g.co s, g.nw s⟩⟩
theorem rf_less (T : TopL K mg) (g : Lo K p c d L M v odd H) : Refs P w K mg base (He.ga K "_law_less") (.ref c) odd H := ⟨_, _, ok_llessX T, fun H' s => ⟨g.co s, g.nw s⟩⟩
theorem rf_rest (T : TopL K mg) (g : Lo K p c d L M v odd H) : Refs P w K mg base (He.ga K "_law_rest") (.ref c) odd H := ⟨_, _, ok_lrestX T, fun H' s => ⟨g.co s, g.opr s, .inr (g.nw s)⟩⟩
theorem rf_parts (T : TopL K mg) (g : Lo K p c d L M v odd H) : Refs P w K mg base (He.ga K "_law_parts") (.ref c) odd H := ⟨_, _, ok_lpartsX T, fun H' s => ⟨g.co s, g.opr s, .inr (g.nw s)⟩⟩
theorem rf_mask (T : TopL K mg) (g : Lo K p c d L M v odd H) : Refs P w K mg base (He.ga K "_law_masked") (.ref c) odd H := ⟨_, _, ok_lmaskX T, fun H' s => ⟨g.co s, g.opr s, .inr (g.nw s)⟩⟩
theorem rf_maskN (T : TopL K mg) (g : Lo K p c d L M v odd H) {n : Int} (hn : n < 0) : Refs P w K mg base (He.ga K "_law_masked") (.ref c) (.int n) H := ⟨_, _, ok_lmaskX T, fun H' s => ⟨g.co s, .inl ⟨_, .int n⟩, .inl ⟨n, rfl, hn⟩⟩⟩
theorem rf_restN (T : TopL K mg) (g : Lo K p c d L M v odd H) {n : Int} (hn : n < 1) : Refs P w K mg base (He.ga K "_law_rest") (.ref c) (.int n) H := ⟨_, _, ok_lrestX T, fun H' s => ⟨g.co s, .inl ⟨_, .int n⟩, .inl ⟨n, rfl, hn⟩⟩⟩
theorem rf_partsN (T : TopL K mg) (g : Lo K p c d L M v odd H) {n : Int} (hn : n < 1) : Refs P w K mg base (He.ga K "_law_parts") (.ref c) (.int n) H := ⟨_, _, ok_lpartsX T, fun H' s => ⟨g.co s, .inl ⟨_, .int n⟩, .inl ⟨n, rfl, hn⟩⟩⟩
theorem rf_made (T : TopL K mg) {x : V} (b : Bad K H x 1 (10 ^ 40)) : Refs P w K mg base (He.ga K "_law_made") x (.int 0) H := ⟨_, _, ok_lmadeX T, fun H' s => .inl ⟨b.same s, rfl⟩⟩
theorem rf_madeO (T : TopL K mg) (g : Lo K p c d L M v odd H) : Refs P w K mg base (He.ga K "_law_made") (.int M) odd H := ⟨_, _, ok_lmadeX T, fun H' s => .inr ⟨M, rfl, g.mok, g.nw s⟩⟩
theorem rf_ch (T : TopL K mg) (g : Lo K p c d L M v odd H) {x : V} (b : Bad K H x 0 (M - 1)) : Refs P w K mg base (He.ga K "_law_change") (.ref c) x H := ⟨_, _, ok_lchX T, fun H' s => ⟨c, d, M, v, rfl, s _ _ g.ctr, b.same s⟩⟩
theorem rf_two (T : TopL K mg) (g : Lo K p c d L M v odd H) {q e : Addr} {m2 v2 : Int} (hq : H q = some (cO (CC K) e m2 v2)) (hm : m2 ≠ M) {x : V} (hx : x ∈ [V.ref (He.ga K "_law_difference"), .ref (He.ga K "_law_sum"), .ref (He.ga K "_law_more"), .ref (He.ga K "_law_less")]) :
    ∃ f, x = .ref f ∧ Refs P w K mg base f (.ref c) (.ref q) H := by
  have nw : ∀ H', Same H H' → NW K H' (.ref q) := fun H' s => nw_ins (in_Counter T) (cl_Counter T) (s _ _ hq)
  have op : ∀ H', Same H H' → Opr (CC K) H' (.ref q) := fun H' s => .inr ⟨q, e, _, rfl, s _ _ hq⟩
  simp only [List.mem_cons, List.not_mem_nil, or_false] at hx
  rcases hx with rfl | rfl | rfl | rfl
  · exact ⟨_, rfl, _, _, ok_ldiffX T, fun H' s => ⟨g.co s, op H' s, .inr ⟨c, d, M, v, q, e, m2, v2, rfl, s _ _ g.ctr, rfl, s _ _ hq, hm⟩⟩⟩
  · exact ⟨_, rfl, _, _, ok_lsumX T, fun H' s => .inl ⟨g.co s, op H' s, nw H' s⟩⟩
  · exact ⟨_, rfl, _, _, ok_lmoreX T, fun H' s => ⟨g.co s, nw H' s⟩⟩
  · exact ⟨_, rfl, _, _, ok_llessX T, fun H' s => ⟨g.co s, nw H' s⟩⟩
theorem rf_all (T : TopL K mg) (g : Lo K p c d L M v odd H) {x : V} (hx : x ∈ [V.ref (He.ga K "_law_sum"), .ref (He.ga K "_law_difference"), .ref (He.ga K "_law_more"), .ref (He.ga K "_law_less"), .ref (He.ga K "_law_rest"), .ref (He.ga K "_law_parts"), .ref (He.ga K "_law_masked")]) :
    ∃ f, x = .ref f ∧ Refs P w K mg base f (.ref c) odd H := by
  simp only [List.mem_cons, List.not_mem_nil, or_false] at hx
  rcases hx with rfl | rfl | rfl | rfl | rfl | rfl | rfl
  · exact ⟨_, rfl, rf_sum T g⟩
  · exact ⟨_, rfl, rf_diff T g⟩
  · exact ⟨_, rfl, rf_more T g⟩
  · exact ⟨_, rfl, rf_less T g⟩
  · exact ⟨_, rfl, rf_rest T g⟩
  · exact ⟨_, rfl, rf_parts T g⟩
  · exact ⟨_, rfl, rf_mask T g⟩
end
theorem sc_law : FnScope ["_law_script", "_law_due", "_law_turn", "_law_source_here", "_law_modulus", "_law_value", "_law_counter", "_law_some", "_law_odd", "_law_function", "_law_thing", "_law_other"] ["_law_script"] (defScope s_law) := ⟨rfl, rfl, rfl, by decide +kernel, rfl, by decide +kernel, by decide +kernel⟩
theorem ok_law (T : TopL K mg) {fd : FuncData} (F : FunD K d_law.name d_law.qual d_law.params d_law.body d_law.scope (d_law.dvs K) (d_law.kws K) (d_law.loc K) fd) : FnOk P w K mg base CX0 10 (He.ga K "law") fd ["_law_script"] (sp_law K) := by
  refine fn0 F sc_law (fun vs H Q E h => ?_) (fun cdv A outer s H vs Q E hr h => ?_)
  · obtain ⟨a, ns, rfl, _⟩ := h
    rfl
  · obtain ⟨a, ns, rfl, hS, hz, k⟩ := h
    refine ⟨_, (pss_cons (ps_set (i := 1) sc_law.nd rfl (Or.inl rfl) (pe_lst (pa_cons pe_str (pa_cons pe_str pa_nil))))
      (pss_cons (ps_for PassesOwn.never rfl (pi_range1 (by rfl) (fr_range T) (pa_cons (pe_callB (call_max2 rfl) (by rfl) (fr_max T) (by decide +kernel) (pa_cons pe_int (pa_cons (pe_callB (call_min2 rfl) (by rfl) (fr_min T) (by decide +kernel) (pa_cons (pe_callB call_len_seq (by rfl) (fr_len T) PySem.boot_len (pa_cons (pv 0) pa_nil)) (pa_cons pe_int pa_nil))) pa_nil))) pa_nil)) (pg_name (i := 2) sc_law.nd rfl (Or.inl rfl)) (pss_cons (ps_set (i := 3) sc_law.nd rfl (Or.inl rfl) (pe_callH (ok_sourceD T) hr (mg__law_source T) pass0 (pa_cons (pv 0) (pa_cons (pv 2) pa_nil))))
      (pss_cons (ps_set (i := 4) sc_law.nd rfl (Or.inl rfl) (pe_op op_add pe_int (pe_callH (ok_drawD T) hr (mg__law_draw T) pass0 (pa_cons (pv 3) (pa_cons (pe_ix ix_list (pe_lst (pa_cons pe_int (pa_cons (pe_op op_sub (pe_op op_pow pe_int pe_int) pe_int) pa_nil))) (pe_callH (ok_drawD T) hr (mg__law_draw T) pass0 (pa_cons (pv 3) (pa_cons pe_int pa_nil))) (fun _ _ => rfl)) pa_nil)))))
      (pss_cons (ps_set (i := 5) sc_law.nd rfl (Or.inl rfl) (pe_callH (ok_drawD T) hr (mg__law_draw T) pass0 (pa_cons (pv 3) (pa_cons (pv 4) pa_nil))))
      (pss_cons (ps_set (i := 6) sc_law.nd rfl (Or.inl rfl) (pe_makeH (mk_Counter T) (ok_Counter_init T) hr (mg_Counter T) passL (pa_cons (pv 4) (pa_cons (pv 5) pa_nil))))
      (pss_cons (ps_set (i := 7) sc_law.nd rfl (Or.inl rfl) (pe_lst (pa_cons pe_non (pa_cons pe_bl (pa_cons pe_bl (pa_cons pe_str (pa_cons pe_str (pa_cons (pe_tup (pa_cons pe_int pa_nil)) (pa_cons (pe_lst (pa_cons pe_int pa_nil)) (pa_cons (pe_lst pa_nil) (pa_cons pe_dnewK (pa_cons (pe_tup pa_nil) (pa_cons (pe_tup (pa_cons pe_int (pa_cons pe_int pa_nil))) (pa_cons (pe_lst (pa_cons pe_non pa_nil)) (pa_cons (pe_disp (pps_cons pe_int pe_int pps_nil) (by rfl) (by rfl) (fun z => by cases z) (by decide)) pa_nil)))))))))))))))
      (pss_cons (ps_set (i := 8) sc_law.nd rfl (Or.inl rfl) (pe_ix ix_list (pv 7) (pe_callH (ok_drawD T) hr (mg__law_draw T) pass0 (pa_cons (pv 3) (pa_cons pe_int pa_nil))) (fun _ _ => rfl)))
      (pss_cons (ps_for PassesOwn.never rfl (pi_list (pe_lst (pa_cons (pe_gref (mg__law_sum T)) (pa_cons (pe_gref (mg__law_difference T)) (pa_cons (pe_gref (mg__law_more T)) (pa_cons (pe_gref (mg__law_less T)) (pa_cons (pe_gref (mg__law_rest T)) (pa_cons (pe_gref (mg__law_parts T)) (pa_cons (pe_gref (mg__law_masked T)) pa_nil))))))))) (pg_name (i := 9) sc_law.nd rfl (Or.inl rfl)) (pss_one (ps_if (pt_cmpR (op_neD hr.units) (pe_callH (ok_lcaught T) hr (mg__law_caught T) pass0 (pa_cons (pv 9) (pa_cons (pv 6) (pa_cons (pv 8) pa_nil)))) (pv 1) (nomark _)) (pss_one (ps_ret pe_bl)) pss_nil)))
      (pss_cons (ps_if (pt_cmpR (op_neD hr.units) (pe_callH (ok_lcaught T) hr (mg__law_caught T) pass0 (pa_cons (pe_gref (mg__law_sum T)) (pa_cons (pv 8) (pa_cons (pv 6) pa_nil)))) (pv 1) (nomark _)) (pss_one (ps_ret pe_bl)) pss_nil)
      (pss_cons (ps_if (pt_cmpR (op_neD hr.units) (pe_callH (ok_lcaught T) hr (mg__law_caught T) pass0 (pa_cons (pe_gref (mg__law_masked T)) (pa_cons (pv 6) (pa_cons (pe_un un_neg pe_int) pa_nil)))) (pv 1) (nomark _)) (pss_one (ps_ret pe_bl)) pss_nil)
      (pss_cons (ps_for PassesOwn.never rfl (pi_list (pe_lst (pa_cons (pv 8) (pa_cons pe_int (pa_cons (pe_un un_neg pe_int) (pa_cons (pe_op op_add (pe_op op_pow pe_int pe_int) pe_int) pa_nil)))))) (pg_name (i := 10) sc_law.nd rfl (Or.inl rfl)) (pss_one (ps_if (pt_cmpR (op_neD hr.units) (pe_callH (ok_lcaught T) hr (mg__law_caught T) pass0 (pa_cons (pe_gref (mg__law_made T)) (pa_cons (pv 10) (pa_cons pe_int pa_nil)))) (pv 1) (nomark _)) (pss_one (ps_ret pe_bl)) pss_nil)))
      (pss_cons (ps_if (pt_cmpR (op_neD hr.units) (pe_callH (ok_lcaught T) hr (mg__law_caught T) pass0 (pa_cons (pe_gref (mg__law_made T)) (pa_cons (pv 4) (pa_cons (pv 8) pa_nil)))) (pv 1) (nomark _)) (pss_one (ps_ret pe_bl)) pss_nil)
      (pss_cons (ps_for PassesOwn.never rfl (pi_list (pe_lst (pa_cons (pv 8) (pa_cons (pe_un un_neg pe_int) (pa_cons (pv 4) (pa_cons (pe_op op_add (pv 4) (pe_callH (ok_drawD T) hr (mg__law_draw T) pass0 (pa_cons (pv 3) (pa_cons pe_int pa_nil)))) (pa_cons (pe_op op_sub (pe_op op_sub pe_int pe_int) (pe_callH (ok_drawD T) hr (mg__law_draw T) pass0 (pa_cons (pv 3) (pa_cons pe_int pa_nil)))) pa_nil))))))) (pg_name (i := 10) sc_law.nd rfl (Or.inl rfl)) (pss_one (ps_if (pt_cmpR (op_neD hr.units) (pe_callH (ok_lcaught T) hr (mg__law_caught T) pass0 (pa_cons (pe_gref (mg__law_change T)) (pa_cons (pv 6) (pa_cons (pv 10) pa_nil)))) (pv 1) (nomark _)) (pss_one (ps_ret pe_bl)) pss_nil)))
      (pss_cons (ps_for PassesOwn.never rfl (pi_list (pe_lst (pa_cons pe_int (pa_cons (pe_un un_neg pe_int) (pa_cons (pe_op op_sub pe_int (pe_callH (ok_drawD T) hr (mg__law_draw T) pass0 (pa_cons (pv 3) (pa_cons (pe_op op_pow pe_int pe_int) pa_nil)))) pa_nil))))) (pg_name (i := 10) sc_law.nd rfl (Or.inl rfl)) (pss_cons (ps_if (pt_cmpR (op_neD hr.units) (pe_callH (ok_lcaught T) hr (mg__law_caught T) pass0 (pa_cons (pe_gref (mg__law_rest T)) (pa_cons (pv 6) (pa_cons (pv 10) pa_nil)))) (pv 1) (nomark _)) (pss_one (ps_ret pe_bl)) pss_nil)
      (pss_one (ps_if (pt_cmpR (op_neD hr.units) (pe_callH (ok_lcaught T) hr (mg__law_caught T) pass0 (pa_cons (pe_gref (mg__law_parts T)) (pa_cons (pv 6) (pa_cons (pv 10) pa_nil)))) (pv 1) (nomark _)) (pss_one (ps_ret pe_bl)) pss_nil))))
      (pss_cons (ps_set (i := 11) sc_law.nd rfl (Or.inl rfl) (pe_makeH (mk_Counter T) (ok_Counter_init T) hr (mg_Counter T) passL (pa_cons (pe_op op_add (pv 4) pe_int) (pa_cons pe_int pa_nil))))
      (pss_cons (ps_for PassesOwn.never rfl (pi_list (pe_lst (pa_cons (pe_gref (mg__law_difference T)) (pa_cons (pe_gref (mg__law_sum T)) (pa_cons (pe_gref (mg__law_more T)) (pa_cons (pe_gref (mg__law_less T)) pa_nil)))))) (pg_name (i := 9) sc_law.nd rfl (Or.inl rfl)) (pss_one (ps_if (pt_cmpR (op_neD hr.units) (pe_callH (ok_lcaught T) hr (mg__law_caught T) pass0 (pa_cons (pv 9) (pa_cons (pv 6) (pa_cons (pv 11) pa_nil)))) (pv 1) (nomark _)) (pss_one (ps_ret pe_bl)) pss_nil)))
      (pss_one (ps_if (PW.pt (pw_or (pt_cmpR (op_neD hr.units) (pe_tup (pa_cons (pe_fld (pv 6) rfl) (pa_cons (pe_propH (pv 6) (cl_Counter T) (pr_Counter_value T) (ok_Counter_value T) hr pass0) pa_nil))) (pe_tup (pa_cons (pv 4) (pa_cons (pv 5) pa_nil))) (nomark _)) (pw_or1 (pt_cmpR op_ne (pe_propH (pv 11) (cl_Counter T) (pr_Counter_value T) (ok_Counter_value T) hr pass0) pe_int (nomark _))))) (pss_one (ps_ret pe_bl)) pss_nil))))))))))))))))))
      (pss_one (ps_ret pe_bl)))), ?_⟩
    refine ⟨lenk rfl, fun L nL => ?_⟩
    generalize eHL : upd H L _ = HL
    have sHL := fr_same eHL nL
    have fL := fr_at eHL
    have hS : SqL K HL a (ns.map V.int) := sHL.seq hS
    refine ⟨_, rfl, a, _, rfl, .inl hS, _, _, rfl, _, _, rfl, ?_⟩
    have hj1 := turns_rng 1 25 (by decide) (by decide) ((ns.map V.int).length : Int) (by omega)
    generalize (if (if 25 < ((ns.map V.int).length : Int) then (25 : Int) else ((ns.map V.int).length : Int)) > 1 then (if 25 < ((ns.map V.int).length : Int) then (25 : Int) else ((ns.map V.int).length : Int)) else 1) = j at hj1 ⊢
    refine ⟨_, rfl, by omega, by omega, for_range (n := j.toNat) (fun i σ H9 => ∃ (u2 u3 u4 u5 u6 u7 u8 u9 u10 u11 : Option V), σ = [some (.ref a), some (.ref L), u2, u3, u4, u5, u6, u7, u8, u9, u10, u11] ∧ Same HL H9)
      ⟨_, _, _, _, _, _, _, _, _, _, rfl, Same.refl _⟩ ?_ (fun σ H9 z => k H9)⟩
    rintro i σ H0 hi ⟨u2, u3, u4, u5, u6, u7, u8, u9, u10, u11, rfl, s0⟩
    have hS0 : SqL K H0 a (ns.map V.int) := s0.seq hS
    refine ⟨_, rfl, _, rfl, source_rd hS0 (by omega) fun p H1 np s1 S1 => ?_⟩
    refine ⟨_, rfl, _, _, rfl, rfl, ⟨by decide, by decide, by decide⟩, _, _, rfl, rfl, lenk rfl, fun m nm => ?_⟩
    generalize eH2 : upd H1 m _ = H2
    have sH2 := fr_same eH2 nm
    have fm := fr_at eH2
    refine ⟨_, rfl, draw_rd (S1.same sH2) (by decide) (by decide) fun i1 H3 i1a i1b D3 S3 => ?_⟩
    obtain ⟨x1, ex1, hx1⟩ := all_ints (Pr := fun n => 0 < n ∧ n ≤ 10 ^ 40 - 1) (ns := [12, 10 ^ 40 - 1]) i1a i1b (by decide)
    refine ⟨m, _, _, _, rfl, rfl, SqL.of (by walk_at "hp"), ex1, ?_⟩
    refine draw_rd S3 (by omega) (by omega) fun mm H4 mma mmb D4 S4 => ?_
    refine ⟨_, _, rfl, rfl, ?_⟩
    have hm : MOk (1 + mm) := ⟨by omega, by omega⟩
    refine ⟨_, rfl, _, rfl, draw_rd S4 (by omega) (by omega) fun v H5 va vb D5 S5 => ?_⟩
    refine ⟨_, rfl, _, rfl, ?_⟩
    intro c d nc nd ne
    refine counter_init nc nd ne hm fun H6 s6 hc => ⟨rfl, ?_⟩
    -- the odd things
    refine ⟨lenk rfl, fun o1 no1 => ?_⟩
    generalize eH7 : upd H6 o1 _ = H7
    have sH7 := fr_same eH7 no1
    have fo1 := fr_at eH7
    refine ⟨lenk rfl, fun o2 no2 => ?_⟩
    generalize eH8 : upd H7 o2 _ = H8
    have sH8 := fr_same eH8 no2
    have fo2 := fr_at eH8
    refine ⟨lenk rfl, fun o3 no3 => ?_⟩
    generalize eH9 : upd H8 o3 _ = H9
    have sH9 := fr_same eH9 no3
    have fo3 := fr_at eH9
    refine fun o4 no4 => ?_
    generalize eH10 : upd H9 o4 _ = H10
    have sH10 := fr_same eH10 no4
    have fo4 := fr_at eH10
    refine ⟨lenk rfl, fun o5 no5 => ?_⟩
    generalize eH11 : upd H10 o5 _ = H11
    have sH11 := fr_same eH11 no5
    have fo5 := fr_at eH11
    refine ⟨lenk rfl, fun o6 no6 => ?_⟩
    generalize eH12 : upd H11 o6 _ = H12
    have sH12 := fr_same eH12 no6
    have fo6 := fr_at eH12
    refine ⟨lenk rfl, fun o7 no7 => ?_⟩
    generalize eH13 : upd H12 o7 _ = H13
    have sH13 := fr_same eH13 no7
    have fo7 := fr_at eH13
    refine fun o8 no8 => ⟨upd_same, [(.inl 1, .int 1)], rfl, by decide, ?_⟩
    rw [upd_upd]
    generalize eH14 : upd H13 o8 _ = H14
    have sH14 := fr_same eH14 no8
    have fo8 := fr_at eH14
    refine ⟨lenk rfl, fun so nso => ?_⟩
    generalize eH15 : upd H14 so _ = H15
    have sH15 := fr_same eH15 nso
    have fso := fr_at eH15
    have s7e : Same H6 H15 := sH7.trans (sH8.trans (sH9.trans (sH10.trans (sH11.trans (sH12.trans (sH13.trans (sH14.trans sH15)))))))
    have S6 := S5.same s6
    have S7 := S6.same sH7
    have S8 := S7.same sH8
    have S9 := S8.same sH9
    have S10 := S9.same sH10
    have S11 := S10.same sH11
    have S12 := S11.same sH12
    have S13 := S12.same sH13
    have S14 := S13.same sH14
    have S15 := S14.same sH15
    have g8 : H15 o8 = some (.dK _) := sH15 _ _ fo8
    have g7 : H15 o7 = some (.lst _) := sH15 _ _ (sH14 _ _ fo7)
    have g6 : H15 o6 = some (.tup _) := sH15 _ _ (sH14 _ _ (sH13 _ _ fo6))
    have g5 : H15 o5 = some (.tup _) := sH15 _ _ (sH14 _ _ (sH13 _ _ (sH12 _ _ fo5)))
    have g4 : H15 o4 = some (.dK _) := sH15 _ _ (sH14 _ _ (sH13 _ _ (sH12 _ _ (sH11 _ _ fo4))))
    have g3 : H15 o3 = some (.lst _) := sH15 _ _ (sH14 _ _ (sH13 _ _ (sH12 _ _ (sH11 _ _ (sH10 _ _ fo3)))))
    have g2 : H15 o2 = some (.lst _) := sH15 _ _ (sH14 _ _ (sH13 _ _ (sH12 _ _ (sH11 _ _ (sH10 _ _ (sH9 _ _ fo2))))))
    have g1 : H15 o1 = some (.tup _) := sH15 _ _ (sH14 _ _ (sH13 _ _ (sH12 _ _ (sH11 _ _ (sH10 _ _ (sH9 _ _ (sH8 _ _ fo1)))))))
    have rp : ∀ {q : Addr}, q ≠ p → V.ref q ≠ .ref p := fun n z => n (V.ref.inj z)
    refine ⟨_, rfl, _, rfl, draw_rd S15 (by decide) (by decide) fun i2 H16 i2a i2b D16 S16 => ?_⟩
    obtain ⟨odd, eodd, ⟨U, nU, bU⟩, nodd⟩ := at_all (Pr := fun x => (∃ T, T ≠ "int" ∧ Bt H15 x T) ∧ x ≠ .ref p) (xs := [.non, .bl true, .bl false, .str "", .str "1", .ref o1, .ref o2, .ref o3, .ref o4, .ref o5, .ref o6, .ref o7, .ref o8]) i2a i2b (by
      intro x hx
      simp only [List.mem_cons, List.not_mem_nil, or_false] at hx
      rcases hx with rfl | rfl | rfl | rfl | rfl | rfl | rfl | rfl | rfl | rfl | rfl | rfl | rfl
      · exact ⟨⟨_, by decide, .non⟩, by intro z; cases z⟩
      · exact ⟨⟨_, by decide, .bl _⟩, by intro z; cases z⟩
      · exact ⟨⟨_, by decide, .bl _⟩, by intro z; cases z⟩
      · exact ⟨⟨_, by decide, .str _⟩, by intro z; cases z⟩
      · exact ⟨⟨_, by decide, .str _⟩, by intro z; cases z⟩
      · exact ⟨⟨_, by decide, .tup g1⟩, rp (S6.ne no1)⟩
      · exact ⟨⟨_, by decide, .lst g2⟩, rp (S7.ne no2)⟩
      · exact ⟨⟨_, by decide, .lst g3⟩, rp (S8.ne no3)⟩
      · exact ⟨⟨_, by decide, .dK g4⟩, rp (S9.ne no4)⟩
      · exact ⟨⟨_, by decide, .tup g5⟩, rp (S10.ne no5)⟩
      · exact ⟨⟨_, by decide, .tup g6⟩, rp (S11.ne no6)⟩
      · exact ⟨⟨_, by decide, .lst g7⟩, rp (S12.ne no7)⟩
      · exact ⟨⟨_, by decide, .dK g8⟩, rp (S13.ne no8)⟩)
    refine ⟨so, _, _, _, rfl, rfl, SqL.of (D16.st _ _ fso (S14.ne nso)), eodd, ?_⟩
    have nLp : L ≠ p := ne_of_none (s0 _ _ fL) np
    have dL5 : H5 L = some (.lst dueL) := ((((Drawn.after sH2 D3).trans D4).trans D5).st _ _ (s1 _ _ (s0 _ _ fL)) nLp)
    have g : Lo K p c d L (1 + mm) (v % (1 + mm)) odd H16 := ⟨S16, D16.st _ _ (s7e _ _ hc) (S5.ne nc), S5.ne nc, D16.st _ _ (s7e _ _ (s6 _ _ dL5)) nLp, nLp, ⟨U, nU, bt_drawn bU D16 nodd⟩, nodd, hm⟩
    clear g1 g2 g3 g4 g5 g6 g7 g8 eodd bU
    -- the first loop
    refine ⟨lenk rfl, fun l1 nl1 => ?_⟩
    generalize eH17 : upd H16 l1 _ = H17
    have sH17 := fr_same eH17 nl1
    have fl1 := fr_at eH17
    refine ⟨l1, rfl, ⟨_, SqL.of fl1⟩, for_each (SqL.of fl1) _ rfl (fun u x H18 hx s18 => ?_) (fun u H18 s18 => ?_)⟩
    · obtain ⟨f, rfl, r⟩ := rf_all (P := P) (w := w) (base := base) T (g.same (sH17.trans s18)) hx
      refine ⟨_, rfl, _, rfl, _, rfl, lcaught_rd r fun l H19 s19 fl => ?_⟩
      refine ⟨_, rfl, _, _, dp_due fl, dp_due (g.same (sH17.trans (s18.trans s19))).due, shp_due, shp_due, ?_⟩
      rw [eqv_due]
      refine ⟨_, rfl, iteF ?_⟩
      exact ⟨⟨_, rfl⟩, s18.trans s19⟩
    have g18 := g.same (sH17.trans s18)
    refine ⟨_, rfl, _, rfl, lcaught_rd (rf_sum2 T g18) fun l19 H19 s19 fl19 => ?_⟩
    have g19 := g18.same s19
    refine ⟨_, rfl, _, _, dp_due fl19, dp_due g19.due, shp_due, shp_due, ?_⟩
    rw [eqv_due]
    refine ⟨_, rfl, iteF ?_⟩
    refine ⟨_, rfl, _, rfl, lcaught_rd (rf_maskN T g19 (by decide)) fun l20 H20 s20 fl20 => ?_⟩
    have g20 := g19.same s20
    refine ⟨_, rfl, _, _, dp_due fl20, dp_due g20.due, shp_due, shp_due, ?_⟩
    rw [eqv_due]
    refine ⟨_, rfl, iteF ?_⟩
    -- made of a wrong modulus
    refine ⟨_, rfl, _, rfl, _, _, rfl, rfl, ⟨by decide, by decide, by decide⟩, _, _, rfl, rfl, lenk rfl, fun l21 nl21 => ?_⟩
    generalize eH21 : upd H20 l21 _ = H21
    have sH21 := fr_same eH21 nl21
    have fl21 := fr_at eH21
    have g21 := g20.same sH21
    refine ⟨l21, rfl, ⟨_, SqL.of fl21⟩, for_each (SqL.of fl21) _ rfl (fun u x H22 hx s22 => ?_) (fun u H22 s22 => ?_)⟩
    · have g22 := g21.same s22
      have b : Bad K H22 x 1 (10 ^ 40) := by
        simp only [List.mem_cons, List.not_mem_nil, or_false] at hx
        rcases hx with rfl | rfl | rfl | rfl
        · exact .inr (g22.nw (Same.refl _))
        · exact .inl ⟨_, rfl, by decide⟩
        · exact .inl ⟨_, rfl, by decide⟩
        · exact .inl ⟨_, rfl, by decide⟩
      refine ⟨_, rfl, lcaught_rd (rf_made T b) fun l23 H23 s23 fl23 => ?_⟩
      have g23 := g22.same s23
      refine ⟨_, rfl, _, _, dp_due fl23, dp_due g23.due, shp_due, shp_due, ?_⟩
      rw [eqv_due]
      refine ⟨_, rfl, iteF ?_⟩
      exact ⟨⟨_, rfl⟩, s22.trans s23⟩
    have g22 := g21.same s22
    refine ⟨_, rfl, _, rfl, lcaught_rd (rf_madeO T g22) fun l23 H23 s23 fl23 => ?_⟩
    have g23 := g22.same s23
    refine ⟨_, rfl, _, _, dp_due fl23, dp_due g23.due, shp_due, shp_due, ?_⟩
    rw [eqv_due]
    refine ⟨_, rfl, iteF ?_⟩
    -- changes
    refine ⟨_, rfl, _, rfl, _, rfl, _, rfl, _, rfl, draw_rd g23.src (by decide) (by decide) fun e1 H24 e1a e1b D24 S24 => ?_⟩
    have g24 := g23.drawn D24
    refine ⟨_, _, rfl, rfl, _, _, rfl, rfl, _, rfl, draw_rd g24.src (by decide) (by decide) fun e2 H25 e2a e2b D25 S25 => ?_⟩
    have g25 := g24.drawn D25
    refine ⟨_, _, rfl, rfl, lenk rfl, fun l26 nl26 => ?_⟩
    generalize eH26 : upd H25 l26 _ = H26
    have sH26 := fr_same eH26 nl26
    have fl26 := fr_at eH26
    have g26 := g25.same sH26
    refine ⟨l26, rfl, ⟨_, SqL.of fl26⟩, for_each (SqL.of fl26) _ rfl (fun u x H27 hx s27 => ?_) (fun u H27 s27 => ?_)⟩
    · have g27 := g26.same s27
      have b : Bad K H27 x 0 (1 + mm - 1) := by
        simp only [List.mem_cons, List.not_mem_nil, or_false] at hx
        rcases hx with rfl | rfl | rfl | rfl | rfl
        · exact .inr (g27.nw (Same.refl _))
        · exact .inl ⟨_, rfl, by omega⟩
        · exact .inl ⟨_, rfl, by omega⟩
        · exact .inl ⟨_, rfl, by omega⟩
        · exact .inl ⟨_, rfl, by omega⟩
      refine ⟨_, rfl, _, rfl, lcaught_rd (rf_ch T g27 b) fun l28 H28 s28 fl28 => ?_⟩
      have g28 := g27.same s28
      refine ⟨_, rfl, _, _, dp_due fl28, dp_due g28.due, shp_due, shp_due, ?_⟩
      rw [eqv_due]
      refine ⟨_, rfl, iteF ?_⟩
      exact ⟨⟨_, rfl⟩, s27.trans s28⟩
    have g27 := g26.same s27
    -- divisors
    refine ⟨_, rfl, _, rfl, _, _, rfl, rfl, ⟨by decide, by decide, by decide⟩, draw_rd g27.src (by decide) (by decide) fun e3 H28 e3a e3b D28 S28 => ?_⟩
    have g28 := g27.drawn D28
    refine ⟨_, _, rfl, rfl, lenk rfl, fun l29 nl29 => ?_⟩
    generalize eH29 : upd H28 l29 _ = H29
    have sH29 := fr_same eH29 nl29
    have fl29 := fr_at eH29
    have g29 := g28.same sH29
    refine ⟨l29, rfl, ⟨_, SqL.of fl29⟩, for_each (SqL.of fl29) _ rfl (fun u x H30 hx s30 => ?_) (fun u H30 s30 => ?_)⟩
    · have g30 := g29.same s30
      obtain ⟨n, rfl, hn⟩ : ∃ n, x = .int n ∧ n < 1 := by
        simp only [List.mem_cons, List.not_mem_nil, or_false] at hx
        rcases hx with rfl | rfl | rfl
        · exact ⟨_, rfl, by decide⟩
        · exact ⟨_, rfl, by decide⟩
        · exact ⟨_, rfl, by omega⟩
      refine ⟨_, rfl, _, rfl, lcaught_rd (rf_restN T g30 hn) fun l31 H31 s31 fl31 => ?_⟩
      have g31 := g30.same s31
      refine ⟨_, rfl, _, _, dp_due fl31, dp_due g31.due, shp_due, shp_due, ?_⟩
      rw [eqv_due]
      refine ⟨_, rfl, iteF ?_⟩
      refine ⟨_, rfl, _, rfl, lcaught_rd (rf_partsN T g31 hn) fun l32 H32 s32 fl32 => ?_⟩
      have g32 := g31.same s32
      refine ⟨_, rfl, _, _, dp_due fl32, dp_due g32.due, shp_due, shp_due, ?_⟩
      rw [eqv_due]
      refine ⟨_, rfl, iteF ?_⟩
      exact ⟨⟨_, rfl⟩, s30.trans (s31.trans s32)⟩
    have g30 := g29.same s30
    -- another counter
    refine ⟨_, rfl, _, _, rfl, rfl, ?_⟩
    intro q e nq nde neq
    refine counter_init nq nde neq ⟨by omega, by omega⟩ fun H31 s31 hq => ⟨rfl, ?_⟩
    have g31 := g30.same s31
    refine ⟨lenk rfl, fun l32 nl32 => ?_⟩
    generalize eH32 : upd H31 l32 _ = H32
    have sH32 := fr_same eH32 nl32
    have fl32 := fr_at eH32
    refine ⟨l32, rfl, ⟨_, SqL.of fl32⟩, for_each (SqL.of fl32) _ rfl (fun u x H33 hx s33 => ?_) (fun u H33 s33 => ?_)⟩
    · have g33 := g31.same (sH32.trans s33)
      obtain ⟨f, rfl, r⟩ := rf_two (P := P) (w := w) (base := base) T g33 (s33 _ _ (sH32 _ _ hq)) (by omega) hx
      refine ⟨_, rfl, _, rfl, _, rfl, lcaught_rd (r) fun l34 H34 s34 fl34 => ?_⟩
      have g34 := g33.same s34
      refine ⟨_, rfl, _, _, dp_due fl34, dp_due g34.due, shp_due, shp_due, ?_⟩
      rw [eqv_due]
      refine ⟨_, rfl, iteF ?_⟩
      exact ⟨⟨_, rfl⟩, s33.trans s34⟩
    have g33 := g31.same (sH32.trans s33)
    have hq33 := s33 _ _ (sH32 _ _ hq)
    -- what stood stands
    have ev : v % (1 + mm) = v := Int.emod_eq_of_lt va vb
    refine ⟨_, rfl, c, CC K, d, _, _, rfl, g33.ctr, cl_Counter T, na_Counter_modulus T, rfl, _, rfl, c, d, _, rfl, g33.ctr, c, d, _, _, rfl, g33.ctr, lenk rfl, fun t1 nt1 => ?_⟩
    generalize eH34 : upd H33 t1 _ = H34
    have sH34 := fr_same eH34 nt1
    have ft1 := fr_at eH34
    refine ⟨_, rfl, _, rfl, lenk rfl, fun t2 nt2 => ?_⟩
    generalize eH35 : upd H34 t2 _ = H35
    have sH35 := fr_same eH35 nt2
    have ft2 := fr_at eH35
    refine ⟨_, _, dp_pair (sH35 _ _ ft1), dp_pair ft2, rfl, rfl, ?_⟩
    rw [eqv_pair, decide_eq_true ⟨rfl, ev⟩]
    refine ⟨_, rfl, iteF ?_⟩
    have hq35 := sH35 _ _ (sH34 _ _ hq33)
    refine ⟨_, rfl, q, e, _, rfl, hq35, q, e, _, _, rfl, hq35, rfl, _, rfl, ?_⟩
    refine ifN (fun hc => absurd (congrArg V.int (Int.zero_emod _)) hc) (fun _ => ?_)
    have D5a := (((Drawn.after sH2 D3).trans D4).trans D5).same (s6.trans s7e)
    have D23 := ((D5a.trans D16).same (sH17.trans (s18.trans (s19.trans (s20.trans (sH21.trans (s22.trans s23)))))))
    have D30 := ((((D23.trans D24).trans D25).same (sH26.trans s27)).trans D28).same (sH29.trans s30)
    exact ⟨_, _, _, _, _, _, _, _, _, _, rfl, s0.trans (Drawn.over s1 np (D30.same (s31.trans (sH32.trans (s33.trans (sH34.trans sH35))))))⟩
end
end Lw
/-! the end: the law's own def as the top has left it. -/
namespace Lw
open PySem PySem.Spec PyProof.Rows L2 Rg
theorem finish {P : Program} {w : World} {K : PySem.W.Frag} {mg : Str → Option Value} {fa : Addr} {h : Heap} (KX : K.In h) (G : h.Ns mainGlobals mg) (hmg : mg ("law" : Str) = some (.ref fa)) (c : SaysM faL fnL K) :
    ∃ (K : PySem.W.Frag) (fd : FuncData) (sp : Sp), K.In h ∧ (∀ (s : Shared) (u : Value), BindsTo s fd ⟨[u], []⟩ [("_law_script", u)]) ∧
      (∀ (H : Hp) (a : Addr) (ns : List Int), ns.length ≤ 63 → Only H → SqL K H a (ns.map V.int) → sp [.ref a] H (fun v _ => v = .bl true) fun _ _ _ => False) ∧
      ∀ base : Heap, K.In base → base.Ns mainGlobals mg → FnOk P w K mg base CX0 10 fa fd ["_law_script"] sp := by
  have T : TopL K mg := ⟨c, h, KX, G⟩
  obtain ⟨fd, F⟩ := fn_law T
  have e := hmg.symm.trans (mg_law T)
  cases e
  exact ⟨K, fd, sp_law K, KX, fun s u => FunD.bindsA (ps := ["_law_script"]) F (fun _ _ _ _ _ _ us hl => match us, hl with | [_], _ => rfl) s [u] rfl, fun H a ns hl _ hS => ⟨a, ns, rfl, hS, hl, fun _ => rfl⟩, fun base _ _ => ok_law T F⟩
end Lw
namespace Lw
open PySem PySem.Spec PyProof.Rows L2 Rg
def names0 : List PySem.Str := ["RingError", "NoForm", "NoCounter", "NoScheme", "NoSize", "NoRing", "Outside", "NoRun", "NoSet", "TooLong", "is_whole", "is_between", "LARGEST_MODULUS", "Counter", "whole_of", "divisor_of", "_law_source", "_law_draw", "_law_pick", "_law_caught", "_law_made", "_law_sum", "_law_difference", "_law_more", "_law_less", "_law_rest", "_law_parts", "_law_masked", "_law_change"]
def names : List PySem.Str := names0
abbrev RowL : PySem.W.OpenRow := PySem.W.OpenLaw.row PySem.Challenge.rw_ringindexes_k06_counters_refused
abbrev hk : PySem.W.Hook := hookM 7 faL fnL
def ob (s : PySem.W.SharedT) : AlM := obsMG 7 faL fnL (HandSHeadRun.getT s)
theorem ob_eq (s : PySem.W.SharedT) : ob s = hk.obs s.abs := obsMG_eq (HandSHeadRun.getT_eq s)
theorem run (w : World) : HandSHeadRun.RunEq RowL (PySem.W.view RowL.prog [33]) hk ob 6000 names w := by
  intro os
  kernel_rfl
end Lw
open PySem PySem.W PySem.Calls PyProof.Rows
set_option maxRecDepth 100000 in
set_option maxHeartbeats 0 in
theorem PySem.Challenge.cw_ringindexes_k06_counters_refused_holds : PySem.Challenge.rw_ringindexes_k06_counters_refused.Holds := by
  w_on; o_law
  refine HandSHeadRun.head_any (r := OpenLaw.row PySem.Challenge.rw_ringindexes_k06_counters_refused) (q := view (PySem.W.OpenLaw.row PySem.Challenge.rw_ringindexes_k06_counters_refused).prog [33]) (H := Lw.hk) (ob := Lw.ob) (M := 6000) (loose := Lw.names) (d := HandSHeadRun.topDef (PySem.W.OpenLaw.row PySem.Challenge.rw_ringindexes_k06_counters_refused).prog 33) (kwd := []) Lw.ob_eq
    (by kernel_rfl) (fun s => by kernel_rfl) Lw.run (by kernel_rfl) (by kernel_rfl) (by kernel_rfl) (by rfl) (by first | assumption | decide +kernel) (by decide +kernel) ⟨rfl, rfl, rfl, rfl, rfl, by decide +kernel⟩ ?hw ?hc
  case hw => w_witness2
  case hc =>
    refine L2.walk_ofE (l := PySem.Challenge.rw_ringindexes_k06_counters_refused) (n := 63) (k := 10) (x := "_law_script") (CX := L2.CX0) rfl (by decide) (by kernel_rfl) ⟨rfl, by decide, by decide⟩ ?F (fun _ _ _ _ z => z)
    intro w mg fa h Y G hmg0
    obtain ⟨K, KX, c⟩ := Y
    have hmg : mg ("law" : PySem.Str) = some (.ref fa) := by
      have e : (HandSHeadRun.topDef (PySem.W.OpenLaw.row PySem.Challenge.rw_ringindexes_k06_counters_refused).prog 33).name = ("law" : PySem.Str) := by kernel_rfl
      rw [← e]
      exact hmg0
    exact Lw.finish (P := (PySem.Challenge.rw_ringindexes_k06_counters_refused).prog) (w := w) KX G hmg c
