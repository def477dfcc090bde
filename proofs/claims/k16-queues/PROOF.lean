import PyProof.Rows.All
import Wide.All
import OpenK.AllK
import Wide.FinOn
import KE.KStateDown
import Lean
import HandS.ForMost
import HandS.Exc
import HandS.TryOnly
import HandS.ExcOwn
import HandS.WordsExc
import HandS.Defaults
import HandS.Wide
import HandS.IsInst
import HandS.Star
import HandS.Property
import HandS.Flow
import HandS.Style
import HandS.Codes
import HandS.Head0
import HandS.Head1
import HandS.Head2
import HandS.HeadEnd
import HandS.HeadHook1
import HandS.HeadHook2
import PySem.Challenge.RW_ringindexes_k16_queues_in_order
set_option Elab.async false
set_option linter.all false
set_option maxRecDepth 100000
set_option maxHeartbeats 4000000
/-! GEN A: the head's facts as a list of Bool functions of the written part. -/
namespace Rg
open PySem PySem.Spec PyProof.Rows L2
abbrev Fct := PySem.W.Frag → Bool
def obsM (fs : List Fct) (fn : List He.DefD) (K : PySem.W.Frag) : He.AlD :=
  ((fs.all fun f => f K) && fn.all fun d => d.ok K, fn.map fun d => He.fnW K d.at_)
def SaysM (fs : List Fct) (fn : List He.DefD) (K : PySem.W.Frag) : Prop := obsM fs fn K = He.valD fn
def obsMG (n : Nat) (fs : List Fct) (fn : List He.DefD) (g : Addr → Option Obj) : He.AlD := obsM fs fn (He.frG g (He.asD g n))
def hookM (n : Nat) (fs : List Fct) (fn : List He.DefD) : PySem.W.Hook :=
  { α := He.AlD, obs := fun s => obsMG n fs fn s.heap.get?, val := fun _ => He.valD fn,
    says := fun _ h => ∃ K : PySem.W.Frag, K.In h ∧ SaysM fs fn K,
    of := fun _ _ e => ⟨_, He.frG_in, e⟩,
    keeps := fun _ _ _ z k => z.elim fun K q => ⟨K, PySem.W.Frag.In.keeps q.1 k, q.2⟩ }
theorem obsMG_eq {n : Nat} {fs : List Fct} {fn : List He.DefD} {g : Addr → Option Obj} {s : Shared} (h : ∀ a, g a = s.heap.get? a) :
    obsMG n fs fn g = (hookM n fs fn).obs s := by
  have q : g = s.heap.get? := funext h
  subst q
  rfl
theorem SaysM.fact {fs : List Fct} {fn : List He.DefD} {K : PySem.W.Frag} (c : SaysM fs fn K) (i : Nat) {f : Fct} (h : fs[i]? = some f) : f K = true := by
  have c0 : ((fs.all fun f => f K) && fn.all fun d => d.ok K) = true := congrArg (fun z : He.AlD => z.1) c
  exact List.all_eq_true.mp (Bool.and_eq_true_iff.mp c0).1 f (List.mem_of_getElem? h)
theorem SaysM.dfn {fs : List Fct} {fn : List He.DefD} {K : PySem.W.Frag} (c : SaysM fs fn K) (i : Nat) {d : He.DefD} (h : fn[i]? = some d) :
    ∃ fd, FunD K d.name d.qual d.params d.body d.scope (d.dvs K) (d.kws K) (He.fAd K d.at_) fd := by
  have c0 : ((fs.all fun f => f K) && fn.all fun d => d.ok K) = true := congrArg (fun z : He.AlD => z.1) c
  have c1 : fn.map (fun d => He.fnW K d.at_) = fn.map He.DefD.val := congrArg (fun z : He.AlD => z.2) c
  have c2 := congrArg (fun l : List He.FnW => l[i]?) c1
  simp only [List.getElem?_map, h, Option.map_some, Option.some.injEq] at c2
  exact He.DefD.funD c2 (List.all_eq_true.mp (Bool.and_eq_true_iff.mp c0).2 d (List.mem_of_getElem? h))
/-- what the top has left -/
structure Top (fs : List Fct) (fn : List He.DefD) (K : PySem.W.Frag) (mg : Str → Option Value) : Prop where
  c : SaysM fs fn K
  ex : ∃ h : Heap, K.In h ∧ h.Ns mainGlobals mg
section
variable {fs : List Fct} {fn : List He.DefD} {K : PySem.W.Frag} {mg : Str → Option Value}
theorem Top.glo (T : Top fs fn K mg) {x : Str} (i : Nat) (h : fs[i]? = some (He.Fa.glo x).ok) : mg x = some (.ref (He.ga K x)) :=
  T.ex.elim fun _ q => He.glo_ok q.1 q.2 (T.c.fact i h)
theorem Top.free (T : Top fs fn K mg) {x : Str} (i : Nat) (h : fs[i]? = some (He.Fa.free x).ok) : mg x = none :=
  T.ex.elim fun _ q => He.free_ok q.1 q.2 (T.c.fact i h)
theorem Top.int (T : Top fs fn K mg) {x : Str} {n : Int} (i : Nat) (h : fs[i]? = some (He.Fa.int x n).ok) : ∃ t, mg x = some (.int n t) :=
  T.ex.elim fun _ q => He.int_ok q.1 q.2 (T.c.fact i h)
theorem Top.str (T : Top fs fn K mg) {x z : Str} (i : Nat) (h : fs[i]? = some (He.Fa.str x z).ok) : ∃ t, mg x = some (.str z t) :=
  T.ex.elim fun _ q => He.str_ok q.1 q.2 (T.c.fact i h)
theorem Top.cls (T : Top fs fn K mg) {x : Str} (i : Nat) (h : fs[i]? = some (He.Fa.cls x).ok) : Cls K (He.ga K x) := He.cls_ok (T.c.fact i h)
theorem Top.noat (T : Top fs fn K mg) {x f : Str} (i : Nat) (h : fs[i]? = some (He.Fa.noat x f).ok) : NoAttr K (He.ga K x) f := He.noat_ok (T.c.fact i h)
theorem Top.meth (T : Top fs fn K mg) {x m : Str} (i : Nat) (h : fs[i]? = some (He.Fa.meth x m).ok) : Meth K (He.ga K x) m (He.ma K (He.ga K x) m) := He.meth_ok (T.c.fact i h)
theorem Top.mkr (T : Top fs fn K mg) {x : Str} (i : Nat) (h : fs[i]? = some (He.Fa.mkr x).ok) : Mk K (He.ga K x) (He.ma K (He.ga K x) "__init__") := He.mkr_ok (T.c.fact i h)
end
/-- a def's promise with all that a caller wants -/
structure Has (P : Program) (w : World) (K : PySem.W.Frag) (mg : Str → Option Value) (base : Heap) (CX : CXT) (k : Nat) (f : Addr) (ps : List Str) (dvs : List V) (sp : Sp) : Prop where
  ex : ∃ (fd : FuncData) (ds : List Value), FnOk P w K mg base CX k f fd ps sp ∧ Binds K fd ps ds ∧ Vals dvs ds
  kp : PySem.W.keepIn K (.ref f) = true
end Rg
/-! GEN B: calls by Has; the bodies' rules. -/
namespace Rg
open PySem PySem.Spec PyProof.Rows L2
section
variable {P : Program} {w : World} {K : PySem.W.Frag} {mg : Str → Option Value} {base : Heap} {x qual : Str} {params : Arguments} {body : List Stmt} {scope : Scope} {dvs : List V} {kws : List (Str × V)} {f : Addr} {fd : FuncData} {N ps : List Str} {k : Nat} {sp : Sp}
abbrev BindsAll (x qual : Str) (params : Arguments) (body : List Stmt) (scope : Scope) (ps : List Str) : Prop :=
  ∀ (kV doc pm : Value) (an : Option Addr) (cdv ct : Value) (us : List Value), us.length = ps.length → bindArgs (PySem.W.fnOf x qual params body scope .none kV doc pm an cdv ct) ⟨us, []⟩ = pure (ps.zip us)
/-- a def that lets nothing out -/
theorem Has.of0 (F : FunD K x qual params body scope [] kws f fd) (S : FnScope N ps scope) (b : BindsAll x qual params body scope ps) (len : ∀ vs H Q E, sp vs H Q E → vs.length = ps.length)
    (go : ∀ (cdv : Value) (A : Around) (outer : List Env) (s : Shared) (H : Hp) (vs : List V) (Q : VK) (E : XK), Room k (A.deeper (envOfC qual scope s.heap.objs.size f cdv)) → sp vs H Q E →
      ∃ t, PSs (cxOf CX0 P w K mg base N qual scope f cdv A outer s H E).nox body t ∧ t { nx := fun _ H' => Q .non H', rt := Q } (start N vs) H) : Has P w K mg base CX0 (k + 1) f ps [] sp :=
  ⟨⟨fd, [], F.ok S len fun cdv A outer s H vs Q E hr h => (go cdv A outer s H vs Q E hr h).elim fun t z => ⟨t, z.1.nox, z.2⟩, F.bindsN b, .nil⟩, F.kp⟩
theorem fn0 (F : FunD K x qual params body scope [] kws f fd) (S : FnScope N ps scope) (len : ∀ vs H Q E, sp vs H Q E → vs.length = ps.length)
    (go : ∀ (cdv : Value) (A : Around) (outer : List Env) (s : Shared) (H : Hp) (vs : List V) (Q : VK) (E : XK), Room k (A.deeper (envOfC qual scope s.heap.objs.size f cdv)) → sp vs H Q E →
      ∃ t, PSs (cxOf CX0 P w K mg base N qual scope f cdv A outer s H E).nox body t ∧ t { nx := fun _ H' => Q .non H', rt := Q } (start N vs) H) : FnOk P w K mg base CX0 (k + 1) f fd ps sp :=
  F.ok S len fun cdv A outer s H vs Q E hr h => (go cdv A outer s H vs Q E hr h).elim fun t z => ⟨t, z.1.nox, z.2⟩
/-- a def that may raise -/
theorem Has.ofX (F : FunD K x qual params body scope [] kws f fd) (S : FnScope N ps scope) (b : BindsAll x qual params body scope ps) (len : ∀ vs H Q E, sp vs H Q E → vs.length = ps.length)
    (go : ∀ (cdv : Value) (A : Around) (outer : List Env) (s : Shared) (H : Hp) (vs : List V) (Q : VK) (E : XK), Room k (A.deeper (envOfC qual scope s.heap.objs.size f cdv)) → sp vs H Q E →
      ∃ t, PSs (cxOf (L2.CX P w) P w K mg base N qual scope f cdv A outer s H E) body t ∧ t { nx := fun _ H' => Q .non H', rt := Q } (start N vs) H) : Has P w K mg base (L2.CX P w) (k + 1) f ps [] sp :=
  ⟨⟨fd, [], F.ok S len go, F.bindsN b, .nil⟩, F.kp⟩
theorem Has.mono {CX : CXT} {j : Nat} (h : Has P w K mg base CX j f ps dvs sp) (l : j ≤ k) : Has P w K mg base CX k f ps dvs sp :=
  ⟨h.ex.elim fun fd z => z.elim fun ds q => ⟨fd, ds, q.1.mono l, q.2⟩, h.kp⟩
theorem Has.imp {CX : CXT} {sp' : Sp} (h : Has P w K mg base CX k f ps dvs sp) (l : ∀ vs H Q E, sp' vs H Q E → sp vs H Q E) : Has P w K mg base CX k f ps dvs sp' :=
  ⟨h.ex.elim fun fd z => z.elim fun ds q => ⟨fd, ds, q.1.imp l, q.2⟩, h.kp⟩
end
section
variable {X : Cx} {CX : CXT} {k j : Nat} {f C : Addr} {ps : List Str} {sp : Sp} {dvs : List V} {E : XK} {x m : Str} {p pos apos : Pos} {e o : Expr} {es : List Expr} {ta : TE} {t : TA}
theorem pe_callH (G : Has X.prog X.w X.K X.mg X.base CX k f ps dvs sp) (hr : Room j X.A) (hm : X.mg x = some (.ref f)) (hx : Passes CX X E) (ha : PA X (e :: es) t) (hkj : k ≤ j := by decide) (hg : Gl X x := by rfl) (hdb : (x == ("__debug__" : Str)) = false := by decide)
    (he : starEach (e :: es) X.env = (false, eval e X.env) :: starEach es X.env := by rfl) (hpl : (backTo pos (starEach es X.env)).any (·.1) = false := by rfl) :
    PE X (.Call (.Name x p) (e :: es) [] pos) (tCall sp dvs E t) := by
  obtain ⟨fd, ds, g1, g2, g3⟩ := G.ex
  exact pe_call g1 (hr.mono hkj) hg hm G.kp g2 g3 hx ha hdb he hpl
theorem pe_call0H (G : Has X.prog X.w X.K X.mg X.base CX k f ps dvs sp) (hr : Room j X.A) (hm : X.mg x = some (.ref f)) (hx : Passes CX X E) (hkj : k ≤ j := by decide) (hg : Gl X x := by rfl) (hdb : (x == ("__debug__" : Str)) = false := by decide) :
    PE X (.Call (.Name x p) [] [] pos) (tCall sp dvs E tNil) := by
  obtain ⟨fd, ds, g1, g2, g3⟩ := G.ex
  exact pe_call0 g1 (hr.mono hkj) hg hm G.kp g2 g3 hx hdb
theorem pe_methH {pl : Sem Bool} (he : PE X o ta) (c : Cls X.K C) (hm : Meth X.K C m f) (G : Has X.prog X.w X.K X.mg X.base CX k f ps dvs sp) (hr : Room j X.A) (hx : Passes CX X E) (ha : PA X (e :: es) t) (hkj : k ≤ j := by decide)
    (hst : starEach (e :: es) X.env = (false, eval e X.env) :: starEach es X.env := by rfl) (hpl : (backTo pos (starEach es X.env)).any (·.1) = false := by rfl)
    (ht : eval (.Call (.Attribute o m apos) (e :: es) [] pos) X.env = (eval o X.env >>= fun ov => standAt apos.atName >>= fun _ => holding [ov] (getMethod ov m pl) >>= fun z => callWith pos z.1 z.2 (backTo pos (starEach (e :: es) X.env)) (backToKw pos (keywordEach [] X.env))) := by rfl) :
    PE X (.Call (.Attribute o m apos) (e :: es) [] pos) (tMeth C m sp dvs E ta t) := by
  obtain ⟨fd, ds, g1, g2, g3⟩ := G.ex
  exact pe_meth (pl := pl) he c hm g1 (hr.mono hkj) g2 g3 hx ha hst hpl ht
theorem pe_meth0H {pl : Sem Bool} (he : PE X o ta) (c : Cls X.K C) (hm : Meth X.K C m f) (G : Has X.prog X.w X.K X.mg X.base CX k f ps dvs sp) (hr : Room j X.A) (hx : Passes CX X E) (hkj : k ≤ j := by decide)
    (ht : eval (.Call (.Attribute o m apos) [] [] pos) X.env = (eval o X.env >>= fun ov => standAt apos.atName >>= fun _ => holding [ov] (getMethod ov m pl) >>= fun z => callWith pos z.1 z.2 (backTo pos (starEach [] X.env)) (backToKw pos (keywordEach [] X.env))) := by rfl) :
    PE X (.Call (.Attribute o m apos) [] [] pos) (tMeth C m sp dvs E ta tNil) := by
  obtain ⟨fd, ds, g1, g2, g3⟩ := G.ex
  exact pe_meth0 (pl := pl) he c hm g1 (hr.mono hkj) g2 g3 hx ht
theorem pe_makeH (M : Mk X.K C f) (G : Has X.prog X.w X.K X.mg X.base CX k f ps dvs sp) (hr : Room j X.A) (hm : X.mg x = some (.ref C)) (hx : Passes CX X E) (ha : PA X (e :: es) t) (hkj : k + 1 ≤ j := by decide) (hg : Gl X x := by rfl) (hdb : (x == ("__debug__" : Str)) = false := by decide)
    (he : starEach (e :: es) X.env = (false, eval e X.env) :: starEach es X.env := by rfl) (hpl : (backTo pos (starEach es X.env)).any (·.1) = false := by rfl) :
    PE X (.Call (.Name x p) (e :: es) [] pos) (tMake C sp dvs E t) := by
  obtain ⟨fd, ds, g1, g2, g3⟩ := G.ex
  exact pe_make M g1 (hr.mono hkj) hg hm g2 g3 hx ha hdb he hpl
theorem pe_make0H (M : Mk X.K C f) (G : Has X.prog X.w X.K X.mg X.base CX k f ps dvs sp) (hr : Room j X.A) (hm : X.mg x = some (.ref C)) (hx : Passes CX X E) (hkj : k + 1 ≤ j := by decide) (hg : Gl X x := by rfl) (hdb : (x == ("__debug__" : Str)) = false := by decide) :
    PE X (.Call (.Name x p) [] [] pos) (tMake C sp dvs E tNil) := by
  obtain ⟨fd, ds, g1, g2, g3⟩ := G.ex
  exact pe_make0 M g1 (hr.mono hkj) hg hm g2 g3 hx hdb
end
/-! ### numbers -/
theorem atI_of {α : Type} {xs : List α} {i : Int} {v : α} (h0 : 0 ≤ i) (h : xs[i.toNat]? = some v) : atI xs i = some v := by
  have e : ((i.toNat : Nat) : Int) = i := Int.toNat_of_nonneg h0
  rw [← e]
  exact atI_nat h
theorem bits_of {m : Int} {n : Nat} (h0 : 0 < m) (h : m < 2 ^ n) : m.natAbs < 2 ^ n := by
  have e : (m.natAbs : Int) = m := Int.natAbs_of_nonneg (Int.le_of_lt h0)
  have q : ((m.natAbs : Nat) : Int) < ((2 ^ n : Nat) : Int) := by rw [e, Int.natCast_pow]; exact h
  exact Int.ofNat_lt.mp q
end Rg
namespace Rg
open PySem PySem.Spec PyProof.Rows L2
/-! ### tests -/
theorem ifD {c A B : Prop} [Decidable c] (h1 : c → A) (h2 : ¬ c → B) : if decide c = true then A else B := by
  by_cases h : c
  · rw [if_pos (decide_eq_true h)]
    exact h1 h
  · rw [if_neg (fun z => h (of_decide_eq_true z))]
    exact h2 h
theorem ifN {c A B : Prop} [Decidable c] (h1 : ¬ c → A) (h2 : c → B) : if (!decide c) = true then A else B := by
  by_cases h : c
  · rw [decide_eq_true h, if_neg (by decide)]
    exact h2 h
  · rw [decide_eq_false h, if_pos (by decide)]
    exact h1 h
theorem ifB {c : Bool} {A B : Prop} (h1 : c = true → A) (h2 : c = false → B) : if c = true then A else B := by
  cases c
  · rw [if_neg (by decide)]
    exact h2 rfl
  · rw [if_pos rfl]
    exact h1 rfl
theorem ifY {c : Bool} {A B : Prop} (h : c = true) (h1 : A) : if c = true then A else B := by
  rw [if_pos h]
  exact h1
theorem ifF {c : Bool} {A B : Prop} (h : c = false) (h1 : B) : if c = true then A else B := by
  rw [h, if_neg (by decide)]
  exact h1
theorem emod_rng {a m : Int} (h : 0 < m) : 0 ≤ a % m ∧ a % m < m := ⟨Int.emod_nonneg _ (by omega), Int.emod_lt_of_pos _ h⟩
theorem mul_small {i j : Int} (h0 : 0 ≤ i) (h : i < 2 ^ 64) : CMul i j := .inl ⟨by omega, h⟩
theorem abs_nn (i : Int) : 0 ≤ if i < 0 then -i else i := by split <;> omega
end Rg
namespace Rg
theorem lenk {n : Nat} (h : Nat.ble n 1000 = true) : n ≤ PySem.sizeLine := Nat.le_trans (Nat.le_of_ble_eq_true h) (by decide)
end Rg
namespace Rg
open PySem PySem.Spec PyProof.Rows L2
/-- a law's promise: a list of at most 63 ints is handed in, True comes out -/
def sp_law (K : PySem.W.Frag) : Sp := fun vs H Q _ => ∃ (a : Addr) (ns : List Int), vs = [.ref a] ∧ SqL K H a (ns.map V.int) ∧ ns.length ≤ 63 ∧ ∀ H', Q (.bl true) H'
end Rg
/-! GEN C: operators that an own class defines. -/
namespace Rg
open PySem PySem.Spec PyProof.Rows L2
/-- a special name of the class at C is the def at f -/
structure Dun (K : PySem.W.Frag) (C : Addr) (m : Str) (f : Addr) : Prop where
  at_ : PySem.W.findIn K (.ref C) m = some (some (.ref f))
  fn : PySem.W.isFn K (.ref f) = true
theorem Dun.of {K : PySem.W.Frag} {C f : Addr} {m : Str} (h : Meth K C m f) : Dun K C m f := ⟨h.1, h.2⟩
section
variable {X : Cx} {CX : CXT} {k j : Nat} {f C : Addr} {ps : List Str} {sp : Sp} {dvs : List V} {E : XK} {pins : List (Addr × Obj)} {σ : L2.St} {H : Hp} {s : Shared}
theorem ins_at {a dx : Addr} {fs : List (Str × V)} (I : Inv X pins σ H s) (h : H a = some (.ins C dx fs)) : ∃ ox od, PySem.W.InstAt s.heap a ox C od := by
  obtain ⟨mA, O, _⟩ := ins_get I.hok h
  obtain ⟨od, J, _⟩ := O.look
  exact ⟨_, _, J⟩
/-- a def runs, called by the machine at A (one or two levels in) -/
theorem run_at {A : Around} {Q : VK} {us : List Value} {vs : List V} (G : Has X.prog X.w X.K X.mg X.base CX k f ps dvs sp) (hr : Room k A) (he : Env0 X.prog X.w X.K X.mg X.base A X.stack s H) (hx : Passes CX X E)
    (I : Inv X pins σ H s) (r : Vals vs us) (h : sp (vs ++ dvs) H Q E) : wpAny (model X.prog X.w) A (call (.ref f) us) (EP X pins σ Q) X.xe s := by
  obtain ⟨fd, ds, g1, g2, g3⟩ := G.ex
  have q := r.append g3
  have hl : (us ++ ds).length = ps.length := q.length ▸ g1.len _ _ _ _ h
  refine wpAny_call (codeAny_mono (g1.run A X.stack s H ⟨us, []⟩ (us ++ ds) (vs ++ dvs) Q E hr he (g2 s us I.kIn hl) q h) fun z s' hz => ?_)
  match z, hz with
  | .error e, hz => exact hx pins σ H s e s' I hz
  | .ok (.ret u), hz => exact I.after hz
  | .ok .next, hz => exact False.elim hz
  | .ok .brk, hz => exact False.elim hz
  | .ok .cont, hz => exact False.elim hz
theorem run_here {Q : VK} {us : List Value} {vs : List V} (G : Has X.prog X.w X.K X.mg X.base CX k f ps dvs sp) (hr : Room j X.A) (hkj : k ≤ j) (hx : Passes CX X E)
    (I : Inv X pins σ H s) (r : Vals vs us) (h : sp (vs ++ dvs) H Q E) : wpAny (model X.prog X.w) X.A (call (.ref f) us) (EP X pins σ Q) X.xe s := run_at G (hr.mono hkj) I.env0 hx I r h
theorem ep_cmp {Q : VK} {u : Value} {s' : Shared} (h : EP X pins σ Q u s') : PySem.W.CmpBack (EP X pins σ Q) u s' := by
  cases u with
  | notImplemented =>
    obtain ⟨v, H', _, r, _⟩ := h
    cases v <;> first | exact (nomatch r) | (obtain ⟨_, r⟩ := r; cases r)
  | _ => exact h
/-- len(o) -/
def rLenO (C : Addr) (sp : Sp) (dvs : List V) (E : XK) : List V → Hp → VK → Prop := fun xs H Q => ∃ a dx fs, xs = [.ref a] ∧ H a = some (.ins C dx fs) ∧ sp (.ref a :: dvs) H (fun v H' => ∃ n : Int, v = .int n ∧ 0 ≤ n ∧ n < 2 ^ 63 ∧ Q v H') E
theorem call_lenO (d : Dun X.K C "__len__" f) (G : Has X.prog X.w X.K X.mg X.base CX k f ps dvs sp) (hr : Room j X.A) (hx : Passes CX X E) (hkj : k + 1 ≤ j := by decide) : CallR X (.builtin "len") (rLenO C sp dvs E) := by
  intro pins s σ H xs us Q I r h
  obtain ⟨a, dx, fs, rfl, ha, h⟩ := h
  obtain ⟨u, rfl, rfl⟩ := vals1 r
  obtain ⟨ox, od, J⟩ := ins_at I ha
  obtain ⟨m, F⟩ := I.fr
  refine PySem.W.len_K F I.mod.kin J d.at_ d.fn (wpAny_mono (run_at (vs := [.ref a]) G (Room.in1 (hr.mono hkj)) I.env0.in1 hx I (.cons rfl .nil) h) (fun u s' z => ?_) fun _ _ z => z)
  obtain ⟨v, H', I', rv, n, rfl, n0, n1, q⟩ := z
  obtain ⟨t, rfl⟩ := rv
  exact ⟨⟨n0, n1⟩, .int n, H', I'.tok _, ⟨_, rfl⟩, q⟩
/-- the truth of o -/
def rTruO (C : Addr) (sp : Sp) (dvs : List V) (E : XK) : V → Hp → (Bool → Hp → Prop) → Prop := fun x H Q => ∃ a dx fs, x = .ref a ∧ H a = some (.ins C dx fs) ∧ sp (.ref a :: dvs) H (fun v H' => ∃ b, v = .bl b ∧ Q b H') E
theorem tru_at {A : Around} {a dx : Addr} {fs : List (Str × V)} {Q : Bool → Hp → Prop} (d : Dun X.K C "__bool__" f) (G : Has X.prog X.w X.K X.mg X.base CX k f ps dvs sp) (hr : Room k A) (he : Env0 X.prog X.w X.K X.mg X.base A X.stack s H) (hx : Passes CX X E)
    (I : Inv X pins σ H s) (ha : H a = some (.ins C dx fs)) (h : sp (.ref a :: dvs) H (fun v H' => ∃ b, v = .bl b ∧ Q b H') E) :
    wpAny (model X.prog X.w) A (truthy (.ref a)) (TP X pins σ Q) X.xe s := by
  obtain ⟨ox, od, J⟩ := ins_at I ha
  obtain ⟨m, F⟩ := I.fr
  refine PySem.W.truthy_K F I.mod.kin J d.at_ d.fn (wpAny_mono (run_at (vs := [.ref a]) G hr he hx I (.cons rfl .nil) h) (fun u s' z => ?_) fun _ _ z => z)
  obtain ⟨v, H', I', rv, b, rfl, q⟩ := z
  cases rv
  exact ⟨H', I', q⟩
theorem tru_own (d : Dun X.K C "__bool__" f) (G : Has X.prog X.w X.K X.mg X.base CX k f ps dvs sp) (hr : Room j X.A) (hx : Passes CX X E) (hkj : k ≤ j := by decide) : TruR X (rTruO C sp dvs E) := by
  intro pins s σ H x v Q I r h
  obtain ⟨a, dx, fs, rfl, ha, h⟩ := h
  cases r
  exact tru_at d G (hr.mono hkj) I.env0 hx I ha h
theorem new_boolO {prog : Program} {w : World} (x : Value) : MeetsIn prog w (Builtin.«bool.__new__» ⟨[.type "bool", x], []⟩)
    (fun A R s => wpAny (model prog w) A.in1 (truthy x) (fun b s1 => R (.ok (.ret (.bool b))) s1) (fun e s1 => R (.error e) s1) s) :=
  .of_wp fun A R s h => by
    obtain ⟨hp, g, d, tk, os⟩ := s
    have f1 := F.conv_sub_bool
    repeat (any_goals (first | assumption | (with_reducible refine wpAny_mono h (fun b s1 z => ?_) (fun _ _ z => z)) | wp_step))
    all_goals exact ⟨_, rfl, z⟩
/-- bool(o) -/
def rBoolO (C : Addr) (sp : Sp) (dvs : List V) (E : XK) : List V → Hp → VK → Prop := fun xs H Q => ∃ a dx fs, xs = [.ref a] ∧ H a = some (.ins C dx fs) ∧ sp (.ref a :: dvs) H (fun v H' => ∃ b, v = .bl b ∧ Q (.bl b) H') E
theorem call_boolO (d : Dun X.K C "__bool__" f) (G : Has X.prog X.w X.K X.mg X.base CX k f ps dvs sp) (hr : Room j X.A) (hx : Passes CX X E) (hkj : k + 2 ≤ j := by decide) : CallR X (.type "bool") (rBoolO C sp dvs E) := by
  intro pins s σ H xs us Q I r h
  obtain ⟨a, dx, fs, rfl, ha, h⟩ := h
  obtain ⟨u, rfl, rfl⟩ := vals1 r
  have rm : Room k X.A.in1.in1 := Room.in1 (Room.in1 (hr.mono hkj))
  refine callType_newIn F.called_bool F.newNe_bool (F.typeCall_bool_1 _) (F.newCall_bool_1 _) (fun obj => F.args_object_init_2 obj _) F.entry_bool_new (new_boolO _) ?_
  refine wpAny_mono (tru_at (Q := fun b H' => Q (.bl b) H') d G rm I.env0.in1.in1 hx I ha h) (fun b s' z => ?_) fun _ _ z => z
  obtain ⟨H', I', q⟩ := z
  exact ⟨rfl, .bl b, H', I', rfl, q⟩
/-- x in o -/
def rInO (C : Addr) (sp : Sp) (dvs : List V) (E : XK) : R2 := fun x y H Q => ∃ a dx fs, y = .ref a ∧ H a = some (.ins C dx fs) ∧ sp (.ref a :: x :: dvs) H (fun v H' => ∃ b, v = .bl b ∧ Q (.bl b) H') E
theorem op_inO (d : Dun X.K C "__contains__" f) (G : Has X.prog X.w X.K X.mg X.base CX k f ps dvs sp) (hr : Room j X.A) (hx : Passes CX X E) (hkj : k ≤ j := by decide) : OpR X (compareOp .In) (rInO C sp dvs E) := by
  intro pins s σ H x y v u Q I rx ry h
  obtain ⟨a, dx, fs, rfl, ha, h⟩ := h
  cases ry
  obtain ⟨ox, od, J⟩ := ins_at I ha
  obtain ⟨m, F⟩ := I.fr
  refine PySem.W.in_K F I.mod.kin J d.at_ d.fn (wpAny_mono (run_here (vs := [.ref a, x]) G hr hkj hx I (.cons rfl (.cons rx .nil)) h) (fun u s' z => ?_) fun _ _ z => z)
  obtain ⟨z, H', I', rz, b, rfl, q⟩ := z
  cases rz
  exact wpAny_pure ⟨.bl b, H', I', rfl, q⟩
end
end Rg
/-! GEN D: data compared. -/
namespace Rg
open PySem PySem.Spec PyProof.Rows L2
theorem shp_ints (ns : List Int) : SeqAt.shaped (.list (ns.map PyData.int)) = true := by
  have a : ∀ l : List Int, PyData.canLayAll0 (l.map PyData.int) = true ∧ PyData.depthAll (l.map PyData.int) = 0 := by
    intro l
    induction l with
    | nil => exact ⟨rfl, rfl⟩
    | cons x r ih =>
      refine ⟨?_, ?_⟩
      · rw [List.map_cons, PyData.canLayAll0, ih.1]
        rfl
      · rw [List.map_cons, PyData.depthAll, ih.2]
        rfl
  unfold SeqAt.shaped
  rw [PyData.canLay0, (a ns).1, PyData.depth, (a ns).2]
  rfl
theorem dp_all {K : PySem.W.Frag} {H : Hp} : ∀ ns : List Int, DpAll K H (ns.map V.int) (ns.map PyData.int)
  | [] => .nil
  | x :: r => .cons (.int x) (dp_all r)
theorem dp_ints {K : PySem.W.Frag} {H : Hp} {a : Addr} {ns : List Int} (h : SqL K H a (ns.map V.int)) : Dp K H (.ref a) (.list (ns.map PyData.int)) := .lst h (dp_all ns)
theorem dp_nil {K : PySem.W.Frag} {H : Hp} {a : Addr} (h : SqL K H a []) : Dp K H (.ref a) (.list []) := .lst h .nil
theorem eqv_all : ∀ ns ms : List Int, PyData.eqvAll (ns.map PyData.int) (ms.map PyData.int) = decide (ns = ms)
  | [], [] => rfl
  | [], _ :: _ => rfl
  | _ :: _, [] => rfl
  | x :: r, y :: t => by
    rw [List.map_cons, List.map_cons, PyData.eqvAll, PyData.eqv, eqv_all r t]
    by_cases h : x = y
    · subst h
      simp
    · simp [h]
theorem eqv_ints (ns ms : List Int) : PyData.eqv (.list (ns.map PyData.int)) (.list (ms.map PyData.int)) = decide (ns = ms) := by rw [PyData.eqv, eqv_all]
theorem eqv_nil (ns : List Int) : PyData.eqv (.list (ns.map PyData.int)) (.list []) = decide (ns = []) := eqv_ints ns []
/-- all that was tracked stays, but at l -/
def Chg (l : Addr) (o : HO) (H H' : Hp) : Prop := H' l = some o ∧ ∀ b u, H b = some u → b ≠ l → H' b = some u
theorem Same.new {H : Hp} {p : Addr} {o : HO} (h : H p = none) : Same H (upd H p o) := fun b u e => (upd_ne (ne_of_none e h)).trans e
theorem Same.mut {H H' : Hp} {p : Addr} {o : HO} (e : Same H H') (h : H p = none) : Same H (upd H' p o) := fun b u z => (upd_ne (ne_of_none z h)).trans (e b u z)
theorem Same.at_ {H H' : Hp} (e : Same H H') {p : Addr} {o : HO} (h : H p = some o) : H' p = some o := e p o h
theorem Same.chg {H H' H'' : Hp} {p : Addr} {o : HO} (e : Same H H') (c : Chg p o H' H'') (h : H p = none) : Same H H'' := fun b u z => c.2 b u (e b u z) (ne_of_none z h)
theorem Chg.ne {H H' : Hp} {p q : Addr} {o u : HO} (c : Chg p o H H') (h : H q = some u) (n : q ≠ p) : H' q = some u := c.2 q u h n
theorem scal_same (v : V) (h : flatV v = true) (hb : ∀ b, v ≠ .flt b) (hr : ∀ a, v ≠ .ref a) : scal v v = true := by
  cases v <;> first | rfl | (exact absurd rfl (hb _)) | (exact absurd rfl (hr _)) | cases h
end Rg
namespace Rg
open PySem PySem.Spec PyProof.Rows L2
theorem seq0 {n : Nat} : seqIndex? 0 (n + 1) = some 0 := by
  have h := seqIndex_of (k := 0) (n := n + 1) (by omega) (by omega)
  simpa using h
end Rg
namespace Rg
open PySem PySem.Spec PyProof.Rows L2
/-- all stays but at the places ws -/
def Stay (ws : List Addr) (H H' : Hp) : Prop := ∀ b u, H b = some u → b ∉ ws → H' b = some u
theorem Stay.refl (ws : List Addr) (H : Hp) : Stay ws H H := fun _ _ h _ => h
theorem Stay.same {ws : List Addr} {H H' H'' : Hp} (a : Stay ws H H') (b : Same H' H'') : Stay ws H H'' := fun c u h n => b c u (a c u h n)
theorem Stay.upd {ws : List Addr} {H H' : Hp} {p : Addr} {o : HO} (a : Stay ws H H') (h : p ∈ ws) : Stay ws H (L2.upd H' p o) := fun c u z n => (upd_ne (fun e : c = p => n (by rw [e]; exact h))).trans (a c u z n)
theorem Stay.new {ws : List Addr} {H H' : Hp} {p : Addr} {o : HO} (a : Stay ws H H') (h : H' p = none) : Stay ws H (L2.upd H' p o) := fun c u z n => (upd_ne (ne_of_none (a c u z n) h)).trans (a c u z n)
theorem Stay.chg {ws : List Addr} {H H' H'' : Hp} {p : Addr} {o : HO} (a : Stay ws H H') (c : Chg p o H' H'') (h : p ∈ ws) : Stay ws H H'' := fun b u z n => c.2 b u (a b u z n) (fun e : b = p => n (by rw [e]; exact h))
theorem Stay.at_ {ws : List Addr} {H H' : Hp} (a : Stay ws H H') {p : Addr} {o : HO} (h : H p = some o) (n : p ∉ ws) : H' p = some o := a p o h n
theorem Same.seqT {K : PySem.W.Frag} {H H' : Hp} {a : Addr} {xs : List V} (e : Same H H') (h : SqT K H a xs) : SqT K H' a xs := by
  rcases h with (h | ⟨o, h⟩) | h
  · exact .inl (.inl (e _ _ h))
  · exact .inl (.inr ⟨o, e _ _ h⟩)
  · exact .inr h
end Rg
namespace Rg
open PySem PySem.Spec PyProof.Rows L2
theorem fr_same {H H' : Hp} {p : Addr} {o : HO} (e : L2.upd H p o = H') (h : H p = none) : Same H H' := e ▸ Same.new h
theorem fr_at {H H' : Hp} {p : Addr} {o : HO} (e : L2.upd H p o = H') : H' p = some o := e ▸ upd_same
end Rg
namespace Lw
open PySem PySem.Spec PyProof.Rows L2 Rg
def top (i : Nat) : Stmt := PySem.Challenge.pw_ringindexes_k16_queues_in_order.main.body.getD i (.Pass ⟨0, 0, 0, 0⟩)
abbrev s__law_source : Stmt := top 3
abbrev s__law_draw : Stmt := top 4
abbrev s__law_pick : Stmt := top 5
abbrev s__law_look : Stmt := top 6
abbrev s_law : Stmt := top 7
abbrev s_Queue___init__ : Stmt := inClass (top 1) 0
abbrev s_Queue_put : Stmt := inClass (top 1) 1
abbrev s_Queue_take : Stmt := inClass (top 1) 2
abbrev s_Queue_oldest : Stmt := inClass (top 1) 3
abbrev s_Queue___len__ : Stmt := inClass (top 1) 4
abbrev s_Queue___bool__ : Stmt := inClass (top 1) 5
abbrev s_Queue___contains__ : Stmt := inClass (top 1) 6
def d__law_source : He.DefD := ⟨("_law_source", none), "_law_source", "_law_source", defArgs s__law_source, defBody s__law_source, defScope s__law_source, [], []⟩
def d__law_draw : He.DefD := ⟨("_law_draw", none), "_law_draw", "_law_draw", defArgs s__law_draw, defBody s__law_draw, defScope s__law_draw, [], []⟩
def d__law_pick : He.DefD := ⟨("_law_pick", none), "_law_pick", "_law_pick", defArgs s__law_pick, defBody s__law_pick, defScope s__law_pick, [], []⟩
def d__law_look : He.DefD := ⟨("_law_look", none), "_law_look", "_law_look", defArgs s__law_look, defBody s__law_look, defScope s__law_look, [], []⟩
def d_law : He.DefD := ⟨("law", none), "law", "law", defArgs s_law, defBody s_law, defScope s_law, [], []⟩
def d_Queue___init__ : He.DefD := ⟨("Queue", some "__init__"), "__init__", "Queue.__init__", defArgs s_Queue___init__, defBody s_Queue___init__, defScope s_Queue___init__, [], []⟩
def d_Queue_put : He.DefD := ⟨("Queue", some "put"), "put", "Queue.put", defArgs s_Queue_put, defBody s_Queue_put, defScope s_Queue_put, [], []⟩
def d_Queue_take : He.DefD := ⟨("Queue", some "take"), "take", "Queue.take", defArgs s_Queue_take, defBody s_Queue_take, defScope s_Queue_take, [], []⟩
def d_Queue_oldest : He.DefD := ⟨("Queue", some "oldest"), "oldest", "Queue.oldest", defArgs s_Queue_oldest, defBody s_Queue_oldest, defScope s_Queue_oldest, [], []⟩
def d_Queue___len__ : He.DefD := ⟨("Queue", some "__len__"), "__len__", "Queue.__len__", defArgs s_Queue___len__, defBody s_Queue___len__, defScope s_Queue___len__, [], []⟩
def d_Queue___bool__ : He.DefD := ⟨("Queue", some "__bool__"), "__bool__", "Queue.__bool__", defArgs s_Queue___bool__, defBody s_Queue___bool__, defScope s_Queue___bool__, [], []⟩
def d_Queue___contains__ : He.DefD := ⟨("Queue", some "__contains__"), "__contains__", "Queue.__contains__", defArgs s_Queue___contains__, defBody s_Queue___contains__, defScope s_Queue___contains__, [], []⟩
def fnL : List He.DefD := [d__law_source, d__law_draw, d__law_pick, d__law_look, d_law, d_Queue___init__, d_Queue_put, d_Queue_take, d_Queue_oldest, d_Queue___len__, d_Queue___bool__, d_Queue___contains__]
def faL : List Fct := [(He.Fa.glo "_law_source").ok,
  (He.Fa.glo "_law_draw").ok,
  (He.Fa.glo "_law_pick").ok,
  (He.Fa.glo "_law_look").ok,
  (He.Fa.glo "law").ok,
  (He.Fa.free "len").ok,
  (He.Fa.free "range").ok,
  (He.Fa.free "max").ok,
  (He.Fa.free "min").ok,
  (He.Fa.free "abs").ok,
  (He.Fa.free "int").ok,
  (He.Fa.free "bool").ok,
  (He.Fa.glo "Queue").ok,
  (He.Fa.cls "Queue").ok,
  (He.Fa.noat "Queue" "line").ok,
  (He.Fa.mkr "Queue").ok,
  (He.Fa.meth "Queue" "put").ok,
  (He.Fa.meth "Queue" "take").ok,
  (He.Fa.meth "Queue" "oldest").ok,
  (He.Fa.meth "Queue" "__len__").ok,
  (He.Fa.meth "Queue" "__bool__").ok,
  (He.Fa.meth "Queue" "__contains__").ok]
abbrev TopL (K : PySem.W.Frag) (mg : Str → Option Value) : Prop := Top faL fnL K mg
section
variable {K : PySem.W.Frag} {mg : Str → Option Value}
theorem mg__law_source (T : TopL K mg) : mg "_law_source" = some (.ref (He.ga K "_law_source")) := T.glo 0 rfl
theorem mg__law_draw (T : TopL K mg) : mg "_law_draw" = some (.ref (He.ga K "_law_draw")) := T.glo 1 rfl
theorem mg__law_pick (T : TopL K mg) : mg "_law_pick" = some (.ref (He.ga K "_law_pick")) := T.glo 2 rfl
theorem mg__law_look (T : TopL K mg) : mg "_law_look" = some (.ref (He.ga K "_law_look")) := T.glo 3 rfl
theorem mg_law (T : TopL K mg) : mg "law" = some (.ref (He.ga K "law")) := T.glo 4 rfl
theorem fr_len (T : TopL K mg) : mg "len" = none := T.free 5 rfl
theorem fr_range (T : TopL K mg) : mg "range" = none := T.free 6 rfl
theorem fr_max (T : TopL K mg) : mg "max" = none := T.free 7 rfl
theorem fr_min (T : TopL K mg) : mg "min" = none := T.free 8 rfl
theorem fr_abs (T : TopL K mg) : mg "abs" = none := T.free 9 rfl
theorem fr_int (T : TopL K mg) : mg "int" = none := T.free 10 rfl
theorem fr_bool (T : TopL K mg) : mg "bool" = none := T.free 11 rfl
theorem mg_Queue (T : TopL K mg) : mg "Queue" = some (.ref (He.ga K "Queue")) := T.glo 12 rfl
theorem cl_Queue (T : TopL K mg) : Cls K (He.ga K "Queue") := T.cls 13 rfl
theorem na_Queue_line (T : TopL K mg) : NoAttr K (He.ga K "Queue") "line" := T.noat 14 rfl
theorem mk_Queue (T : TopL K mg) : Mk K (He.ga K "Queue") (He.ma K (He.ga K "Queue") "__init__") := T.mkr 15 rfl
theorem me_Queue_put (T : TopL K mg) : Meth K (He.ga K "Queue") "put" (He.ma K (He.ga K "Queue") "put") := T.meth 16 rfl
theorem me_Queue_take (T : TopL K mg) : Meth K (He.ga K "Queue") "take" (He.ma K (He.ga K "Queue") "take") := T.meth 17 rfl
theorem me_Queue_oldest (T : TopL K mg) : Meth K (He.ga K "Queue") "oldest" (He.ma K (He.ga K "Queue") "oldest") := T.meth 18 rfl
theorem me_Queue___len__ (T : TopL K mg) : Meth K (He.ga K "Queue") "__len__" (He.ma K (He.ga K "Queue") "__len__") := T.meth 19 rfl
theorem me_Queue___bool__ (T : TopL K mg) : Meth K (He.ga K "Queue") "__bool__" (He.ma K (He.ga K "Queue") "__bool__") := T.meth 20 rfl
theorem me_Queue___contains__ (T : TopL K mg) : Meth K (He.ga K "Queue") "__contains__" (He.ma K (He.ga K "Queue") "__contains__") := T.meth 21 rfl
theorem fn__law_source (T : TopL K mg) : ∃ fd, FunD K d__law_source.name d__law_source.qual d__law_source.params d__law_source.body d__law_source.scope (d__law_source.dvs K) (d__law_source.kws K) (He.fAd K d__law_source.at_) fd := T.c.dfn 0 rfl
theorem fn__law_draw (T : TopL K mg) : ∃ fd, FunD K d__law_draw.name d__law_draw.qual d__law_draw.params d__law_draw.body d__law_draw.scope (d__law_draw.dvs K) (d__law_draw.kws K) (He.fAd K d__law_draw.at_) fd := T.c.dfn 1 rfl
theorem fn__law_pick (T : TopL K mg) : ∃ fd, FunD K d__law_pick.name d__law_pick.qual d__law_pick.params d__law_pick.body d__law_pick.scope (d__law_pick.dvs K) (d__law_pick.kws K) (He.fAd K d__law_pick.at_) fd := T.c.dfn 2 rfl
theorem fn__law_look (T : TopL K mg) : ∃ fd, FunD K d__law_look.name d__law_look.qual d__law_look.params d__law_look.body d__law_look.scope (d__law_look.dvs K) (d__law_look.kws K) (He.fAd K d__law_look.at_) fd := T.c.dfn 3 rfl
theorem fn_law (T : TopL K mg) : ∃ fd, FunD K d_law.name d_law.qual d_law.params d_law.body d_law.scope (d_law.dvs K) (d_law.kws K) (He.fAd K d_law.at_) fd := T.c.dfn 4 rfl
theorem fn_Queue___init__ (T : TopL K mg) : ∃ fd, FunD K d_Queue___init__.name d_Queue___init__.qual d_Queue___init__.params d_Queue___init__.body d_Queue___init__.scope (d_Queue___init__.dvs K) (d_Queue___init__.kws K) (He.fAd K d_Queue___init__.at_) fd := T.c.dfn 5 rfl
theorem fn_Queue_put (T : TopL K mg) : ∃ fd, FunD K d_Queue_put.name d_Queue_put.qual d_Queue_put.params d_Queue_put.body d_Queue_put.scope (d_Queue_put.dvs K) (d_Queue_put.kws K) (He.fAd K d_Queue_put.at_) fd := T.c.dfn 6 rfl
theorem fn_Queue_take (T : TopL K mg) : ∃ fd, FunD K d_Queue_take.name d_Queue_take.qual d_Queue_take.params d_Queue_take.body d_Queue_take.scope (d_Queue_take.dvs K) (d_Queue_take.kws K) (He.fAd K d_Queue_take.at_) fd := T.c.dfn 7 rfl
theorem fn_Queue_oldest (T : TopL K mg) : ∃ fd, FunD K d_Queue_oldest.name d_Queue_oldest.qual d_Queue_oldest.params d_Queue_oldest.body d_Queue_oldest.scope (d_Queue_oldest.dvs K) (d_Queue_oldest.kws K) (He.fAd K d_Queue_oldest.at_) fd := T.c.dfn 8 rfl
theorem fn_Queue___len__ (T : TopL K mg) : ∃ fd, FunD K d_Queue___len__.name d_Queue___len__.qual d_Queue___len__.params d_Queue___len__.body d_Queue___len__.scope (d_Queue___len__.dvs K) (d_Queue___len__.kws K) (He.fAd K d_Queue___len__.at_) fd := T.c.dfn 9 rfl
theorem fn_Queue___bool__ (T : TopL K mg) : ∃ fd, FunD K d_Queue___bool__.name d_Queue___bool__.qual d_Queue___bool__.params d_Queue___bool__.body d_Queue___bool__.scope (d_Queue___bool__.dvs K) (d_Queue___bool__.kws K) (He.fAd K d_Queue___bool__.at_) fd := T.c.dfn 10 rfl
theorem fn_Queue___contains__ (T : TopL K mg) : ∃ fd, FunD K d_Queue___contains__.name d_Queue___contains__.qual d_Queue___contains__.params d_Queue___contains__.body d_Queue___contains__.scope (d_Queue___contains__.dvs K) (d_Queue___contains__.kws K) (He.fAd K d_Queue___contains__.at_) fd := T.c.dfn 11 rfl
end
end Lw
open PySem PySem.Spec PyProof.Rows L2 Rg
local macro_rules | `(tactic| walk_at "pos") => `(tactic| (show (0 : Int) < _; first | assumption | decide | omega))
local macro_rules | `(tactic| walk_at "mul") => `(tactic| (show CMul _ _; first | exact Or.inr ⟨by decide, by decide⟩ | exact Or.inl ⟨by decide, by decide⟩ | exact Or.inl ⟨by omega, by omega⟩ | exact Or.inr ⟨by omega, by omega⟩))
local macro_rules | `(tactic| walk_at "pow") => `(tactic| (show CPow _ _; exact ⟨by decide, by decide, by decide⟩))
local macro_rules | `(tactic| walk_at "div") => `(tactic| (show CDiv _ _; exact ⟨by decide, by decide⟩))
local macro_rules | `(tactic| walk_at "divw") => `(tactic| (show CDivW _ _; exact ⟨by decide, by decide⟩))
local macro_rules | `(tactic| walk_at "cond") => `(tactic| first | walk_at "pos" | walk_at "mul" | walk_at "pow" | walk_at "div")
local macro_rules | `(tactic| walk_at "ne") => `(tactic| first | assumption | (apply Ne.symm; assumption) | (refine' ne_of_none ?zA ?zB; (case zB => assumption); (case zA => walk_at "hp")) | (refine' Ne.symm (ne_of_none ?zA ?zB); (case zB => assumption); (case zA => walk_at "hp")))
local macro_rules | `(tactic| walk_at "hp") => `(tactic| first | assumption | exact upd_same | (refine Eq.trans (upd_ne ?zC) ?zD; (case zC => walk_at "ne"); (case zD => walk_at "hp")) | (refine' Same.at_ ?zE ?zF; (case zE => assumption); (case zF => walk_at "hp")))
local macro_rules | `(tactic| walk_at "sq") => `(tactic| first | assumption | exact SqL.of (by walk_at "hp") | exact Same.seq (by assumption) (by assumption))
local macro_rules | `(tactic| walk_at "g1") => `(tactic| first
  | with_reducible exact rfl
  | refine ⟨_, _, rfl, rfl, And.intro (by walk_at "cond") ?_⟩
  | refine ⟨_, _, rfl, rfl, ?_⟩
  | refine ⟨_, rfl, ?_⟩
  | refine ⟨rfl, ?_⟩
  | refine ⟨_, _, _, _, rfl, rfl, (by walk_at "sq"), rfl, ?_⟩
  | refine ⟨_, _, rfl, Or.inl (by walk_at "sq"), ?_⟩
  | refine ⟨_, _, _, _, rfl, rfl, (by walk_at "hp"), rfl, ?_⟩
  | refine Or.inl ⟨_, rfl, ?_⟩)
local macro_rules | `(tactic| walk_at "g") => `(tactic| repeat walk_at "g1")
/-! LAW A: the cells of the script, the draws. -/
namespace Lw
open PySem PySem.Spec PyProof.Rows L2 Rg
section
variable {P : Program} {w : World} {K : PySem.W.Frag} {mg : Str → Option Value} {base : Heap}
/-- a source of draws -/
def srcO (n s : Int) : HO := .lst [.int n, .int s]
def sp_source (K : PySem.W.Frag) : Sp := fun vs H Q _ => ∃ (a : Addr) (ns : List Int) (t : Int), vs = [.ref a, .int t] ∧ SqL K H a (ns.map V.int) ∧ 0 ≤ t ∧
  ∀ p n s, H p = none → 0 ≤ n → 0 ≤ s → s < 2147483647 → Q (.ref p) (upd H p (srcO n s))
def sp_draw : Sp := fun vs H Q _ => ∃ (p : Addr) (n s m : Int), vs = [.ref p, .int m] ∧ H p = some (srcO n s) ∧ (0 ≤ n ∧ 0 ≤ s ∧ s < 2147483647) ∧ (0 < m ∧ m < 2 ^ 250) ∧
  ∀ d n' s', 0 ≤ d → d < m → 0 ≤ n' → 0 ≤ s' → s' < 2147483647 → Q (.int d) (upd H p (srcO n' s'))
theorem sc_source : FnScope ["_law_script", "_law_turn", "_law_cell", "_law_number", "_law_seed"] ["_law_script", "_law_turn"] (defScope s__law_source) := ⟨rfl, rfl, rfl, by decide +kernel, rfl, by decide +kernel, by decide +kernel⟩
theorem ok_source (T : TopL K mg) : Has P w K mg base CX0 1 (He.ga K "_law_source") ["_law_script", "_law_turn"] [] (sp_source K) := by
  obtain ⟨fd, F⟩ := fn__law_source T
  refine Has.of0 F sc_source (fun _ _ _ _ _ _ us hl => match us, hl with | [_, _], _ => rfl) (fun vs H Q E h => ?_) (fun cdv A outer s H vs Q E hr h => ?_)
  · obtain ⟨a, ns, t, rfl, _⟩ := h
    rfl
  · obtain ⟨a, ns, t, rfl, hS, h0, k⟩ := h
    refine ⟨_, (pss_cons (ps_set (i := 2) sc_source.nd rfl (Or.inl rfl) pe_int)
      (pss_cons (ps_if (pt_cmpR op_lt (pv 1) (pe_callB call_len_seq (by rfl) (fr_len T) PySem.boot_len (pa_cons (pv 0) pa_nil)) (nomark _)) (pss_one (ps_set (i := 2) sc_source.nd rfl (Or.inl rfl) (pe_ix ix_list (pv 0) (pv 1) (fun _ _ => rfl)))) pss_nil)
      (pss_cons (ps_set (i := 3) sc_source.nd rfl (Or.inl rfl) (pe_callB call_abs (by rfl) (fr_abs T) (by decide +kernel) (pa_cons (pv 2) pa_nil)))
      (pss_cons (ps_set (i := 4) sc_source.nd rfl (Or.inl rfl) (pe_op op_mod (pe_callTy call_int1 (by rfl) (fr_int T) (by decide +kernel) (pa_cons (pe_op op_add (pe_op op_add (pe_op op_mul (pe_op op_mod (pe_callTy call_int1 (by rfl) (fr_int T) (by decide +kernel) (pa_cons (pv 3) pa_nil)) pe_int) pe_int) (pe_op op_mul pe_int (pv 1))) pe_int) pa_nil)) pe_int))
      (pss_cons (ps_if (pt_cmpR op_lt (pv 3) (pe_op op_pow pe_int pe_int) (nomark _)) (pss_one (ps_set (i := 3) sc_source.nd rfl (Or.inl rfl) pe_int)) pss_nil)
      (pss_one (ps_ret (pe_lst (pa_cons (pv 3) (pa_cons (pv 4) pa_nil)))))))))), ?_⟩
    walk_at "g"
    have fin : ∀ (c : Int) (z : Int), ∀ p, H p = none → 0 ≤ z → Q (.ref p) (upd H p (srcO z (((if c < 0 then -c else c) % 2147483629 * 16807 + 104729 * t + 11) % 2147483647))) := fun c z p hp hz =>
      k p z _ hp hz (emod_rng (by decide)).1 (emod_rng (by decide)).2
    refine ifD (fun hc => ?_) (fun hc => ?_)
    · rw [List.length_map] at hc
      have hi : t.toNat < ns.length := by omega
      refine ⟨_, rfl, _, rfl, _, _, _, _, rfl, rfl, hS, atI_of h0 (by rw [List.getElem?_map, List.getElem?_eq_getElem hi]; rfl), ?_⟩
      generalize ns[t.toNat]'hi = c
      walk_at "g"
      refine ifD (fun hc => ?_) (fun hc => ?_)
      · walk_at "g"
        refine ⟨lenk rfl, fun p hp => ?_⟩
        exact fin c 0 p hp (by decide)
      · walk_at "g"
        refine ⟨lenk rfl, fun p hp => ?_⟩
        exact fin c _ p hp (abs_nn c)
    · walk_at "g"
      refine ⟨lenk rfl, fun p hp => ?_⟩
      exact fin 0 0 p hp (by decide)
theorem sc_draw : FnScope ["_law_source_here", "_law_amount", "_law_digit", "_law_found"] ["_law_source_here", "_law_amount"] (defScope s__law_draw) := ⟨rfl, rfl, rfl, by decide +kernel, rfl, by decide +kernel, by decide +kernel⟩
theorem src_get {n s : Int} {H : Hp} {p : Addr} (h : H p = some (srcO n s)) : SqL K H p [.int n, .int s] := SqL.of h
theorem ok_draw (T : TopL K mg) : Has P w K mg base CX0 1 (He.ga K "_law_draw") ["_law_source_here", "_law_amount"] [] sp_draw := by
  obtain ⟨fd, F⟩ := fn__law_draw T
  refine Has.of0 F sc_draw (fun _ _ _ _ _ _ us hl => match us, hl with | [_, _], _ => rfl) (fun vs H Q E h => ?_) (fun cdv A outer s H vs Q E hr h => ?_)
  · obtain ⟨p, n, s, m, rfl, _⟩ := h
    rfl
  · obtain ⟨p, n, sd, m, rfl, hp, ⟨hn, hs0, hs1⟩, ⟨hm0, hm1⟩, k⟩ := h
    refine ⟨_, (pss_cons (ps_if (pt_cmpR op_gt (pe_ix ix_list (pv 0) pe_int (fun _ _ => rfl)) pe_int (nomark _)) (pss_cons (ps_set (i := 2) sc_draw.nd rfl (Or.inl rfl) (pe_op op_mod (pe_callTy call_int1 (by rfl) (fr_int T) (by decide +kernel) (pa_cons (pe_ix ix_list (pv 0) pe_int (fun _ _ => rfl)) pa_nil)) (pv 1)))
      (pss_cons (ps_asg (pe_op op_fdivW (pe_ix ix_list (pv 0) pe_int (fun _ _ => rfl)) (pv 1)) (pg_sub (pv 0) pe_int set_list))
      (pss_one (ps_ret (pv 2))))) pss_nil)
      (pss_cons (ps_asg (pe_op op_mod (pe_callTy call_int1 (by rfl) (fr_int T) (by decide +kernel) (pa_cons (pe_op op_add (pe_op op_mul (pe_ix ix_list (pv 0) pe_int (fun _ _ => rfl)) pe_int) pe_int) pa_nil)) pe_int) (pg_sub (pv 0) pe_int set_list))
      (pss_cons (ps_set (i := 3) sc_draw.nd rfl (Or.inl rfl) (pe_op op_fdiv (pe_op op_mod (pe_callTy call_int1 (by rfl) (fr_int T) (by decide +kernel) (pa_cons (pe_op op_mul (pe_ix ix_list (pv 0) pe_int (fun _ _ => rfl)) (pe_ix ix_list (pv 0) pe_int (fun _ _ => rfl))) pa_nil)) pe_int) pe_int))
      (pss_cons (ps_if (pt_cmpR op_gt (pv 1) (pe_op op_pow pe_int pe_int) (nomark _)) (pss_cons (ps_asg (pe_op op_mod (pe_callTy call_int1 (by rfl) (fr_int T) (by decide +kernel) (pa_cons (pe_op op_add (pe_op op_mul (pe_ix ix_list (pv 0) pe_int (fun _ _ => rfl)) pe_int) pe_int) pa_nil)) pe_int) (pg_sub (pv 0) pe_int set_list))
      (pss_one (ps_set (i := 3) sc_draw.nd rfl (Or.inl rfl) (pe_op op_add (pe_op op_mul (pv 3) pe_int) (pe_op op_fdiv (pe_op op_mod (pe_callTy call_int1 (by rfl) (fr_int T) (by decide +kernel) (pa_cons (pe_op op_mul (pe_ix ix_list (pv 0) pe_int (fun _ _ => rfl)) (pe_ix ix_list (pv 0) pe_int (fun _ _ => rfl))) pa_nil)) pe_int) pe_int))))) pss_nil)
      (pss_one (ps_ret (pe_op op_mod (pe_callTy call_int1 (by rfl) (fr_int T) (by decide +kernel) (pa_cons (pv 3) pa_nil)) (pv 1)))))))), ?_⟩
    have hp' : H p = some (.lst [.int n, .int sd]) := hp
    walk_at "g"
    refine ifD (fun hc => ?_) (fun hc => ?_)
    · walk_at "g"
      refine ⟨wide_div hm0 (bits_of hm0 hm1) (by decide) (by decide), ?_⟩
      walk_at "g"
      exact k _ _ _ (emod_rng hm0).1 (emod_rng hm0).2 (Int.ediv_nonneg hn (by omega)) hs0 hs1
    · have B : ∀ z : Int, 0 ≤ z % 2147483647 ∧ z % 2147483647 < 2147483647 := fun z => emod_rng (by decide)
      walk_at "g"
      have b1 := B (sd * 48271 + 11)
      refine ifD (fun hc2 => ?_) (fun hc2 => ?_)
      · walk_at "g"
        have b2 := B ((sd * 48271 + 11) % 2147483647 * 39373 + 17)
        rw [upd_upd]
        exact k _ _ _ (emod_rng hm0).1 (emod_rng hm0).2 hn b2.1 b2.2
      · walk_at "g"
        exact k _ _ _ (emod_rng hm0).1 (emod_rng hm0).2 hn b1.1 b1.2
end
end Lw
/-! A queue. -/
namespace Lw
open PySem PySem.Spec PyProof.Rows L2 Rg
section
variable {P : Program} {w : World} {K : PySem.W.Frag} {mg : Str → Option Value} {base : Heap}
def qO (C dx l : Addr) : HO := .ins C dx [("line", .ref l)]
def sp_Queue_init (C : Addr) : Sp := fun vs H Q _ => ∃ (p dx : Addr), vs = [.ref p] ∧ H p = some (.ins C dx []) ∧ ∀ l, H l = none → Q .non (upd (upd H l (.lst [])) p (qO C dx l))
def sp_Queue_put (C : Addr) : Sp := fun vs H Q _ => ∃ (p dx l : Addr) (xs : List V) (v : V), vs = [.ref p, v] ∧ H p = some (qO C dx l) ∧ H l = some (.lst xs) ∧ xs.length < 1000 ∧ Q .non (upd H l (.lst (xs ++ [v])))
def headV : List Int → V
  | [] => .non
  | x :: _ => .int x
def sp_Queue_take (C : Addr) : Sp := fun vs H Q _ => ∃ (p dx l : Addr) (ns : List Int), vs = [.ref p] ∧ H p = some (qO C dx l) ∧ H l = some (.lst (ns.map V.int)) ∧
  ∀ H', Chg l (.lst (ns.tail.map V.int)) H H' → Q (headV ns) H'
def sp_Queue_oldest (C : Addr) : Sp := fun vs H Q _ => ∃ (p dx l : Addr) (ns : List Int), vs = [.ref p] ∧ H p = some (qO C dx l) ∧ H l = some (.lst (ns.map V.int)) ∧ ∀ H', Same H H' → Q (headV ns) H'
def sp_Queue_len (C : Addr) : Sp := fun vs H Q _ => ∃ (p dx l : Addr) (xs : List V), vs = [.ref p] ∧ H p = some (qO C dx l) ∧ H l = some (.lst xs) ∧ Q (.int xs.length) H
def sp_Queue_bool (C : Addr) : Sp := fun vs H Q _ => ∃ (p dx l : Addr) (xs : List V), vs = [.ref p] ∧ H p = some (qO C dx l) ∧ H l = some (.lst xs) ∧ Q (.bl (decide (0 < (xs.length : Int)))) H
def sp_Queue_contains (C : Addr) : Sp := fun vs H Q _ => ∃ (p dx l : Addr) (ns : List Int) (n : Int), vs = [.ref p, .int n] ∧ H p = some (qO C dx l) ∧ H l = some (.lst (ns.map V.int)) ∧ Q (.bl (inV (.int n) (ns.map V.int))) H
abbrev CQ (K : PySem.W.Frag) : Addr := He.ga K "Queue"
theorem flat_ints (ns : List Int) : (ns.map V.int).all flatV = true := by
  induction ns with
  | nil => rfl
  | cons x r ih => rw [List.map_cons, List.all_cons, ih]; rfl
theorem sc_Queue_init : FnScope ["self"] ["self"] (defScope s_Queue___init__) := ⟨rfl, rfl, rfl, by decide +kernel, rfl, by decide +kernel, by decide +kernel⟩
theorem ok_Queue_init (T : TopL K mg) : Has P w K mg base CX0 1 (He.ma K (CQ K) "__init__") ["self"] [] (sp_Queue_init (CQ K)) := by
  obtain ⟨fd, F⟩ := fn_Queue___init__ T
  refine Has.of0 F sc_Queue_init (fun _ _ _ _ _ _ us hl => match us, hl with | [_], _ => rfl) (fun vs H Q E h => ?_) (fun cdv A outer s H vs Q E hr h => ?_)
  · obtain ⟨p, dx, rfl, _⟩ := h
    rfl
  · obtain ⟨p, dx, rfl, hp, k⟩ := h
    refine ⟨_, (pss_one (ps_fld (pv 0) (pe_lst pa_nil) rfl)), ?_⟩
    refine ⟨Nat.zero_le _, fun l hl => ?_⟩
    refine ⟨_, rfl, p, CQ K, dx, [], rfl, (by walk_at "hp"), cl_Queue T, na_Queue_line T, by decide, ?_⟩
    exact k l hl
theorem sc_Queue_put : FnScope ["self", "value"] ["self", "value"] (defScope s_Queue_put) := ⟨rfl, rfl, rfl, by decide +kernel, rfl, by decide +kernel, by decide +kernel⟩
theorem ok_Queue_put (T : TopL K mg) : Has P w K mg base CX0 1 (He.ma K (CQ K) "put") ["self", "value"] [] (sp_Queue_put (CQ K)) := by
  obtain ⟨fd, F⟩ := fn_Queue_put T
  refine Has.of0 F sc_Queue_put (fun _ _ _ _ _ _ us hl => match us, hl with | [_, _], _ => rfl) (fun vs H Q E h => ?_) (fun cdv A outer s H vs Q E hr h => ?_)
  · obtain ⟨p, dx, l, xs, v, rfl, _⟩ := h
    rfl
  · obtain ⟨p, dx, l, xs, v, rfl, hp, hl, hz, k⟩ := h
    refine ⟨_, (pss_one (ps_expr (pe_bm PySem.F.plainAttrs_list PySem.F.slot_list_append PySem.F.type_list_append mt_append (pe_fld (pv 0) rfl) (pa_cons (pv 1) pa_nil)))), ?_⟩
    refine ⟨_, rfl, p, CQ K, dx, _, _, rfl, hp, cl_Queue T, na_Queue_line T, rfl, .inl ⟨rfl, _, SqL.of hl⟩, _, rfl, l, _, _, rfl, rfl, hl, Nat.lt_of_lt_of_le hz (by decide), ?_⟩
    exact k
theorem sc_Queue_take : FnScope ["self"] ["self"] (defScope s_Queue_take) := ⟨rfl, rfl, rfl, by decide +kernel, rfl, by decide +kernel, by decide +kernel⟩
theorem ok_Queue_take (T : TopL K mg) : Has P w K mg base CX0 1 (He.ma K (CQ K) "take") ["self"] [] (sp_Queue_take (CQ K)) := by
  obtain ⟨fd, F⟩ := fn_Queue_take T
  refine Has.of0 F sc_Queue_take (fun _ _ _ _ _ _ us hl => match us, hl with | [_], _ => rfl) (fun vs H Q E h => ?_) (fun cdv A outer s H vs Q E hr h => ?_)
  · obtain ⟨p, dx, l, ns, rfl, _⟩ := h
    rfl
  · obtain ⟨p, dx, l, ns, rfl, hp, hl, k⟩ := h
    refine ⟨_, (pss_cons (ps_if (pt_cmpR (op_eqD hr.units) (pe_fld (pv 0) rfl) (pe_lst pa_nil) (nomark _)) (pss_one (ps_ret pe_non)) pss_nil)
      (pss_one (ps_ret (pe_bm PySem.F.plainAttrs_list PySem.F.slot_list_pop PySem.F.type_list_pop mt_popAt (pe_fld (pv 0) rfl) (pa_cons pe_int pa_nil))))), ?_⟩
    refine ⟨_, rfl, p, CQ K, dx, _, _, rfl, hp, cl_Queue T, na_Queue_line T, rfl, Nat.zero_le _, fun q hq => ?_⟩
    have hp1 : upd H q (.lst []) p = some (qO (CQ K) dx l) := by walk_at "hp"
    have hl1 : upd H q (.lst []) l = some (.lst (ns.map V.int)) := by walk_at "hp"
    refine ⟨_, _, dp_ints (SqL.of hl1), dp_nil (SqL.of upd_same), shp_ints _, rfl, _, rfl, ?_⟩
    rw [eqv_nil]
    refine ifD (fun hc => ?_) (fun hc => ?_)
    · subst hc
      exact k _ ⟨hl1, fun b u e _ => Same.new hq b u e⟩
    · obtain ⟨x, r, rfl⟩ : ∃ x r, ns = x :: r := by
        cases ns with
        | nil => exact absurd rfl hc
        | cons x r => exact ⟨x, r, rfl⟩
      refine ⟨_, rfl, p, CQ K, dx, _, _, rfl, hp1, cl_Queue T, na_Queue_line T, rfl, .inl ⟨rfl, _, SqL.of hl1⟩, l, _, 0, 0, _, rfl, rfl, hl1, by decide, by decide, (by rw [List.map_cons, List.length_cons]; exact seq0), rfl, ?_⟩
      exact k _ ⟨upd_same, fun b u e n => (upd_ne n).trans (Same.new hq b u e)⟩
theorem sc_Queue_oldest : FnScope ["self"] ["self"] (defScope s_Queue_oldest) := ⟨rfl, rfl, rfl, by decide +kernel, rfl, by decide +kernel, by decide +kernel⟩
theorem ok_Queue_oldest (T : TopL K mg) : Has P w K mg base CX0 1 (He.ma K (CQ K) "oldest") ["self"] [] (sp_Queue_oldest (CQ K)) := by
  obtain ⟨fd, F⟩ := fn_Queue_oldest T
  refine Has.of0 F sc_Queue_oldest (fun _ _ _ _ _ _ us hl => match us, hl with | [_], _ => rfl) (fun vs H Q E h => ?_) (fun cdv A outer s H vs Q E hr h => ?_)
  · obtain ⟨p, dx, l, ns, rfl, _⟩ := h
    rfl
  · obtain ⟨p, dx, l, ns, rfl, hp, hl, k⟩ := h
    refine ⟨_, (pss_cons (ps_if (pt_cmpR (op_eqD hr.units) (pe_fld (pv 0) rfl) (pe_lst pa_nil) (nomark _)) (pss_one (ps_ret pe_non)) pss_nil)
      (pss_one (ps_ret (pe_ix ix_list (pe_fld (pv 0) rfl) pe_int (fun _ _ => rfl))))), ?_⟩
    refine ⟨_, rfl, p, CQ K, dx, _, _, rfl, hp, cl_Queue T, na_Queue_line T, rfl, Nat.zero_le _, fun q hq => ?_⟩
    have hp1 : upd H q (.lst []) p = some (qO (CQ K) dx l) := by walk_at "hp"
    have hl1 : upd H q (.lst []) l = some (.lst (ns.map V.int)) := by walk_at "hp"
    refine ⟨_, _, dp_ints (SqL.of hl1), dp_nil (SqL.of upd_same), shp_ints _, rfl, _, rfl, ?_⟩
    rw [eqv_nil]
    refine ifD (fun hc => ?_) (fun hc => ?_)
    · subst hc
      exact k _ (Same.new hq)
    · obtain ⟨x, r, rfl⟩ : ∃ x r, ns = x :: r := by
        cases ns with
        | nil => exact absurd rfl hc
        | cons x r => exact ⟨x, r, rfl⟩
      refine ⟨_, rfl, p, CQ K, dx, _, _, rfl, hp1, cl_Queue T, na_Queue_line T, rfl, l, _, 0, _, rfl, rfl, SqL.of hl1, atI_nat (j := 0) rfl, ?_⟩
      exact k _ (Same.new hq)
theorem sc_Queue_len : FnScope ["self"] ["self"] (defScope s_Queue___len__) := ⟨rfl, rfl, rfl, by decide +kernel, rfl, by decide +kernel, by decide +kernel⟩
theorem ok_Queue_len (T : TopL K mg) : Has P w K mg base CX0 1 (He.ma K (CQ K) "__len__") ["self"] [] (sp_Queue_len (CQ K)) := by
  obtain ⟨fd, F⟩ := fn_Queue___len__ T
  refine Has.of0 F sc_Queue_len (fun _ _ _ _ _ _ us hl => match us, hl with | [_], _ => rfl) (fun vs H Q E h => ?_) (fun cdv A outer s H vs Q E hr h => ?_)
  · obtain ⟨p, dx, l, xs, rfl, _⟩ := h
    rfl
  · obtain ⟨p, dx, l, xs, rfl, hp, hl, k⟩ := h
    refine ⟨_, (pss_one (ps_ret (pe_callB call_len_seq (by rfl) (fr_len T) PySem.boot_len (pa_cons (pe_fld (pv 0) rfl) pa_nil)))), ?_⟩
    refine ⟨_, rfl, p, CQ K, dx, _, _, rfl, hp, cl_Queue T, na_Queue_line T, rfl, l, _, rfl, .inl (SqL.of hl), ?_⟩
    exact k
theorem sc_Queue_bool : FnScope ["self"] ["self"] (defScope s_Queue___bool__) := ⟨rfl, rfl, rfl, by decide +kernel, rfl, by decide +kernel, by decide +kernel⟩
theorem ok_Queue_bool (T : TopL K mg) : Has P w K mg base CX0 1 (He.ma K (CQ K) "__bool__") ["self"] [] (sp_Queue_bool (CQ K)) := by
  obtain ⟨fd, F⟩ := fn_Queue___bool__ T
  refine Has.of0 F sc_Queue_bool (fun _ _ _ _ _ _ us hl => match us, hl with | [_], _ => rfl) (fun vs H Q E h => ?_) (fun cdv A outer s H vs Q E hr h => ?_)
  · obtain ⟨p, dx, l, xs, rfl, _⟩ := h
    rfl
  · obtain ⟨p, dx, l, xs, rfl, hp, hl, k⟩ := h
    refine ⟨_, (pss_one (ps_ret (pe_cmpR op_gt (pe_callB call_len_seq (by rfl) (fr_len T) PySem.boot_len (pa_cons (pe_fld (pv 0) rfl) pa_nil)) pe_int (nomark _)))), ?_⟩
    refine ⟨_, rfl, p, CQ K, dx, _, _, rfl, hp, cl_Queue T, na_Queue_line T, rfl, l, _, rfl, .inl (SqL.of hl), _, _, rfl, rfl, ?_⟩
    exact k
theorem sc_Queue_contains : FnScope ["self", "value"] ["self", "value"] (defScope s_Queue___contains__) := ⟨rfl, rfl, rfl, by decide +kernel, rfl, by decide +kernel, by decide +kernel⟩
theorem ok_Queue_contains (T : TopL K mg) : Has P w K mg base CX0 1 (He.ma K (CQ K) "__contains__") ["self", "value"] [] (sp_Queue_contains (CQ K)) := by
  obtain ⟨fd, F⟩ := fn_Queue___contains__ T
  refine Has.of0 F sc_Queue_contains (fun _ _ _ _ _ _ us hl => match us, hl with | [_, _], _ => rfl) (fun vs H Q E h => ?_) (fun cdv A outer s H vs Q E hr h => ?_)
  · obtain ⟨p, dx, l, ns, n, rfl, _⟩ := h
    rfl
  · obtain ⟨p, dx, l, ns, n, rfl, hp, hl, k⟩ := h
    refine ⟨_, (pss_one (ps_ret (pe_cmpR op_in_seq (pv 1) (pe_fld (pv 0) rfl) (by rfl)))), ?_⟩
    refine ⟨_, rfl, _, rfl, p, CQ K, dx, _, _, rfl, hp, cl_Queue T, na_Queue_line T, rfl, l, _, rfl, .inl (SqL.of hl), rfl, flat_ints ns, ?_⟩
    exact k
end
end Lw
/-! K16: the law. -/
namespace Lw
open PySem PySem.Spec PyProof.Rows L2 Rg
section
variable {P : Program} {w : World} {K : PySem.W.Frag} {mg : Str → Option Value} {base : Heap}
theorem headV_cons {ns : List Int} (h : ¬ ns = []) : ∃ x r, ns = x :: r := by
  cases ns with
  | nil => exact absurd rfl h
  | cons x r => exact ⟨x, r, rfl⟩
theorem scal_head (ns : List Int) : scal (headV ns) (headV ns) = true := by cases ns <;> rfl
def sp_look (C : Addr) : Sp := fun vs H Q _ => ∃ (p dx l m : Addr) (ns : List Int) (n : Int), vs = [.ref p, .ref m, .int n] ∧ H p = some (qO C dx l) ∧ H l = some (.lst (ns.map V.int)) ∧ H m = some (.lst (ns.map V.int)) ∧ ns.length ≤ 1000 ∧ ∀ H', Same H H' → Q (.bl true) H'
theorem sc_look : FnScope ["_law_queue", "_law_line", "_law_value", "_law_oldest"] ["_law_queue", "_law_line", "_law_value"] (defScope s__law_look) := ⟨rfl, rfl, rfl, by decide +kernel, rfl, by decide +kernel, by decide +kernel⟩
theorem ok_look (T : TopL K mg) : Has P w K mg base CX0 4 (He.ga K "_law_look") ["_law_queue", "_law_line", "_law_value"] [] (sp_look (CQ K)) := by
  obtain ⟨fd, F⟩ := fn__law_look T
  refine Has.of0 F sc_look (fun _ _ _ _ _ _ us hl => match us, hl with | [_, _, _], _ => rfl) (fun vs H Q E h => ?_) (fun cdv A outer s H vs Q E hr h => ?_)
  · obtain ⟨p, dx, l, m, ns, n, rfl, _⟩ := h
    rfl
  · obtain ⟨p, dx, l, m, ns, n, rfl, hp, hl, hm, hz, k⟩ := h
    refine ⟨_, (pss_cons (ps_set (i := 3) sc_look.nd rfl (Or.inl rfl) pe_non)
      (C8.pss_cut (ps_if (pt_cmpR (op_neD hr.units) (pv 1) (pe_lst pa_nil) (nomark _)) (pss_one (ps_set (i := 3) sc_look.nd rfl (Or.inl rfl) (pe_ix ix_list (pv 1) pe_int (fun _ _ => rfl)))) pss_nil)
      (pss_cons (ps_if (PW.pt (pw_or (pt_cmpR op_ne (pe_meth0H (pv 0) (cl_Queue T) (me_Queue_oldest T) (ok_Queue_oldest T) hr pass0) (pv 3) (nomark _)) (pw_or1 (pt_cmpR op_ne (pe_callB (call_lenO (Dun.of (me_Queue___len__ T)) (ok_Queue_len T) hr pass0) (by rfl) (fr_len T) PySem.boot_len (pa_cons (pv 0) pa_nil)) (pe_callB call_len_seq (by rfl) (fr_len T) PySem.boot_len (pa_cons (pv 1) pa_nil)) (nomark _))))) (pss_one (ps_ret pe_bl)) pss_nil)
      (pss_cons (ps_if (pt_cmpR op_ne (pe_callTy (call_boolO (Dun.of (me_Queue___bool__ T)) (ok_Queue_bool T) hr pass0) (by rfl) (fr_bool T) (by decide +kernel) (pa_cons (pv 0) pa_nil)) (pe_cmpR (op_neD hr.units) (pv 1) (pe_lst pa_nil) (nomark _)) (nomark _)) (pss_one (ps_ret pe_bl)) pss_nil)
      (pss_one (ps_ret (pe_and (pe_cmpR op_eq (pe_cmpR (op_inO (Dun.of (me_Queue___contains__ T)) (ok_Queue_contains T) hr pass0) (pv 2) (pv 0) (by rfl)) (pe_cmpR op_in_seq (pv 2) (pv 1) (by rfl)) (nomark _)) (pe_and (pe_cmpR op_eq (pe_cmpR (op_inO (Dun.of (me_Queue___contains__ T)) (ok_Queue_contains T) hr pass0) pe_int (pv 0) (by rfl)) (pe_cmpR op_in_seq pe_int (pv 1) (by rfl)) (nomark _)) (pe_one (pe_cmpR op_eq (pe_meth0H (pv 0) (cl_Queue T) (me_Queue_oldest T) (ok_Queue_oldest T) hr pass0) (pv 3) (nomark _))))))))))), ?_⟩
    refine ⟨fun σ' H' => σ' = [some (.ref p), some (.ref m), some (.int n), some (headV ns)] ∧ Same H H', ?_, ?_⟩
    · refine ⟨_, rfl, Nat.zero_le _, fun q hq => ?_⟩
      have hm1 : upd H q (.lst []) m = some (.lst (ns.map V.int)) := by walk_at "hp"
      refine ⟨_, _, dp_ints (SqL.of hm1), dp_nil (SqL.of upd_same), shp_ints _, rfl, _, rfl, ?_⟩
      rw [eqv_nil]
      refine ifN (fun hc => ?_) (fun hc => ?_)
      · obtain ⟨x, r, rfl⟩ := headV_cons hc
        refine ⟨_, rfl, m, _, 0, _, rfl, rfl, SqL.of hm1, atI_nat (j := 0) rfl, ?_⟩
        exact ⟨rfl, Same.new hq⟩
      · subst hc
        exact ⟨rfl, Same.new hq⟩
    · rintro _ H1 ⟨rfl, s1⟩
      have hp1 := s1 _ _ hp
      have hl1 := s1 _ _ hl
      have hm1 := s1 _ _ hm
      refine ⟨_, rfl, p, dx, _, rfl, hp1, rfl, p, dx, l, ns, rfl, hp1, hl1, fun H2 s2 => ?_⟩
      have hp2 := s2 _ _ hp1
      have hl2 := s2 _ _ hl1
      have hm2 := s2 _ _ hm1
      refine ⟨_, rfl, scal_head ns, _, rfl, ?_⟩
      refine ifN (fun hc => absurd rfl hc) (fun _ => ?_)
      refine ⟨_, rfl, p, dx, _, rfl, hp2, p, dx, l, _, rfl, hp2, hl2, _, rfl, by omega, (by rw [List.length_map]; omega), ?_⟩
      refine ⟨_, rfl, m, _, rfl, .inl (SqL.of hm2), rfl, _, rfl, ?_⟩
      refine iteNS rfl ?_
      refine ⟨_, rfl, p, dx, _, rfl, hp2, p, dx, l, _, rfl, hp2, hl2, _, rfl, ?_⟩
      refine ⟨_, rfl, Nat.zero_le _, fun q hq => ?_⟩
      have hm3 : upd H2 q (.lst []) m = some (.lst (ns.map V.int)) := by walk_at "hp"
      have hp3 : upd H2 q (.lst []) p = some (qO (CQ K) dx l) := by walk_at "hp"
      have hl3 : upd H2 q (.lst []) l = some (.lst (ns.map V.int)) := by walk_at "hp"
      refine ⟨_, _, dp_ints (SqL.of hm3), dp_nil (SqL.of upd_same), shp_ints _, rfl, rfl, _, rfl, ?_⟩
      have e1 : ((!decide (V.bl (decide (0 < ((ns.map V.int).length : Int))) = V.bl (!decide (ns = [])))) = false) := by
        rw [List.length_map]
        cases ns <;> simp <;> omega
      rw [eqv_nil]
      refine ifF e1 ?_
      refine ⟨_, rfl, _, rfl, p, dx, _, rfl, hp3, p, dx, l, ns, n, rfl, hp3, hl3, _, rfl, ?_⟩
      refine ⟨_, rfl, _, rfl, m, _, rfl, .inl (SqL.of hm3), rfl, flat_ints ns, rfl, _, rfl, ?_⟩
      refine ifD (fun _ => ?_) (fun hc => absurd rfl hc)
      refine ⟨_, rfl, p, dx, _, rfl, hp3, p, dx, l, ns, 0, rfl, hp3, hl3, _, rfl, ?_⟩
      refine ⟨_, rfl, m, _, rfl, .inl (SqL.of hm3), rfl, flat_ints ns, rfl, _, rfl, ?_⟩
      refine ifD (fun _ => ?_) (fun hc => absurd rfl hc)
      refine ⟨_, rfl, p, dx, _, rfl, hp3, rfl, p, dx, l, ns, rfl, hp3, hl3, fun H4 s4 => ?_⟩
      refine ⟨_, rfl, scal_head ns, ?_⟩
      have e2 : decide (headV ns = headV ns) = true := decide_eq_true rfl
      show Q (.bl (decide (headV ns = headV ns))) H4
      rw [e2]
      exact k _ (s1.trans (s2.trans ((Same.new hq).trans s4)))
theorem make_Queue {H : Hp} {R : VK} {E : XK} {C p d : Addr} (np : H p = none) (nd : H d = none) (ne : d ≠ p) (k : ∀ l H', H l = none → Same H H' → H' p = some (qO C d l) → H' l = some (.lst []) → R .non H') :
    sp_Queue_init C [.ref p] (upd (upd H d (.own p)) p (.ins C d [])) R E := by
  refine ⟨p, d, rfl, upd_same, fun l nl => ?_⟩
  have lp : l ≠ p := fun e => by
    rw [e, upd_same] at nl
    cases nl
  have ld : l ≠ d := fun e => by
    rw [e, upd_ne ne, upd_same] at nl
    cases nl
  have n0 : H l = none := by rw [upd_ne lp, upd_ne ld] at nl; exact nl
  refine k l _ n0 (fun b u e => ?_) upd_same (by rw [upd_ne lp, upd_same])
  rw [upd_ne (ne_of_none e np), upd_ne (ne_of_none e n0), upd_ne (ne_of_none e np), upd_ne (ne_of_none e nd)]
  exact e
theorem stay_seq {ws : List Addr} {H H' : Hp} {a : Addr} {xs : List V} (st : Stay ws H H') (h : SqL K H a xs) (n : a ∉ ws) : SqL K H' a xs := by
  rcases h with (h | ⟨o, h⟩) | h
  · exact .inl (.inl (st _ _ h n))
  · exact .inl (.inr ⟨o, st _ _ h n⟩)
  · exact .inr h
theorem sc_law : FnScope ["_law_script", "_law_queues", "_law_lines", "_law_turn", "_law_source_here", "_law_at", "_law_value", "_law_line", "_law_due"] ["_law_script"] (defScope s_law) := ⟨rfl, rfl, rfl, by decide +kernel, rfl, by decide +kernel, by decide +kernel⟩
theorem ok_law (T : TopL K mg) {fd : FuncData} (F : FunD K d_law.name d_law.qual d_law.params d_law.body d_law.scope (d_law.dvs K) (d_law.kws K) (He.fAd K d_law.at_) fd) : FnOk P w K mg base CX0 5 (He.ga K "law") fd ["_law_script"] (sp_law K) := by
  refine fn0 F sc_law (fun vs H Q E h => ?_) (fun cdv A outer s H vs Q E hr h => ?_)
  · obtain ⟨a, ns, rfl, _⟩ := h
    rfl
  · obtain ⟨a, ns, rfl, hS, hz, k⟩ := h
    refine ⟨_, (pss_cons (ps_set (i := 1) sc_law.nd rfl (Or.inl rfl) (pe_lst (pa_cons (pe_make0H (mk_Queue T) (ok_Queue_init T) hr (mg_Queue T) pass0) (pa_cons (pe_make0H (mk_Queue T) (ok_Queue_init T) hr (mg_Queue T) pass0) pa_nil))))
      (pss_cons (ps_set (i := 2) sc_law.nd rfl (Or.inl rfl) (pe_lst (pa_cons (pe_lst pa_nil) (pa_cons (pe_lst pa_nil) pa_nil))))
      (pss_cons (ps_for PassesOwn.never rfl (pi_range1 (by rfl) (fr_range T) (pa_cons (pe_callB (call_max2 rfl) (by rfl) (fr_max T) (by decide +kernel) (pa_cons pe_int (pa_cons (pe_callB (call_min2 rfl) (by rfl) (fr_min T) (by decide +kernel) (pa_cons (pe_callB call_len_seq (by rfl) (fr_len T) PySem.boot_len (pa_cons (pv 0) pa_nil)) (pa_cons pe_int pa_nil))) pa_nil))) pa_nil)) (pg_name (i := 3) sc_law.nd rfl (Or.inl rfl)) (pss_cons (ps_set (i := 4) sc_law.nd rfl (Or.inl rfl) (pe_callH (ok_source T) hr (mg__law_source T) pass0 (pa_cons (pv 0) (pa_cons (pv 3) pa_nil))))
      (pss_cons (ps_set (i := 5) sc_law.nd rfl (Or.inl rfl) (pe_op op_fdivW (pe_callH (ok_draw T) hr (mg__law_draw T) pass0 (pa_cons (pv 4) (pa_cons pe_int pa_nil))) pe_int))
      (pss_cons (ps_set (i := 6) sc_law.nd rfl (Or.inl rfl) (pe_callH (ok_draw T) hr (mg__law_draw T) pass0 (pa_cons (pv 4) (pa_cons (pe_ix ix_list (pe_lst (pa_cons pe_int (pa_cons (pe_op op_pow pe_int pe_int) pa_nil))) (pe_callH (ok_draw T) hr (mg__law_draw T) pass0 (pa_cons (pv 4) (pa_cons pe_int pa_nil))) (fun _ _ => rfl)) pa_nil))))
      (C8.pss_cut (ps_set (i := 7) sc_law.nd rfl (Or.inl rfl) (pe_ix ix_list (pv 2) (pv 5) (fun _ _ => rfl)))
      (C8.pss_cut (ps_if (pt_cmpR op_lt (pe_callH (ok_draw T) hr (mg__law_draw T) pass0 (pa_cons (pv 4) (pa_cons pe_int pa_nil))) pe_int (nomark _)) (pss_cons (ps_if (pt_cmpR op_notN (pe_methH (pe_ix ix_list (pv 1) (pv 5) (fun _ _ => rfl)) (cl_Queue T) (me_Queue_put T) (ok_Queue_put T) hr pass0 (pa_cons (pv 6) pa_nil)) pe_non (nomark _)) (pss_one (ps_ret pe_bl)) pss_nil)
      (pss_one (ps_expr (pe_bm PySem.F.plainAttrs_list PySem.F.slot_list_append PySem.F.type_list_append mt_append (pv 7) (pa_cons (pv 6) pa_nil))))) (pss_cons (ps_set (i := 8) sc_law.nd rfl (Or.inl rfl) pe_non)
      (pss_cons (ps_if (pt_cmpR (op_neD hr.units) (pv 7) (pe_lst pa_nil) (nomark _)) (pss_one (ps_set (i := 8) sc_law.nd rfl (Or.inl rfl) (pe_bm PySem.F.plainAttrs_list PySem.F.slot_list_pop PySem.F.type_list_pop mt_popAt (pv 7) (pa_cons pe_int pa_nil)))) pss_nil)
      (pss_one (ps_if (pt_cmpR op_ne (pe_meth0H (pe_ix ix_list (pv 1) (pv 5) (fun _ _ => rfl)) (cl_Queue T) (me_Queue_take T) (ok_Queue_take T) hr pass0) (pv 8) (nomark _)) (pss_one (ps_ret pe_bl)) pss_nil)))))
      (pss_cons (ps_if (pt_not (pt_val (pe_callH (ok_look T) hr (mg__law_look T) pass0 (pa_cons (pe_ix ix_list (pv 1) pe_int (fun _ _ => rfl)) (pa_cons (pe_ix ix_list (pv 2) pe_int (fun _ _ => rfl)) (pa_cons (pv 6) pa_nil)))))) (pss_one (ps_ret pe_bl)) pss_nil)
      (pss_one (ps_if (pt_not (pt_val (pe_callH (ok_look T) hr (mg__law_look T) pass0 (pa_cons (pe_ix ix_list (pv 1) pe_int (fun _ _ => rfl)) (pa_cons (pe_ix ix_list (pv 2) pe_int (fun _ _ => rfl)) (pa_cons (pv 6) pa_nil)))))) (pss_one (ps_ret pe_bl)) pss_nil)))))))))
      (pss_one (ps_ret pe_bl))))), ?_⟩
    intro q0 dq0 nq0 nd0 ne0
    refine make_Queue nq0 nd0 ne0 fun a0 H1 na0 s1 hq0 ha0 => ⟨rfl, ?_⟩
    intro q1 dq1 nq1 nd1 ne1
    refine make_Queue nq1 nd1 ne1 fun a1 H2 na1 s2 hq1 ha1 => ⟨rfl, ?_⟩
    refine ⟨lenk rfl, fun Q0 nQ0 => ?_⟩
    generalize eH3 : upd H2 Q0 _ = H3
    have sH3 := fr_same eH3 nQ0
    have fQ0 := fr_at eH3
    refine ⟨Nat.zero_le _, fun l0 nl0 => ?_⟩
    generalize eH4 : upd H3 l0 _ = H4
    have sH4 := fr_same eH4 nl0
    have fl0 := fr_at eH4
    refine ⟨Nat.zero_le _, fun l1 nl1 => ?_⟩
    generalize eH5 : upd H4 l1 _ = H5
    have sH5 := fr_same eH5 nl1
    have fl1 := fr_at eH5
    refine ⟨lenk rfl, fun L nL => ?_⟩
    generalize eH6 : upd H5 L _ = H6
    have sH6 := fr_same eH6 nL
    have fL := fr_at eH6
    have hS6 : SqL K H6 a (ns.map V.int) := (s1.trans (s2.trans (sH3.trans (sH4.trans (sH5.trans sH6))))).seq hS
    have fq0 : H6 q0 = some (qO (CQ K) dq0 a0) := by walk_at "hp"
    have fq1 : H6 q1 = some (qO (CQ K) dq1 a1) := by walk_at "hp"
    clear eH3 eH4 eH5 eH6
    have fa0 : H6 a0 = some (.lst []) := by walk_at "hp"
    have fa1 : H6 a1 = some (.lst []) := by walk_at "hp"
    have fl0 : H6 l0 = some (.lst []) := by walk_at "hp"
    have fl1 : H6 l1 = some (.lst []) := by walk_at "hp"
    have fQ : H6 Q0 = some (.lst [.ref q0, .ref q1]) := by walk_at "hp"
    have fL : H6 L = some (.lst [.ref l0, .ref l1]) := by walk_at "hp"
    have e01 : a0 ≠ a1 := by walk_at "ne"
    have e02 : a0 ≠ l0 := by walk_at "ne"
    have e03 : a0 ≠ l1 := by walk_at "ne"
    have e12 : a1 ≠ l0 := by walk_at "ne"
    have e13 : a1 ≠ l1 := by walk_at "ne"
    have e23 : l0 ≠ l1 := by walk_at "ne"
    have s06 : Same H H6 := s1.trans (s2.trans (sH3.trans (sH4.trans (sH5.trans sH6))))
    have hSt : ∀ H', Stay [a0, a1, l0, l1] H6 H' → SqL K H' a (ns.map V.int) := fun H' st => Same.seq (fun b u e => st b u (s06 b u e) (by
      simp only [List.mem_cons, List.not_mem_nil, or_false, not_or]
      exact ⟨ne_of_none e na0, ne_of_none e (s1.free na1), ne_of_none e (s1.free (s2.free (sH3.free nl0))), ne_of_none e (s1.free (s2.free (sH3.free (sH4.free nl1))))⟩)) hS
    refine ⟨_, rfl, a, _, rfl, .inl hS6, _, _, rfl, _, _, rfl, ?_⟩
    have hj : ∀ z : Int, 0 ≤ z → 0 ≤ (if (if 63 < z then (63 : Int) else z) > 10 then (if 63 < z then (63 : Int) else z) else 10) ∧ (if (if 63 < z then (63 : Int) else z) > 10 then (if 63 < z then (63 : Int) else z) else 10) ≤ 63 := fun z hz => by
      split <;> split <;> omega
    have hj1 := hj ((ns.map V.int).length : Int) (by omega)
    generalize (if (if 63 < ((ns.map V.int).length : Int) then (63 : Int) else ((ns.map V.int).length : Int)) > 10 then (if 63 < ((ns.map V.int).length : Int) then (63 : Int) else ((ns.map V.int).length : Int)) else 10) = j at hj1 ⊢
    refine ⟨_, rfl, by omega, by omega, for_range (n := j.toNat) (fun i σ H => ∃ (ns0 ns1 : List Int) (u3 u4 u5 u6 u7 u8 : Option V), σ = [some (.ref a), some (.ref Q0), some (.ref L), u3, u4, u5, u6, u7, u8] ∧ Stay [a0, a1, l0, l1] H6 H ∧
      H a0 = some (.lst (ns0.map V.int)) ∧ H l0 = some (.lst (ns0.map V.int)) ∧ H a1 = some (.lst (ns1.map V.int)) ∧ H l1 = some (.lst (ns1.map V.int)) ∧ ns0.length ≤ i ∧ ns1.length ≤ i)
      ⟨[], [], _, _, _, _, _, _, rfl, Stay.refl _ _, fa0, fl0, fa1, fl1, Nat.le_refl _, Nat.le_refl _⟩ ?_ (fun σ H z => k H)⟩
    rintro i σ H hi ⟨ns0, ns1, u3, u4, u5, u6, u7, u8, rfl, st, ca0, cl0, ca1, cl1, z0, z1⟩
    have nq0 : q0 ∉ [a0, a1, l0, l1] := by
      simp only [List.mem_cons, List.not_mem_nil, or_false, not_or]
      exact ⟨ne_of fq0 fa0 (by intro z; cases z), ne_of fq0 fa1 (by intro z; cases z), ne_of fq0 fl0 (by intro z; cases z), ne_of fq0 fl1 (by intro z; cases z)⟩
    have nq1 : q1 ∉ [a0, a1, l0, l1] := by
      simp only [List.mem_cons, List.not_mem_nil, or_false, not_or]
      exact ⟨ne_of fq1 fa0 (by intro z; cases z), ne_of fq1 fa1 (by intro z; cases z), ne_of fq1 fl0 (by intro z; cases z), ne_of fq1 fl1 (by intro z; cases z)⟩
    have nQ : Q0 ∉ [a0, a1, l0, l1] := by
      simp only [List.mem_cons, List.not_mem_nil, or_false, not_or]
      exact ⟨ne_of fQ fa0 (by intro z; cases z), ne_of fQ fa1 (by intro z; cases z), ne_of fQ fl0 (by intro z; cases z), ne_of fQ fl1 (by intro z; cases z)⟩
    have nL : L ∉ [a0, a1, l0, l1] := by
      simp only [List.mem_cons, List.not_mem_nil, or_false, not_or]
      exact ⟨ne_of fL fa0 (by intro z; cases z), ne_of fL fa1 (by intro z; cases z), ne_of fL fl0 (by intro z; cases z), ne_of fL fl1 (by intro z; cases z)⟩
    have cq0 := st.at_ fq0 nq0
    have cq1 := st.at_ fq1 nq1
    have cQ := st.at_ fQ nQ
    have cL := st.at_ fL nL
    have hSi : SqL K H a (ns.map V.int) := hSt _ st
    refine ⟨_, rfl, _, rfl, a, ns, _, rfl, hSi, by omega, fun p n1 s1 np hn1 hs1 ht1 => ?_⟩
    refine ⟨_, rfl, p, n1, s1, 4, rfl, upd_same, ⟨hn1, hs1, ht1⟩, ⟨by decide, by decide⟩, fun d1 n2 s2 d1a d1b hn2 hs2 ht2 => ?_⟩
    rw [upd_upd]
    refine ⟨_, _, rfl, rfl, ⟨by decide, by decide⟩, ?_⟩
    refine ⟨_, rfl, _, _, rfl, rfl, ⟨by decide, by decide, by decide⟩, lenk rfl, fun m nm => ?_⟩
    generalize eH7 : upd (upd H p (srcO n2 s2)) m _ = H7
    have sH7 := fr_same eH7 nm
    have fm := fr_at eH7
    have hp7 : H7 p = some (srcO n2 s2) := sH7 _ _ upd_same
    have nmp : m ≠ p := (ne_of_none upd_same nm).symm
    refine ⟨_, rfl, p, n2, s2, 2, rfl, hp7, ⟨hn2, hs2, ht2⟩, ⟨by decide, by decide⟩, fun d2 n3 s3 d2a d2b hn3 hs3 ht3 => ?_⟩
    obtain ⟨mx, hmx, hm0, hm1⟩ : ∃ mx : Int, atI [V.int 9, V.int (10 ^ 20)] d2 = some (.int mx) ∧ 0 < mx ∧ mx < 2 ^ 250 := by
      have : d2 = 0 ∨ d2 = 1 := by omega
      rcases this with rfl | rfl
      · exact ⟨9, rfl, by decide, by decide⟩
      · exact ⟨10 ^ 20, rfl, by decide, by decide⟩
    refine ⟨m, _, _, _, rfl, rfl, SqL.of ((upd_ne nmp).trans fm), hmx, ?_⟩
    refine ⟨p, n3, s3, mx, rfl, upd_same, ⟨hn3, hs3, ht3⟩, ⟨hm0, hm1⟩, fun d2 n3 s3 d2a d2b hn3 hs3 ht3 => ?_⟩
    rw [upd_upd]
    have sn : Same H H7 := (Same.new np).trans sH7
    have gq0 : ∀ o, upd H7 p o q0 = some (qO (CQ K) dq0 a0) := fun o => (upd_ne (ne_of_none cq0 np)).trans (sn _ _ cq0)
    have gq1 : ∀ o, upd H7 p o q1 = some (qO (CQ K) dq1 a1) := fun o => (upd_ne (ne_of_none cq1 np)).trans (sn _ _ cq1)
    have ga0 : ∀ o, upd H7 p o a0 = some (.lst (ns0.map V.int)) := fun o => (upd_ne (ne_of_none ca0 np)).trans (sn _ _ ca0)
    have ga1 : ∀ o, upd H7 p o a1 = some (.lst (ns1.map V.int)) := fun o => (upd_ne (ne_of_none ca1 np)).trans (sn _ _ ca1)
    have gl0 : ∀ o, upd H7 p o l0 = some (.lst (ns0.map V.int)) := fun o => (upd_ne (ne_of_none cl0 np)).trans (sn _ _ cl0)
    have gl1 : ∀ o, upd H7 p o l1 = some (.lst (ns1.map V.int)) := fun o => (upd_ne (ne_of_none cl1 np)).trans (sn _ _ cl1)
    have gQ : ∀ o, upd H7 p o Q0 = some (.lst [.ref q0, .ref q1]) := fun o => (upd_ne (ne_of_none cQ np)).trans (sn _ _ cQ)
    have gL : ∀ o, upd H7 p o L = some (.lst [.ref l0, .ref l1]) := fun o => (upd_ne (ne_of_none cL np)).trans (sn _ _ cL)
    have st7 : ∀ o, Stay [a0, a1, l0, l1] H6 (upd H7 p o) := fun o => (st.same (Same.mut sn np))
    clear eH7
    have eat : d1 / 3 = 0 ∨ d1 / 3 = 1 := by omega
    have hmid : ∃ lx : Addr, atI [V.ref l0, V.ref l1] (d1 / 3) = some (.ref lx) ∧ ((d1 / 3 = 0 ∧ l0 = lx) ∨ (d1 / 3 = 1 ∧ l1 = lx)) := by
      rcases eat with eat | eat
      · exact ⟨l0, by rw [eat]; rfl, .inl ⟨eat, rfl⟩⟩
      · exact ⟨l1, by rw [eat]; rfl, .inr ⟨eat, rfl⟩⟩
    obtain ⟨lx, hlx, em⟩ := hmid
    refine ⟨fun σ' H' => σ' = [some (.ref a), some (.ref Q0), some (.ref L), some (.int (0 + i)), some (.ref p), some (.int (d1 / 3)), some (.int d2), some (.ref lx), u8] ∧ H' = upd H7 p (srcO n3 s3), ⟨_, rfl, _, rfl, L, _, _, .ref lx, rfl, rfl, SqL.of (gL _), hlx, rfl, rfl⟩, ?_⟩
    rintro _ _ ⟨rfl, rfl⟩
    refine ⟨fun σ' H' => ∃ (ns0 ns1 : List Int) (u3 u4 u5 u7 u8 : Option V), σ' = [some (.ref a), some (.ref Q0), some (.ref L), u3, u4, u5, some (.int d2), u7, u8] ∧ Stay [a0, a1, l0, l1] H6 H' ∧
      H' a0 = some (.lst (ns0.map V.int)) ∧ H' l0 = some (.lst (ns0.map V.int)) ∧ H' a1 = some (.lst (ns1.map V.int)) ∧ H' l1 = some (.lst (ns1.map V.int)) ∧ ns0.length ≤ i + 1 ∧ ns1.length ≤ i + 1, ?_, ?_⟩
    · rcases em with ⟨eat, rfl⟩ | ⟨eat, rfl⟩
      · have hAt : ∀ x y : V, atI [x, y] (d1 / 3) = some x := fun x y => by rw [eat]; rfl
        have hin : a0 ∈ [a0, a1, l0, l1] := by simp
        have hjn : l0 ∈ [a0, a1, l0, l1] := by simp
        refine ⟨_, rfl, p, n3, s3, 5, rfl, upd_same, ⟨hn3, hs3, ht3⟩, ⟨by decide, by decide⟩, fun d4 n4 s4 d4a d4b hn4 hs4 ht4 => ?_⟩
        rw [upd_upd]
        refine ⟨_, _, rfl, rfl, _, rfl, ?_⟩
        have gq := gq0
        have ga := ga0
        have gl := gl0
        refine ifD (fun hc => ?_) (fun hc => ?_)
        · refine ⟨_, rfl, _, rfl, Q0, _, _, .ref q0, rfl, rfl, SqL.of (gQ _), hAt _ _, q0, dq0, _, rfl, gq _, rfl, _, rfl, q0, dq0, a0, _, _, rfl, gq _, ga _, (by rw [List.length_map]; omega), ?_⟩
          refine ⟨rfl, _, rfl, ?_⟩
          refine iteF ?_
          refine ⟨_, rfl, .inl ⟨rfl, _, SqL.of (by walk_at "hp")⟩, _, rfl, l0, _, _, rfl, rfl, (by walk_at "hp"), (by rw [List.length_map]; exact Nat.lt_of_le_of_lt (show ns0.length ≤ 1000 by omega) (by decide)), ?_⟩
          refine ⟨(ns0 ++ [d2]), ns1, _, _, _, _, _, rfl, ((st7 _).upd hin).upd hjn, ?_, ?_, ?_, ?_, (by rw [List.length_append, List.length_singleton]; omega), (by omega)⟩
          all_goals first | (rw [List.map_append]; walk_at "hp") | walk_at "hp"
        · refine ⟨_, rfl, Nat.zero_le _, fun r nr => ?_⟩
          generalize eH8 : upd (upd H7 p (srcO n4 s4)) r _ = H8
          have sH8 := fr_same eH8 nr
          have fr := fr_at eH8
          have gl8 : H8 l0 = some (.lst (ns0.map V.int)) := sH8 _ _ (gl _)
          have ga8 : H8 a0 = some (.lst (ns0.map V.int)) := sH8 _ _ (ga _)
          have gq8 : H8 q0 = some (qO (CQ K) dq0 a0) := sH8 _ _ (gq _)
          have gQ8 : H8 Q0 = some (.lst [.ref q0, .ref q1]) := sH8 _ _ (gQ _)
          have go8 : H8 a1 = some (.lst (ns1.map V.int)) := sH8 _ _ (ga1 _)
          have gp8 : H8 l1 = some (.lst (ns1.map V.int)) := sH8 _ _ (gl1 _)
          refine ⟨_, _, dp_ints (SqL.of gl8), dp_nil (SqL.of fr), shp_ints _, rfl, _, rfl, ?_⟩
          rw [eqv_nil]
          refine ifN (fun hc2 => ?_) (fun hc2 => ?_)
          · obtain ⟨x, t, rfl⟩ := headV_cons hc2
            refine ⟨_, rfl, .inl ⟨rfl, _, SqL.of gl8⟩, l0, _, 0, 0, _, rfl, rfl, gl8, by decide, by decide, (by rw [List.map_cons, List.length_cons]; exact seq0), rfl, ?_⟩
            have gq9 : ∀ o, upd H8 l0 o q0 = some (qO (CQ K) dq0 a0) := fun o => (upd_ne (ne_of gq8 gl8 (by intro z; cases z))).trans gq8
            have gQ9 : ∀ o, upd H8 l0 o Q0 = some (.lst [.ref q0, .ref q1]) := fun o => (upd_ne (ne_of gQ8 gl8 (by intro z; cases z))).trans gQ8
            have ga9 : ∀ o, upd H8 l0 o a0 = some (.lst ((x :: t).map V.int)) := fun o => by walk_at "hp"
            refine ⟨_, rfl, _, rfl, Q0, _, _, .ref q0, rfl, rfl, SqL.of (gQ9 _), hAt _ _, q0, dq0, _, rfl, gq9 _, rfl, q0, dq0, a0, _, rfl, gq9 _, ga9 _, fun H9 c9 => ?_⟩
            refine ⟨_, rfl, rfl, _, rfl, ?_⟩
            refine iteNS rfl ?_
            refine ⟨t, ns1, _, _, _, _, _, rfl, (((st7 _).same sH8).upd hjn).chg c9 hin, ?_, ?_, ?_, ?_, (by have z := z0; rw [List.length_cons] at z; omega), (by omega)⟩
            all_goals first | exact c9.1 | exact c9.ne (by walk_at "hp") (by walk_at "ne")
          · subst hc2
            refine ⟨_, rfl, _, rfl, Q0, _, _, .ref q0, rfl, rfl, SqL.of gQ8, hAt _ _, q0, dq0, _, rfl, gq8, rfl, q0, dq0, a0, _, rfl, gq8, ga8, fun H9 c9 => ?_⟩
            refine ⟨_, rfl, rfl, _, rfl, ?_⟩
            refine iteNS rfl ?_
            refine ⟨[], ns1, _, _, _, _, _, rfl, ((st7 _).same sH8).chg c9 hin, ?_, ?_, ?_, ?_, Nat.zero_le _, (by omega)⟩
            all_goals first | exact c9.1 | exact c9.ne (by walk_at "hp") (by walk_at "ne")
      · have hAt : ∀ x y : V, atI [x, y] (d1 / 3) = some y := fun x y => by rw [eat]; rfl
        have hin : a1 ∈ [a0, a1, l0, l1] := by simp
        have hjn : l1 ∈ [a0, a1, l0, l1] := by simp
        refine ⟨_, rfl, p, n3, s3, 5, rfl, upd_same, ⟨hn3, hs3, ht3⟩, ⟨by decide, by decide⟩, fun d4 n4 s4 d4a d4b hn4 hs4 ht4 => ?_⟩
        rw [upd_upd]
        refine ⟨_, _, rfl, rfl, _, rfl, ?_⟩
        have gq := gq1
        have ga := ga1
        have gl := gl1
        refine ifD (fun hc => ?_) (fun hc => ?_)
        · refine ⟨_, rfl, _, rfl, Q0, _, _, .ref q1, rfl, rfl, SqL.of (gQ _), hAt _ _, q1, dq1, _, rfl, gq _, rfl, _, rfl, q1, dq1, a1, _, _, rfl, gq _, ga _, (by rw [List.length_map]; omega), ?_⟩
          refine ⟨rfl, _, rfl, ?_⟩
          refine iteF ?_
          refine ⟨_, rfl, .inl ⟨rfl, _, SqL.of (by walk_at "hp")⟩, _, rfl, l1, _, _, rfl, rfl, (by walk_at "hp"), (by rw [List.length_map]; exact Nat.lt_of_le_of_lt (show ns1.length ≤ 1000 by omega) (by decide)), ?_⟩
          refine ⟨ns0, (ns1 ++ [d2]), _, _, _, _, _, rfl, ((st7 _).upd hin).upd hjn, ?_, ?_, ?_, ?_, (by omega), (by rw [List.length_append, List.length_singleton]; omega)⟩
          all_goals first | (rw [List.map_append]; walk_at "hp") | walk_at "hp"
        · refine ⟨_, rfl, Nat.zero_le _, fun r nr => ?_⟩
          generalize eH8 : upd (upd H7 p (srcO n4 s4)) r _ = H8
          have sH8 := fr_same eH8 nr
          have fr := fr_at eH8
          have gl8 : H8 l1 = some (.lst (ns1.map V.int)) := sH8 _ _ (gl _)
          have ga8 : H8 a1 = some (.lst (ns1.map V.int)) := sH8 _ _ (ga _)
          have gq8 : H8 q1 = some (qO (CQ K) dq1 a1) := sH8 _ _ (gq _)
          have gQ8 : H8 Q0 = some (.lst [.ref q0, .ref q1]) := sH8 _ _ (gQ _)
          have go8 : H8 a0 = some (.lst (ns0.map V.int)) := sH8 _ _ (ga0 _)
          have gp8 : H8 l0 = some (.lst (ns0.map V.int)) := sH8 _ _ (gl0 _)
          refine ⟨_, _, dp_ints (SqL.of gl8), dp_nil (SqL.of fr), shp_ints _, rfl, _, rfl, ?_⟩
          rw [eqv_nil]
          refine ifN (fun hc2 => ?_) (fun hc2 => ?_)
          · obtain ⟨x, t, rfl⟩ := headV_cons hc2
            refine ⟨_, rfl, .inl ⟨rfl, _, SqL.of gl8⟩, l1, _, 0, 0, _, rfl, rfl, gl8, by decide, by decide, (by rw [List.map_cons, List.length_cons]; exact seq0), rfl, ?_⟩
            have gq9 : ∀ o, upd H8 l1 o q1 = some (qO (CQ K) dq1 a1) := fun o => (upd_ne (ne_of gq8 gl8 (by intro z; cases z))).trans gq8
            have gQ9 : ∀ o, upd H8 l1 o Q0 = some (.lst [.ref q0, .ref q1]) := fun o => (upd_ne (ne_of gQ8 gl8 (by intro z; cases z))).trans gQ8
            have ga9 : ∀ o, upd H8 l1 o a1 = some (.lst ((x :: t).map V.int)) := fun o => by walk_at "hp"
            refine ⟨_, rfl, _, rfl, Q0, _, _, .ref q1, rfl, rfl, SqL.of (gQ9 _), hAt _ _, q1, dq1, _, rfl, gq9 _, rfl, q1, dq1, a1, _, rfl, gq9 _, ga9 _, fun H9 c9 => ?_⟩
            refine ⟨_, rfl, rfl, _, rfl, ?_⟩
            refine iteNS rfl ?_
            refine ⟨ns0, t, _, _, _, _, _, rfl, (((st7 _).same sH8).upd hjn).chg c9 hin, ?_, ?_, ?_, ?_, (by omega), (by have z := z1; rw [List.length_cons] at z; omega)⟩
            all_goals first | exact c9.1 | exact c9.ne (by walk_at "hp") (by walk_at "ne")
          · subst hc2
            refine ⟨_, rfl, _, rfl, Q0, _, _, .ref q1, rfl, rfl, SqL.of gQ8, hAt _ _, q1, dq1, _, rfl, gq8, rfl, q1, dq1, a1, _, rfl, gq8, ga8, fun H9 c9 => ?_⟩
            refine ⟨_, rfl, rfl, _, rfl, ?_⟩
            refine iteNS rfl ?_
            refine ⟨ns0, [], _, _, _, _, _, rfl, ((st7 _).same sH8).chg c9 hin, ?_, ?_, ?_, ?_, (by omega), Nat.zero_le _⟩
            all_goals first | exact c9.1 | exact c9.ne (by walk_at "hp") (by walk_at "ne")
    · rintro _ H9 ⟨ms0, ms1, v3, v4, v5, v7, v8, rfl, st9, ba0, bl0, ba1, bl1, y0, y1⟩
      have bq0 := st9.at_ fq0 nq0
      have bq1 := st9.at_ fq1 nq1
      have bQ := st9.at_ fQ nQ
      have bL := st9.at_ fL nL
      refine ⟨_, rfl, Q0, _, 0, _, rfl, rfl, SqL.of bQ, atI_nat (j := 0) rfl, _, rfl, L, _, 0, _, rfl, rfl, SqL.of bL, atI_nat (j := 0) rfl, _, rfl, q0, dq0, a0, l0, ms0, d2, rfl, bq0, ba0, bl0, by omega, fun H10 s10 => ?_⟩
      refine ⟨_, rfl, ?_⟩
      refine iteF ?_
      refine ⟨_, rfl, Q0, _, 1, _, rfl, rfl, SqL.of (s10 _ _ bQ), atI_nat (j := 1) rfl, _, rfl, L, _, 1, _, rfl, rfl, SqL.of (s10 _ _ bL), atI_nat (j := 1) rfl, _, rfl, q1, dq1, a1, l1, ms1, d2, rfl, s10 _ _ bq1, s10 _ _ ba1, s10 _ _ bl1, by omega, fun H11 s11 => ?_⟩
      refine ⟨_, rfl, ?_⟩
      refine iteF ?_
      have s12 := s10.trans s11
      exact ⟨ms0, ms1, _, _, _, _, _, _, rfl, st9.same s12, s12 _ _ ba0, s12 _ _ bl0, s12 _ _ ba1, s12 _ _ bl1, y0, y1⟩
end
end Lw
/-! the end: the law's own def as the top has left it. -/
namespace Lw
open PySem PySem.Spec PyProof.Rows L2 Rg
theorem finish {P : Program} {w : World} {K : PySem.W.Frag} {mg : Str → Option Value} {fa : Addr} {h : Heap} (KX : K.In h) (G : h.Ns mainGlobals mg) (hmg : mg ("law" : Str) = some (.ref fa)) (c : SaysM faL fnL K) :
    ∃ (K : PySem.W.Frag) (fd : FuncData) (sp : Sp), K.In h ∧ (∀ (s : Shared) (u : Value), BindsTo s fd ⟨[u], []⟩ [("_law_script", u)]) ∧
      (∀ (H : Hp) (a : Addr) (ns : List Int), ns.length ≤ 63 → Only H → SqL K H a (ns.map V.int) → sp [.ref a] H (fun v _ => v = .bl true) fun _ _ _ => False) ∧
      ∀ base : Heap, K.In base → base.Ns mainGlobals mg → FnOk P w K mg base CX0 5 fa fd ["_law_script"] sp := by
  have T : TopL K mg := ⟨c, h, KX, G⟩
  obtain ⟨fd, F⟩ := fn_law T
  have e := hmg.symm.trans (mg_law T)
  cases e
  exact ⟨K, fd, sp_law K, KX, fun s u => FunD.bindsA (ps := ["_law_script"]) F (fun _ _ _ _ _ _ us hl => match us, hl with | [_], _ => rfl) s [u] rfl, fun H a ns hl _ hS => ⟨a, ns, rfl, hS, hl, fun _ => rfl⟩, fun base _ _ => ok_law T F⟩
end Lw
namespace Lw
open PySem PySem.Spec PyProof.Rows L2 Rg
def names0 : List PySem.Str := ["Queue", "_law_source", "_law_draw", "_law_pick", "_law_look"]
def names : List PySem.Str := names0
abbrev RowL : PySem.W.OpenRow := PySem.W.OpenLaw.row PySem.Challenge.rw_ringindexes_k16_queues_in_order
abbrev hk : PySem.W.Hook := hookM 6 faL fnL
def ob (s : PySem.W.SharedT) : He.AlD := obsMG 6 faL fnL (HandSHeadRun.getT s)
theorem ob_eq (s : PySem.W.SharedT) : ob s = hk.obs s.abs := obsMG_eq (HandSHeadRun.getT_eq s)
theorem run (w : World) : HandSHeadRun.RunEq RowL (PySem.W.view RowL.prog [7]) hk ob 4000 names w := by
  intro os
  kernel_rfl
end Lw
open PySem PySem.W PySem.Calls PyProof.Rows
set_option maxRecDepth 100000 in
set_option maxHeartbeats 0 in
theorem PySem.Challenge.cw_ringindexes_k16_queues_in_order_holds : PySem.Challenge.rw_ringindexes_k16_queues_in_order.Holds := by
  w_on; o_law
  refine HandSHeadRun.head_any (r := OpenLaw.row PySem.Challenge.rw_ringindexes_k16_queues_in_order) (q := view (PySem.W.OpenLaw.row PySem.Challenge.rw_ringindexes_k16_queues_in_order).prog [7]) (H := Lw.hk) (ob := Lw.ob) (M := 4000) (loose := Lw.names) (d := HandSHeadRun.topDef (PySem.W.OpenLaw.row PySem.Challenge.rw_ringindexes_k16_queues_in_order).prog 7) (kwd := []) Lw.ob_eq
    (by kernel_rfl) (fun s => by kernel_rfl) Lw.run (by kernel_rfl) (by kernel_rfl) (by kernel_rfl) (by rfl) (by first | assumption | decide +kernel) (by decide +kernel) ⟨rfl, rfl, rfl, rfl, rfl, by decide +kernel⟩ ?hw ?hc
  case hw => w_witness2
  case hc =>
    refine L2.walk_ofE (l := PySem.Challenge.rw_ringindexes_k16_queues_in_order) (n := 63) (k := 5) (x := "_law_script") (CX := L2.CX0) rfl (by decide) (by kernel_rfl) ⟨rfl, by decide, by decide⟩ ?F (fun _ _ _ _ z => z)
    intro w mg fa h Y G hmg0
    obtain ⟨K, KX, c⟩ := Y
    have hmg : mg ("law" : PySem.Str) = some (.ref fa) := by
      have e : (HandSHeadRun.topDef (PySem.W.OpenLaw.row PySem.Challenge.rw_ringindexes_k16_queues_in_order).prog 7).name = ("law" : PySem.Str) := by kernel_rfl
      rw [← e]
      exact hmg0
    exact Lw.finish (P := (PySem.Challenge.rw_ringindexes_k16_queues_in_order).prog) (w := w) KX G hmg c
