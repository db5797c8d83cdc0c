import PyProof.Rows.All
import Wide.All
import OpenK.AllK
import Wide.FinOn
import HandS.ForMost
import HandS.ForExc
import HandS.More
import HandS.Comp
import HandS.HotCalls
import HandS.ExcCtx
import HandS.TryMany
import HandS.TryOnly
import HandS.Wide
import HandS.Flow
import HandS.Defaults
import HandS.MakeKw
import HandS.CallSlots
import HandS.IsInst
import HandS.ExcIs
import HandS.OwnEq
import HandS.HeadHook1
import KE.KStateDown
import HandS.Head0
import HandS.Head1
import HandS.Head2
import HandS.HeadEnd
import HandS.HeadHook2
import HandS.MakeKwOnly
import OpenK.KOps
import HandS.List
import HandS.Style
import KE.KCallOwn
import HandS.Property
import HandS.ClsMeth
import HandS.GenList
import HandS.ExcInit
import HandS.ExcField
import KE.KExcIs
import HandS.HeadHook3
import Wide.Once
import HandS.NoneIn
import HandS.ExcInitHot
import HandS.Star
import HandS.ExcValue
import KE.KIntText
import HandS.FStr
import HandS.Text
import PySem.Challenge.RW_tracerline_k04_fraction_texts
set_option Elab.async false
set_option linter.all false
set_option maxRecDepth 100000
set_option maxHeartbeats 0
set_option exponentiation.threshold 10000000
namespace L2
open PySem PySem.Spec PyProof.Rows HotX L2H
def Cool (X : Cx) : Prop := X.calm = true ∨ HotC X
section
variable {prog : Program} {w : World} {A : Around} {E : Value → Shared → Prop} {s : Shared}
end
def PIEC (X : Cx) (pins : List (Addr × Obj)) (σ : St) (tg : Expr) (R : It → Hp → Prop) (itv : Value) (s2 : Shared) : Prop :=
  ∃ (it : Addr) (fp : List Addr) (tn : Nat → Heap → Prop) (J : It) (H' : Hp), itv = .ref it ∧ Inv X pins σ H' s2 ∧ (Turn X.prog X.w X.K tg J fp it tn ∧ (X.calm = false → TurnH X.prog X.w X.K tg J fp it tn)) ∧ tn 0 s2.heap ∧ (∀ b ∈ fp, FpOk X pins H' b) ∧ R J H'
structure PIC (X : Cx) (tg iter : Expr) (wi : TI) : Prop where
  run : ∀ (pins : List (Addr × Obj)) (s : Shared) (σ : St) (H : Hp) (R : It → Hp → Prop), Inv X pins σ H s → wi σ H R →
    wpAny (model X.prog X.w) X.A (eval iter X.env) (fun v s1 => wpAny (model X.prog X.w) X.A (pyIter v) (PIEC X pins σ tg R) X.xe s1) X.xe s
section
variable {X : Cx} {tg iter : Expr} {wi : TI}
theorem PIC.calm (h : PIC X tg iter wi) : PI X tg iter wi := ⟨fun pins s σ H R I q => thn (h.run pins s σ H R I q) fun v s1 x => thn x fun u s2 ⟨it, fp, tn, J, H', e, J2, T, st, f, r⟩ => ⟨it, fp, tn, J, H', e, J2, T.1, st, f, r⟩⟩
theorem PIC.hot (h : PIC X tg iter wi) (hc : X.calm = false) : PIH X tg iter wi := ⟨fun pins s σ H R I q => thn (h.run pins s σ H R I q) fun v s1 x => thn x fun u s2 ⟨it, fp, tn, J, H', e, J2, T, st, f, r⟩ => ⟨it, fp, tn, J, H', e, J2, T.2 hc, st, f, r⟩⟩
theorem range_itC {pins : List (Addr × Obj)} {σ : St} {H : Hp} {s : Shared} {R : It → Hp → Prop} {E : Value → Shared → Prop} {lo hi : Int} {t u v : Tok} {tk : Nat} (I : Inv X pins σ H s) (h1 : -(2 ^ 62) ≤ lo) (h2 : lo < 2 ^ 62) (h3 : -(2 ^ 62) ≤ hi) (h4 : hi < 2 ^ 62)
    (q : R (Itr lo (hi - lo).toNat) H) : wpAny (model X.prog X.w) X.A (pyIter (.ref s.heap.objs.size)) (PIEC X pins σ tg R) E { s with heap := s.heap.push { cls := .type "range", data := .fields #[.int lo t, .int hi u, .int 1 v] }, toks := tk } := by
  refine wpAny_pyIter_range (IsRange.new ..) (small_one h1 h2 h3 h4) ?_
  have J : Inv X pins σ H { s with heap := s.heap.push { cls := .type "range", data := .fields #[.int lo t, .int hi u, .int 1 v] }, toks := tk } := I.kept fun b o e => Heap.get?_push_of_some _ e
  refine ⟨(s.heap.push { cls := .type "range", data := .fields #[.int lo t, .int hi u, .int 1 v] }).objs.size, [(s.heap.push { cls := .type "range", data := .fields #[.int lo t, .int hi u, .int 1 v] }).objs.size], _, _, H, rfl,
    J.kept (t' := tk) fun b o e => Heap.get?_push_of_some _ e, ⟨turn_range _ lo (hi - lo).toNat, fun _ => turn_rangeH _ lo (hi - lo).toNat⟩, ?_, fun b hb => ?_, q⟩
  · have e1 : lo + ((0 : Nat) : Int) * 1 = lo := by simp
    have e2 : (((hi - lo).toNat : Nat) : Int) - ((0 : Nat) : Int) = Builtin.Range.rangeSize lo hi 1 := by rw [rangeSize_one]; split <;> omega
    show IsRangeIter _ _ (lo + ((0 : Nat) : Int) * 1) ((((hi - lo).toNat : Nat) : Int) - ((0 : Nat) : Int)) 1
    rw [e1, e2]
    exact Heap.get?_push_size _ rfl
  · have e : b = (s.heap.push { cls := .type "range", data := .fields #[.int lo t, .int hi u, .int 1 v] }).objs.size := by simpa using hb
    subst e
    exact J.fpOk (Nat.le_refl _) (J.hok.fresh (Nat.le_refl _))
theorem pi_range1C {a : Expr} {ta : TA} {p pos : Pos} (hg : Gl X "range") (hm : X.mg "range" = none) (ha : PA X [a] ta) (hs : starEach [a] X.env = [(false, eval a X.env)] := by rfl) : PIC X tg (.Call (.Name "range" p) [a] [] pos) (iRng1 ta) := by
  refine ⟨fun pins s σ H R I h => Call_ (ld_blt I hg hm boot_range (PyProof.Rows.callWith_type1 (thn (ha.run pos pins s σ H _ I h) fun us s1 ⟨vs, H1, I1, r1, q1⟩ => ?_) hs rfl))⟩
  obtain ⟨j, e, q1, q2, q⟩ := q1
  subst e
  cases r1 with
  | cons r rr =>
    cases rr
    obtain ⟨t, rfl⟩ := r
    exact call_range_1 (range_itC I1 (by omega) (by omega) q1 q2 (by simpa using q))
theorem HotC.uncalm (h : Cool X) : X.calm = true ∨ (X.calm = false ∧ HotC X) := by
  rcases h with h | h
  · exact .inl h
  · cases e : X.calm with
    | true => exact .inl rfl
    | false => exact .inr ⟨rfl, h⟩
theorem ps_forC {body : List Stmt} {g : TG} {tb : TS} {pos : Pos} (hp : PassesOwn (model X.prog X.w) X.A X.env X.xe) (hc : Cool X) (hi : PIC X tg iter wi) (hg : PG X tg g) (hb : PSs X body tb)
    (hs : ∀ x, foldedSetIterable iter X.env x = pure x := by intro _; rfl) : PS X (.For tg iter body [] pos) (tFor wi g tb) := by
  rcases HotC.uncalm hc with h | ⟨h, h'⟩
  · exact ps_for hp h hi.calm hg hb hs
  · exact ps_forH hp h' (hi.hot h) hg hb hs
end
def unE (i : Nat) (D : Ends) : Ends := ⟨fun σ H => D.nx (σ.set i none) H, D.rt, fun σ H => D.bk (σ.set i none) H, fun σ H => D.ct (σ.set i none) H⟩
def tsAs (i : Nat) (ts : Addr → Value → Option Addr → TS) : Addr → Value → Option Addr → TS := fun a cls d D σ H => ts a cls d (unE i D) (σ.set i (some (.ref a))) H
inductive HdsN (X : Cx) : List ExceptHandler → List (Value × (Addr → Value → Option Addr → TS)) → Prop
  | nil : HdsN X [] []
  | only {x : Str} {c : Value} {ts : Addr → Value → Option Addr → TS} {b₀ : Stmt} {suite : List Stmt} {np pos' : Pos} {hds : List ExceptHandler} {l : List (Value × (Addr → Value → Option Addr → TS))} (hc : Names X x c)
      (hsu : ∀ (a : Addr) (oe : Obj) (cls : Value) (d : Option Addr) (pn : List (Addr × Obj)), L2N.Zn cls d oe → (∃ vs, oe.data = .fields vs) → PSs (X.suite a ((a, oe) :: pn)) (b₀ :: suite) (ts a cls d)) (r : HdsN X hds l) :
      HdsN X (.ExceptHandler (some (.Name x np)) none (b₀ :: suite) pos' :: hds) ((c, ts) :: l)
  | as_ {x n : Str} {i : Nat} {c : Value} {ts : Addr → Value → Option Addr → TS} {b₀ : Stmt} {suite : List Stmt} {np pos' : Pos} {hds : List ExceptHandler} {l : List (Value × (Addr → Value → Option Addr → TS))} (hN : X.N.Nodup) (hi : X.N[i]? = some n) (hln : X.env.kindOf n = some .local) (hc : Names X x c)
      (hsu : ∀ (a : Addr) (oe : Obj) (cls : Value) (d : Option Addr) (pn : List (Addr × Obj)), L2N.Zn cls d oe → (∃ vs, oe.data = .fields vs) → PSs (X.suite a ((a, oe) :: pn)) (b₀ :: suite) (ts a cls d)) (r : HdsN X hds l) :
      HdsN X (.ExceptHandler (some (.Name x np)) (some n) (b₀ :: suite) pos' :: hds) ((c, tsAs i ts) :: l)
section
variable {X : Cx} {body : List Stmt} {h₀ : ExceptHandler} {hds : List ExceptHandler} {l : List (Value × (Addr → Value → Option Addr → TS))} {pos : Pos} {tb : WX → TS} {Wout : WX}
end
end L2

namespace L2.Tr
open PySem PySem.Spec PyProof.Rows

@[irreducible] def wE (X : Cx) (e : Expr) : TE := fun σ H Q => ∀ (pins : List (Addr × Obj)) (s : Shared), Inv X pins σ H s → wpAny (model X.prog X.w) X.A (eval e X.env) (EP X pins σ Q) X.xe s
theorem wE.mk {X : Cx} {e : Expr} {σ : St} {H : Hp} {Q : VK} (h : ∀ (pins : List (Addr × Obj)) (s : Shared), Inv X pins σ H s → wpAny (model X.prog X.w) X.A (eval e X.env) (EP X pins σ Q) X.xe s) : wE X e σ H Q := by unfold wE; exact h
theorem wE.out {X : Cx} {e : Expr} {σ : St} {H : Hp} {Q : VK} (h : wE X e σ H Q) : ∀ (pins : List (Addr × Obj)) (s : Shared), Inv X pins σ H s → wpAny (model X.prog X.w) X.A (eval e X.env) (EP X pins σ Q) X.xe s := by unfold wE at h; exact h
@[irreducible] def wT (X : Cx) (e : Expr) : TT := fun σ H Q => ∀ (pins : List (Addr × Obj)) (s : Shared), Inv X pins σ H s → wpAny (model X.prog X.w) X.A (isTrue e X.env (eval e X.env)) (TP X pins σ Q) X.xe s
theorem wT.mk {X : Cx} {e : Expr} {σ : St} {H : Hp} {Q : Bool → Hp → Prop} (h : ∀ (pins : List (Addr × Obj)) (s : Shared), Inv X pins σ H s → wpAny (model X.prog X.w) X.A (isTrue e X.env (eval e X.env)) (TP X pins σ Q) X.xe s) : wT X e σ H Q := by unfold wT; exact h
theorem wT.out {X : Cx} {e : Expr} {σ : St} {H : Hp} {Q : Bool → Hp → Prop} (h : wT X e σ H Q) : ∀ (pins : List (Addr × Obj)) (s : Shared), Inv X pins σ H s → wpAny (model X.prog X.w) X.A (isTrue e X.env (eval e X.env)) (TP X pins σ Q) X.xe s := by unfold wT at h; exact h
@[irreducible] def wW (X : Cx) (e : Expr) : TT := fun σ H Q => ∀ (whole : Sem Value) (pins : List (Addr × Obj)) (s : Shared), Inv X pins σ H s → wpAny (model X.prog X.w) X.A (isTrue e X.env whole) (TP X pins σ Q) X.xe s
theorem wW.mk {X : Cx} {e : Expr} {σ : St} {H : Hp} {Q : Bool → Hp → Prop} (h : ∀ (whole : Sem Value) (pins : List (Addr × Obj)) (s : Shared), Inv X pins σ H s → wpAny (model X.prog X.w) X.A (isTrue e X.env whole) (TP X pins σ Q) X.xe s) : wW X e σ H Q := by unfold wW; exact h
theorem wW.out {X : Cx} {e : Expr} {σ : St} {H : Hp} {Q : Bool → Hp → Prop} (h : wW X e σ H Q) : ∀ (whole : Sem Value) (pins : List (Addr × Obj)) (s : Shared), Inv X pins σ H s → wpAny (model X.prog X.w) X.A (isTrue e X.env whole) (TP X pins σ Q) X.xe s := by unfold wW at h; exact h
@[irreducible] def wA (X : Cx) (es : List Expr) : TA := fun σ H Q => ∀ (pos : Pos) (pins : List (Addr × Obj)) (s : Shared), Inv X pins σ H s → wpAny (model X.prog X.w) X.A (spliced (backTo pos (starEach es X.env))) (AP X pins σ Q) X.xe s
theorem wA.mk {X : Cx} {es : List Expr} {σ : St} {H : Hp} {Q : List V → Hp → Prop} (h : ∀ (pos : Pos) (pins : List (Addr × Obj)) (s : Shared), Inv X pins σ H s → wpAny (model X.prog X.w) X.A (spliced (backTo pos (starEach es X.env))) (AP X pins σ Q) X.xe s) : wA X es σ H Q := by unfold wA; exact h
theorem wA.out {X : Cx} {es : List Expr} {σ : St} {H : Hp} {Q : List V → Hp → Prop} (h : wA X es σ H Q) : ∀ (pos : Pos) (pins : List (Addr × Obj)) (s : Shared), Inv X pins σ H s → wpAny (model X.prog X.w) X.A (spliced (backTo pos (starEach es X.env))) (AP X pins σ Q) X.xe s := by unfold wA at h; exact h
@[irreducible] def wS (X : Cx) (st : Stmt) : TS := fun D σ H => ∀ (pins : List (Addr × Obj)) (s : Shared), Inv X pins σ H s → wpAny (model X.prog X.w) X.A (exec st X.env) (SP X pins D) X.xe s
theorem wS.mk {X : Cx} {st : Stmt} {D : Ends} {σ : St} {H : Hp} (h : ∀ (pins : List (Addr × Obj)) (s : Shared), Inv X pins σ H s → wpAny (model X.prog X.w) X.A (exec st X.env) (SP X pins D) X.xe s) : wS X st D σ H := by unfold wS; exact h
theorem wS.out {X : Cx} {st : Stmt} {D : Ends} {σ : St} {H : Hp} (h : wS X st D σ H) : ∀ (pins : List (Addr × Obj)) (s : Shared), Inv X pins σ H s → wpAny (model X.prog X.w) X.A (exec st X.env) (SP X pins D) X.xe s := by unfold wS at h; exact h
@[irreducible] def wB (X : Cx) (st : List Stmt) : TS := fun D σ H => ∀ (pins : List (Addr × Obj)) (s : Shared), Inv X pins σ H s → wpAny (model X.prog X.w) X.A (execs st X.env) (SP X pins D) X.xe s
theorem wB.mk {X : Cx} {st : List Stmt} {D : Ends} {σ : St} {H : Hp} (h : ∀ (pins : List (Addr × Obj)) (s : Shared), Inv X pins σ H s → wpAny (model X.prog X.w) X.A (execs st X.env) (SP X pins D) X.xe s) : wB X st D σ H := by unfold wB; exact h
theorem wB.out {X : Cx} {st : List Stmt} {D : Ends} {σ : St} {H : Hp} (h : wB X st D σ H) : ∀ (pins : List (Addr × Obj)) (s : Shared), Inv X pins σ H s → wpAny (model X.prog X.w) X.A (execs st X.env) (SP X pins D) X.xe s := by unfold wB at h; exact h
def opW (X : Cx) (f : Value → Value → Sem Value) (σ : St) (x y : V) (H : Hp) (Q : VK) : Prop := ∀ (pins : List (Addr × Obj)) (s : Shared) (v u : Value), Inv X pins σ H s → RelV x v → RelV y u → wpAny (model X.prog X.w) X.A (f v u) (EP X pins σ Q) X.xe s
def unW (X : Cx) (f : Value → Sem Value) (σ : St) (x : V) (H : Hp) (Q : VK) : Prop := ∀ (pins : List (Addr × Obj)) (s : Shared) (v : Value), Inv X pins σ H s → RelV x v → wpAny (model X.prog X.w) X.A (f v) (EP X pins σ Q) X.xe s
def callW (X : Cx) (f : Value) (σ : St) (xs : List V) (H : Hp) (Q : VK) : Prop := ∀ (pins : List (Addr × Obj)) (s : Shared) (us : List Value), Inv X pins σ H s → Vals xs us → wpAny (model X.prog X.w) X.A (call f us) (EP X pins σ Q) X.xe s
def truW (X : Cx) (σ : St) (x : V) (H : Hp) (Q : Bool → Hp → Prop) : Prop := ∀ (pins : List (Addr × Obj)) (s : Shared) (v : Value), Inv X pins σ H s → RelV x v → wpAny (model X.prog X.w) X.A (truthy v) (TP X pins σ Q) X.xe s

instance {X : Cx} {e : Expr} {σ : St} {H : Hp} {Q : VK} : CoeFun (wE X e σ H Q) (fun _ => ∀ (pins : List (Addr × Obj)) (s : Shared), Inv X pins σ H s → wpAny (model X.prog X.w) X.A (eval e X.env) (EP X pins σ Q) X.xe s) := ⟨wE.out⟩
instance {X : Cx} {e : Expr} {σ : St} {H : Hp} {Q : Bool → Hp → Prop} : CoeFun (wT X e σ H Q) (fun _ => ∀ (pins : List (Addr × Obj)) (s : Shared), Inv X pins σ H s → wpAny (model X.prog X.w) X.A (isTrue e X.env (eval e X.env)) (TP X pins σ Q) X.xe s) := ⟨wT.out⟩
instance {X : Cx} {e : Expr} {σ : St} {H : Hp} {Q : Bool → Hp → Prop} : CoeFun (wW X e σ H Q) (fun _ => ∀ (whole : Sem Value) (pins : List (Addr × Obj)) (s : Shared), Inv X pins σ H s → wpAny (model X.prog X.w) X.A (isTrue e X.env whole) (TP X pins σ Q) X.xe s) := ⟨wW.out⟩
instance {X : Cx} {es : List Expr} {σ : St} {H : Hp} {Q : List V → Hp → Prop} : CoeFun (wA X es σ H Q) (fun _ => ∀ (pos : Pos) (pins : List (Addr × Obj)) (s : Shared), Inv X pins σ H s → wpAny (model X.prog X.w) X.A (spliced (backTo pos (starEach es X.env))) (AP X pins σ Q) X.xe s) := ⟨wA.out⟩
instance {X : Cx} {st : Stmt} {D : Ends} {σ : St} {H : Hp} : CoeFun (wS X st D σ H) (fun _ => ∀ (pins : List (Addr × Obj)) (s : Shared), Inv X pins σ H s → wpAny (model X.prog X.w) X.A (exec st X.env) (SP X pins D) X.xe s) := ⟨wS.out⟩
instance {X : Cx} {st : List Stmt} {D : Ends} {σ : St} {H : Hp} : CoeFun (wB X st D σ H) (fun _ => ∀ (pins : List (Addr × Obj)) (s : Shared), Inv X pins σ H s → wpAny (model X.prog X.w) X.A (execs st X.env) (SP X pins D) X.xe s) := ⟨wB.out⟩

section
variable {X : Cx} {e a b c o : Expr} {es : List Expr} {st : Stmt} {ss : List Stmt} {σ : St} {H : Hp} {Q : VK} {D : Ends} {x y v : V} {pos pos' : Pos} {n : Str}
theorem pe_W : PE X e (wE X e) := ⟨fun pins s _ _ _ I h => h.out pins s I⟩
theorem pt_W : PT X e (wT X e) := ⟨fun pins s _ _ _ I h => h.out pins s I⟩
theorem pw_W : PW X e (wW X e) := ⟨fun wh pins s _ _ _ I h => h.out wh pins s I⟩
theorem pa_W : PA X es (wA X es) := ⟨fun pos pins s _ _ _ I h => h.out pos pins s I⟩
theorem ps_W : PS X st (wS X st) := ⟨fun pins s _ _ _ I h => h.out pins s I⟩
theorem pss_W : PSs X ss (wB X ss) := ⟨fun pins s _ _ _ I h => h.out pins s I⟩
theorem PE.w {t : TE} (p : PE X e t) (h : t σ H Q) : wE X e σ H Q := wE.mk fun pins s I => p.run pins s σ H Q I h
theorem PT.w {t : TT} {Q : Bool → Hp → Prop} (p : PT X e t) (h : t σ H Q) : wT X e σ H Q := wT.mk fun pins s I => p.run pins s σ H Q I h
theorem PW.w {t : TT} {Q : Bool → Hp → Prop} (p : PW X e t) (h : t σ H Q) : wW X e σ H Q := wW.mk fun wh pins s I => p.run wh pins s σ H Q I h
theorem PA.w {t : TA} {Q : List V → Hp → Prop} (p : PA X es t) (h : t σ H Q) : wA X es σ H Q := wA.mk fun pos pins s I => p.run pos pins s σ H Q I h
theorem PS.w {t : TS} (p : PS X st t) (h : t D σ H) : wS X st D σ H := wS.mk fun pins s I => p.run pins s σ H D I h
theorem PSs.w {t : TS} (p : PSs X ss t) (h : t D σ H) : wB X ss D σ H := wB.mk fun pins s I => p.run pins s σ H D I h
theorem OpR.w {f : Value → Value → Sem Value} {r : R2} (o : OpR X f r) (h : r x y H Q) : opW X f σ x y H Q := fun pins s v u I rx ry => o pins s σ H x y v u Q I rx ry h
theorem UnR.w {f : Value → Sem Value} {r : V → Hp → VK → Prop} (o : UnR X f r) (h : r x H Q) : unW X f σ x H Q := fun pins s v I rx => o pins s σ H x v Q I rx h
theorem CallR.w {f : Value} {r : List V → Hp → VK → Prop} {xs : List V} (o : CallR X f r) (h : r xs H Q) : callW X f σ xs H Q := fun pins s us I rx => o pins s σ H xs us Q I rx h
theorem TruR.w {r : V → Hp → (Bool → Hp → Prop) → Prop} {Q : Bool → Hp → Prop} (o : TruR X r) (h : r x H Q) : truW X σ x H Q := fun pins s v I rx => o pins s σ H x v Q I rx h

theorem w_var (i : Nat) (h : Q v H) (hs : σ[i]? = some (some v) := by rfl) (hN : X.N[i]? = some n := by rfl) (hv : Vis X.env.scope n := by first | exact Or.inl rfl | exact Or.inr (Or.inl rfl) | exact Or.inr (Or.inr rfl)) (hd : (n == ("__debug__" : Str)) = false := by decide)
    (hcd : (n == ("__classdict__" : Str)) = false := by decide) : wE X (.Name n pos) σ H Q := PE.w (pe_var hN hv hd hcd) ⟨v, hs, h⟩
theorem w_int {i : Int} {j} (h : Q (.int i) H) : wE X (.Constant (.int i) j pos) σ H Q := PE.w pe_int h
theorem w_bl {i : Bool} {j} (h : Q (.bl i) H) : wE X (.Constant (.bool i) j pos) σ H Q := PE.w pe_bl h
theorem w_str {i : Str} {j} (h : Q (.str i) H) : wE X (.Constant (.str i) j pos) σ H Q := PE.w pe_str h
theorem w_bin {op : Operator} (h : wE X a σ H fun x H1 => wE X b σ H1 fun y H2 => opW X (binaryOp op) σ x y H2 Q) : wE X (.BinOp a op b pos) σ H Q := wE.mk fun pins s I =>
  wpAny_BinOp (thn (h.out pins s I) fun v s1 ⟨x, H1, I1, r1, q1⟩ => thn (q1.out pins s1 I1) fun u s2 ⟨y, H2, I2, r2, q2⟩ => q2 pins s2 v u I2 r1 r2)
theorem w_un {op : UnaryOp} (h : wE X a σ H fun x H1 => unW X (unaryOp op) σ x H1 Q) : wE X (.UnaryOp op a pos) σ H Q := wE.mk fun pins s I =>
  UnaryOp_ (thn (h.out pins s I) fun v s1 ⟨x, H1, I1, r1, q1⟩ => q1 pins s1 v I1 r1)
theorem w_cmp {op : CmpOp} (h : wE X a σ H fun x H1 => wE X b σ H1 fun y H2 => opW X (compareOp op) σ x y H2 Q) (hm : behindInMarks op b = false := by first | exact nomark _ | rfl) : wE X (.Compare a [op] [b] pos) σ H Q := wE.mk fun pins s I =>
  wpAny_Compare1 (thn (h.out pins s I) fun v s1 ⟨x, H1, I1, r1, q1⟩ => thn (q1.out pins s1 I1) fun u s2 ⟨y, H2, I2, r2, q2⟩ => q2 pins s2 v u I2 r1 r2) hm
theorem w_tcmp {op : CmpOp} {Q : Bool → Hp → Prop} (h : wE X a σ H fun x H1 => wE X b σ H1 fun y H2 => opW X (compareOp op) σ x y H2 fun z H3 => truW X σ z H3 Q) (hm : behindInMarks op b = false := by first | exact nomark _ | rfl) : wT X (.Compare a [op] [b] pos) σ H Q := wT.mk fun pins s I =>
  wpAny_isTrue_Compare1 (thn (h.out pins s I) fun v s1 ⟨x, H1, I1, r1, q1⟩ => thn (q1.out pins s1 I1) fun u s2 ⟨y, H2, I2, r2, q2⟩ => thn (q2 pins s2 v u I2 r1 r2) fun c s3 ⟨z, H3, I3, r3, q3⟩ => q3 pins s3 c I3 r3) hm
theorem w_t {Q : Bool → Hp → Prop} (h : wE X e σ H fun x H1 => truW X σ x H1 Q) (he : ∀ whole, isTrue e X.env whole = (do let v ← whole; standAt e.pos; holding [v] (truthy v)) := by intro _; rfl) : wT X e σ H Q := wT.mk fun pins s I =>
  isTrue_plain (thn (h.out pins s I) fun v s1 ⟨x, H1, I1, r1, q1⟩ => q1 pins s1 v I1 r1) (he _)
theorem tru_bl {k : Bool} {Q : Bool → Hp → Prop} (h : Q k H) : truW X σ (.bl k) H Q := fun pins s v I r => by
  cases (show v = Value.bool k from r)
  exact wpAny_truthy_bool ⟨H, I, h⟩
theorem w_not {Q : Bool → Hp → Prop} (h : wT X a σ H fun k H1 => Q (!k) H1) : wT X (.UnaryOp .Not a pos) σ H Q := PT.w (pt_not pt_W) h
theorem w_tbool {Q : Bool → Hp → Prop} {op} (h : wW X (.BoolOp op es pos) σ H Q) : wT X (.BoolOp op es pos) σ H Q := wT.mk fun pins s I => h.out _ pins s I
theorem w_and1 {Q : Bool → Hp → Prop} (h : wT X a σ H Q) : wW X (.BoolOp .And [a] pos) σ H Q := PW.w (pw_and1 pt_W) h
theorem w_or1 {Q : Bool → Hp → Prop} (h : wT X a σ H Q) : wW X (.BoolOp .Or [a] pos) σ H Q := PW.w (pw_or1 pt_W) h
theorem w_and {bs : List Expr} {Q : Bool → Hp → Prop} (h : wT X a σ H fun k H1 => if k = true then wW X (.BoolOp .And (b :: bs) pos) σ H1 Q else Q false H1) : wW X (.BoolOp .And (a :: b :: bs) pos) σ H Q := PW.w (pw_and pt_W pw_W) h
theorem w_or {bs : List Expr} {Q : Bool → Hp → Prop} (h : wT X a σ H fun k H1 => if k = true then Q true H1 else wW X (.BoolOp .Or (b :: bs) pos) σ H1 Q) : wW X (.BoolOp .Or (a :: b :: bs) pos) σ H Q := PW.w (pw_or pt_W pw_W) h
theorem w_oneV {op} (h : wE X a σ H Q) : wE X (.BoolOp op [a] pos) σ H Q := PE.w (pe_one pe_W) h
theorem w_andV {bs : List Expr} (h : wE X a σ H fun x H1 => ∃ k, x = .bl k ∧ if k = true then wE X (.BoolOp .And (b :: bs) pos) σ H1 Q else Q (.bl false) H1) : wE X (.BoolOp .And (a :: b :: bs) pos) σ H Q := PE.w (pe_and pe_W pe_W) h
theorem w_nil {Q : List V → Hp → Prop} (h : Q [] H) : wA X [] σ H Q := PA.w pa_nil h
theorem w_cons {Q : List V → Hp → Prop} (h : wE X e σ H fun x H1 => wA X es σ H1 fun xs H2 => Q (x :: xs) H2) (hs : starEach (e :: es) X.env = (false, eval e X.env) :: starEach es X.env := by rfl) : wA X (e :: es) σ H Q := PA.w (pa_cons pe_W pa_W hs) h
theorem w_lst (h : wA X es σ H fun xs H1 => xs.length ≤ sizeLine ∧ ∀ p, H1 p = none → Q (.ref p) (upd H1 p (.lst xs))) : wE X (.List es pos) σ H Q := PE.w (pe_lst pa_W) h
theorem w_callB {id : String} (h : wA X (e :: es) σ H fun vs H1 => callW X (.builtin id) σ vs H1 Q) (hm : X.mg n = none) (hv : bootBuiltins n = some (.builtin id)) (hg : Gl X n := by rfl) (hn : n ≠ "__name__" := by decide) (hdb : (n == ("__debug__" : Str)) = false := by decide)
    (he : starEach (e :: es) X.env = (false, eval e X.env) :: starEach es X.env := by rfl) (hpl : (backTo pos (starEach es X.env)).any (·.1) = false := by rfl) : wE X (.Call (.Name n pos') (e :: es) [] pos) σ H Q := wE.mk fun pins s I =>
  wpAny_Call_Name_kw (ld_blt I hg hm hv (PyProof.Rows.callWith_builtin1 (thn (h.out pos pins s I) fun us s1 ⟨vs, H1, I1, r1, q1⟩ => q1 pins s1 us I1 r1) he hpl) hn hdb)
theorem w_callTy {T : String} (h : wA X (e :: es) σ H fun vs H1 => callW X (.type T) σ vs H1 Q) (hm : X.mg n = none) (hv : bootBuiltins n = some (.type T)) (hg : Gl X n := by rfl) (hn : n ≠ "__name__" := by decide) (hdb : (n == ("__debug__" : Str)) = false := by decide)
    (he : starEach (e :: es) X.env = (false, eval e X.env) :: starEach es X.env := by rfl) (hpl : (backTo pos (starEach es X.env)).any (·.1) = false := by rfl) : wE X (.Call (.Name n pos') (e :: es) [] pos) σ H Q := wE.mk fun pins s I =>
  wpAny_Call_Name_kw (ld_blt I hg hm hv (PyProof.Rows.callWith_type1 (thn (h.out pos pins s I) fun us s1 ⟨vs, H1, I1, r1, q1⟩ => q1 pins s1 us I1 r1) he hpl) hn hdb)
theorem w_glob {u : Value} (h : Q v H) (hm : X.mg n = some u) (r : RelV v u) (hg : Gl X n := by rfl) (hd : (n == ("__debug__" : Str)) = false := by decide) : wE X (.Name n pos) σ H Q := PE.w (pe_glob hg hm r hd) h

theorem run_W {k : Nat} {f : Addr} {sp : Sp} {W : WX} {vs : List V} (F : FnR X.prog X.w X.K X.mg X.base (L2N.CX X.prog X.w) k f sp) (hr : Room k X.A) (tk : L2N.Takes X W) (h : sp vs H Q fun cls d H' => W cls d σ H') : callW X (.ref f) σ vs H Q := fun pins s us I r => by
  refine wpAny_call (codeAny_mono (F X.A X.stack s H us vs Q _ hr I.env0 r h) fun r s' hq => ?_)
  cases r with
  | error e => exact L2N.passAt tk σ pins H s e s' I hq
  | ok fl =>
    cases fl with
    | ret u => exact I.after hq
    | next => exact False.elim hq
    | brk => exact False.elim hq
    | cont => exact False.elim hq
theorem w_call {f : Addr} (h : wA X (e :: es) σ H fun vs H1 => callW X (.ref f) σ vs H1 Q) (hm : X.mg n = some (.ref f)) (hk : PySem.W.keepIn X.K (.ref f) = true) (hg : Gl X n := by rfl) (hdb : (n == ("__debug__" : Str)) = false := by decide)
    (he : starEach (e :: es) X.env = (false, eval e X.env) :: starEach es X.env := by rfl) (hpl : (backTo pos (starEach es X.env)).any (·.1) = false := by rfl) : wE X (.Call (.Name n pos') (e :: es) [] pos) σ H Q := wE.mk fun pins s I =>
  wpAny_Call_Name_kw (ld_glob I hg hm (PySem.W.callWith_K (h₀ := X.base) I.ok.mod.kin hk (thn (h.out pos pins s I) fun us s1 ⟨vs, H1, I1, r, q⟩ => ⟨I1.kIn, q pins s1 us I1 r⟩) he hpl) hdb)
theorem w_fld {f : Str} (h : wE X o σ H fun x H1 => ∃ a C dx fs v, x = .ref a ∧ H1 a = some (.ins C dx fs) ∧ Cls X.K C ∧ NoAttr X.K C f ∧ fs.lookup f = some v ∧ Q v H1) (hb : attributeBase o f X.env (eval o X.env) = eval o X.env := by rfl) : wE X (.Attribute o f pos) σ H Q := PE.w (pe_fld pe_W hb) h

theorem b_nil (h : D.nx σ H) : wB X [] D σ H := PSs.w pss_nil h
theorem b_cons (h : wS X st { D with nx := fun σ' H' => wB X ss D σ' H' } σ H) : wB X (st :: ss) D σ H := PSs.w (pss_cons ps_W pss_W) h
theorem s_ret (h : wE X e σ H D.rt) : wS X (.Return (some e) pos) D σ H := PS.w (ps_ret pe_W) h
theorem s_if {s1 s2 : List Stmt} (h : wT X c σ H fun k H1 => if k = true then wB X s1 D σ H1 else wB X s2 D σ H1) : wS X (.If c s1 s2 pos) D σ H := PS.w (ps_if pt_W pss_W pss_W) h
theorem s_set (i : Nat) (h : wE X e σ H fun x H1 => D.nx (σ.set i (some x)) H1) (hN : X.N.Nodup) (hi : X.N[i]? = some n := by rfl) (hx : Loc X.env.scope n := by first | exact Or.inl rfl | exact Or.inr rfl) (hs : swapsWith e (some (.Name n pos')) pos.line X.env = pure false := by rfl) (hf : X.fn n = true ∨ X.env.scope.names.lookup n = some .local := by first | exact .inl rfl | exact .inr rfl | assumption) :
    wS X (.Assign [.Name n pos'] e pos) D σ H := PS.w (ps_set hN hi hx pe_W hs hf) h
theorem s_fld {f : Str} (h : wE X e σ H fun y H1 => wE X o σ H1 fun x H2 => ∃ a C dx fs, x = .ref a ∧ H2 a = some (.ins C dx fs) ∧ Cls X.K C ∧ NoAttr X.K C f ∧ fs.length < 1000 ∧ D.nx σ (upd H2 a (.ins C dx (putF f y fs))))
    (hs : swapsWith e (some (.Attribute o f pos')) pos.line X.env = pure false := by rfl) : wS X (.Assign [.Attribute o f pos'] e pos) D σ H := PS.w (ps_fld pe_W pe_W hs) h
theorem s_raise {W : WX} {t : L2.St → Hp → XK → Prop} (hc : X.calm = true) (tk : L2N.Takes X W) (he : L2N.PMk X e t) (h : t σ H fun cls d H' => W cls d σ H') : wS X (.Raise (some e) none pos) D σ H := PS.w (L2N.ps_raise hc tk he) h
theorem b_mono {D' : Ends} (h : wB X ss D σ H) (h1 : ∀ σ' H', D.nx σ' H' → D'.nx σ' H') (h2 : ∀ v H', D.rt v H' → D'.rt v H') (h3 : ∀ σ' H', D.bk σ' H' → D'.bk σ' H') (h4 : ∀ σ' H', D.ct σ' H' → D'.ct σ' H') : wB X ss D' σ H := wB.mk fun pins s I =>
  thn (h.out pins s I) fun f s' q => by
    cases f with
    | next => obtain ⟨a, b, c, d⟩ := q; exact ⟨a, b, c, h1 _ _ d⟩
    | brk => obtain ⟨a, b, c, d⟩ := q; exact ⟨a, b, c, h3 _ _ d⟩
    | cont => obtain ⟨a, b, c, d⟩ := q; exact ⟨a, b, c, h4 _ _ d⟩
    | ret u => obtain ⟨v, a, b, c, r, d⟩ := q; exact ⟨v, a, b, c, r, h2 _ _ d⟩
end
end L2.Tr

namespace PySem.W
open PySem PySem.Calls PyProof.Rows
section
variable {prog : Program} {w : World} {A : Around} {E : Value → Shared → Prop} {s : Shared} {K : Frag} {x C dx L f : Addr} {h₀ : Heap} {m : Str → Option Value} {ox : Obj} {od : Option Obj} {nm : String}
end
end PySem.W

namespace L2.Tr
open PySem PySem.Spec PyProof.Rows

inductive Pay where
  | int (i : Int) | str (s : Str) | bl (b : Bool) | non | frac (q : Rat) | wts (f : Str) (xs : List Rat)
structure Exn where
  cls : Str
  pay : List (Str × Pay)
inductive Res (α : Type) where
  | ok (a : α) | err (e : Exn) | stuck
namespace Res
variable {α β γ : Type}
def bind (m : Res α) (f : α → Res β) : Res β := match m with
  | .ok a => f a
  | .err e => .err e
  | .stuck => .stuck
@[simp] theorem ok_bind (a : α) (f : α → Res β) : (ok a).bind f = f a := rfl
@[simp] theorem err_bind (e : Exn) (f : α → Res β) : (err e : Res α).bind f = err e := rfl
@[simp] theorem stuck_bind (f : α → Res β) : (stuck : Res α).bind f = stuck := rfl
theorem bind_assoc (m : Res α) (f : α → Res β) (g : β → Res γ) : (m.bind f).bind g = m.bind fun a => (f a).bind g := by cases m <;> rfl
theorem bind_ok (m : Res α) : (m.bind fun a => ok a) = m := by cases m <;> rfl
def guard (p : Prop) [Decidable p] (m : Res α) : Res α := if p then m else stuck
theorem guard_pos {p : Prop} [Decidable p] (h : p) (m : Res α) : guard p m = m := if_pos h
end Res

abbrev Ra (α : Type) := Hp → Hp → V → α → Prop
abbrev Rp (α : Type) := Hp → V → α → Prop
abbrev rp {α : Type} (r : Rp α) : Ra α := fun I _ v x => r I v x
class Mo {α : Type} (r : Rp α) : Prop where
  up : ∀ {I I' : Hp} {v : V} {x : α}, Same I I' → r I v x → r I' v x
class MoA {α : Type} (r : Ra α) : Prop where
  up : ∀ {I H I' H' : Hp} {v : V} {x : α}, Same I I' → Same H H' → r I H v x → r I' H' v x
instance {α : Type} {r : Rp α} [m : Mo r] : MoA (rp r) := ⟨fun a _ h => m.up a h⟩
instance {α : Type} {r : Ra α} {H0 : Hp} [m : MoA r] : Mo (fun I v x => r I H0 v x) := ⟨fun a h => m.up a (Same.refl _) h⟩

def rInt : Rp Int := fun _ v x => v = .int x
def rBl : Rp Bool := fun _ v x => v = .bl x
def rStr : Rp Str := fun _ v x => v = .str x
def rNon : Rp Unit := fun _ v _ => v = .non
instance : Mo rInt := ⟨fun _ h => h⟩
instance : Mo rBl := ⟨fun _ h => h⟩
instance : Mo rStr := ⟨fun _ h => h⟩
instance : Mo rNon := ⟨fun _ h => h⟩
def frF (q : Rat) : List (Str × V) := [("top", .int q.num), ("bottom", .int (q.den : Int))]
def rFrac (K : PySem.W.Frag) : Rp Rat := fun I v q => ∃ a dx, v = .ref a ∧ I a = some (.ins (He.ga K "Fraction") dx (frF q))
instance {K : PySem.W.Frag} : Mo (rFrac K) := ⟨fun s ⟨a, dx, e, h⟩ => ⟨a, dx, e, s _ _ h⟩⟩
inductive Num where
  | i (n : Int) | q (r : Rat)
def Num.val : Num → Rat
  | .i n => (n : Rat)
  | .q r => r
def rNum (K : PySem.W.Frag) : Rp Num := fun I v x => match x with
  | .i n => v = .int n
  | .q r => rFrac K I v r
instance {K : PySem.W.Frag} : Mo (rNum K) := ⟨fun {I I' v x} s h => by
  cases x with
  | i n => exact h
  | q r => exact Mo.up (r := rFrac K) s h⟩
def rL {α : Type} (r : Rp α) : Rp (List α) := fun I v xs => ∃ l vs, v = .ref l ∧ I l = some (.lst vs) ∧ Paired (r I) vs xs
instance {α : Type} {r : Rp α} [m : Mo r] : Mo (rL r) := ⟨fun s ⟨l, vs, e, h, p⟩ => ⟨l, vs, e, s _ _ h, Paired.mapP p fun _ _ q => m.up s q⟩⟩
def rT {α : Type} (r : Rp α) : Rp (List α) := fun I v xs => ∃ l vs, v = .ref l ∧ I l = some (.tup vs) ∧ Paired (r I) vs xs
instance {α : Type} {r : Rp α} [m : Mo r] : Mo (rT r) := ⟨fun s ⟨l, vs, e, h, p⟩ => ⟨l, vs, e, s _ _ h, Paired.mapP p fun _ _ q => m.up s q⟩⟩
def rdL {α : Type} (K : PySem.W.Frag) (r : Ra α) : Ra (List α) := fun I H v xs => ∃ l vs, v = .ref l ∧ SqL K H l vs ∧ Paired (r I H) vs xs
instance {α : Type} {K : PySem.W.Frag} {r : Ra α} [m : MoA r] : MoA (rdL K r) := ⟨fun s t ⟨l, vs, e, h, p⟩ => ⟨l, vs, e, t.seq h, Paired.mapP p fun _ _ q => m.up s t q⟩⟩

def PayR (K : PySem.W.Frag) (I : Hp) (v : V) : Pay → Prop
  | .int i => v = .int i
  | .str s => v = .str s
  | .bl b => v = .bl b
  | .non => v = .non
  | .frac q => rFrac K I v q
  | .wts f xs => ∃ a dx b dy l vs, v = .ref a ∧ I a = some (.ins (He.ga K "Weights") dx [("form", .str f), ("root", .ref b)]) ∧ I b = some (.ins (He.ga K "Polynomial") dy [("kept", .ref l)]) ∧ I l = some (.lst vs) ∧ Paired (rFrac K I) vs xs
def ExR (K : PySem.W.Frag) (I H : Hp) (e : Exn) (cls : Value) (d : Option Addr) : Prop := cls = .ref (He.ga K e.cls) ∧ (match d with
  | none => e.pay = []
  | some a => e.pay ≠ [] ∧ ∃ fs : List (Str × V), H a = some (.xd fs) ∧ I a = none ∧ Paired (fun (p : Str × V) (q : Str × Pay) => p.1 = q.1 ∧ PayR K I p.2 q.2) fs e.pay)

structure Fm (I H I' H' : Hp) : Prop where
  i : Same I I'
  h : Same H H'
  ih : Same I' H'
  mu : ∀ l, I l = none → H l ≠ none → I' l = none
theorem Fm.refl {I H : Hp} (h : Same I H) : Fm I H I H := ⟨Same.refl _, Same.refl _, h, fun _ e _ => e⟩
theorem Fm.trans {I H I1 H1 I2 H2 : Hp} (a : Fm I H I1 H1) (b : Fm I1 H1 I2 H2) : Fm I H I2 H2 :=
  ⟨a.i.trans b.i, a.h.trans b.h, b.ih, fun l e n => b.mu l (a.mu l e n) fun q => by
    cases z : H l with
    | none => exact n z
    | some o => rw [a.h l o z] at q; cases q⟩
theorem Fm.newM {I H : Hp} {p : Addr} {o : HO} (s : Same I H) (h : H p = none) : Fm I H I (upd H p o) :=
  ⟨Same.refl _, fun b u e => by rw [upd_ne (ne_of_none e h)]; exact e, fun b u e => by rw [upd_ne (ne_of_none (s _ _ e) h)]; exact s _ _ e, fun l e n => e⟩

def Fr (H : Hp) (d : Option Addr) : Prop := ∀ a, d = some a → H a = none
theorem Fr.back {H H' : Hp} {d : Option Addr} (f : Fr H' d) (s : Same H H') : Fr H d := fun a e => s.free (f a e)
def PostE {α : Type} (K : PySem.W.Frag) (m : Res α) (r : Ra α) (I H : Hp) (E : XK) (Q : VK) : Prop := match m with
  | .ok a => ∀ I' H' v, Fm I H I' H' → r I' H' v a → Q v H'
  | .err e => ∀ I' H' cls d, Fm I H I' H' → Fr H d ∧ ExR K I' H' e cls d → E cls d H'
  | .stuck => False
theorem PostE.up {α : Type} {K : PySem.W.Frag} {m : Res α} {r : Ra α} {I H I1 H1 : Hp} {E : XK} {Q : VK} (h : PostE K m r I H E Q) (f : Fm I H I1 H1) : PostE K m r I1 H1 E Q := by
  cases m with
  | ok a => exact fun I' H' v g => h I' H' v (f.trans g)
  | err e => exact fun I' H' c d g x => h I' H' c d (f.trans g) ⟨x.1.back f.h, x.2⟩
  | stuck => exact h
theorem PostE.imp {α : Type} {K : PySem.W.Frag} {m : Res α} {r : Ra α} {I H : Hp} {E : XK} {Q Q' : VK} (h : PostE K m r I H E Q) (g : ∀ v H', Q v H' → Q' v H') : PostE K m r I H E Q' := by
  cases m with
  | ok a => exact fun I' H' v f r => g _ _ (h I' H' v f r)
  | err e => exact h
  | stuck => exact h

structure SF where
  {α : Type}
  r : Rp α
  [mo : Mo r]
  x : α
structure MF where
  Q : Hp → Hp → List Addr → Prop
  mo : ∀ {I I' H : Hp} {fp : List Addr}, Same I I' → Q I H fp → Q I' H fp
  lo : ∀ {I H H' : Hp} {fp : List Addr}, (∀ a, a ∈ fp → H' a = H a) → Q I H fp → Q I H' fp
def MF.one (l : Addr) (P : Hp → HO → Prop) (mo : ∀ {I I' : Hp} {o : HO}, Same I I' → P I o → P I' o) : MF := ⟨fun I H fp => fp = [l] ∧ ∃ o, H l = some o ∧ P I o, fun s ⟨e, o, h, p⟩ => ⟨e, o, h, mo s p⟩, fun k ⟨e, o, h, p⟩ => ⟨e, o, by rw [k l (by rw [e]; exact List.mem_singleton_self l)]; exact h, p⟩⟩
def MF.lst {α : Type} (l : Addr) (r : Rp α) [m : Mo r] (xs : List α) : MF := .one l (fun I o => ∃ vs, o = .lst vs ∧ Paired (r I) vs xs) (fun s ⟨vs, e, p⟩ => ⟨vs, e, Paired.mapP p fun _ _ q => m.up s q⟩)
def FldR (I : Hp) : List (Str × V) → List (Str × SF) → Prop
  | [], [] => True
  | p :: fs, q :: gs => p.1 = q.1 ∧ q.2.r I p.2 q.2.x ∧ FldR I fs gs
  | _, _ => False
theorem FldR.up {I I' : Hp} (s : Same I I') : ∀ {fs : List (Str × V)} {gs : List (Str × SF)}, FldR I fs gs → FldR I' fs gs
  | [], [], h => h
  | _ :: _, q :: _, ⟨a, b, c⟩ => ⟨a, q.2.mo.up s b, FldR.up s c⟩
  | [], _ :: _, h => h
  | _ :: _, [], h => h
def MF.ins (l C dx : Addr) (gs : List (Str × SF)) : MF := .one l (fun I o => ∃ fs, o = .ins C dx fs ∧ FldR I fs gs) (fun s ⟨fs, e, p⟩ => ⟨fs, e, FldR.up s p⟩)
def Regs (I H : Hp) : List MF → List (List Addr) → Prop
  | [], [] => True
  | c :: mem, fp :: fps => c.Q I H fp ∧ Regs I H mem fps
  | _, _ => False
structure Stt (I0 H0 : Hp) (ctx : List (Option SF)) (mem : List MF) (I H : Hp) (σ : St) : Prop where
  fm : Fm I0 H0 I H
  len : σ.length = ctx.length
  sl : ∀ (i : Nat) (sf : SF), ctx[i]? = some (some sf) → ∃ v, σ[i]? = some (some v) ∧ sf.r I v sf.x
  me : ∃ fps, Regs I H mem fps ∧ fps.flatten.Nodup ∧ ∀ a, a ∈ fps.flatten → H0 a = none ∧ I a = none ∧ H a ≠ none
theorem Regs.up {I I' H H' : Hp} (s : Same I I') : ∀ {mem : List MF} {fps : List (List Addr)}, (∀ a, a ∈ fps.flatten → H' a = H a) → Regs I H mem fps → Regs I' H' mem fps
  | [], [], _, h => h
  | c :: _, fp :: fps, k, ⟨a, b⟩ => ⟨c.lo (fun x hx => k x (by rw [List.flatten_cons]; exact List.mem_append_left _ hx)) (c.mo s a), Regs.up s (fun x hx => k x (by rw [List.flatten_cons]; exact List.mem_append_right _ hx)) b⟩
  | [], _ :: _, _, h => h
  | _ :: _, [], _, h => h
theorem Regs.get {I H : Hp} : ∀ {mem : List MF} {fps : List (List Addr)} {j : Nat} {c : MF}, Regs I H mem fps → mem[j]? = some c → ∃ fp, fps[j]? = some fp ∧ c.Q I H fp
  | [], _, _, _, _, e => by simp at e
  | d :: _, fp :: _, 0, c, ⟨a, _⟩, e => ⟨fp, rfl, by
    have : d = c := by simpa using e
    rw [← this]; exact a⟩
  | _ :: mem, _ :: fps, j + 1, c, ⟨_, b⟩, e => by
    have e' : mem[j]? = some c := by simpa using e
    obtain ⟨fp, e1, q⟩ := Regs.get b e'
    exact ⟨fp, by simpa using e1, q⟩
  | _ :: _, [], _, _, h, _ => h.elim
section
variable {I0 H0 I H I' H' : Hp} {ctx : List (Option SF)} {mem : List MF} {σ : St}
theorem Stt.same (s : Stt I0 H0 ctx mem I H σ) : Same I H := s.fm.ih
theorem Stt.step (s : Stt I0 H0 ctx mem I H σ) (f : Fm I H I' H') : Stt I0 H0 ctx mem I' H' σ := by
  obtain ⟨fps, rg, nd, k⟩ := s.me
  have key : ∀ a, a ∈ fps.flatten → H' a = H a := fun a ha => by
    obtain ⟨_, _, h3⟩ := k a ha
    cases e : H a with
    | none => exact absurd e h3
    | some o => exact f.h _ _ e
  refine ⟨s.fm.trans f, s.len, fun i sf e => ?_, fps, rg.up f.i key, nd, fun a ha => ?_⟩
  · obtain ⟨v, e1, h⟩ := s.sl i sf e
    exact ⟨v, e1, sf.mo.up f.i h⟩
  · obtain ⟨h1, h2, h3⟩ := k a ha
    exact ⟨h1, f.mu _ h2 h3, by rw [key a ha]; exact h3⟩
theorem Stt.me1 (s : Stt I0 H0 ctx mem I H σ) {j : Nat} {l : Addr} {P : Hp → HO → Prop} {c : MF} (hj : mem[j]? = some c) (hc : ∀ {I H : Hp} {fp : List Addr}, c.Q I H fp → fp = [l] ∧ ∃ o, H l = some o ∧ P I o) : H0 l = none ∧ I l = none ∧ ∃ o, H l = some o ∧ P I o := by
  obtain ⟨fps, rg, nd, k⟩ := s.me
  obtain ⟨fp, e, q⟩ := rg.get hj
  obtain ⟨e1, q⟩ := hc q
  obtain ⟨h1, h2, _⟩ := k l (List.mem_flatten.mpr ⟨fp, List.mem_of_getElem? e, by rw [e1]; exact List.mem_singleton_self l⟩)
  exact ⟨h1, h2, q⟩
theorem Stt.insAt (s : Stt I0 H0 ctx mem I H σ) {j : Nat} {l C dx : Addr} {gs : List (Str × SF)} (hj : mem[j]? = some (MF.ins l C dx gs)) : H0 l = none ∧ I l = none ∧ ∃ o, H l = some o ∧ ∃ fs, o = .ins C dx fs ∧ FldR I fs gs :=
  s.me1 (P := fun I o => ∃ fs, o = .ins C dx fs ∧ FldR I fs gs) hj fun q => q
theorem Stt.set (s : Stt I0 H0 ctx mem I H σ) (i : Nat) {α : Type} {r : Rp α} [mo : Mo r] {x : α} {v : V} (h : r I v x) : Stt I0 H0 (ctx.set i (some ⟨r, x⟩)) mem I H (σ.set i (some v)) := by
  refine ⟨s.fm, by rw [List.length_set, List.length_set]; exact s.len, fun j sf e => ?_, s.me⟩
  by_cases hj : j = i
  · subst hj
    rw [List.getElem?_set] at e
    by_cases hl : j < ctx.length
    · simp only [hl, if_true] at e
      cases e
      exact ⟨v, by rw [List.getElem?_set]; simp [s.len, hl], h⟩
    · simp only [hl, if_true, if_false] at e
      cases e
  · rw [List.getElem?_set_ne (Ne.symm hj)] at e
    obtain ⟨w, e1, q⟩ := s.sl j sf e
    exact ⟨w, by rw [List.getElem?_set_ne (Ne.symm hj)]; exact e1, q⟩
end
section
variable {α β γ δ : Type}
def JE (X : Cx) (I0 H0 : Hp) (W : WX) (ctx : List (Option SF)) (mem : List MF) (e : Expr) (m : Res α) (r : Ra α) : Prop :=
  ∀ (I H : Hp) (σ : St) (Q : VK), Stt I0 H0 ctx mem I H σ → PostE X.K m r I H (fun cls d H' => W cls d σ H') Q → wE X e σ H Q
def JT (X : Cx) (I0 H0 : Hp) (W : WX) (ctx : List (Option SF)) (mem : List MF) (e : Expr) (m : Res Bool) : Prop :=
  ∀ (I H : Hp) (σ : St) (Q : Bool → Hp → Prop), Stt I0 H0 ctx mem I H σ → PostE X.K m (rp rBl) I H (fun cls d H' => W cls d σ H') (fun v H' => ∀ b, v = .bl b → Q b H') → wT X e σ H Q
def OpJ (X : Cx) (W : WX) (f : Value → Value → Sem Value) (ra : Ra α) (rb : Ra β) (g : α → β → Res γ) (rc : Ra γ) : Prop :=
  ∀ (I H : Hp) (σ : St) (Q : VK) (u v : V) (x : α) (y : β), Same I H → ra I H u x → rb I H v y → PostE X.K (g x y) rc I H (fun cls d H' => W cls d σ H') Q → opW X f σ u v H Q
def UnJ (X : Cx) (W : WX) (f : Value → Sem Value) (ra : Ra α) (g : α → Res γ) (rc : Ra γ) : Prop :=
  ∀ (I H : Hp) (σ : St) (Q : VK) (u : V) (x : α), Same I H → ra I H u x → PostE X.K (g x) rc I H (fun cls d H' => W cls d σ H') Q → unW X f σ u H Q
def CallJ (X : Cx) (W : WX) (f : Value) (R : Hp → Hp → List V → δ → Prop) (g : δ → Res γ) (rc : Ra γ) : Prop :=
  ∀ (I H : Hp) (σ : St) (Q : VK) (vs : List V) (x : δ), Same I H → R I H vs x → PostE X.K (g x) rc I H (fun cls d H' => W cls d σ H') Q → callW X f σ vs H Q
def JA (X : Cx) (I0 H0 : Hp) (W : WX) (ctx : List (Option SF)) (mem : List MF) (es : List Expr) (m : Res δ) (R : Hp → Hp → List V → δ → Prop) : Prop :=
  ∀ (I H : Hp) (σ : St) (Q : List V → Hp → Prop), Stt I0 H0 ctx mem I H σ → (match m with
    | .ok a => ∀ I' H' vs, Fm I H I' H' → R I' H' vs a → Q vs H'
    | .err e => ∀ I' H' cls d, Fm I H I' H' → Fr H d ∧ ExR X.K I' H' e cls d → W cls d σ H'
    | .stuck => False) → wA X es σ H Q
def aNil : Hp → Hp → List V → Unit → Prop := fun _ _ vs _ => vs = []
def aCons (r : Ra α) (R : Hp → Hp → List V → δ → Prop) : Hp → Hp → List V → α × δ → Prop := fun I H vs x => ∃ v ws, vs = v :: ws ∧ r I H v x.1 ∧ R I H ws x.2

variable {X : Cx} {I0 H0 : Hp} {W : WX} {ctx : List (Option SF)} {mem : List MF} {e a b c o : Expr} {es : List Expr} {pos pos' : Pos} {n : Str} {ra : Ra α} {rb : Ra β} {rc : Ra γ} {ma : Res α} {mb : Res β}

theorem JE.co {m : Res α} {r : Ra α} {r' : Ra α} (j : JE X I0 H0 W ctx mem e m r) (c : ∀ I H v x, Same I H → r I H v x → r' I H v x) : JE X I0 H0 W ctx mem e m r' := fun I H σ Q st p => j I H σ Q st (by
  cases m with
  | ok a => exact fun I' H' v f q => p I' H' v f (c _ _ _ _ f.ih q)
  | err e => exact p
  | stuck => exact p)
theorem JE.map {m : Res α} {r : Ra α} {r' : Ra β} {g : α → β} (j : JE X I0 H0 W ctx mem e m r) (c : ∀ I H v x, Same I H → r I H v x → r' I H v (g x)) : JE X I0 H0 W ctx mem e (m.bind fun x => .ok (g x)) r' := fun I H σ Q st p => j I H σ Q st (by
  cases m with
  | ok a => exact fun I' H' v f q => p I' H' v f (c _ _ _ _ f.ih q)
  | err e => exact p
  | stuck => exact p)
theorem JE.var (i : Nat) {r : Rp α} {mo : Mo r} {x : α} (hc : ctx[i]? = some (some (@SF.mk α r mo x)) := by rfl) (hN : X.N[i]? = some n := by rfl) (hv : Vis X.env.scope n := by first | exact Or.inl rfl | exact Or.inr (Or.inl rfl) | exact Or.inr (Or.inr rfl)) (hd : (n == ("__debug__" : Str)) = false := by decide)
    (hcd : (n == ("__classdict__" : Str)) = false := by decide) : JE X I0 H0 W ctx mem (.Name n pos) (.ok x) (rp r) := fun I H σ Q st p => by
  obtain ⟨v, e, h⟩ := st.sl i _ hc
  exact w_var i (p I H v (Fm.refl st.same) h) e hN hv hd hcd
theorem JE.varP (i : Nat) {r : Ra α} {mo : Mo (fun I v x => r I H0 v x)} {x : α} [m : MoA r] (hc : ctx[i]? = some (some (@SF.mk α (fun I v x => r I H0 v x) mo x)) := by rfl) (hN : X.N[i]? = some n := by rfl) (hv : Vis X.env.scope n := by first | exact Or.inl rfl | exact Or.inr (Or.inl rfl) | exact Or.inr (Or.inr rfl)) (hd : (n == ("__debug__" : Str)) = false := by decide)
    (hcd : (n == ("__classdict__" : Str)) = false := by decide) : JE X I0 H0 W ctx mem (.Name n pos) (.ok x) r := fun I H σ Q st p => by
  obtain ⟨v, e, h⟩ := st.sl i _ hc
  exact w_var i (p I H v (Fm.refl st.same) (m.up (Same.refl _) st.fm.h h)) e hN hv hd hcd
theorem JE.int {i : Int} {j} : JE X I0 H0 W ctx mem (.Constant (.int i) j pos) (.ok i) (rp rInt) := fun I H σ Q st p => w_int (p I H _ (Fm.refl st.same) rfl)
theorem JE.bl {i : Bool} {j} : JE X I0 H0 W ctx mem (.Constant (.bool i) j pos) (.ok i) (rp rBl) := fun I H σ Q st p => w_bl (p I H _ (Fm.refl st.same) rfl)
theorem JE.str {i : Str} {j} : JE X I0 H0 W ctx mem (.Constant (.str i) j pos) (.ok i) (rp rStr) := fun I H σ Q st p => w_str (p I H _ (Fm.refl st.same) rfl)
theorem JE.bin {op : Operator} {g : α → β → Res γ} [MoA ra] (ja : JE X I0 H0 W ctx mem a ma ra) (jb : JE X I0 H0 W ctx mem b mb rb) (o : OpJ X W (binaryOp op) ra rb g rc) : JE X I0 H0 W ctx mem (.BinOp a op b pos) (ma.bind fun x => mb.bind fun y => g x y) rc := fun I H σ Q st p => by
  refine w_bin (ja I H σ _ st ?_)
  cases ma with
  | ok x =>
    intro I1 H1 u f1 r1
    refine jb I1 H1 σ _ (st.step f1) ?_
    have p1 := PostE.up p f1
    cases mb with
    | ok y => exact fun I2 H2 v f2 r2 => o I2 H2 σ Q u v x y f2.ih (MoA.up f2.i f2.h r1) r2 (PostE.up p1 f2)
    | err e => exact p1
    | stuck => exact p1
  | err e => exact p
  | stuck => exact p
theorem JE.cmp {op : CmpOp} {g : α → β → Res γ} [MoA ra] (ja : JE X I0 H0 W ctx mem a ma ra) (jb : JE X I0 H0 W ctx mem b mb rb) (o : OpJ X W (compareOp op) ra rb g rc) (hm : behindInMarks op b = false := by first | exact nomark _ | rfl) : JE X I0 H0 W ctx mem (.Compare a [op] [b] pos) (ma.bind fun x => mb.bind fun y => g x y) rc := fun I H σ Q st p => by
  refine w_cmp (ja I H σ _ st ?_) hm
  cases ma with
  | ok x =>
    intro I1 H1 u f1 r1
    refine jb I1 H1 σ _ (st.step f1) ?_
    have p1 := PostE.up p f1
    cases mb with
    | ok y => exact fun I2 H2 v f2 r2 => o I2 H2 σ Q u v x y f2.ih (MoA.up f2.i f2.h r1) r2 (PostE.up p1 f2)
    | err e => exact p1
    | stuck => exact p1
  | err e => exact p
  | stuck => exact p
theorem JT.cmp {op : CmpOp} {g : α → β → Res Bool} [MoA ra] (ja : JE X I0 H0 W ctx mem a ma ra) (jb : JE X I0 H0 W ctx mem b mb rb) (o : OpJ X W (compareOp op) ra rb g (rp rBl)) (hm : behindInMarks op b = false := by first | exact nomark _ | rfl) : JT X I0 H0 W ctx mem (.Compare a [op] [b] pos) (ma.bind fun x => mb.bind fun y => g x y) := fun I H σ Q st p => by
  refine w_tcmp (ja I H σ _ st ?_) hm
  cases ma with
  | ok x =>
    intro I1 H1 u f1 r1
    refine jb I1 H1 σ _ (st.step f1) ?_
    have p1 := PostE.up p f1
    cases mb with
    | ok y =>
      intro I2 H2 v f2 r2
      refine o I2 H2 σ _ u v x y f2.ih (MoA.up f2.i f2.h r1) r2 ?_
      have p2 := PostE.up p1 f2
      revert p2
      show PostE X.K (g x y) _ _ _ _ _ → _
      generalize g x y = z
      intro p2
      cases z with
      | ok k => intro I3 H3 v3 f3 r3; cases r3; exact tru_bl (p2 I3 H3 _ f3 rfl k rfl)
      | err e => exact p2
      | stuck => exact p2
    | err e => exact p1
    | stuck => exact p1
  | err e => exact p
  | stuck => exact p
theorem JE.un {op : UnaryOp} {g : α → Res γ} (ja : JE X I0 H0 W ctx mem a ma ra) (o : UnJ X W (unaryOp op) ra g rc) : JE X I0 H0 W ctx mem (.UnaryOp op a pos) (ma.bind fun x => g x) rc := fun I H σ Q st p => by
  refine w_un (ja I H σ _ st ?_)
  cases ma with
  | ok x => exact fun I1 H1 u f1 r1 => o I1 H1 σ Q u x f1.ih r1 (PostE.up p f1)
  | err e => exact p
  | stuck => exact p
theorem JT.of {m : Res Bool} (j : JE X I0 H0 W ctx mem e m (rp rBl)) (he : ∀ whole, isTrue e X.env whole = (do let v ← whole; standAt e.pos; holding [v] (truthy v)) := by intro _; rfl) : JT X I0 H0 W ctx mem e m := fun I H σ Q st p => by
  refine w_t (j I H σ _ st ?_) he
  cases m with
  | ok k => intro I1 H1 v f1 r1; cases r1; exact tru_bl (p I1 H1 _ f1 rfl k rfl)
  | err e => exact p
  | stuck => exact p
theorem JT.not {m : Res Bool} (j : JT X I0 H0 W ctx mem e m) : JT X I0 H0 W ctx mem (.UnaryOp .Not e pos) (m.bind fun b => .ok (!b)) := fun I H σ Q st p => by
  refine w_not (j I H σ _ st ?_)
  cases m with
  | ok k => exact fun I1 H1 v f1 r1 b hb => by cases r1; cases hb; exact p I1 H1 _ f1 rfl _ rfl
  | err e => exact p
  | stuck => exact p
end
end L2.Tr

namespace L2.Tr
open PySem PySem.Spec PyProof.Rows
section
variable {α β γ δ S : Type}
def JW (X : Cx) (I0 H0 : Hp) (W : WX) (ctx : List (Option SF)) (mem : List MF) (e : Expr) (m : Res Bool) : Prop :=
  ∀ (I H : Hp) (σ : St) (Q : Bool → Hp → Prop), Stt I0 H0 ctx mem I H σ → PostE X.K m (rp rBl) I H (fun cls d H' => W cls d σ H') (fun v H' => ∀ b, v = .bl b → Q b H') → wW X e σ H Q
variable {X : Cx} {I0 H0 : Hp} {W : WX} {ctx : List (Option SF)} {mem : List MF} {e a b c o : Expr} {es bs : List Expr} {pos pos' : Pos} {n : Str} {ra : Ra α} {rb : Ra β} {rc : Ra γ} {ma : Res α} {mb : Res β} {m1 m2 mc : Res Bool}
theorem JT.bool {op} (j : JW X I0 H0 W ctx mem (.BoolOp op es pos) m1) : JT X I0 H0 W ctx mem (.BoolOp op es pos) m1 := fun I H σ Q st p => w_tbool (j I H σ Q st p)
theorem JW.and1 (j : JT X I0 H0 W ctx mem a m1) : JW X I0 H0 W ctx mem (.BoolOp .And [a] pos) m1 := fun I H σ Q st p => w_and1 (j I H σ Q st p)
theorem JW.or1 (j : JT X I0 H0 W ctx mem a m1) : JW X I0 H0 W ctx mem (.BoolOp .Or [a] pos) m1 := fun I H σ Q st p => w_or1 (j I H σ Q st p)
theorem JW.and (j : JT X I0 H0 W ctx mem a m1) (k : JW X I0 H0 W ctx mem (.BoolOp .And (b :: bs) pos) m2) : JW X I0 H0 W ctx mem (.BoolOp .And (a :: b :: bs) pos) (m1.bind fun x => if x = true then m2 else .ok false) := fun I H σ Q st p => by
  refine w_and (j I H σ _ st ?_)
  cases m1 with
  | ok x =>
    intro I1 H1 v f r y hy
    cases r; cases hy
    have p1 := PostE.up p f
    cases x with
    | true => exact iteT (k I1 H1 σ Q (st.step f) p1)
    | false => exact iteF (p1 I1 H1 _ (Fm.refl f.ih) rfl _ rfl)
  | err e => exact p
  | stuck => exact p
theorem JW.or (j : JT X I0 H0 W ctx mem a m1) (k : JW X I0 H0 W ctx mem (.BoolOp .Or (b :: bs) pos) m2) : JW X I0 H0 W ctx mem (.BoolOp .Or (a :: b :: bs) pos) (m1.bind fun x => if x = true then .ok true else m2) := fun I H σ Q st p => by
  refine w_or (j I H σ _ st ?_)
  cases m1 with
  | ok x =>
    intro I1 H1 v f r y hy
    cases r; cases hy
    have p1 := PostE.up p f
    cases x with
    | true => exact iteT (p1 I1 H1 _ (Fm.refl f.ih) rfl _ rfl)
    | false => exact iteF (k I1 H1 σ Q (st.step f) p1)
  | err e => exact p
  | stuck => exact p
theorem JE.one {op} {m : Res Bool} (j : JE X I0 H0 W ctx mem a m (rp rBl)) : JE X I0 H0 W ctx mem (.BoolOp op [a] pos) m (rp rBl) := fun I H σ Q st p => w_oneV (j I H σ Q st p)
theorem JE.and (j : JE X I0 H0 W ctx mem a m1 (rp rBl)) (k : JE X I0 H0 W ctx mem (.BoolOp .And (b :: bs) pos) m2 (rp rBl)) : JE X I0 H0 W ctx mem (.BoolOp .And (a :: b :: bs) pos) (m1.bind fun x => if x = true then m2 else .ok false) (rp rBl) := fun I H σ Q st p => by
  refine w_andV (j I H σ _ st ?_)
  cases m1 with
  | ok x =>
    intro I1 H1 v f r
    have p1 := PostE.up p f
    refine ⟨x, r, ?_⟩
    cases x with
    | true => exact iteT (k I1 H1 σ Q (st.step f) p1)
    | false => exact iteF (p1 I1 H1 _ (Fm.refl f.ih) rfl)
  | err e => exact p
  | stuck => exact p
theorem JA.nil : JA X I0 H0 W ctx mem [] (.ok ()) aNil := fun I H σ Q st p => w_nil (p I H [] (Fm.refl st.same) rfl)
theorem JA.cons {R : Hp → Hp → List V → δ → Prop} {m : Res δ} [MoA ra] (j : JE X I0 H0 W ctx mem e ma ra) (k : JA X I0 H0 W ctx mem es m R) (hs : starEach (e :: es) X.env = (false, eval e X.env) :: starEach es X.env := by rfl) :
    JA X I0 H0 W ctx mem (e :: es) (ma.bind fun x => m.bind fun y => .ok (x, y)) (aCons ra R) := fun I H σ Q st p => by
  refine Tr.w_cons (j I H σ _ st ?_) hs
  cases ma with
  | ok x =>
    intro I1 H1 v f1 r1
    refine k I1 H1 σ _ (st.step f1) ?_
    cases m with
    | ok y => exact fun I2 H2 vs f2 r2 => p I2 H2 _ (f1.trans f2) ⟨v, vs, rfl, MoA.up f2.i f2.h r1, r2⟩
    | err e => exact fun I2 H2 c d f2 x => p I2 H2 c d (f1.trans f2) ⟨x.1.back f1.h, x.2⟩
    | stuck => exact p
  | err e => exact p
  | stuck => exact p
variable {R : Hp → Hp → List V → δ → Prop} {md : Res δ} {g : δ → Res γ}
theorem JA.call (k : JA X I0 H0 W ctx mem es md R) {f : Value} (cj : CallJ X W f R g rc) {I H : Hp} {σ : St} {Q : VK} (st : Stt I0 H0 ctx mem I H σ) (p : PostE X.K (md.bind g) rc I H (fun cls d H' => W cls d σ H') Q) : wA X es σ H fun vs H1 => callW X f σ vs H1 Q := by
  refine k I H σ _ st ?_
  cases md with
  | ok x => exact fun I1 H1 vs f1 r1 => cj I1 H1 σ Q vs x f1.ih r1 (PostE.up p f1)
  | err e => exact p
  | stuck => exact p
theorem JE.call {f : Addr} (k : JA X I0 H0 W ctx mem (e :: es) md R) (cj : CallJ X W (.ref f) R g rc) (hm : X.mg n = some (.ref f)) (hk : PySem.W.keepIn X.K (.ref f) = true) (hg : Gl X n := by rfl) (hdb : (n == ("__debug__" : Str)) = false := by decide)
    (he : starEach (e :: es) X.env = (false, eval e X.env) :: starEach es X.env := by rfl) (hpl : (backTo pos (starEach es X.env)).any (·.1) = false := by rfl) : JE X I0 H0 W ctx mem (.Call (.Name n pos') (e :: es) [] pos) (md.bind g) rc := fun I H σ Q st p =>
  w_call (k.call cj st p) hm hk hg hdb he hpl
theorem JE.callB {id : String} (k : JA X I0 H0 W ctx mem (e :: es) md R) (cj : CallJ X W (.builtin id) R g rc) (hm : X.mg n = none) (hv : bootBuiltins n = some (.builtin id)) (hg : Gl X n := by rfl) (hn : n ≠ "__name__" := by decide) (hdb : (n == ("__debug__" : Str)) = false := by decide)
    (he : starEach (e :: es) X.env = (false, eval e X.env) :: starEach es X.env := by rfl) (hpl : (backTo pos (starEach es X.env)).any (·.1) = false := by rfl) : JE X I0 H0 W ctx mem (.Call (.Name n pos') (e :: es) [] pos) (md.bind g) rc := fun I H σ Q st p =>
  w_callB (k.call cj st p) hm hv hg hn hdb he hpl
theorem JE.callTy {T : String} (k : JA X I0 H0 W ctx mem (e :: es) md R) (cj : CallJ X W (.type T) R g rc) (hm : X.mg n = none) (hv : bootBuiltins n = some (.type T)) (hg : Gl X n := by rfl) (hn : n ≠ "__name__" := by decide) (hdb : (n == ("__debug__" : Str)) = false := by decide)
    (he : starEach (e :: es) X.env = (false, eval e X.env) :: starEach es X.env := by rfl) (hpl : (backTo pos (starEach es X.env)).any (·.1) = false := by rfl) : JE X I0 H0 W ctx mem (.Call (.Name n pos') (e :: es) [] pos) (md.bind g) rc := fun I H σ Q st p =>
  w_callTy (k.call cj st p) hm hv hg hn hdb he hpl
def FldOf (K : PySem.W.Frag) (C : Addr) (r : Ra α) (f : Str) (get : α → β) (rf : Ra β) : Prop := ∀ I H v x, Same I H → r I H v x → ∃ a dx fs w, v = .ref a ∧ H a = some (.ins C dx fs) ∧ fs.lookup f = some w ∧ rf I H w (get x)
theorem JE.fld {C : Addr} {f : Str} {get : α → β} (j : JE X I0 H0 W ctx mem o ma ra) (hf : FldOf X.K C ra f get rb) (c : Cls X.K C) (hn : NoAttr X.K C f) (hb : attributeBase o f X.env (eval o X.env) = eval o X.env := by rfl) :
    JE X I0 H0 W ctx mem (.Attribute o f pos) (ma.bind fun x => .ok (get x)) rb := fun I H σ Q st p => by
  refine w_fld (j I H σ _ st ?_) hb
  cases ma with
  | ok x =>
    intro I1 H1 v f1 r1
    obtain ⟨a, dx, fs, w, ev, ha, hl, hw⟩ := hf I1 H1 v x f1.ih r1
    exact ⟨a, C, dx, fs, w, ev, ha, c, hn, hl, p I1 H1 w f1 hw⟩
  | err e => exact p
  | stuck => exact p
end

section
variable {α β γ δ S : Type}
abbrev Knows := Hp → Hp → St → Prop
abbrev KnowsX := Hp → Hp → St → Option Addr → Prop
def PostB (X : Cx) (W : WX) (Kx : KnowsX) (I : Hp) (m : Res S) (G : S → Knows) (D : Ends) : Prop := match m with
  | .ok s => ∀ I' H' σ', Same I I' → G s I' H' σ' → D.nx σ' H'
  | .err e => ∀ I' H' σ' cls d, Kx I' H' σ' d → ExR X.K I' H' e cls d → W cls d σ' H'
  | .stuck => False
def PostR (X : Cx) (I0 H0 : Hp) (W : WX) (Kx : KnowsX) (m : Res γ) (r : Ra γ) (D : Ends) : Prop := match m with
  | .ok y => ∀ I' H' v, Fm I0 H0 I' H' → r I' H' v y → D.rt v H'
  | .err e => ∀ I' H' σ' cls d, Kx I' H' σ' d → ExR X.K I' H' e cls d → W cls d σ' H'
  | .stuck => False
theorem PostB.up {X : Cx} {W : WX} {Kx : KnowsX} {I I1 : Hp} {m : Res S} {G : S → Knows} {D : Ends} (p : PostB X W Kx I m G D) (s : Same I I1) : PostB X W Kx I1 m G D := by
  cases m with
  | ok a => exact fun I' H' σ' q => p I' H' σ' (s.trans q)
  | err e => exact p
  | stuck => exact p
def J1 (X : Cx) (W : WX) (Kx : KnowsX) (G : Knows) (st : Stmt) (m : Res S) (G' : S → Knows) : Prop := ∀ (I H : Hp) (σ : St) (D : Ends), G I H σ → PostB X W Kx I m G' D → wS X st D σ H
def JN (X : Cx) (W : WX) (Kx : KnowsX) (G : Knows) (ss : List Stmt) (m : Res S) (G' : S → Knows) : Prop := ∀ (I H : Hp) (σ : St) (D : Ends), G I H σ → PostB X W Kx I m G' D → wB X ss D σ H
def JR (X : Cx) (I0 H0 : Hp) (W : WX) (Kx : KnowsX) (G : Knows) (ss : List Stmt) (m : Res γ) (r : Ra γ) : Prop := ∀ (I H : Hp) (σ : St) (D : Ends), G I H σ → PostR X I0 H0 W Kx m r D → wB X ss D σ H
variable {X : Cx} {I0 H0 : Hp} {W : WX} {Kx : KnowsX} {G : Knows} {ctx : List (Option SF)} {mem : List MF} {e a b c o : Expr} {es bs : List Expr} {st : Stmt} {ss s1 s2 : List Stmt} {pos pos' : Pos} {n : Str} {ra : Ra α} {rr : Ra γ} {ma : Res α} {mc : Res Bool}
theorem JN.nil {s : S} {G' : S → Knows} (h : ∀ I H σ, G I H σ → G' s I H σ) : JN X W Kx G [] (.ok s) G' := fun I H σ D g p => b_nil (p I H σ (Same.refl _) (h _ _ _ g))
theorem JN.seq {T : Type} {m : Res S} {G1 : S → Knows} {f : S → Res T} {G2 : T → Knows} (j : J1 X W Kx G st m G1) (k : ∀ s, JN X W Kx (G1 s) ss (f s) G2) : JN X W Kx G (st :: ss) (m.bind f) G2 := fun I H σ D g p => by
  refine b_cons (j I H σ _ g ?_)
  cases m with
  | ok s => exact fun I' H' σ' si g' => k s I' H' σ' D g' (PostB.up p si)
  | err e => exact p
  | stuck => exact p
theorem JN.last {m : Res S} {G1 : S → Knows} (j : J1 X W Kx G st m G1) : JN X W Kx G [st] m G1 := fun I H σ D g p => by
  refine b_cons (j I H σ _ g ?_)
  cases m with
  | ok s => exact fun I' H' σ' si g' => b_nil (p I' H' σ' si g')
  | err e => exact p
  | stuck => exact p
theorem JR.seq {m : Res S} {G1 : S → Knows} {f : S → Res γ} (j : J1 X W Kx G st m G1) (k : ∀ s, JR X I0 H0 W Kx (G1 s) ss (f s) rr) : JR X I0 H0 W Kx G (st :: ss) (m.bind f) rr := fun I H σ D g p => by
  refine b_cons (j I H σ _ g ?_)
  cases m with
  | ok s => exact fun I' H' σ' _ g' => k s I' H' σ' D g' p
  | err e => exact p
  | stuck => exact p
theorem JR.ret {m : Res γ} (j : JE X I0 H0 W ctx mem e m rr) (hx : ∀ I H σ d, Stt I0 H0 ctx mem I H σ → Fr H0 d → Kx I H σ d) : JR X I0 H0 W Kx (Stt I0 H0 ctx mem) (.Return (some e) pos :: ss) m rr := fun I H σ D g p => by
  refine b_cons (s_ret (j I H σ _ g ?_))
  cases m with
  | ok y => exact fun I' H' v f r => p I' H' v (g.fm.trans f) r
  | err e => exact fun I' H' c d f x => p I' H' σ c d (hx _ _ _ _ (g.step f) (x.1.back g.fm.h)) x.2
  | stuck => exact p
theorem JR.ifR {m1 m2 : Res γ} (j : JT X I0 H0 W ctx mem c mc) (k1 : JR X I0 H0 W Kx (Stt I0 H0 ctx mem) s1 m1 rr) (k2 : JR X I0 H0 W Kx (Stt I0 H0 ctx mem) ss m2 rr) (hx : ∀ I H σ d, Stt I0 H0 ctx mem I H σ → Fr H0 d → Kx I H σ d) :
    JR X I0 H0 W Kx (Stt I0 H0 ctx mem) (.If c s1 [] pos :: ss) (mc.bind fun x => if x = true then m1 else m2) rr := fun I H σ D g p => by
  refine b_cons (s_if (j I H σ _ g ?_))
  cases mc with
  | ok x =>
    intro I1 H1 v f r y hy
    cases r; cases hy
    cases x with
    | true =>
      refine iteT (b_mono (k1 I1 H1 σ { D with nx := fun _ _ => False } (g.step f) ?_) (fun _ _ z => z.elim) (fun _ _ z => z) (fun _ _ z => z) (fun _ _ z => z))
      exact p
    | false => exact iteF (b_nil (k2 I1 H1 σ D (g.step f) p))
  | err e => exact fun I' H' c d f x => p I' H' σ c d (hx _ _ _ _ (g.step f) (x.1.back g.fm.h)) x.2
  | stuck => exact p
theorem J1.if {m1 m2 : Res S} {G' : S → Knows} (j : JT X I0 H0 W ctx mem c mc) (k1 : JN X W Kx (Stt I0 H0 ctx mem) s1 m1 G') (k2 : JN X W Kx (Stt I0 H0 ctx mem) s2 m2 G') (hx : ∀ I H σ d, Stt I0 H0 ctx mem I H σ → Fr H0 d → Kx I H σ d) :
    J1 X W Kx (Stt I0 H0 ctx mem) (.If c s1 s2 pos) (mc.bind fun x => if x = true then m1 else m2) G' := fun I H σ D g p => by
  refine s_if (j I H σ _ g ?_)
  cases mc with
  | ok x =>
    intro I1 H1 v f r y hy
    cases r; cases hy
    cases x with
    | true => exact iteT (k1 I1 H1 σ D (g.step f) (PostB.up p f.i))
    | false => exact iteF (k2 I1 H1 σ D (g.step f) (PostB.up p f.i))
  | err e => exact fun I' H' c d f x => p I' H' σ c d (hx _ _ _ _ (g.step f) (x.1.back g.fm.h)) x.2
  | stuck => exact p
theorem J1.set (i : Nat) {r : Rp α} [Mo r] {m : Res α} (j : JE X I0 H0 W ctx mem e m (rp r)) (hx : ∀ I H σ d, Stt I0 H0 ctx mem I H σ → Fr H0 d → Kx I H σ d) (hN : X.N.Nodup) (hi : X.N[i]? = some n := by rfl) (hl : Loc X.env.scope n := by first | exact Or.inl rfl | exact Or.inr rfl) (hs : swapsWith e (some (.Name n pos')) pos.line X.env = pure false := by rfl)
    (hf : X.fn n = true ∨ X.env.scope.names.lookup n = some .local := by first | exact .inl rfl | exact .inr rfl | assumption) : J1 X W Kx (Stt I0 H0 ctx mem) (.Assign [.Name n pos'] e pos) m (fun x => Stt I0 H0 (ctx.set i (some ⟨r, x⟩)) mem) := fun I H σ D g p => by
  refine s_set i (j I H σ _ g ?_) hN hi hl hs hf
  cases m with
  | ok x => exact fun I' H' v f h => p I' H' _ f.i ((g.step f).set i h)
  | err e => exact fun I' H' c d f x => p I' H' σ c d (hx _ _ _ _ (g.step f) (x.1.back g.fm.h)) x.2
  | stuck => exact p
theorem JR.end {m : Res S} {G' : S → Knows} {f : S → Res γ} (j : JN X W Kx G ss m G') : True := trivial
end
end L2.Tr

namespace L2.Tr
open PySem PySem.Spec PyProof.Rows
section
variable {α β γ δ S : Type} {X : Cx} {W : WX}
def mulI (x y : Int) : Res Int := Res.guard (x.natAbs.log2 + y.natAbs.log2 < 134000000) (.ok (x * y))
theorem mulB_ok {i j : Int} (h : i.natAbs.log2 + j.natAbs.log2 < 134000000) : IntMulOk i j := by
  have b : ∀ x : Int, Builtin.Int.intBits x ≤ x.natAbs.log2 + 1 := fun x => by
    unfold Builtin.Int.intBits
    split <;> omega
  have h1 := b i
  have h2 := b j
  have e : bitsLine = 134217728 := by decide
  unfold IntMulOk
  intro z
  rw [Bool.and_eq_true] at z
  have z2 := z.2
  unfold Builtin.Int.intTooBig at z2
  have z3 := of_decide_eq_true z2
  rw [e] at z3
  omega
theorem op_mulB : OpR X (binaryOp .Mult) (rI (fun i j => i.natAbs.log2 + j.natAbs.log2 < 134000000) fun i j => .int (i * j)) := opI fun _ _ _ _ _ _ _ hc q => mul_int q (mulB_ok hc)
def modI (x y : Int) : Res Int := Res.guard (y ≠ 0) (.ok (x.fmod y))
def fdivI (x y : Int) : Res Int := Res.guard (y ≠ 0 ∧ y.natAbs.log2 < 9000) (.ok (x.fdiv y))
def powI (x y : Int) : Res Int := Res.guard (0 ≤ y ∧ (y ≤ 1000000 ∧ x.natAbs < 2 ^ 64 ∨ (x.natAbs.log2 + 1) * y.toNat ≤ 2 ^ 27)) (.ok (x ^ y.toNat))
theorem post_guard {p : Prop} [Decidable p] {m : Res α} {K : PySem.W.Frag} {r : Ra α} {I H : Hp} {E : XK} {Q : VK} (h : PostE K (Res.guard p m) r I H E Q) : p ∧ PostE K m r I H E Q := by
  unfold Res.guard at h
  by_cases q : p
  · rw [if_pos q] at h; exact ⟨q, h⟩
  · rw [if_neg q] at h; exact False.elim h
theorem op_fdivV : OpR X (binaryOp .FloorDiv) (rI (fun _ j => j ≠ 0 ∧ j.natAbs.log2 < 9000) fun i j => .int (i.fdiv j)) := opI fun i j _ _ _ _ _ hc q => floordiv_int hc.1 q (.inl (PyProof.noPylong_of_log2 hc.2))
theorem opj_add : OpJ X W (binaryOp .Add) (rp rInt) (rp rInt) (fun x y => .ok (x + y)) (rp rInt) := fun I H σ Q u v x y s a b p => OpR.w op_add ⟨x, y, a, b, p I H _ (Fm.refl s) rfl⟩
theorem opj_sub : OpJ X W (binaryOp .Sub) (rp rInt) (rp rInt) (fun x y => .ok (x - y)) (rp rInt) := fun I H σ Q u v x y s a b p => OpR.w op_sub ⟨x, y, a, b, p I H _ (Fm.refl s) rfl⟩
theorem opj_mul : OpJ X W (binaryOp .Mult) (rp rInt) (rp rInt) (fun x y => mulI x y) (rp rInt) := fun I H σ Q u v x y s a b p => OpR.w op_mulB ⟨x, y, a, b, (post_guard p).1, (post_guard p).2 I H _ (Fm.refl s) rfl⟩
theorem opj_mod : OpJ X W (binaryOp .Mod) (rp rInt) (rp rInt) (fun x y => modI x y) (rp rInt) := fun I H σ Q u v x y s a b p => OpR.w op_modN ⟨x, y, a, b, (post_guard p).1, (post_guard p).2 I H _ (Fm.refl s) rfl⟩
theorem opj_fdiv : OpJ X W (binaryOp .FloorDiv) (rp rInt) (rp rInt) (fun x y => fdivI x y) (rp rInt) := fun I H σ Q u v x y s a b p => OpR.w op_fdivV ⟨x, y, a, b, (post_guard p).1, (post_guard p).2 I H _ (Fm.refl s) rfl⟩
theorem op_powV : OpR X (binaryOp .Pow) (rI (fun x y => 0 ≤ y ∧ (y ≤ 1000000 ∧ x.natAbs < 2 ^ 64 ∨ (x.natAbs.log2 + 1) * y.toNat ≤ 2 ^ 27)) fun i j => .int (i ^ j.toNat)) := opI fun x y _ _ _ _ _ hc q => by
  rcases hc.2 with h | h
  · exact pow_int_small hc.1 h.1 h.2 q
  · refine pow_int hc.1 ?_ q
    have b : Builtin.Int.intBits x ≤ x.natAbs.log2 + 1 := by
      unfold Builtin.Int.intBits
      split <;> omega
    have e : y = (y.toNat : Int) := (Int.toNat_of_nonneg hc.1).symm
    rw [e]
    have := Nat.mul_le_mul_right y.toNat b
    have h2 : Builtin.Int.intBits x * y.toNat ≤ 2 ^ 27 := Nat.le_trans this h
    exact_mod_cast h2
theorem opj_pow : OpJ X W (binaryOp .Pow) (rp rInt) (rp rInt) (fun x y => powI x y) (rp rInt) := fun I H σ Q u v x y s a b p => OpR.w op_powV ⟨x, y, a, b, (post_guard p).1, (post_guard p).2 I H _ (Fm.refl s) rfl⟩
theorem opj_lt : OpJ X W (compareOp .Lt) (rp rInt) (rp rInt) (fun x y => .ok (decide (x < y))) (rp rBl) := fun I H σ Q u v x y s a b p => OpR.w op_lt ⟨x, y, a, b, p I H _ (Fm.refl s) rfl⟩
theorem opj_gt : OpJ X W (compareOp .Gt) (rp rInt) (rp rInt) (fun x y => .ok (decide (y < x))) (rp rBl) := fun I H σ Q u v x y s a b p => OpR.w op_gt ⟨x, y, a, b, p I H _ (Fm.refl s) rfl⟩
theorem opj_ge : OpJ X W (compareOp .GtE) (rp rInt) (rp rInt) (fun x y => .ok (decide (y ≤ x))) (rp rBl) := fun I H σ Q u v x y s a b p => OpR.w op_ge ⟨x, y, a, b, p I H _ (Fm.refl s) rfl⟩
theorem decV {a b : Int} : decide (V.int a = V.int b) = decide (a = b) := by by_cases h : a = b <;> simp [h]
theorem decS {a b : Str} : decide (V.str a = V.str b) = decide (a = b) := by by_cases h : a = b <;> simp [h]
theorem opj_eq : OpJ X W (compareOp .Eq) (rp rInt) (rp rInt) (fun x y => .ok (decide (x = y))) (rp rBl) := fun I H σ Q u v x y s a b p => by
  cases a; cases b
  exact OpR.w op_eq ⟨rfl, p I H _ (Fm.refl s) (by rw [decV]; rfl)⟩
theorem opj_ne : OpJ X W (compareOp .NotEq) (rp rInt) (rp rInt) (fun x y => .ok (!decide (x = y))) (rp rBl) := fun I H σ Q u v x y s a b p => by
  cases a; cases b
  exact OpR.w op_ne ⟨rfl, p I H _ (Fm.refl s) (by rw [decV]; rfl)⟩
theorem opj_eqS : OpJ X W (compareOp .Eq) (rp rStr) (rp rStr) (fun x y => .ok (decide (x = y))) (rp rBl) := fun I H σ Q u v x y s a b p => by
  cases a; cases b
  exact OpR.w op_eq ⟨rfl, p I H _ (Fm.refl s) (by rw [decS]; rfl)⟩
theorem opj_neS : OpJ X W (compareOp .NotEq) (rp rStr) (rp rStr) (fun x y => .ok (!decide (x = y))) (rp rBl) := fun I H σ Q u v x y s a b p => by
  cases a; cases b
  exact OpR.w op_ne ⟨rfl, p I H _ (Fm.refl s) (by rw [decS]; rfl)⟩
theorem unj_neg : UnJ X W (unaryOp .USub) (rp rInt) (fun x => .ok (-x)) (rp rInt) := fun I H σ Q u x s a p => UnR.w un_neg ⟨x, a, p I H _ (Fm.refl s) rfl⟩
abbrev R1 (r : Ra α) := aCons r aNil
theorem cj_abs : CallJ X W (.builtin "abs") (R1 (rp rInt)) (fun d => .ok (if d.1 < 0 then -d.1 else d.1)) (rp rInt) := fun I H σ Q vs x s a p => by
  obtain ⟨v, ws, rfl, h, rfl⟩ := a
  exact CallR.w call_abs ⟨x.1, by rw [show v = _ from h], p I H _ (Fm.refl s) rfl⟩
theorem cj_int : CallJ X W (.type "int") (R1 (rp rInt)) (fun d => .ok d.1) (rp rInt) := fun I H σ Q vs x s a p => by
  obtain ⟨v, ws, rfl, h, rfl⟩ := a
  exact CallR.w call_int1 (.inl ⟨x.1, by rw [show v = _ from h], p I H _ (Fm.refl s) rfl⟩)
theorem cj_intB : CallJ X W (.type "int") (R1 (rp rBl)) (fun d => .ok (if d.1 = true then 1 else 0)) (rp rInt) := fun I H σ Q vs x s a p => by
  obtain ⟨v, ws, rfl, h, rfl⟩ := a
  exact CallR.w call_int1 (.inr ⟨x.1, by rw [show v = _ from h], p I H _ (Fm.refl s) rfl⟩)
theorem cj_len {r : Ra α} : CallJ X W (.builtin "len") (R1 (rdL X.K r)) (fun d => .ok (d.1.length : Int)) (rp rInt) := fun I H σ Q vs x s a p => by
  obtain ⟨v, ws, rfl, ⟨l, vs, rfl, hl, pr⟩, rfl⟩ := a
  exact CallR.w call_len ⟨_, vs.length, rfl, .inl ⟨vs, hl, rfl⟩, by rw [Paired.length pr]; exact p I H _ (Fm.refl s) rfl⟩

theorem rL_rd {r : Rp α} {K : PySem.W.Frag} {I H : Hp} {v : V} {xs : List α} (s : Same I H) (h : rL r I v xs) : rdL K (rp r) I H v xs := by
  obtain ⟨l, vs, rfl, e, p⟩ := h
  exact ⟨l, vs, rfl, SqL.of (s _ _ e), p⟩
def atM (xs : List α) (i : Int) : Res α := match atI xs i with
  | some x => .ok x
  | none => .stuck
theorem paired_get {F : α → β → Prop} : ∀ {xs : List α} {ys : List β} {i : Nat} {y : β}, Paired F xs ys → ys[i]? = some y → ∃ x, xs[i]? = some x ∧ F x y
  | _, _, _, _, .nil, e => by simp at e
  | _, _, 0, _, .cons r _, e => by simp at e; subst e; exact ⟨_, rfl, r⟩
  | _, _, i + 1, y, .cons _ t, e => by
    obtain ⟨u, h1, h2⟩ := paired_get (i := i) (y := y) t (by simpa using e)
    exact ⟨u, by simpa using h1, h2⟩
end
end L2.Tr

namespace L2.Tr
open PySem PySem.Spec PyProof.Rows
section
variable {α β γ δ S : Type} {X : Cx} {I0 H0 : Hp} {W : WX} {ctx : List (Option SF)} {mem : List MF} {e a b c o : Expr} {es bs : List Expr} {pos pos' : Pos} {n : Str} {ra : Ra α} {rb : Ra β} {rc : Ra γ} {ma : Res α} {mb : Res β}
theorem atI_pair {F : α → β → Prop} {xs : List α} {ys : List β} {i : Int} {y : β} (p : Paired F xs ys) (h : atI ys i = some y) : ∃ x, atI xs i = some x ∧ F x y := by
  unfold atI at h ⊢
  rw [Paired.length p]
  cases e : ixN ys.length i with
  | none => rw [e] at h; cases h
  | some j => rw [e] at h; exact paired_get p h
theorem JE.ix {r : Ra α} {m : Res (List α)} {mi : Res Int} [MoA r] (ja : JE X I0 H0 W ctx mem a m (rdL X.K r)) (jb : JE X I0 H0 W ctx mem b mi (rp rInt)) (hs : PlainIx b := by exact fun _ _ => rfl) :
    JE X I0 H0 W ctx mem (.Subscript a b pos) (m.bind fun xs => mi.bind fun i => atM xs i) r := fun I H σ Q st p => by
  refine PE.w (pe_ix ix_list pe_W pe_W hs) (ja I H σ _ st ?_)
  cases m with
  | ok xs =>
    intro I1 H1 u f1 r1
    refine jb I1 H1 σ _ (st.step f1) ?_
    have p1 := PostE.up p f1
    cases mi with
    | ok i =>
      intro I2 H2 v f2 r2
      obtain ⟨l, vs, rfl, hl, pr⟩ := MoA.up (r := rdL X.K r) f2.i f2.h r1
      have p2 : PostE X.K (atM xs i) r I2 H2 _ Q := PostE.up p1 f2
      unfold atM at p2
      cases e : atI xs i with
      | none => rw [e] at p2; exact p2.elim
      | some x =>
        rw [e] at p2
        obtain ⟨w, ew, hw⟩ := atI_pair pr e
        exact ⟨l, vs, i, w, rfl, r2, hl, ew, p2 I2 H2 w (Fm.refl f2.ih) hw⟩
    | err e => exact p1
    | stuck => exact p1
  | err e => exact p
  | stuck => exact p
def lR (n : Nat) (r : Ra α) : Hp → Hp → List V → List α → Prop := fun I H vs xs => vs.length = n ∧ Paired (r I H) vs xs
theorem JA.nilL {r : Ra α} : JA X I0 H0 W ctx mem [] (.ok []) (lR 0 r) := fun I H σ Q st p => w_nil (p I H [] (Fm.refl st.same) ⟨rfl, .nil⟩)
theorem JA.consL {k : Nat} {r : Ra α} {m : Res (List α)} [MoA r] (j : JE X I0 H0 W ctx mem e ma r) (jk : JA X I0 H0 W ctx mem es m (lR k r)) (hs : starEach (e :: es) X.env = (false, eval e X.env) :: starEach es X.env := by rfl) :
    JA X I0 H0 W ctx mem (e :: es) (ma.bind fun x => m.bind fun y => .ok (x :: y)) (lR (k + 1) r) := fun I H σ Q st p => by
  refine Tr.w_cons (j I H σ _ st ?_) hs
  cases ma with
  | ok x =>
    intro I1 H1 v f1 r1
    refine jk I1 H1 σ _ (st.step f1) ?_
    cases m with
    | ok y => exact fun I2 H2 vs f2 r2 => p I2 H2 _ (f1.trans f2) ⟨by rw [List.length_cons, r2.1], .cons (MoA.up f2.i f2.h r1) r2.2⟩
    | err e => exact fun I2 H2 c d f2 x => p I2 H2 c d (f1.trans f2) ⟨x.1.back f1.h, x.2⟩
    | stuck => exact p
  | err e => exact p
  | stuck => exact p
theorem JE.rd {r : Rp α} {m : Res (List α)} (j : JE X I0 H0 W ctx mem e m (rp (rL r))) : JE X I0 H0 W ctx mem e m (rdL X.K (rp r)) := j.co fun _ _ _ _ s h => rL_rd s h
theorem eqvAll_ints : ∀ xs ys : List Int, PyData.eqvAll (xs.map .int) (ys.map .int) = decide (xs = ys)
  | [], [] => rfl
  | [], _ :: _ => rfl
  | _ :: _, [] => rfl
  | x :: xs, y :: ys => by
    show (PyData.eqv (.int x) (.int y) && PyData.eqvAll (xs.map .int) (ys.map .int)) = _
    rw [eqvAll_ints xs ys]
    show ((x == y) && _) = _
    by_cases h : x = y <;> by_cases h' : xs = ys <;> simp [h, h']
theorem dpAll_ints {K : PySem.W.Frag} {I H : Hp} : ∀ {vs : List V} {xs : List Int}, Paired (rp rInt I H) vs xs → DpAll K H vs (xs.map .int)
  | _, _, .nil => .nil
  | _, _, .cons h t => .cons (by rw [show _ = V.int _ from h]; exact .int _) (dpAll_ints t)
theorem shaped_ints (xs : List Int) : SeqAt.shaped (.list (xs.map .int)) = true := by
  have h1 : ∀ xs : List Int, PyData.canLayAll0 (xs.map .int) = true := fun xs => by
    induction xs with
    | nil => rfl
    | cons x xs ih => show (true && _) = true; rw [ih]; rfl
  have h2 : PyData.depth (.list (xs.map .int)) ≤ 64 := by
    have : ∀ xs : List Int, PyData.depthAll (xs.map .int) ≤ 1 := fun xs => by
      induction xs with
      | nil => exact Nat.zero_le _
      | cons x xs ih =>
        show max _ _ ≤ 1
        exact Nat.max_le.mpr ⟨by first | exact Nat.le_refl _ | exact Nat.zero_le _ | (simp [PyData.depth]), ih⟩
    have := this xs
    first | (show _ + 1 ≤ 64; omega) | (simp [PyData.depth]; omega)
  unfold SeqAt.shaped
  rw [decide_eq_true h2]
  show (PyData.canLayAll0 _ && true) = true
  rw [h1]; rfl
end
end L2.Tr

namespace L2.Tr
open PySem PySem.Spec PyProof.Rows
section
variable {α β γ δ S : Type} {X : Cx} {I0 H0 : Hp} {W : WX} {ctx : List (Option SF)} {mem : List MF} {e a b c o : Expr} {es bs : List Expr} {pos pos' : Pos} {n : Str} {ra : Ra α} {rb : Ra β} {rc : Ra γ} {ma : Res α} {mb : Res β}
theorem opj_eqL (hu : X.A.units + 64 < cLine) : OpJ X W (compareOp .Eq) (rdL X.K (rp rInt)) (rdL X.K (rp rInt)) (fun x y => .ok (decide (x = y))) (rp rBl) := fun I H σ Q u v x y s ⟨l, vs, e1, h1, p1⟩ ⟨l', vs', e2, h2, p2⟩ p => by
  subst e1; subst e2
  exact OpR.w (op_eqD hu) ⟨.list (x.map .int), .list (y.map .int), .lst h1 (dpAll_ints p1), .lst h2 (dpAll_ints p2), shaped_ints _, shaped_ints _, p I H _ (Fm.refl s) (by show V.bl (PyData.eqvAll _ _) = _; rw [eqvAll_ints])⟩
theorem opj_neL (hu : X.A.units + 64 < cLine) : OpJ X W (compareOp .NotEq) (rdL X.K (rp rInt)) (rdL X.K (rp rInt)) (fun x y => .ok (!decide (x = y))) (rp rBl) := fun I H σ Q u v x y s ⟨l, vs, e1, h1, p1⟩ ⟨l', vs', e2, h2, p2⟩ p => by
  subst e1; subst e2
  exact OpR.w (op_neD hu) ⟨.list (x.map .int), .list (y.map .int), .lst h1 (dpAll_ints p1), .lst h2 (dpAll_ints p2), shaped_ints _, shaped_ints _, p I H _ (Fm.refl s) (by show V.bl (!PyData.eqvAll _ _) = _; rw [eqvAll_ints])⟩

structure OCls (K : PySem.W.Frag) (C : Addr) : Prop where
  cl : Cls K C
  sf : PySem.W.selfFirst K C = true
  ca : PySem.W.findIn K (.ref C) "__class__" = some (some (.builtin "object.__class__"))
  cn : PySem.W.specialIn K (.builtin "object.__class__") "__get__" = some (some (.builtin "getset_descriptor.__get__"))
  ct : PySem.W.takesIn K (.builtin "object.__class__") = some true
  cm : PySem.W.mroIn K C (.type "object") = some true
  ni : PySem.W.subIn K (.ref C) (.type "int") = some false
  in_ : PySem.W.subIn K (.type "int") (.ref C) = some false
  ne : PySem.W.findIn K (.ref C) "__ne__" = some (some (.builtin "object.__ne__"))
structure OMet (K : PySem.W.Frag) (C : Addr) (m : Str) (f : Addr) : Prop where
  at_ : PySem.W.findIn K (.ref C) m = some (some (.ref f))
  fn : PySem.W.isFn K (.ref f) = true
def InsR (C : Addr) (r : Ra α) : Prop := ∀ I H v x, Same I H → r I H v x → ∃ a dx fs, v = .ref a ∧ H a = some (.ins C dx fs)
theorem insAt {pins : List (Addr × Obj)} {σ : St} {H : Hp} {s : Shared} {x C dx : Addr} {fs : List (Str × V)} (I : Inv X pins σ H s) (h : H x = some (.ins C dx fs)) : ∃ od, PySem.W.InstAt s.heap x (PySem.W.instObj C dx) C (some od) := by
  obtain ⟨mA, O, _⟩ := ins_get I.hok h
  obtain ⟨od, J, _⟩ := O.look
  exact ⟨od, J⟩
end
end L2.Tr

namespace L2.Tr
open PySem PySem.Spec PyProof.Rows
section
variable {α β γ δ S : Type} {X : Cx} {I0 H0 : Hp} {W : WX} {Kx : KnowsX} {G : Knows} {ctx : List (Option SF)} {mem : List MF} {e a b c o : Expr} {es bs : List Expr} {st : Stmt} {ss s1 s2 : List Stmt} {pos pos' : Pos} {n : Str} {ra : Ra α} {rb : Ra β} {rc : Ra γ} {ma : Res α} {mb : Res β}

def spF (K : PySem.W.Frag) (R : Hp → Hp → List V → δ → Prop) (m : δ → Res γ) (r : Ra γ) : Sp := fun vs H Q E => ∃ I d, Same I H ∧ R I H vs d ∧ PostE K (m d) r I H E Q
theorem cj_of {k : Nat} {f : Addr} {R : Hp → Hp → List V → δ → Prop} {m : δ → Res γ} (F : FnR X.prog X.w X.K X.mg X.base (L2N.CX X.prog X.w) k f (spF X.K R m rc)) (hr : Room k X.A) (tk : L2N.Takes X W) : CallJ X W (.ref f) R m rc := fun I H σ Q vs d s h p => run_W F hr tk ⟨I, d, s, h, p⟩
def TyR (K : PySem.W.Frag) (r : Ra α) (u : Value) (g : α → Bool) : Prop := ∀ I H v x, Same I H → r I H v x → ∃ t, TyX K H v t ∧ PySem.W.kitOne K t u = some (g x)
theorem JE.isi {u : Value} {cv : V} {g : α → Bool} [MoA ra] (j : JE X I0 H0 W ctx mem a ma ra) (jc : ∀ σ H Q, Q cv H → wE X b σ H Q) (hc : ClsV cv u) (ty : TyR X.K ra u g) (hm : X.mg "isinstance" = none) (hg : Gl X "isinstance" := by rfl)
    (hs : starEach [a, b] X.env = (false, eval a X.env) :: starEach [b] X.env := by rfl) (hs2 : starEach [b] X.env = (false, eval b X.env) :: starEach [] X.env := by rfl) (hpl : (backTo pos (starEach [b] X.env)).any (·.1) = false := by rfl) :
    JE X I0 H0 W ctx mem (.Call (.Name "isinstance" pos') [a, b] [] pos) (ma.bind fun x => .ok (g x)) (rp rBl) := fun I H σ Q st p => by
  refine w_callB (id := "isinstance") (Tr.w_cons (j I H σ _ st ?_) hs) hm (by decide +kernel) hg (by decide) (by decide) hs hpl
  cases ma with
  | ok x =>
    intro I1 H1 v f1 r1
    refine Tr.w_cons (jc σ H1 _ (w_nil ?_)) hs2
    obtain ⟨t, ty1, k⟩ := ty I1 H1 v x f1.ih r1
    exact CallR.w call_isi ⟨v, cv, t, u, g x, rfl, hc, ty1, k, p I1 H1 _ f1 rfl⟩
  | err e => exact p
  | stuck => exact p
structure ExcP (K : PySem.W.Frag) (mg : Str → Option Value) (x : Str) : Prop where
  ex : PySem.W.excIn K (He.ga K x) He.veBase "ValueError.__new__" = true
  kp : PySem.W.keepIn K (.ref (He.ga K x)) = true
  bs : PySem.W.subIn K (.ref (He.ga K x)) (.type "BaseException") = some true
  ty : PySem.W.typeIn K (.ref (He.ga K x)) = some (.type "type")
  gl : mg x = some (.ref (He.ga K x))
def whileM (c : S → Res Bool) (f : S → Res S) : Nat → S → Res S
  | 0, _ => .stuck
  | n + 1, s => (c s).bind fun b => if b = true then (f s).bind fun s' => whileM c f n s' else .ok s
theorem J1.while {fuel : Nat} {s0 : S} {cx : S → List (Option SF)} {me : S → List MF} {mc : S → Res Bool} {mf : S → Res S} (hp : PassesOwn (model X.prog X.w) X.A X.env X.xe) (jc : ∀ s, JT X I0 H0 W (cx s) (me s) c (mc s)) (jb : ∀ s, JN X W Kx (Stt I0 H0 (cx s) (me s)) ss (mf s) fun s' => Stt I0 H0 (cx s') (me s'))
    (hx : ∀ s I H σ d, Stt I0 H0 (cx s) (me s) I H σ → Fr H0 d → Kx I H σ d) : J1 X W Kx (Stt I0 H0 (cx s0) (me s0)) (.While c ss [] pos) (whileM mc mf fuel s0) (fun s => Stt I0 H0 (cx s) (me s)) := fun I H σ D g p => by
  refine PS.w (ps_while hp pt_W pss_W) ⟨fun k σ' H' => ∃ I' s, Stt I0 H0 (cx s) (me s) I' H' σ' ∧ PostB X W Kx I' (whileM mc mf k s) (fun s => Stt I0 H0 (cx s) (me s)) D, ⟨fuel, I, s0, g, p⟩, ?_⟩
  rintro k σ' H' ⟨I', s, g', p'⟩
  cases k with
  | zero => exact p'.elim
  | succ k =>
    refine jc s I' H' σ' _ g' ?_
    have p2 : PostB X W Kx I' ((mc s).bind fun b => if b = true then (mf s).bind fun s' => whileM mc mf k s' else .ok s) _ D := p'
    revert p2
    generalize mc s = z
    intro p2
    cases z with
    | ok x =>
      intro I1 H1 v f r y hy
      cases r; cases hy
      cases x with
      | true =>
        refine iteT ⟨fun σ2 H2 => ∃ I2 s', Stt I0 H0 (cx s') (me s') I2 H2 σ2 ∧ PostB X W Kx I2 (whileM mc mf k s') (fun s => Stt I0 H0 (cx s) (me s)) D, fun σ2 H2 h => ⟨k, Nat.lt_succ_self _, h⟩, ?_⟩
        refine jb s I1 H1 σ' _ (g'.step f) ?_
        have p3 : PostB X W Kx I1 ((mf s).bind fun s' => whileM mc mf k s') _ D := PostB.up p2 f.i
        revert p3
        generalize mf s = z
        intro p3
        cases z with
        | ok s' => exact fun I2 H2 σ2 si g2 => ⟨I2, s', g2, PostB.up p3 si⟩
        | err e => exact p3
        | stuck => exact p3
      | false => exact iteF (p2 I1 H1 σ' f.i (g'.step f))
    | err e => exact fun I' H' c d f x => p2 I' H' σ' c d (hx _ _ _ _ _ (g'.step f) (x.1.back g'.fm.h)) x.2
    | stuck => exact p2.elim
theorem J1.par (i j : Nat) {x y : Str} {r1 : Rp α} {r2 : Rp β} [Mo r1] [mo : Mo r2] {px py pt : Pos} {kt k2 pt2} (ja : JE X I0 H0 W ctx mem a ma (rp r1)) (jb : JE X I0 H0 W ctx mem b mb (rp r2)) (hx : ∀ I H σ d, Stt I0 H0 ctx mem I H σ → Fr H0 d → Kx I H σ d)
    (hN : X.N.Nodup) (hc : X.calm = true := by rfl) (hi : X.N[i]? = some x := by rfl) (hj : X.N[j]? = some y := by rfl) (hij : i ≠ j := by decide) (hlx : X.env.scope.names.lookup x = some .local := by rfl) (hly : X.env.scope.names.lookup y = some .local := by rfl)
    (hw : swappedStores [.Tuple [.Name x px, .Name y py] kt pt] (.Tuple [a, b] k2 pt2) X.env = pure (some [x, y]) := by rfl)
    (hs : swapsWithSole [.Tuple [.Name x px, .Name y py] kt pt] (.Tuple [a, b] k2 pt2) pos.line X.env = pure false := by rfl)
    (e1 : starEach [a, b] X.env = (false, eval a X.env) :: starEach [b] X.env := by rfl) (e2 : starEach [b] X.env = (false, eval b X.env) :: starEach [] X.env := by rfl) :
    J1 X W Kx (Stt I0 H0 ctx mem) (.Assign [.Tuple [.Name x px, .Name y py] kt pt] (.Tuple [a, b] k2 pt2) pos) (ma.bind fun u => mb.bind fun v => .ok (u, v)) (fun s => Stt I0 H0 ((ctx.set i (some ⟨r1, s.1⟩)).set j (some ⟨r2, s.2⟩)) mem) := fun I H σ D g p => by
  refine PS.w (ps_par hc hN hi hj hij hlx hly pa_W hw hs) (Tr.w_cons (ja I H σ _ g ?_) e1)
  cases ma with
  | ok u =>
    intro I1 H1 v1 f1 h1
    refine Tr.w_cons (jb I1 H1 σ _ (g.step f1) ?_) e2
    cases mb with
    | ok v => exact fun I2 H2 v2 f2 h2 => w_nil ⟨v1, v2, rfl, p I2 H2 _ (f1.i.trans f2.i) ((((g.step f1).step f2).set i (Mo.up f2.i h1)).set j h2)⟩
    | err e => exact fun I' H' c d f x => p I' H' σ c d (hx _ _ _ _ ((g.step f1).step f) (x.1.back (g.step f1).fm.h)) x.2
    | stuck => exact p.elim
  | err e => exact fun I' H' c d f x => p I' H' σ c d (hx _ _ _ _ (g.step f) (x.1.back g.fm.h)) x.2
  | stuck => exact p.elim
end
section
variable {γ δ : Type} {P : Program} {w : World} {K : PySem.W.Frag} {mg : Str → Option Value} {base : Heap} {x qual : Str} {params : Arguments} {body : List Stmt} {scope : Scope} {dvs : List V} {kws : List (Str × V)} {f : Addr} {fd : FuncData} {N ps : List Str} {k : Nat} {R : Hp → Hp → List V → δ → Prop} {m : δ → Res γ} {r : Ra γ}
abbrev bx (P : Program) (w : World) (K : PySem.W.Frag) (mg : Str → Option Value) (base : Heap) (N : List Str) (qual : Str) (scope : Scope) (f : Addr) (cdv : Value) (A : Around) (outer : List Env) (s : Shared) (H : Hp) (E : XK) : Cx := cxOf (L2N.CX P w) P w K mg base N qual scope f cdv A outer s H E
abbrev PsO9 (P : Program) (w : World) (X : Cx) : Prop := PassesOwn (model P w) X.A X.env X.xe
abbrev bW (E : XK) : WX := fun cls d _ H => E cls d H
abbrev bK (I0 H0 : Hp) : KnowsX := fun I H _ d => Fm I0 H0 I H ∧ Fr H0 d
theorem FunD.fn (F : FunD K x qual params body scope dvs kws f fd) (S : FnScope N ps scope) (len : ∀ I H vs d, R I H vs d → vs.length = ps.length)
    (hb : ∀ (cdv : Value) (A : Around) (outer : List Env) (s : Shared) (I0 H0 : Hp) (E : XK) (vs : List V) (d : δ), Room k (A.deeper (envOfC qual scope s.heap.objs.size f cdv)) → Same I0 H0 → R I0 H0 vs d →
      ∃ G : Knows, G I0 H0 (start N vs) ∧ JR (bx P w K mg base N qual scope f cdv A outer s H0 E) I0 H0 (bW E) (bK I0 H0) G body (m d) r) : FnOk P w K mg base (L2N.CX P w) (k + 1) f fd ps (spF K R m r) := by
  refine F.ok S (fun vs H Q E ⟨I, d, _, h, _⟩ => len I H vs d h) fun cdv A outer s H vs Q E hr ⟨I, d, sm, h, p⟩ => ⟨_, pss_W, ?_⟩
  obtain ⟨G, g, j⟩ := hb cdv A outer s I H E vs d hr sm h
  refine j I H _ _ g ?_
  revert p
  show PostE K (m d) r I H E Q → PostR _ _ _ _ _ (m d) _ _
  generalize m d = z
  intro p
  cases z with
  | ok y => exact p
  | err e => exact fun I' H' _ c d f x => p I' H' c d f.1 ⟨f.2, x⟩
  | stuck => exact p
end
end L2.Tr

namespace L2.Tr
open PySem PySem.Spec PyProof.Rows
section
variable {α β γ δ S : Type} {X : Cx} {I0 H0 : Hp} {W : WX} {Kx : KnowsX} {G : Knows} {ctx : List (Option SF)} {mem : List MF} {e a b c o : Expr} {es bs : List Expr} {st : Stmt} {ss s1 s2 : List Stmt} {pos pos' : Pos} {n : Str} {ra : Ra α} {rb : Ra β} {rc : Ra γ} {ma : Res α} {mb : Res β}
def rRef (x : Addr) : Rp Unit := fun _ v _ => v = .ref x
instance {x : Addr} : Mo (rRef x) := ⟨fun _ h => h⟩
def putG (f : Str) (s : SF) : List (Str × SF) → List (Str × SF)
  | [] => [(f, s)]
  | q :: gs => if q.1 = f then (f, s) :: gs else q :: putG f s gs
theorem FldR.put {I : Hp} {f : Str} {v : V} {s : SF} (h : s.r I v s.x) : ∀ {fs : List (Str × V)} {gs : List (Str × SF)}, FldR I fs gs → FldR I (putF f v fs) (putG f s gs)
  | [], [], _ => ⟨rfl, h, True.intro⟩
  | p :: fs, q :: gs, ⟨a, b, c⟩ => by
    show FldR I (if p.1 = f then _ else _) (if q.1 = f then _ else _)
    rw [← a]
    by_cases e : p.1 = f
    · rw [if_pos e, if_pos e]; exact ⟨e, h, c⟩
    · rw [if_neg e, if_neg e]; exact ⟨a, b, FldR.put h c⟩
  | [], _ :: _, h => h.elim
  | _ :: _, [], h => h.elim
theorem FldR.length {I : Hp} : ∀ {fs : List (Str × V)} {gs : List (Str × SF)}, FldR I fs gs → fs.length = gs.length
  | [], [], _ => rfl
  | _ :: _, _ :: _, ⟨_, _, c⟩ => congrArg Nat.succ (FldR.length c)
  | [], _ :: _, h => h.elim
  | _ :: _, [], h => h.elim
theorem Regs.split {I H : Hp} : ∀ {mem : List MF} {fps : List (List Addr)} {j : Nat} {c : MF}, Regs I H mem fps → mem[j]? = some c → ∃ M1 M2 A fp B, mem = M1 ++ c :: M2 ∧ fps = A ++ fp :: B ∧ M1.length = j ∧ Regs I H M1 A ∧ c.Q I H fp ∧ Regs I H M2 B
  | [], _, _, _, _, e => by simp at e
  | d :: mem, fp :: fps, 0, c, ⟨a, b⟩, e => by
    have : d = c := by simpa using e
    subst this
    exact ⟨[], mem, [], fp, fps, rfl, rfl, rfl, True.intro, a, b⟩
  | d :: mem, fp :: fps, j + 1, c, ⟨a, b⟩, e => by
    have e' : mem[j]? = some c := by simpa using e
    obtain ⟨M1, M2, A, fq, B, e1, e2, e3, h1, h2, h3⟩ := Regs.split b e'
    exact ⟨d :: M1, M2, fp :: A, fq, B, by rw [e1]; rfl, by rw [e2]; rfl, by rw [List.length_cons, e3], ⟨a, h1⟩, h2, h3⟩
  | _ :: _, [], _, _, h, _ => h.elim
theorem Regs.join {I H : Hp} : ∀ {M1 M2 : List MF} {A B : List (List Addr)}, Regs I H M1 A → Regs I H M2 B → Regs I H (M1 ++ M2) (A ++ B)
  | [], _, [], _, _, h => h
  | _ :: _, _, _ :: _, _, ⟨a, b⟩, h => ⟨a, Regs.join b h⟩
  | [], _, _ :: _, _, h, _ => h.elim
  | _ :: _, _, [], _, h, _ => h.elim
theorem set_mid {α : Type} {M1 M2 : List α} {c c' : α} {j : Nat} (h : M1.length = j) : (M1 ++ c :: M2).set j c' = M1 ++ c' :: M2 := by
  subst h; induction M1 with
  | nil => rfl
  | cons d M ih => rw [List.cons_append, List.length_cons, List.set_cons_succ, ih]; rfl
theorem erase_mid {α : Type} {M1 M2 : List α} {c : α} {j : Nat} (h : M1.length = j) : (M1 ++ c :: M2).eraseIdx j = M1 ++ M2 := by
  subst h; induction M1 with
  | nil => rfl
  | cons d M ih => rw [List.cons_append, List.length_cons, List.eraseIdx_cons_succ, ih]; rfl
theorem flat_mid {A B : List (List Addr)} {fp : List Addr} : (A ++ fp :: B).flatten = A.flatten ++ (fp ++ B.flatten) := by rw [List.flatten_append, List.flatten_cons]
def rm (H : Hp) (fp : List Addr) : Hp := fun a => if a ∈ fp then none else H a
theorem rm_in {H : Hp} {fp : List Addr} {a : Addr} (h : a ∈ fp) : rm H fp a = none := if_pos h
theorem rm_out {H : Hp} {fp : List Addr} {a : Addr} (h : a ∉ fp) : rm H fp a = H a := if_neg h
theorem Stt.change {I0 H0 I H : Hp} {c : MF} {σ : St} {j : Nat} (s : Stt I0 H0 ctx mem I H σ) (hj : mem[j]? = some c) : ∃ fp, c.Q I H fp ∧ fp.Nodup ∧ (∀ a, a ∈ fp → H0 a = none ∧ I a = none ∧ H a ≠ none) ∧
    ∀ (I' H' : Hp) (c' : MF) (fp' : List Addr), Fm I (rm H fp) I' H' → fp'.Nodup → (∀ a, a ∈ fp' → rm H fp a = none ∧ I' a = none ∧ H' a ≠ none) → c'.Q I' H' fp' → Stt I0 H0 ctx (mem.set j c') I' H' σ := by
  obtain ⟨fps, rg, nd, k⟩ := s.me
  obtain ⟨M1, M2, A, fp, B, e1, e2, e3, h1, h2, h3⟩ := rg.split hj
  subst e1; subst e2
  rw [flat_mid] at nd k
  have ndA := List.nodup_append.mp nd
  have ndB := List.nodup_append.mp ndA.2.1
  have kf : ∀ a, a ∈ fp → H0 a = none ∧ I a = none ∧ H a ≠ none := fun a ha => k a (List.mem_append_right _ (List.mem_append_left _ ha))
  refine ⟨fp, h2, ndB.1, kf, fun I' H' c' fp' f nd' k' q' => ?_⟩
  have oth : ∀ a, a ∈ A.flatten ∨ a ∈ B.flatten → a ∉ fp ∧ H0 a = none ∧ I a = none ∧ H a ≠ none := fun a ha => by
    rcases ha with ha | ha
    · exact ⟨fun z => ndA.2.2 a ha a (List.mem_append_left _ z) rfl, k a (List.mem_append_left _ ha)⟩
    · exact ⟨fun z => ndB.2.2 a z a ha rfl, k a (List.mem_append_right _ (List.mem_append_right _ ha))⟩
  have stay : ∀ a, a ∈ A.flatten ∨ a ∈ B.flatten → H' a = H a := fun a ha => by
    obtain ⟨n, _, _, z⟩ := oth a ha
    cases e : H a with
    | none => exact absurd e z
    | some o => exact f.h a o (by rw [rm_out n]; exact e)
  have out : ∀ a, a ∈ fp' → ¬ (a ∈ A.flatten ∨ a ∈ B.flatten) := fun a ha z => by
    obtain ⟨n, _, _, y⟩ := oth a z
    have := (k' a ha).1
    rw [rm_out n] at this
    exact y this
  have hm : ∀ a, H0 a ≠ none → a ∉ fp := fun a z y => z (kf a y).1
  refine ⟨⟨s.fm.i.trans f.i, fun b u e => f.h b u (by rw [rm_out (hm b (by rw [e]; intro z; cases z))]; exact s.fm.h b u e), f.ih, fun l e n => f.mu l (s.fm.mu l e n) ?_⟩, s.len, fun i sf e => ?_, A ++ fp' :: B, ?_, ?_, ?_⟩
  · rw [rm_out (hm l n)]
    cases z : H0 l with
    | none => exact absurd z n
    | some o => rw [s.fm.h l o z]; intro y; cases y
  · obtain ⟨v, e1, q⟩ := s.sl i sf e
    exact ⟨v, e1, sf.mo.up f.i q⟩
  · rw [set_mid e3]
    exact (h1.up f.i fun a ha => stay a (.inl ha)).join ⟨q', h3.up f.i fun a ha => stay a (.inr ha)⟩
  · rw [flat_mid]
    refine List.nodup_append.mpr ⟨ndA.1, List.nodup_append.mpr ⟨nd', ndB.2.1, fun a ha b hb e => out a ha (.inr (e ▸ hb))⟩, fun a ha b hb e => ?_⟩
    subst e
    rcases List.mem_append.mp hb with z | z
    · exact out a z (.inl ha)
    · exact ndA.2.2 a ha a (List.mem_append_right _ z) rfl
  · rw [flat_mid]
    have go : ∀ a, a ∈ A.flatten ∨ a ∈ B.flatten → H0 a = none ∧ I' a = none ∧ H' a ≠ none := fun a ha => by
      obtain ⟨n, x, y, z⟩ := oth a ha
      exact ⟨x, f.mu a y (by rw [rm_out n]; exact z), by rw [stay a ha]; exact z⟩
    intro a ha
    rcases List.mem_append.mp ha with z | z
    · exact go a (.inl z)
    · rcases List.mem_append.mp z with z | z
      · refine ⟨?_, (k' a z).2⟩
        cases e : H0 a with
        | none => rfl
        | some o =>
          have := (k' a z).1
          rw [rm_out (hm a (by rw [e]; intro y; cases y)), s.fm.h a o e] at this
          cases this
      · exact go a (.inr z)
theorem Fm.rmUpd {I H : Hp} {l : Addr} {o : HO} (s : Same I H) (hI : I l = none) : Fm I (rm H [l]) I (upd H l o) :=
  ⟨Same.refl _, fun b u e => by
    by_cases hb : b = l
    · subst hb; rw [rm_in (List.mem_singleton_self b)] at e; cases e
    · rw [rm_out (fun z => hb (List.mem_singleton.mp z))] at e; rw [upd_ne hb]; exact e, fun b u e => by
    have : b ≠ l := fun q => by rw [q, hI] at e; cases e
    rw [upd_ne this]; exact s b u e, fun _ e _ => e⟩
theorem Stt.cellAt {I0 H0 I H : Hp} {σ : St} {l : Addr} {c c' : MF} {o : HO} (s : Stt I0 H0 ctx mem I H σ) (j : Nat) (hj : mem[j]? = some c) (hc : ∀ {I H : Hp} {fp : List Addr}, c.Q I H fp → fp = [l]) (h : c'.Q I (upd H l o) [l]) :
    Stt I0 H0 ctx (mem.set j c') I (upd H l o) σ := by
  obtain ⟨fp, q, nd, k, go⟩ := s.change hj
  cases hc q
  obtain ⟨_, kI, _⟩ := k l (List.mem_singleton_self l)
  refine go I (upd H l o) _ [l] (Fm.rmUpd s.same kI) nd (fun a ha => ?_) h
  rw [List.mem_singleton.mp ha]
  exact ⟨rm_in (List.mem_singleton_self l), kI, by rw [upd_same]; intro z; cases z⟩
def ice (I H : Hp) (fp : List Addr) : Hp := fun a => if a ∈ fp then H a else I a
theorem ice_in {I H : Hp} {fp : List Addr} {a : Addr} (h : a ∈ fp) : ice I H fp a = H a := if_pos h
theorem ice_out {I H : Hp} {fp : List Addr} {a : Addr} (h : a ∉ fp) : ice I H fp a = I a := if_neg h
theorem ice_same {I H : Hp} {fp : List Addr} (h : ∀ a, a ∈ fp → I a = none) : Same I (ice I H fp) := fun b u e => by
  rw [ice_out fun z => by rw [h b z] at e; cases e]; exact e
theorem Stt.freezeAt {I0 H0 I H : Hp} {c : MF} {σ : St} (s : Stt I0 H0 ctx mem I H σ) (j : Nat) (hj : mem[j]? = some c) : ∃ fp, c.Q I H fp ∧ (∀ a, a ∈ fp → I a = none) ∧ Same I (ice I H fp) ∧ Stt I0 H0 ctx (mem.eraseIdx j) (ice I H fp) H σ := by
  obtain ⟨fps, rg, nd, k⟩ := s.me
  obtain ⟨M1, M2, A, fp, B, e1, e2, e3, h1, h2, h3⟩ := rg.split hj
  subst e1; subst e2
  rw [flat_mid] at nd k
  have ndA := List.nodup_append.mp nd
  have ndB := List.nodup_append.mp ndA.2.1
  have kf : ∀ a, a ∈ fp → H0 a = none ∧ I a = none ∧ H a ≠ none := fun a ha => k a (List.mem_append_right _ (List.mem_append_left _ ha))
  have oth : ∀ a, a ∈ A.flatten ∨ a ∈ B.flatten → a ∉ fp ∧ H0 a = none ∧ I a = none ∧ H a ≠ none := fun a ha => by
    rcases ha with ha | ha
    · exact ⟨fun z => ndA.2.2 a ha a (List.mem_append_left _ z) rfl, k a (List.mem_append_left _ ha)⟩
    · exact ⟨fun z => ndB.2.2 a z a ha rfl, k a (List.mem_append_right _ (List.mem_append_right _ ha))⟩
  have sm : Same I (ice I H fp) := ice_same fun a ha => (kf a ha).2.1
  refine ⟨fp, h2, fun a ha => (kf a ha).2.1, sm, ⟨s.fm.i.trans sm, s.fm.h, fun b u e => ?_, fun l e n => ?_⟩, s.len, fun i sf e => ?_, A ++ B, ?_, ?_, fun a ha => ?_⟩
  · by_cases hb : b ∈ fp
    · rw [ice_in hb] at e; exact e
    · rw [ice_out hb] at e; exact s.fm.ih _ _ e
  · rw [ice_out fun z => n (kf l z).1]; exact s.fm.mu l e n
  · obtain ⟨v, e1, q⟩ := s.sl i sf e
    exact ⟨v, e1, sf.mo.up sm q⟩
  · rw [erase_mid e3]
    exact (h1.up sm fun _ _ => rfl).join (h3.up sm fun _ _ => rfl)
  · rw [List.flatten_append]
    exact List.nodup_append.mpr ⟨ndA.1, ndB.2.1, fun a ha b hb => ndA.2.2 a ha b (List.mem_append_right _ hb)⟩
  · rw [List.flatten_append] at ha
    obtain ⟨n, x, y, z⟩ := oth a (List.mem_append.mp ha)
    exact ⟨x, by rw [ice_out n]; exact y, z⟩
theorem Stt.forgetAt {I0 H0 I H : Hp} {c : MF} {σ : St} (s : Stt I0 H0 ctx mem I H σ) (j : Nat) (hj : mem[j]? = some c) : Stt I0 H0 ctx (mem.eraseIdx j) I H σ := by
  obtain ⟨fps, rg, nd, k⟩ := s.me
  obtain ⟨M1, M2, A, fp, B, e1, e2, e3, h1, h2, h3⟩ := rg.split hj
  subst e1; subst e2
  rw [flat_mid] at nd k
  refine ⟨s.fm, s.len, s.sl, A ++ B, by rw [erase_mid e3]; exact h1.join h3, ?_, fun a ha => ?_⟩
  · have ndA := List.nodup_append.mp nd
    have ndB := List.nodup_append.mp ndA.2.1
    rw [List.flatten_append]
    exact List.nodup_append.mpr ⟨ndA.1, ndB.2.1, fun a ha b hb => ndA.2.2 a ha b (List.mem_append_right _ hb)⟩
  · rw [List.flatten_append] at ha
    rcases List.mem_append.mp ha with z | z
    · exact k a (List.mem_append_left _ z)
    · exact k a (List.mem_append_right _ (List.mem_append_right _ z))
theorem J1.sfld (i : Nat) {x C dx : Addr} {f sn : Str} {p1 : Pos} {gs : List (Str × SF)} {r : Rp α} [mo : Mo r] {m : Res α} (j : JE X I0 H0 W ctx (.ins x C dx gs :: mem) e m (rp r)) (cl : Cls X.K C) (hn : NoAttr X.K C f) (hg : gs.length < 1000) (hx : ∀ I H σ d, Stt I0 H0 ctx (.ins x C dx gs :: mem) I H σ → Fr H0 d → Kx I H σ d)
    (hc : ctx[i]? = some (some (SF.mk (rRef x) ())) := by rfl) (hN : X.N[i]? = some sn := by rfl) (hv : Vis X.env.scope sn := by first | exact Or.inl rfl | exact Or.inr (Or.inl rfl) | exact Or.inr (Or.inr rfl)) (hd : (sn == ("__debug__" : Str)) = false := by decide)
    (hcd : (sn == ("__classdict__" : Str)) = false := by decide) (hs : swapsWith e (some (.Attribute (.Name sn p1) f pos')) pos.line X.env = pure false := by rfl) :
    J1 X W Kx (Stt I0 H0 ctx (.ins x C dx gs :: mem)) (.Assign [.Attribute (.Name sn p1) f pos'] e pos) m (fun y => Stt I0 H0 ctx (.ins x C dx (putG f ⟨r, y⟩ gs) :: mem)) := fun I H σ D g p => by
  refine s_fld (j I H σ _ g ?_) hs
  cases m with
  | ok y =>
    intro I1 H1 v f1 h1
    have g1 := g.step f1
    obtain ⟨u, eu, hu⟩ := g1.sl i _ hc
    cases (show u = V.ref x from hu)
    obtain ⟨_, _, oo, zH, fs, eo, hf⟩ := g1.insAt (j := 0) (l := x) rfl
    subst eo
    refine w_var i ⟨x, C, dx, fs, rfl, zH, cl, hn, ?_, ?_⟩ eu hN hv hd hcd
    · rw [hf.length]; exact hg
    · exact p I1 _ σ f1.i (g1.cellAt (l := x) (c' := .ins x C dx (putG f ⟨r, y⟩ gs)) 0 rfl (fun q => q.1) ⟨rfl, _, upd_same, _, rfl, hf.put h1⟩)
  | err e => exact fun I' H' c d f x => p I' H' σ c d (hx _ _ _ _ (g.step f) (x.1.back g.fm.h)) x.2
  | stuck => exact p
theorem Stt.freeze {I0 H0 I H : Hp} {σ : St} {l C dx : Addr} {gs : List (Str × SF)} (s : Stt I0 H0 ctx (.ins l C dx gs :: mem) I H σ) : ∃ fs I', H l = some (.ins C dx fs) ∧ FldR I fs gs ∧ Stt I0 H0 ctx mem I' H σ ∧ Same I I' ∧ I' l = some (.ins C dx fs) := by
  obtain ⟨fp, ⟨e, o, h, fs, eo, p⟩, _, sm, s2⟩ := s.freezeAt 0 rfl
  subst e; subst eo
  exact ⟨fs, _, h, p, s2, sm, by rw [ice_in (List.mem_singleton_self l)]; exact h⟩

def spI (K : PySem.W.Frag) (C : Addr) (R : Hp → Hp → List V → δ → Prop) (m : δ → Res γ) (r : Ra γ) : Sp := fun vs H Q E => ∃ x dx ws H0 I d, vs = .ref x :: ws ∧ H0 x = none ∧ H0 dx = none ∧ dx ≠ x ∧ H = upd (upd H0 dx (.own x)) x (.ins C dx []) ∧ Same I H0 ∧ R I H0 ws d ∧
  PostE K (m d) r I H0 E (fun u H2 => u = .ref x → Q .non H2)
theorem cj_make {k : Nat} {C f : Addr} {fd : FuncData} {ps : List Str} {ds : List Value} {dvs : List V} {R R' : Hp → Hp → List V → δ → Prop} {m : δ → Res γ} (M : Mk X.K C f) (F : FnOk X.prog X.w X.K X.mg X.base (L2N.CX X.prog X.w) k f fd ps (spI X.K C R m rc)) (hr : Room (k + 1) X.A) (hb : Binds X.K fd ps ds) (hd : Vals dvs ds) (tk : L2N.Takes X W)
    (hR : ∀ I H vs d, R' I H vs d → R I H (vs ++ dvs) d) : CallJ X W (.ref C) R' m rc := fun I H σ Q vs d sm h p pins s us Iv r => by
  have n1 := Iv.hok.fresh (Nat.le_succ s.heap.objs.size)
  have n2 := Iv.hok.fresh (Nat.le_refl s.heap.objs.size)
  have n3 := Nat.ne_of_lt (Nat.lt_succ_self s.heap.objs.size)
  have hq : spI X.K C R m rc (.ref (s.heap.objs.size + 1) :: (vs ++ dvs)) (upd (upd H s.heap.objs.size (.own (s.heap.objs.size + 1))) (s.heap.objs.size + 1) (.ins C s.heap.objs.size [])) (fun v H2 => v = .non ∧ Q (.ref (s.heap.objs.size + 1)) H2) (fun cls d H' => W cls d σ H') :=
    ⟨s.heap.objs.size + 1, s.heap.objs.size, vs ++ dvs, H, I, d, rfl, n1, n2, n3, rfl, sm, hR _ _ _ _ h, p.imp fun v H' q e => ⟨rfl, e ▸ q⟩⟩
  have I2 := Inv.made (C := C) Iv
  have r2 : Vals (V.ref (s.heap.objs.size + 1) :: (vs ++ dvs)) (Value.ref (s.heap.objs.size + 1) :: (us ++ ds)) := .cons rfl (r.append hd)
  have hl : (Value.ref (s.heap.objs.size + 1) :: us ++ ds).length = ps.length := by
    have e := r2.length
    rw [F.len _ _ _ _ hq] at e
    exact e.symm
  refine wpAny_call (make_map (f := f) Iv.kIn M.makes M.init (beq_iff_eq.mp M.fn) (codeAny_mono (F.run _ X.stack _ _ ⟨Value.ref (s.heap.objs.size + 1) :: us, []⟩ (Value.ref (s.heap.objs.size + 1) :: (us ++ ds)) _ _ _ (hr.make C us [])
    (I2.env0.make C us []) (hb _ (Value.ref (s.heap.objs.size + 1) :: us) I2.kIn hl) r2 hq) fun r s' hq' => ?_))
  cases r with
  | error e => exact L2N.passAt tk σ pins _ _ e s' I2 hq'
  | ok fl =>
    cases fl with
    | ret u =>
      obtain ⟨v, H', I3, rv, ev, q3⟩ := I2.after hq'
      subst ev
      exact ⟨rv, ⟨V.ref (s.heap.objs.size + 1), H', I3, rfl, q3⟩⟩
    | next => exact False.elim hq'
    | brk => exact False.elim hq'
    | cont => exact False.elim hq'
end
section
variable {γ δ : Type} {P : Program} {w : World} {K : PySem.W.Frag} {mg : Str → Option Value} {base : Heap} {x qual : Str} {params : Arguments} {body : List Stmt} {scope : Scope} {dvs : List V} {kws : List (Str × V)} {f C : Addr} {fd : FuncData} {N ps : List Str} {k : Nat} {R : Hp → Hp → List V → δ → Prop} {m : δ → Res γ} {r : Ra γ}
theorem Stt.fresh {I0 H0 : Hp} {y dx : Addr} {σ : St} {ctx : List (Option SF)} (sm : Same I0 H0) (n1 : H0 y = none) (n2 : H0 dx = none) (n3 : dx ≠ y) (hl : σ.length = ctx.length) (hs : ∀ (i : Nat) (sf : SF), ctx[i]? = some (some sf) → ∃ v, σ[i]? = some (some v) ∧ sf.r I0 v sf.x) :
    Stt I0 H0 ctx [.ins y C dx []] I0 (upd (upd H0 dx (.own y)) y (.ins C dx [])) σ := by
  have e1 : Same H0 (upd (upd H0 dx (.own y)) y (.ins C dx [])) := fun b u e => by rw [upd_ne (ne_of_none e n1), upd_ne (ne_of_none e n2)]; exact e
  exact ⟨⟨Same.refl _, e1, sm.trans e1, fun _ e _ => e⟩, hl, hs, [[y]], ⟨⟨rfl, _, upd_same, [], rfl, True.intro⟩, True.intro⟩, by simp, fun a ha => by
    cases List.mem_singleton.mp (show a ∈ [y] by simpa using ha)
    exact ⟨n1, sm.free n1, by rw [upd_same]; intro z; cases z⟩⟩
theorem FunD.init {S : Type} (F : FunD K x qual params body scope dvs kws f fd) (Sc : FnScope N ps scope) (len : ∀ I H vs d, R I H vs d → vs.length + 1 = ps.length)
    (hb : ∀ (cdv : Value) (A : Around) (outer : List Env) (s : Shared) (I0 H0 H1 : Hp) (E : XK) (vs : List V) (d : δ) (y dx : Addr), Room k (A.deeper (envOfC qual scope s.heap.objs.size f cdv)) → Same I0 H0 → R I0 H0 vs d → H0 y = none → H0 dx = none → dx ≠ y → H1 = upd (upd H0 dx (.own y)) y (.ins C dx []) →
      ∃ (G : Knows) (S : Type) (mm : Res S) (G' : S → Knows), G I0 H1 (start N (.ref y :: vs)) ∧ JN (bx P w K mg base N qual scope f cdv A outer s H1 E) (bW E) (bK I0 H0) G body mm G' ∧
        (match mm with
         | .ok s => ∃ z, m d = .ok z ∧ ∀ I' H' σ', G' s I' H' σ' → ∃ I'', Fm I0 H0 I'' H' ∧ r I'' H' (.ref y) z
         | .err e => m d = .err e
         | .stuck => m d = .stuck)) : FnOk P w K mg base (L2N.CX P w) (k + 1) f fd ps (spI K C R m r) := by
  refine F.ok Sc (fun vs H Q E ⟨y, dx, ws, H0, I, d, e, _, _, _, _, _, h, _⟩ => by rw [e, List.length_cons]; exact len I H0 ws d h) fun cdv A outer s H vs Q E hr ⟨y, dx, ws, H0, I, d, e, n1, n2, n3, eH, sm, h, p⟩ => ⟨_, pss_W, ?_⟩
  subst e
  obtain ⟨G, S, mm, G', g, j, fin⟩ := hb cdv A outer s I H0 H E ws d y dx hr sm h n1 n2 n3 eH
  refine j I H _ _ g ?_
  cases mm with
  | ok z =>
    obtain ⟨y', e1, h1⟩ := fin
    intro I' H' σ' _ g'
    obtain ⟨I'', f1, r1⟩ := h1 I' H' σ' g'
    rw [e1] at p
    exact p I'' H' _ f1 r1 rfl
  | err e =>
    rw [show m d = _ from fin] at p
    exact fun I' H' _ c d f x => p I' H' c d f.1 ⟨f.2, x⟩
  | stuck =>
    rw [show m d = _ from fin] at p
    exact p
end
end L2.Tr

namespace L2.Tr
open PySem PySem.Spec PyProof.Rows He
abbrev FB := PySem.W.Frag → Bool
abbrev AlX : Type := Bool × List FnW
def obsX (fs : List FB) (fn : List DefD) (K : PySem.W.Frag) : AlX := ((fs.all fun f => f K) && fn.all fun d => d.ok K, fn.map fun d => fnW K d.at_)
def valX (fn : List DefD) : AlX := (true, fn.map DefD.val)
def SaysX (fs : List FB) (fn : List DefD) (K : PySem.W.Frag) : Prop := obsX fs fn K = valX fn
section
variable {fs : List FB} {fn : List DefD} {K : PySem.W.Frag} {mg : Str → Option Value} {h : Heap}
theorem SaysX.fact (c : SaysX fs fn K) (i : Nat) {f : FB} (h : fs[i]? = some f := by rfl) : f K = true := by
  have c1 := (ba (show ((fs.all fun f => f K) && fn.all fun d => d.ok K) = true from congrArg (fun z : AlX => z.1) c)).1
  exact List.all_eq_true.mp c1 f (List.mem_of_getElem? h)
theorem SaysX.def_ (c : SaysX fs fn K) (i : Nat) {d : DefD} (h : fn[i]? = some d := by rfl) : ∃ fd, FunD K d.name d.qual d.params d.body d.scope (d.dvs K) (d.kws K) (fAd K d.at_) fd := by
  have c2 := (ba (show ((fs.all fun f => f K) && fn.all fun d => d.ok K) = true from congrArg (fun z : AlX => z.1) c)).2
  have e : fn.map (fun d => fnW K d.at_) = fn.map DefD.val := congrArg (fun z : AlX => z.2) c
  have e2 : (fn.map fun d => fnW K d.at_)[i]? = (fn.map DefD.val)[i]? := by rw [e]
  rw [List.getElem?_map, List.getElem?_map, h] at e2
  exact DefD.funD (Option.some.inj e2) (List.all_eq_true.mp c2 d (List.mem_of_getElem? h))
def fGlo (x : Str) : FB := fun K => (Fa.glo x).ok K
def fFree (x : Str) : FB := fun K => (Fa.free x).ok K
def fKeep (x : Str) : FB := fun K => PySem.W.keepIn K (.ref (ga K x))
def fNoat (x f : Str) : FB := fun K => (Fa.noat x f).ok K
def fMkr (x : Str) : FB := fun K => (Fa.mkr x).ok K
def fExc (x : Str) : FB := fun K => (Fa.exc x).ok K && (Fa.glo x).ok K
def fOcl (x : Str) : FB := fun K => (Fa.cls x).ok K && (PySem.W.selfFirst K (ga K x) && (eqO (PySem.W.findIn K (.ref (ga K x)) "__class__") (some (some (.builtin "object.__class__"))) && (eqO (PySem.W.specialIn K (.builtin "object.__class__") "__get__") (some (some (.builtin "getset_descriptor.__get__"))) &&
  (decide (PySem.W.takesIn K (.builtin "object.__class__") = some true) && (decide (PySem.W.mroIn K (ga K x) (.type "object") = some true) && (decide (PySem.W.subIn K (.ref (ga K x)) (.type "int") = some false) && (decide (PySem.W.subIn K (.type "int") (.ref (ga K x)) = some false) &&
  eqO (PySem.W.findIn K (.ref (ga K x)) "__ne__") (some (some (.builtin "object.__ne__"))))))))))
def fOMet (x m : Str) : FB := fun K => eqO (PySem.W.findIn K (.ref (ga K x)) m) (some (some (.ref (ma K (ga K x) m)))) && PySem.W.isFn K (.ref (ma K (ga K x) m))
def fKit (x y : Str) (b : Bool) : FB := fun K => decide (PySem.W.kitOne K (.ref (ga K x)) (.ref (ga K y)) = some b)
theorem glo_of (X : K.In h) (G : h.Ns mainGlobals mg) {x : Str} (c : fGlo x K = true) : mg x = some (.ref (ga K x)) := glo_ok X G c
theorem free_of (X : K.In h) (G : h.Ns mainGlobals mg) {x : Str} (c : fFree x K = true) : mg x = none := free_ok X G c
theorem noat_of {x f : Str} (c : fNoat x f K = true) : NoAttr K (ga K x) f := noat_ok c
theorem mkr_of {x : Str} (c : fMkr x K = true) : Mk K (ga K x) (ma K (ga K x) "__init__") := mkr_ok c
theorem exc_of (X : K.In h) (G : h.Ns mainGlobals mg) {x : Str} (c : fExc x K = true) : ExcP K mg x := by
  obtain ⟨c1, c2⟩ := ba c
  obtain ⟨a, b, d, e⟩ := exc_ok c1
  exact ⟨a, b, d, e, glo_ok X G c2⟩
theorem ocl_of {x : Str} (c : fOcl x K = true) : OCls K (ga K x) := by
  obtain ⟨c0, c⟩ := ba c
  obtain ⟨c1, c⟩ := ba c
  obtain ⟨c2, c⟩ := ba c
  obtain ⟨c3, c⟩ := ba c
  obtain ⟨c4, c⟩ := ba c
  obtain ⟨c5, c⟩ := ba c
  obtain ⟨c6, c⟩ := ba c
  obtain ⟨c7, c8⟩ := ba c
  exact ⟨cls_ok c0, c1, eqO_ok c2, eqO_ok c3, of_decide_eq_true c4, of_decide_eq_true c5, of_decide_eq_true c6, of_decide_eq_true c7, eqO_ok c8⟩
theorem omet_of {x m : Str} (c : fOMet x m K = true) : OMet K (ga K x) m (ma K (ga K x) m) := by
  obtain ⟨a, b⟩ := ba c
  exact ⟨eqO_ok a, b⟩
theorem kit_of' {x y : Str} {b : Bool} (c : fKit x y b K = true) : PySem.W.kitOne K (.ref (ga K x)) (.ref (ga K y)) = some b := of_decide_eq_true c
end
end L2.Tr

namespace L2.Tr
open PySem PySem.Spec PyProof.Rows
section
variable {α β γ δ S : Type} {X : Cx} {I0 H0 : Hp} {W : WX} {Kx : KnowsX} {G : Knows} {ctx cw : List (Option SF)} {mem : List MF} {e a b c o : Expr} {es bs : List Expr} {st b₀ : Stmt} {ss s1 s2 body suite : List Stmt} {pos pos' np : Pos} {n x : Str} {ra : Ra α} {rb : Ra β} {rr : Ra γ} {ma : Res α} {mb : Res β}
def weakC : List (Option SF) → List (Option SF) → Prop
  | [], [] => True
  | _ :: c, none :: d => weakC c d
  | a :: c, some b :: d => a = some b ∧ weakC c d
  | _, _ => False
theorem weakC.len : ∀ {c d : List (Option SF)}, weakC c d → c.length = d.length
  | [], [], _ => rfl
  | _ :: _, none :: _, h => congrArg Nat.succ (weakC.len (c := _) h)
  | _ :: _, some _ :: _, h => congrArg Nat.succ (weakC.len (c := _) h.2)
  | [], _ :: _, h => h.elim
  | _ :: _, [], h => h.elim
theorem weakC.get : ∀ {c d : List (Option SF)} {i : Nat} {sf : SF}, weakC c d → d[i]? = some (some sf) → c[i]? = some (some sf)
  | [], [], _, _, _, e => by simp at e
  | _ :: _, none :: _, 0, _, _, e => by simp at e
  | _ :: c, none :: d, i + 1, sf, h, e => by
    have e' : d[i]? = some (some sf) := by simpa using e
    have := weakC.get (c := c) h e'
    simpa using this
  | _ :: _, some _ :: _, 0, _, h, e => by
    have e' : some _ = some (some _) := e
    rw [h.1]; simpa using e
  | _ :: c, some _ :: d, i + 1, sf, h, e => by
    have e' : d[i]? = some (some sf) := by simpa using e
    have := weakC.get (c := c) h.2 e'
    simpa using this
  | [], _ :: _, _, _, h, _ => h.elim
  | _ :: _, [], _, _, h, _ => h.elim
theorem Stt.weak {I H : Hp} {σ : St} (s : Stt I0 H0 ctx mem I H σ) (h : weakC ctx cw) : Stt I0 H0 cw mem I H σ := ⟨s.fm, by rw [s.len, h.len], fun i sf e => s.sl i sf (h.get e), s.me⟩
theorem lookup_mem {L : List (Str × Bool)} {x : Str} {b : Bool} (h : L.lookup x = some b) : (x, b) ∈ L := by
  induction L with
  | nil => cases h
  | cons p L ih =>
    obtain ⟨y, c⟩ := p
    have h' : (match x == y with | true => some c | false => L.lookup x) = some b := h
    cases q : (x == y) with
    | true =>
      rw [q] at h'
      cases h'
      rw [beq_iff_eq.mp q]; exact List.mem_cons_self
    | false => rw [q] at h'; exact List.mem_cons_of_mem _ (ih h')
def rExc (a : Addr) : Rp Unit := fun _ v _ => v = .ref a
instance {a : Addr} : Mo (rExc a) := ⟨fun _ h => h⟩
def MF.xd (K : PySem.W.Frag) (l : Addr) (ps : List (Str × Pay)) : MF := .one l (fun I o => ∃ fs, o = .xd fs ∧ Paired (fun (p : Str × V) (q : Str × Pay) => p.1 = q.1 ∧ PayR K I p.2 q.2) fs ps) (fun s ⟨fs, e, p⟩ => ⟨fs, e, Paired.mapP p fun _ q h => ⟨h.1, by
  obtain ⟨h1, h2⟩ := h
  cases hq : q.2 with
  | int i => rw [hq] at h2; exact h2
  | str i => rw [hq] at h2; exact h2
  | bl i => rw [hq] at h2; exact h2
  | non => rw [hq] at h2; exact h2
  | frac i => rw [hq] at h2; exact Mo.up (r := rFrac K) s h2
  | wts i j =>
    rw [hq] at h2
    obtain ⟨a, dx, b, dy, l, vs, e1, e2, e3, e4, e5⟩ := h2
    exact ⟨a, dx, b, dy, l, vs, e1, s _ _ e2, s _ _ e3, s _ _ e4, Paired.mapP e5 fun _ _ z => Mo.up (r := rFrac K) s z⟩⟩⟩)
def exm (K : PySem.W.Frag) (d : Option Addr) (e : Exn) : List MF := match d with
  | none => []
  | some a => [.xd K a e.pay]
def NoXd : List MF → Prop
  | [] => True
  | c :: m => (∀ (I H : Hp) (fp : List Addr) (a : Addr) (fs : List (Str × V)), c.Q I H fp → a ∈ fp → H a ≠ some (.xd fs)) ∧ NoXd m
theorem NoXd.at {I H : Hp} : ∀ {mem : List MF} {fps : List (List Addr)}, NoXd mem → Regs I H mem fps → ∀ (a : Addr) (fs : List (Str × V)), a ∈ fps.flatten → H a ≠ some (.xd fs)
  | [], [], _, _, a, fs, ha => by simp at ha
  | _ :: _, fp :: fps, ⟨n, m⟩, ⟨q, r⟩, a, fs, ha => by
    rw [List.flatten_cons] at ha
    rcases List.mem_append.mp ha with z | z
    · exact n I H fp a fs q z
    · exact NoXd.at m r a fs z
  | [], _ :: _, _, h, _, _, _ => h.elim
  | _ :: _, [], _, h, _, _, _ => h.elim
theorem Stt.exm {K : PySem.W.Frag} {I H : Hp} {σ : St} {ee : Exn} {cls : Value} {d : Option Addr} (s : Stt I0 H0 ctx mem I H σ) (f : Fr H0 d) (x : ExR K I H ee cls d) (hm : NoXd mem) : Stt I0 H0 ctx (Tr.exm K d ee ++ mem) I H σ := by
  cases d with
  | none => exact s
  | some a =>
    obtain ⟨_, _, fs, e1, e2, pr⟩ := x
    obtain ⟨fps, rg, nd, k⟩ := s.me
    have out : a ∉ fps.flatten := fun z => hm.at rg a fs z e1
    refine ⟨s.fm, s.len, s.sl, [a] :: fps, ⟨⟨rfl, _, e1, fs, rfl, pr⟩, rg⟩, ?_, fun b hb => ?_⟩
    · rw [List.flatten_cons]; exact List.nodup_cons.mpr ⟨out, nd⟩
    · rw [List.flatten_cons] at hb
      rcases List.mem_cons.mp hb with z | z
      · rw [z]; exact ⟨f a rfl, e2, by rw [e1]; intro y; cases y⟩
      · exact k b z
end
end L2.Tr

namespace L2.Tr
open PySem PySem.Spec PyProof.Rows
section
variable {α β γ δ S : Type} {X : Cx} {I0 H0 : Hp} {W : WX} {Kx : KnowsX} {G : Knows} {ctx cw : List (Option SF)} {mem : List MF} {e a b c o : Expr} {es bs : List Expr} {pos pos' np : Pos} {n x : Str} {ra : Ra α} {rb : Ra β} {rc : Ra γ} {ma : Res α} {mb : Res β}
def IniR (I : Hp) : List V → List (Option SF) → Prop
  | [], c => ∀ (i : Nat) (sf : SF), c[i]? ≠ some (some sf)
  | v :: vs, some sf :: c => sf.r I v sf.x ∧ IniR I vs c
  | _ :: _, _ => False
theorem IniR.get {I : Hp} : ∀ {vs : List V} {c : List (Option SF)} {n : Nat}, IniR I vs c → ∀ (i : Nat) (sf : SF), c[i]? = some (some sf) → ∃ v, (vs.map some ++ List.replicate n none)[i]? = some (some v) ∧ sf.r I v sf.x
  | [], c, n, h, i, sf, e => (h i sf e).elim
  | v :: vs, some sf' :: c, n, ⟨a, b⟩, 0, sf, e => by
    have e' : sf' = sf := by simpa using e
    subst e'
    exact ⟨v, by simp, a⟩
  | v :: vs, some sf' :: c, n, ⟨a, b⟩, i + 1, sf, e => by
    have e' : c[i]? = some (some sf) := by simpa using e
    obtain ⟨u, h1, h2⟩ := IniR.get (n := n) b i sf e'
    exact ⟨u, by simpa using h1, h2⟩
  | _ :: _, none :: _, _, h, _, _, _ => h.elim
  | _ :: _, [], _, h, _, _, _ => h.elim
theorem Stt.start {N : List Str} {vs : List V} (sm : Same I0 H0) (h : IniR I0 vs ctx) (hl : ctx.length = N.length) (hv : vs.length ≤ N.length) : Stt I0 H0 ctx [] I0 H0 (L2.start N vs) := by
  refine ⟨Fm.refl sm, ?_, fun i sf e => IniR.get h i sf e, [], True.intro, by simp, fun a ha => by simp at ha⟩
  unfold L2.start
  rw [List.length_append, List.length_map, List.length_replicate, hl]
  omega
theorem ini_nil {I : Hp} {c : List (Option SF)} (h : c.all (·.isNone) = true) : IniR I [] c := fun i sf e => by
  have := List.all_eq_true.mp h _ (List.mem_of_getElem? e)
  cases this
theorem FnR.nice {P : Program} {w : World} {K : PySem.W.Frag} {mg : Str → Option Value} {base : Heap} {k : Nat} {f : Addr} {R : Hp → Hp → List V → δ → Prop} {m m' : δ → Res γ} (F : FnR P w K mg base (L2N.CX P w) k f (spF K R m rc)) (h : ∀ d, m' d = .stuck ∨ m' d = m d) :
    FnR P w K mg base (L2N.CX P w) k f (spF K R m' rc) := F.imp fun vs H Q E ⟨I, d, s, r, p⟩ => ⟨I, d, s, r, by
  rcases h d with e | e
  · rw [show m' d = _ from e] at p; exact p.elim
  · rw [← e]; exact p⟩
theorem FnOk.fr0 {P : Program} {w : World} {K : PySem.W.Frag} {mg : Str → Option Value} {base : Heap} {k : Nat} {f : Addr} {fd : FuncData} {ps : List Str} {R : Hp → Hp → List V → δ → Prop} {m : δ → Res γ} (F : FnOk P w K mg base (L2N.CX P w) k f fd ps (spF K R m rc)) (hb : Binds K fd ps []) :
    FnR P w K mg base (L2N.CX P w) k f (spF K R m rc) := (FnOk.raw F hb .nil).imp fun vs H Q E h => by rw [List.append_nil]; exact h
theorem tyr_ins {K : PySem.W.Frag} {C : Addr} {u : Value} {g : Bool} (hc : OCls K C) (ia : InsR C ra) (h : PySem.W.kitOne K (.ref C) u = some g) : TyR K ra u (fun _ => g) := fun I H v x s e => by
  obtain ⟨a, dx, fs, rfl, ha⟩ := ia I H v x s e
  exact ⟨.ref C, .base (.ins ha hc.cl hc.ca hc.cn hc.ct hc.cm), h⟩
theorem insF {K : PySem.W.Frag} : InsR (He.ga K "Fraction") (rp (rFrac K)) := fun I H v x s ⟨a, dx, e, h⟩ => ⟨a, dx, _, e, s _ _ h⟩
theorem w_glob_at {C : Addr} (hm : X.mg n = some (.ref C)) (hg : Gl X n) (hd : (n == ("__debug__" : Str)) = false) (σ : St) (H : Hp) (Q : VK) (h : Q (.ref C) H) : wE X (.Name n pos) σ H Q := w_glob h hm rfl hg hd
theorem fld_top {K : PySem.W.Frag} : FldOf K (He.ga K "Fraction") (rp (rFrac K)) "top" (fun q => q.num) (rp rInt) := fun I H v x s ⟨a, dx, e, h⟩ => ⟨a, dx, _, .int x.num, e, s _ _ h, rfl, rfl⟩
theorem fld_bottom {K : PySem.W.Frag} : FldOf K (He.ga K "Fraction") (rp (rFrac K)) "bottom" (fun q => (q.den : Int)) (rp rInt) := fun I H v x s ⟨a, dx, e, h⟩ => ⟨a, dx, _, .int (x.den : Int), e, s _ _ h, rfl, rfl⟩
variable {f f' : Addr} {k k' : Nat} {g : Rat × Num × Unit → Res γ} {g' : Rat × Int × Unit → Res γ}
variable {gb : Rat × Num × Unit → Res Bool}
end
def MkR {γ δ : Type} (P : Program) (w : World) (K : PySem.W.Frag) (mg : Str → Option Value) (base : Heap) (k : Nat) (C : Addr) (R : Hp → Hp → List V → δ → Prop) (m : δ → Res γ) (r : Ra γ) : Prop :=
  ∀ (X : Cx) (W : WX), X.prog = P → X.w = w → X.K = K → X.mg = mg → X.base = base → Room k X.A → L2N.Takes X W → CallJ X W (.ref C) R m r
theorem MkR.nice {γ δ : Type} {P : Program} {w : World} {K : PySem.W.Frag} {mg : Str → Option Value} {base : Heap} {k : Nat} {C : Addr} {R : Hp → Hp → List V → δ → Prop} {m m' : δ → Res γ} {r : Ra γ} (F : MkR P w K mg base k C R m r) (h : ∀ d, m' d = .stuck ∨ m' d = m d) : MkR P w K mg base k C R m' r := fun X W e1 e2 e3 e4 e5 hr tk I H σ Q vs d s a p => by
  refine F X W e1 e2 e3 e4 e5 hr tk I H σ Q vs d s a ?_
  rcases h d with e | e
  · rw [show m' d = _ from e] at p; exact p.elim
  · rw [← e]; exact p
theorem mkR_of {γ δ δ' : Type} {P : Program} {w : World} {K : PySem.W.Frag} {mg : Str → Option Value} {base : Heap} {k : Nat} {C f : Addr} {fd : FuncData} {ps : List Str} {ds : List Value} {dvs : List V} {R : Hp → Hp → List V → δ → Prop} {R' : Hp → Hp → List V → δ' → Prop} {m : δ → Res γ} {h : δ' → δ} {r : Ra γ} (M : Mk K C f) (F : FnOk P w K mg base (L2N.CX P w) k f fd ps (spI K C R m r)) (hb : Binds K fd ps ds) (hd : Vals dvs ds)
    (hR : ∀ I H vs d, R' I H vs d → R I H (vs ++ dvs) (h d)) : MkR P w K mg base (k + 1) C R' (fun d => m (h d)) r := fun X W e1 e2 e3 e4 e5 hr tk => by
  subst e1; subst e2; subst e3; subst e4; subst e5
  exact cj_make (R' := R') (m := fun d => m (h d)) (R := fun I H vs d => R I H vs (h d)) M (F.imp fun vs H Q E ⟨x, dx, ws, H0, I, d, a1, a2, a3, a4, a5, a6, a7, a8⟩ => ⟨x, dx, ws, H0, I, h d, a1, a2, a3, a4, a5, a6, a7, a8⟩) hr hb hd tk hR
def fExm (x y : Str) (b : Bool) : FB := fun K => (He.Fa.exm x y b).ok K
theorem exm_of {K : PySem.W.Frag} {x y : Str} {b : Bool} (c : fExm x y b K = true) : PySem.W.exmOne K (.ref (He.ga K x)) (.ref (He.ga K y)) = some b := He.exm_ok c
def fExcC (x : Str) : FB := fun K => He.eqO (PySem.W.findIn K (.ref (He.ga K x)) "__getattribute__") (some (some (.builtin "BaseException.__getattribute__"))) && (He.eqO (PySem.W.findIn K (.ref (He.ga K x)) "__getattr__") (some none) && (decide (PySem.W.subIn K (.ref (He.ga K x)) (.type "BaseException") = some true) && (PySem.W.hasDictIn K (He.ga K x) &&
  (He.eqO (PySem.W.findIn K (.ref (He.ga K x)) "__class__") (some (some (.builtin "object.__class__"))) && (He.eqO (PySem.W.specialIn K (.builtin "object.__class__") "__get__") (some (some (.builtin "getset_descriptor.__get__"))) && (decide (PySem.W.takesIn K (.builtin "object.__class__") = some true) && decide (PySem.W.mroIn K (He.ga K x) (.type "object") = some true)))))))
theorem excC_of {K : PySem.W.Frag} {x : Str} (c : fExcC x K = true) : ExcC K (He.ga K x) := by
  obtain ⟨c1, c⟩ := He.ba c
  obtain ⟨c2, c⟩ := He.ba c
  obtain ⟨c3, c⟩ := He.ba c
  obtain ⟨c4, c⟩ := He.ba c
  obtain ⟨c5, c⟩ := He.ba c
  obtain ⟨c6, c⟩ := He.ba c
  obtain ⟨c7, c8⟩ := He.ba c
  exact ⟨He.eqO_ok c1, He.eqO_ok c2, of_decide_eq_true c3, c4, He.eqO_ok c5, He.eqO_ok c6, of_decide_eq_true c7, of_decide_eq_true c8⟩
section
variable {S γ : Type} {X : Cx} {I0 H0 : Hp} {W : WX} {Kx : KnowsX} {ctx : List (Option SF)} {mem : List MF} {pos : Pos}
theorem J1.raiseP {x m : Str} {j : Nat} {p1 p2 p3 : Pos} {G' : S → Knows} (hc : X.calm = true) (tk : L2N.Takes X W) (ep : ExcP X.K X.mg x) (hx : ∀ I H σ d, Stt I0 H0 ctx mem I H σ → Fr H0 d → Kx I H σ d) (hg : Gl X x := by rfl) (hdb : (x == ("__debug__" : Str)) = false := by decide) :
    J1 X W Kx (Stt I0 H0 ctx mem) (.Raise (some (.Call (.Name x p1) [.Constant (.str m) j p2] [] p3)) none pos) (.err ⟨x, []⟩ : Res S) G' := fun I H σ D g p => by
  refine s_raise hc tk (L2N.pmk_own PySem.F.excBase_ValueError ep.ex ep.gl ep.kp (raises_own ep.bs ep.ty) hg hdb) ?_
  exact p I H σ _ none (hx _ _ _ _ g fun _ z => nomatch z) ⟨rfl, rfl⟩
end
end L2.Tr

namespace L2.Tr
open PySem PySem.Spec PyProof.Rows
section
variable {α β γ δ ε : Type} {X : Cx} {I0 H0 : Hp} {W : WX} {ctx : List (Option SF)} {mem : List MF} {e a b c o : Expr} {es bs : List Expr} {kws : List Keyword} {pos pos' kpos : Pos} {n x : Str} {nm : Option Str} {ra : Ra α} {rb : Ra β} {rc : Ra γ} {ma : Res α} {mb : Res β}
def JK (X : Cx) (I0 H0 : Hp) (W : WX) (ctx : List (Option SF)) (mem : List MF) (kws : List Keyword) (m : Res δ) (R : Hp → Hp → List V → δ → Prop) : Prop :=
  ∀ (pos : Pos) (I H : Hp) (σ : St) (Q : List V → Hp → Prop), Stt I0 H0 ctx mem I H σ → (match m with
    | .ok a => ∀ I' H' vs, Fm I H I' H' → R I' H' vs a → Q vs H'
    | .err e => ∀ I' H' cls d, Fm I H I' H' → Fr H d ∧ ExR X.K I' H' e cls d → W cls d σ H'
    | .stuck => False) → ∀ (pins : List (Addr × Obj)) (s : Shared), Inv X pins σ H s → wpAny (model X.prog X.w) X.A (evalAll ((backToKw pos (keywordEach kws X.env)).map (·.2))) (AP X pins σ Q) X.xe s
theorem JK.nil : JK X I0 H0 W ctx mem [] (.ok ()) aNil := fun pos I H σ Q st p pins s Iv => wpAny_evalAll_nil ⟨[], H, Iv, .nil, p I H [] (Fm.refl st.same) rfl⟩
theorem JK.cons {R : Hp → Hp → List V → δ → Prop} {m : Res δ} [MoA ra] (j : JE X I0 H0 W ctx mem e ma ra) (k : JK X I0 H0 W ctx mem kws m R) : JK X I0 H0 W ctx mem (⟨nm, e, kpos⟩ :: kws) (ma.bind fun x => m.bind fun y => .ok (x, y)) (aCons ra R) := fun pos I H σ Q st p pins s Iv => by
  show wpAny _ _ (evalAll ((do let v ← eval e X.env; standAt pos; pure v) :: (backToKw pos (keywordEach kws X.env)).map (·.2))) _ _ s
  refine wpAny_evalAll_cons (wpAny_bind (thn (j I H σ (fun v H1 => ∀ pins s1 u, Inv X pins σ H1 s1 → RelV v u → wpAny (model X.prog X.w) X.A (evalAll ((backToKw pos (keywordEach kws X.env)).map (·.2))) (fun us s2 => AP X pins σ Q (u :: us) s2) X.xe s1) st ?_ pins s Iv) fun u s1 ⟨v, H1, I1, r1, q1⟩ => wpAny_bind (wpAny_standAt (wpAny_pure (q1 pins s1 u I1 r1)))))
  cases ma with
  | ok x =>
    intro I1 H1 v f1 r1 pins s1 u Iv1 ru
    refine thn (k pos I1 H1 σ (fun vs H2 => Q (v :: vs) H2) (st.step f1) ?_ pins s1 Iv1) fun us s2 ⟨vs, H2, I2, r2, q2⟩ => ⟨v :: vs, H2, I2, .cons ru r2, q2⟩
    cases m with
    | ok y => exact fun I2 H2 vs f2 r2 => p I2 H2 _ (f1.trans f2) ⟨v, vs, rfl, MoA.up f2.i f2.h r1, r2⟩
    | err e => exact fun I2 H2 c d f2 x => p I2 H2 c d (f1.trans f2) ⟨x.1.back f1.h, x.2⟩
    | stuck => exact p
  | err e => exact p
  | stuck => exact p
def callKW (X : Cx) (f : Value) (ks : List Str) (σ : St) (xs zs : List V) (H : Hp) (Q : VK) : Prop := ∀ (pins : List (Addr × Obj)) (s : Shared) (us ws : List Value), Inv X pins σ H s → Vals xs us → Vals zs ws → wpAny (model X.prog X.w) X.A (call f us (ks.zip ws)) (EP X pins σ Q) X.xe s
def CallKJ (X : Cx) (W : WX) (f : Value) (ks : List Str) (R : Hp → Hp → List V → δ → Prop) (R' : Hp → Hp → List V → ε → Prop) (g : δ → ε → Res γ) (rc : Ra γ) : Prop :=
  ∀ (I H : Hp) (σ : St) (Q : VK) (vs zs : List V) (x : δ) (y : ε), Same I H → R I H vs x → R' I H zs y → PostE X.K (g x y) rc I H (fun cls d H' => W cls d σ H') Q → callKW X f ks σ vs zs H Q
class MoR {δ : Type} (R : Hp → Hp → List V → δ → Prop) : Prop where
  up : ∀ {I H I' H' : Hp} {vs : List V} {x : δ}, Same I I' → Same H H' → R I H vs x → R I' H' vs x
instance : MoR aNil := ⟨fun _ _ h => h⟩
instance {r : Ra α} {R : Hp → Hp → List V → δ → Prop} [m : MoA r] [m' : MoR R] : MoR (aCons r R) := ⟨fun a b ⟨v, ws, e, h, h'⟩ => ⟨v, ws, e, m.up a b h, m'.up a b h'⟩⟩
variable {R : Hp → Hp → List V → δ → Prop} {R' : Hp → Hp → List V → ε → Prop} {md : Res δ} {me : Res ε} {g : δ → ε → Res γ} {ks : List Str}
theorem JE.callK {f : Addr} [MoR R] (ja : JA X I0 H0 W ctx mem (e :: es) md R) (jk : JK X I0 H0 W ctx mem kws me R') (cj : CallKJ X W (.ref f) ks R R' g rc) (hm : X.mg n = some (.ref f)) (hk : PySem.W.keepIn X.K (.ref f) = true) (hg : Gl X n := by rfl) (hdb : (n == ("__debug__" : Str)) = false := by decide)
    (hall : (backToKw pos (keywordEach kws X.env)).all (·.1.isSome) = true := by rfl) (hks : (backToKw pos (keywordEach kws X.env)).filterMap (·.1) = ks := by rfl) (he : starEach (e :: es) X.env = (false, eval e X.env) :: starEach es X.env := by rfl)
    (hpl : ((backTo pos (starEach (e :: es) X.env)).any (·.1) || (backToKw pos (keywordEach kws X.env)).any (·.1.isNone)) = false := by rfl) : JE X I0 H0 W ctx mem (.Call (.Name n pos') (e :: es) kws pos) (md.bind fun x => me.bind fun y => g x y) rc := fun I H σ Q st p => wE.mk fun pins s Iv => by
  refine wpAny_Call_Name_kw (ld_glob Iv hg hm ?_ hdb)
  refine PySem.W.callWith_KW (h₀ := X.base) Iv.ok.mod.kin hk hall (thn (ja I H σ (fun vs H1 => ∀ pins s1 us, Inv X pins σ H1 s1 → Vals vs us → wpAny (model X.prog X.w) X.A (evalAll ((backToKw pos (keywordEach kws X.env)).map (·.2))) (fun ws s2 => X.K.In s2.heap ∧ wpAny (model X.prog X.w) X.A (PySem.call (.ref f) us (ks.zip ws)) (EP X pins σ Q) X.xe s2) X.xe s1) st ?_ pos pins s Iv) fun us s1 ⟨vs, H1, I1, r1, q1⟩ => ?_) hpl he
  · cases md with
    | ok x =>
      intro I1 H1 vs f1 r1 pins s1 us Iv1 ru
      have p1 := PostE.up p f1
      refine thn (jk pos I1 H1 σ (fun zs H2 => callKW X (.ref f) ks σ vs zs H2 Q) (st.step f1) ?_ pins s1 Iv1) fun ws s2 ⟨zs, H2, I2, r2, q2⟩ => ⟨I2.kIn, q2 pins s2 us ws I2 ru r2⟩
      cases me with
      | ok y => exact fun I2 H2 zs f2 r2 => cj I2 H2 σ Q vs zs x y f2.ih (MoR.up f2.i f2.h r1) r2 (PostE.up p1 f2)
      | err e => exact p1
      | stuck => exact p1
    | err e => exact p
    | stuck => exact p
  · refine thn (q1 pins s1 us I1 r1) fun ws s2 h => ?_
    rw [hks]
    exact h
theorem JE.callK0 {f : Addr} {g : Unit → ε → Res γ} (jk : JK X I0 H0 W ctx mem kws me R') (cj : CallKJ X W (.ref f) ks aNil R' g rc) (hm : X.mg n = some (.ref f)) (hk : PySem.W.keepIn X.K (.ref f) = true) (hg : Gl X n := by rfl) (hdb : (n == ("__debug__" : Str)) = false := by decide)
    (hall : (backToKw pos (keywordEach kws X.env)).all (·.1.isSome) = true := by rfl) (hks : (backToKw pos (keywordEach kws X.env)).filterMap (·.1) = ks := by rfl)
    (hpl : ((backTo pos (starEach [] X.env)).any (·.1) || (backToKw pos (keywordEach kws X.env)).any (·.1.isNone)) = false := by rfl) : JE X I0 H0 W ctx mem (.Call (.Name n pos') [] kws pos) (me.bind fun y => g () y) rc := fun I H σ Q st p => wE.mk fun pins s Iv => by
  refine wpAny_Call_Name_kw (ld_glob Iv hg hm ?_ hdb)
  refine PySem.W.callWith_KW0 (h₀ := X.base) Iv.ok.mod.kin hk hall ?_ hpl
  rw [hks]
  refine thn (jk pos I H σ (fun zs H2 => callKW X (.ref f) ks σ [] zs H2 Q) st ?_ pins s Iv) fun ws s2 ⟨zs, H2, I2, r2, q2⟩ => ⟨I2.kIn, q2 pins s2 [] ws I2 .nil r2⟩
  cases me with
  | ok y => exact fun I2 H2 zs f2 r2 => cj I2 H2 σ Q [] zs () y f2.ih rfl r2 (PostE.up p f2)
  | err e => exact p
  | stuck => exact p
theorem cx_false {P : Program} {w : World} {l : List Env} {H : Hp} {s : Shared} {e : Value} {s' : Shared} (h : L2N.CX P w l H s (fun _ _ _ => False) e s') : False := by
  obtain ⟨_, _, _, _, _, _, _, _, _, _, _, _, z⟩ := h
  exact z.elim
end
def MkK {γ δ ε : Type} (P : Program) (w : World) (K : PySem.W.Frag) (mg : Str → Option Value) (base : Heap) (k : Nat) (C : Addr) (ks : List Str) (R : Hp → Hp → List V → δ → Prop) (R' : Hp → Hp → List V → ε → Prop) (m : δ → ε → Res γ) (r : Ra γ) : Prop :=
  ∀ (X : Cx) (W : WX), X.prog = P → X.w = w → X.K = K → X.mg = mg → X.base = base → Room k X.A → L2N.Takes X W → CallKJ X W (.ref C) ks R R' m r
theorem MkK.nice {γ δ ε : Type} {P : Program} {w : World} {K : PySem.W.Frag} {mg : Str → Option Value} {base : Heap} {k : Nat} {C : Addr} {ks : List Str} {R : Hp → Hp → List V → δ → Prop} {R' : Hp → Hp → List V → ε → Prop} {m m' : δ → ε → Res γ} {r : Ra γ} (F : MkK P w K mg base k C ks R R' m r) (h : ∀ d e, m' d e = .stuck ∨ m' d e = m d e) : MkK P w K mg base k C ks R R' m' r := fun X W e1 e2 e3 e4 e5 hr tk I H σ Q vs zs d ee s a b p => by
  refine F X W e1 e2 e3 e4 e5 hr tk I H σ Q vs zs d ee s a b ?_
  rcases h d ee with e | e
  · rw [show m' d ee = _ from e] at p; exact p.elim
  · rw [← e]; exact p
end L2.Tr

namespace L2.Tr
open PySem PySem.Spec PyProof.Rows He
def nsB (K : PySem.W.Frag) (a : Addr) : Bool := match K.lookup a with
  | some o => (match o.data with
    | .dict es _ => es.all fun e => (match e.key with
      | .str _ _ => true
      | _ => false)
    | _ => false)
  | none => false
def nsG (K : PySem.W.Frag) (a : Addr) (x : Str) : Option Value := match K.lookup a with
  | some o => (match o.data with
    | .dict es _ => nsFind es x
    | _ => none)
  | none => none
theorem ns_of {K : PySem.W.Frag} {h : Heap} {a : Addr} (X : K.In h) (c : nsB K a = true) : h.Ns a (nsG K a) := by
  unfold nsB at c
  unfold nsG
  cases e : K.lookup a with
  | none => rw [e] at c; cases c
  | some o =>
    rw [e] at c
    dsimp only at c ⊢
    cases d : o.data with
    | dict es ep =>
      rw [d] at c
      dsimp only at c ⊢
      refine ⟨o, es, ep, X a o e, d, fun x hx => ?_, fun _ => rfl⟩
      have q := Array.all_eq_true'.mp c x hx
      cases k : x.key with
      | str n t => exact ⟨n, t, rfl⟩
      | _ => rw [k] at q; cases q
    | _ => rw [d] at c; cases c
def modB (K : PySem.W.Frag) : Option Value → Bool
  | some (.ref bm) => (match K.lookup bm with
    | some ob => (match ob.cls with
      | .type n => decide (n = "module")
      | _ => false) && decide (ob.dict = some builtinsNs)
    | none => false)
  | _ => false
def fSeer (K : PySem.W.Frag) : Bool := (nsB K cStatics && (nsG K cStatics "sys.audit-hooks").isNone && (nsG K cStatics "sys.dict").isNone) && (nsB K sysModules && (nsG K sysModules "_pylong").isNone) && (nsB K mainGlobals && modB K (nsG K mainGlobals "__builtins__"))
theorem seer_of {K : PySem.W.Frag} {h : Heap} (X : K.In h) (B : ∃ mb, h.Ns builtinsNs mb ∧ ∀ x : Str, x ≠ "__name__" → mb x = bootBuiltins x) (c : fSeer K = true) : h.NoSeer := by
  unfold fSeer at c
  simp only [Bool.and_eq_true, Option.isNone_iff_eq_none] at c
  obtain ⟨⟨⟨⟨a1, a2⟩, a3⟩, b1, b2⟩, c1, c2⟩ := c
  refine ⟨⟨_, ns_of X a1, a2, a3⟩, ⟨_, ns_of X b1, b2⟩, B, ?_⟩
  unfold modB at c2
  split at c2
  · rename_i bm e
    split at c2
    · rename_i ob q
      rw [Bool.and_eq_true, decide_eq_true_iff] at c2
      obtain ⟨d1, d2⟩ := c2
      split at d1
      · rename_i n z
        rw [decide_eq_true_iff] at d1
        subst d1
        exact ⟨_, bm, ob, ns_of X c1, e, X _ _ q, z, d2⟩
      · cases d1
    · cases c2
  · cases c2
structure Large (X : Cx) : Prop where
  seer : fSeer X.K = true
  tree : X.prog.given.tree = none
  room : Room 34 X.A
  top : ∃ e o, X.stack = e :: o ∧ e.scope.isGenerator = false ∧ e.scope.isCoroutine = false ∧ e.builtins = builtinsNs ∧ e.globals = mainGlobals
theorem pylong_room {X : Cx} {pins : List (Addr × Obj)} {σ : List (Option V)} {H : Hp} {s : Shared} (I : Inv X pins σ H s) (L : Large X) : PySem.PylongRoom (model X.prog X.w) X.A s := by
  obtain ⟨e, o, hs, hg, hc, hb, hl⟩ := L.top
  exact PySem.PylongRoom.of I.nolimit (by have := L.room.dp; show X.A.depth + 100 < _; omega) (PySem.SeerAt.of (M := model X.prog X.w) ((seer_of I.ok.mod.kin I.ok.mod.blt L.seer).keeps I.bk) L.tree (I.ok.frames.trans (congrArg some hs)) hg hc hb hl)
theorem op_fdivB {X : Cx} (L : Large X) : OpR X (binaryOp .FloorDiv) (rI (fun _ j => j ≠ 0) fun i j => .int (i.fdiv j)) := by
  intro pins s σ H x y v u Q I rx ry h
  obtain ⟨i, j, rfl, rfl, hc, q⟩ := h
  obtain ⟨t, rfl⟩ := rx
  obtain ⟨t', rfl⟩ := ry
  exact floordiv_int hc ⟨.int (i.fdiv j), H, I.tok _, ⟨_, rfl⟩, q⟩ (.inr (pylong_room I L))
theorem Large.bx {P : Program} {w : World} {K : PySem.W.Frag} {mg : Str → Option Value} {base : Heap} {N ps : List Str} {qual : Str} {scope : Scope} {f : Addr} {cdv : Value} {A : Around} {outer : List Env} {s : Shared} {H : Hp} {E : XK} {k : Nat} (h1 : fSeer K = true) (h2 : P.given.tree = none) (hr : Room k (A.deeper (envOfC qual scope s.heap.objs.size f cdv))) (S : FnScope N ps scope) (hk : 34 ≤ k := by decide) : Large (Tr.bx P w K mg base N qual scope f cdv A outer s H E) := ⟨h1, h2, hr.mono hk, _, _, rfl, S.gen, S.co, rfl, rfl⟩
def fdivB (x y : Int) : Res Int := Res.guard (y ≠ 0) (.ok (x.fdiv y))
theorem opj_fdivB {X : Cx} {W : WX} (L : Large X) : OpJ X W (binaryOp .FloorDiv) (rp rInt) (rp rInt) (fun x y => fdivB x y) (rp rInt) := fun I H σ Q u v x y s a b p => OpR.w (op_fdivB L) ⟨x, y, a, b, (post_guard p).1, (post_guard p).2 I H _ (Fm.refl s) rfl⟩
end L2.Tr

namespace L2.Tr
open PySem PySem.Spec PyProof.Rows
abbrev absI (x : Int) : Int := if x < 0 then -x else x
theorem absI_eq (x : Int) : absI x = (x.natAbs : Int) := by unfold absI; split <;> omega
theorem modI_ok {x y : Int} (h : y ≠ 0) : modI x y = .ok (x.fmod y) := Res.guard_pos h _
theorem cd_loop {c : Int × Int → Res Bool} {f : Int × Int → Res (Int × Int)} (hc : ∀ s, c s = .ok (!decide (s.2 = 0))) (hf : ∀ s, s.2 ≠ 0 → f s = .ok (s.2, s.1.fmod s.2)) : ∀ (k : Nat) (a b : Nat), b < k → whileM c f k ((a : Int), (b : Int)) = .ok ((Nat.gcd b a : Int), 0)
  | 0, _, _, h => by omega
  | k + 1, a, b, h => by
    show (c _).bind _ = _
    rw [hc]
    by_cases hb : b = 0
    · subst hb
      simp
    · have hb' : ¬ ((b : Int) = 0) := by omega
      simp only [Res.ok_bind, decide_eq_false hb', Bool.not_false, if_true]
      rw [hf _ hb', Int.fmod_eq_emod_of_nonneg _ (by omega)]
      show whileM c f k (((b : Nat) : Int), (((a % b : Nat)) : Int)) = _
      rw [cd_loop hc hf k b (a % b) (by have := Nat.mod_lt a (Nat.pos_of_ne_zero hb); omega)]
      rw [Nat.gcd_rec b a]
def eBF : Exn := ⟨"BadFraction", []⟩
def qRaw (t b : Int) : Res Rat := if b = 0 then .err eBF else .ok (Rat.divInt t b)
def qMk (t b : Int) : Res Rat := if b = 0 then .err eBF else .ok (Rat.divInt t b)
theorem log2_mono {a b : Nat} (h : a ≤ b) : a.log2 ≤ b.log2 := by
  by_cases ha : a = 0
  · subst ha; simp
  · have hb : b ≠ 0 := by omega
    exact (Nat.le_log2 hb).mpr (Nat.le_trans (Nat.log2_self_le ha) h)
theorem qMk_raw (t b : Int) : qMk t b = .stuck ∨ qMk t b = qRaw t b := .inr rfl
theorem div_num {t b : Int} (hb : b ≠ 0) (dv : Int) (hd : dv = if b < 0 then -(Int.gcd t b : Int) else (Int.gcd t b : Int)) : t.fdiv dv = (Rat.divInt t b).num ∧ b.fdiv dv = ((Rat.divInt t b).den : Int) := by
  have hg : (Int.gcd t b : Int) ≠ 0 := by
    intro h
    have := Int.gcd_eq_zero_iff.mp (by exact_mod_cast h : Int.gcd t b = 0)
    exact hb this.2
  obtain ⟨x, hx⟩ : (Int.gcd t b : Int) ∣ t := Int.gcd_dvd_left t b
  obtain ⟨y, hy⟩ : (Int.gcd t b : Int) ∣ b := Int.gcd_dvd_right t b
  have hgp : (0 : Int) < (Int.gcd t b : Int) := by omega
  rw [Rat.num_divInt, Rat.den_divInt, if_neg hb, Int.gcd_comm b t]
  generalize hG : (Int.gcd t b) = G at *
  have e1 : ∀ z : Int, ((G : Int) * z).fdiv G = z := fun z => by rw [Int.mul_comm]; exact Int.mul_fdiv_cancel z hg
  have e2 : ∀ z : Int, ((G : Int) * z).fdiv (-G) = -z := fun z => by
    have : (G : Int) * z = (-z) * (-(G : Int)) := by rw [Int.neg_mul_neg, Int.mul_comm]
    rw [this]; exact Int.mul_fdiv_cancel _ (by omega)
  have e3 : ∀ z : Int, ((G : Int) * z) / G = z := fun z => Int.mul_ediv_cancel_left z hg
  by_cases h : b < 0
  · rw [if_pos h] at hd
    subst hd
    have sg : b.sign = -1 := Int.sign_eq_neg_one_of_neg h
    refine ⟨?_, ?_⟩
    · rw [sg, hx, e2, show (-1 : Int) * ((G : Int) * x) = (G : Int) * (-x) from by rw [Int.mul_neg, Int.neg_mul, Int.one_mul], e3]
    · have e4 : ((b.natAbs / G : Nat) : Int) = -y := by
        rw [Int.natCast_ediv, show (b.natAbs : Int) = (G : Int) * (-y) from by rw [Int.mul_neg, ← hy]; omega, e3]
      rw [e4]
      conv => lhs; rw [hy]
      exact e2 y
  · rw [if_neg h] at hd
    subst hd
    have sg : b.sign = 1 := Int.sign_eq_one_of_pos (by omega)
    refine ⟨?_, ?_⟩
    · rw [sg, Int.one_mul]
      conv => lhs; rw [hx]
      conv => rhs; rw [hx]
      rw [e1, e3]
    · have e4 : ((b.natAbs / G : Nat) : Int) = y := by
        rw [Int.natCast_ediv, show (b.natAbs : Int) = (G : Int) * y from by rw [← hy]; omega, e3]
      rw [e4]
      conv => lhs; rw [hy]
      exact e1 y
theorem frF_of {I : Hp} {fs : List (Str × V)} {q : Rat} {n d : Int} (hn : n = q.num) (hd : d = q.den) (h : FldR I fs [("top", ⟨rInt, n⟩), ("bottom", ⟨rInt, d⟩)]) : fs = frF q := by
  subst hn; subst hd
  match fs, h with
  | [(a, u), (b, v)], ⟨e1, e2, e3, e4, _⟩ =>
    cases (show a = _ from e1); cases (show u = _ from e2); cases (show b = _ from e3); cases (show v = _ from e4)
    rfl
def n_cd (a b : Int) : Res Int := .ok (Int.gcd a b : Int)
theorem weak_nil : weakC [] [] := True.intro
theorem weak_some {a : SF} {c d : List (Option SF)} (h : weakC c d) : weakC (some a :: c) (some a :: d) := ⟨rfl, h⟩
theorem weak_none {a : Option SF} {c d : List (Option SF)} (h : weakC c d) : weakC (a :: c) (none :: d) := h
theorem paired_ints (I H : Hp) : ∀ ns : List Int, Paired (rp rInt I H) (ns.map V.int) ns
  | [] => .nil
  | _ :: ns => .cons rfl (paired_ints I H ns)
def cellAt (ns : List Int) (k : Nat) : Int := ns.getD k 0
theorem atM_nat {α : Type} {xs : List α} {k : Nat} {x : α} (h : xs[k]? = some x) : atM xs (k : Int) = .ok x := by unfold atM; rw [atI_nat h]
theorem powI_ok {x : Int} {y : Nat} (h1 : y ≤ 1000000) (h2 : x.natAbs < 2 ^ 64) : powI x (y : Int) = .ok (x ^ y) := by
  unfold powI; rw [Res.guard_pos ⟨by omega, .inl ⟨by omega, h2⟩⟩]; rfl
theorem mulI_ok {x y : Int} (h : x.natAbs.log2 + y.natAbs.log2 < 134000000) : mulI x y = .ok (x * y) := Res.guard_pos h _
theorem fdivI_ok {x y : Int} (h0 : y ≠ 0) (h : y.natAbs.log2 < 9000) : fdivI x y = .ok (x.fdiv y) := Res.guard_pos ⟨h0, h⟩ _
theorem FnOk.no {P : Program} {w : World} {K : PySem.W.Frag} {mg : Str → Option Value} {base : Heap} {k : Nat} {f : Addr} {fd : FuncData} {ps : List Str} {sp : Sp} (F : FnOk P w K mg base (L2N.CX P w) k f fd ps sp) : FnOk P w K mg base CX0 k f fd ps (fun vs H Q _ => sp vs H Q fun _ _ _ => False) :=
  ⟨fun vs H Q _ h => F.len vs H Q _ h, fun A outer s H args us vs Q E hr e0 hb hv h => codeAny_mono (F.run A outer s H args us vs Q _ hr e0 hb hv h) fun r s' hq => by
    cases r with
    | error e => exact cx_false hq
    | ok fl => cases fl <;> exact hq⟩
end L2.Tr

namespace L2.Tr
open PySem PySem.Spec PyProof.Rows
def ItR (J : It) (vs : List V) (ok : Hp → Prop) : Prop := ∀ (i : Nat) (H : Hp), ok H → (i < vs.length → J.go i H ∧ ∀ x H', J.yld i H x H' → H' = H ∧ vs[i]? = some x) ∧ (vs.length ≤ i → J.stop i H)
def rngV (lo : Int) (n : Nat) : List V := (List.range n).map fun (i : Nat) => .int (lo + (i : Int))
def rngI (lo : Int) (n : Nat) : List Int := (List.range n).map fun (i : Nat) => lo + (i : Int)
theorem itr_rng {lo : Int} {n : Nat} : ItR (Itr lo n) (rngV lo n) (fun _ => True) := fun i H _ => by
  have e : (rngV lo n).length = n := by simp [rngV]
  rw [e]
  exact ⟨fun h => ⟨h, fun x H' y => ⟨y.1, by rw [y.2]; simp [rngV, h]⟩⟩, fun h => h⟩
theorem rng_pair {I : Hp} {lo : Int} {n : Nat} : Paired (rInt I) (rngV lo n) (rngI lo n) := by
  unfold rngV rngI
  generalize List.range n = l
  induction l with
  | nil => exact .nil
  | cons a l ih => exact .cons rfl ih
section
variable {α β γ δ S : Type} {X : Cx} {I0 H0 : Hp} {W : WX} {Kx : KnowsX} {G : Knows} {ctx cw : List (Option SF)} {mem : List MF} {e a b c o tg iter : Expr} {es bs : List Expr} {ss body : List Stmt} {pos pos' : Pos} {n : Str} {ra : Ra α} {rr : Ra γ} {ma : Res α}
def wI (X : Cx) (tg iter : Expr) : TI := fun σ H R => ∀ (pins : List (Addr × Obj)) (s : Shared), Inv X pins σ H s → wpAny (model X.prog X.w) X.A (eval iter X.env) (fun v s1 => wpAny (model X.prog X.w) X.A (pyIter v) (PIEC X pins σ tg R) X.xe s1) X.xe s
theorem pi_W : PIC X tg iter (wI X tg iter) := ⟨fun pins s _ _ _ I h => h pins s I⟩
theorem PI.w {t : TI} {σ : St} {H : Hp} {R : It → Hp → Prop} (p : PIC X tg iter t) (h : t σ H R) : wI X tg iter σ H R := fun pins s I => p.run pins s σ H R I h
def JI (X : Cx) (I0 H0 : Hp) (W : WX) (ctx : List (Option SF)) (mem : List MF) (tg iter : Expr) (m : Res (List β)) (r : Rp β) : Prop :=
  ∀ (I H : Hp) (σ : St) (R : It → Hp → Prop), Stt I0 H0 ctx mem I H σ → (match m with
    | .ok xs => ∀ I' H' J vs (okp : Hp → Prop), Fm I H I' H' → ItR J vs okp → (∀ I'' H'', Same I' I'' → Same I'' H'' → Same H0 H'' → okp H'') → Paired (r I') vs xs → R J H'
    | .err e => ∀ I' H' cls d, Fm I H I' H' → Fr H d ∧ ExR X.K I' H' e cls d → W cls d σ H'
    | .stuck => False) → wI X tg iter σ H R
def rangeM1 (hi : Int) : Res (List Int) := Res.guard (-(2 ^ 62) ≤ hi ∧ hi < 2 ^ 62) (.ok (rngI 0 hi.toNat))
theorem JI.range1 {m : Res Int} (j : JE X I0 H0 W ctx mem a m (rp rInt)) (hm : X.mg "range" = none) (hg : Gl X "range" := by rfl) (hs : starEach [a] X.env = (false, eval a X.env) :: starEach [] X.env := by rfl) : JI X I0 H0 W ctx mem tg (.Call (.Name "range" pos') [a] [] pos) (m.bind fun x => rangeM1 x) rInt := fun I H σ R st p => by
  refine PI.w (pi_range1C hg hm (pa_cons pe_W pa_nil hs) hs) (j I H σ _ st ?_)
  cases m with
  | ok x =>
    intro I1 H1 v f1 r1
    cases (show v = V.int x from r1)
    by_cases hh : -(2 ^ 62) ≤ x ∧ x < 2 ^ 62
    · have e : ((Res.ok x).bind fun x => rangeM1 x) = .ok (rngI 0 x.toNat) := Res.guard_pos hh _
      rw [e] at p
      exact ⟨x, rfl, hh.1, hh.2, p I1 H1 _ _ _ f1 itr_rng (fun _ _ _ _ _ => True.intro) rng_pair⟩
    · have e : ((Res.ok x).bind fun x => rangeM1 x) = .stuck := if_neg hh
      rw [e] at p
      exact p.elim
  | err e => exact p
  | stuck => exact p
theorem paired_drop {F : α → β → Prop} {xs : List α} {ys : List β} (p : Paired F xs ys) (i : Nat) {x : α} (h : xs[i]? = some x) : ∃ y, ys[i]? = some y ∧ F x y := by
  have hl := Paired.length p
  have hi : i < ys.length := by rw [← hl]; exact (List.getElem?_eq_some_iff.mp h).1
  obtain ⟨x', e1, e2⟩ := paired_get p (List.getElem?_eq_getElem hi)
  rw [h] at e1
  cases e1
  exact ⟨_, List.getElem?_eq_getElem hi, e2⟩
end
end L2.Tr

namespace L2.Tr
open PySem PySem.Spec PyProof.Rows
inductive Fl (S L γ : Type)
  | nx (s : S)
  | rt (y : γ)
  | bk (l : L)
  | ct (l : L)
section
variable {α β γ δ S T L L' : Type}
def Fl.then (f : S → Res (Fl T L γ)) : Fl S L γ → Res (Fl T L γ)
  | .nx s => f s
  | .rt y => .ok (.rt y)
  | .bk l => .ok (.bk l)
  | .ct l => .ok (.ct l)
def Fl.out (f : S → Res γ) : Fl S L γ → Res γ
  | .nx s => f s
  | .rt y => .ok y
  | .bk _ => .stuck
  | .ct _ => .stuck
@[simp] theorem Fl.then_nx (f : S → Res (Fl T L γ)) (s : S) : Fl.then f (.nx s) = f s := rfl
@[simp] theorem Fl.then_rt (f : S → Res (Fl T L γ)) (y : γ) : Fl.then f (.rt y) = .ok (.rt y) := rfl
@[simp] theorem Fl.then_bk (f : S → Res (Fl T L γ)) (y : L) : Fl.then f (.bk y) = .ok (.bk y) := rfl
@[simp] theorem Fl.then_ct (f : S → Res (Fl T L γ)) (y : L) : Fl.then f (.ct y) = .ok (.ct y) := rfl
@[simp] theorem Fl.out_nx (f : S → Res γ) (s : S) : Fl.out (L := L) f (.nx s) = f s := rfl
@[simp] theorem Fl.out_rt (f : S → Res γ) (y : γ) : Fl.out (L := L) f (.rt y) = .ok y := rfl
def forG (f : β → S → Res (Fl S S γ)) : List β → S → Res (Fl S L γ)
  | [], s => .ok (.nx s)
  | x :: xs, s => (f x s).bind fun
    | .nx s' => forG f xs s'
    | .ct s' => forG f xs s'
    | .bk s' => .ok (.nx s')
    | .rt y => .ok (.rt y)
def PostG (X : Cx) (I0 H0 : Hp) (W : WX) (Kx : KnowsX) (I : Hp) (m : Res (Fl S L γ)) (G : S → Knows) (GL : L → Knows) (r : Ra γ) (D : Ends) : Prop := match m with
  | .ok (.nx s) => ∀ I' H' σ', Same I I' → G s I' H' σ' → D.nx σ' H'
  | .ok (.bk s) => ∀ I' H' σ', Same I I' → GL s I' H' σ' → D.bk σ' H'
  | .ok (.ct s) => ∀ I' H' σ', Same I I' → GL s I' H' σ' → D.ct σ' H'
  | .ok (.rt y) => ∀ I' H' v, Fm I0 H0 I' H' → r I' H' v y → D.rt v H'
  | .err e => ∀ I' H' σ' cls d, Kx I' H' σ' d → ExR X.K I' H' e cls d → W cls d σ' H'
  | .stuck => False
theorem PostG.up {X : Cx} {I0 H0 : Hp} {W : WX} {Kx : KnowsX} {I I1 : Hp} {m : Res (Fl S L γ)} {G : S → Knows} {GL : L → Knows} {r : Ra γ} {D : Ends} (p : PostG X I0 H0 W Kx I m G GL r D) (s : Same I I1) : PostG X I0 H0 W Kx I1 m G GL r D := by
  cases m with
  | ok a => cases a with
    | nx s => exact fun I' H' σ' q => p I' H' σ' (Same.trans ‹Same I I1› q)
    | bk s => exact fun I' H' σ' q => p I' H' σ' (Same.trans ‹Same I I1› q)
    | ct s => exact fun I' H' σ' q => p I' H' σ' (Same.trans ‹Same I I1› q)
    | rt y => exact p
  | err e => exact p
  | stuck => exact p
def J1G (X : Cx) (I0 H0 : Hp) (W : WX) (Kx : KnowsX) (G : Knows) (st : Stmt) (m : Res (Fl S L γ)) (G' : S → Knows) (GL : L → Knows) (r : Ra γ) : Prop := ∀ (I H : Hp) (σ : St) (D : Ends), G I H σ → PostG X I0 H0 W Kx I m G' GL r D → wS X st D σ H
def JG (X : Cx) (I0 H0 : Hp) (W : WX) (Kx : KnowsX) (G : Knows) (ss : List Stmt) (m : Res (Fl S L γ)) (G' : S → Knows) (GL : L → Knows) (r : Ra γ) : Prop := ∀ (I H : Hp) (σ : St) (D : Ends), G I H σ → PostG X I0 H0 W Kx I m G' GL r D → wB X ss D σ H
variable {X : Cx} {I0 H0 : Hp} {W : WX} {Kx : KnowsX} {G : Knows} {ctx : List (Option SF)} {mem : List MF} {e a b c o iter : Expr} {es bs : List Expr} {st : Stmt} {ss s1 s2 body : List Stmt} {pos pos' : Pos} {n : Str} {ra : Ra α} {rr : Ra γ} {ma : Res α} {mc : Res Bool} {GL : L → Knows}
theorem JG.nil {s : S} {G' : S → Knows} (h : ∀ I H σ, G I H σ → G' s I H σ) : JG X I0 H0 W Kx G [] (.ok (.nx s)) G' GL rr := fun I H σ D g p => b_nil (p I H σ (Same.refl _) (h _ _ _ g))
theorem JG.seq {m : Res S} {G1 : S → Knows} {f : S → Res (Fl T L γ)} {G2 : T → Knows} (j : J1 X W Kx G st m G1) (k : ∀ s, JG X I0 H0 W Kx (G1 s) ss (f s) G2 GL rr) : JG X I0 H0 W Kx G (st :: ss) (m.bind f) G2 GL rr := fun I H σ D g p => by
  refine b_cons (j I H σ _ g ?_)
  cases m with
  | ok s => exact fun I' H' σ' si g' => k s I' H' σ' D g' (PostG.up p si)
  | err e => exact p
  | stuck => exact p
theorem JG.seqG {m : Res (Fl S L γ)} {G1 : S → Knows} {f : S → Res (Fl T L γ)} {G2 : T → Knows} (j : J1G X I0 H0 W Kx G st m G1 GL rr) (k : ∀ s, JG X I0 H0 W Kx (G1 s) ss (f s) G2 GL rr) : JG X I0 H0 W Kx G (st :: ss) (m.bind (Fl.then f)) G2 GL rr := fun I H σ D g p => by
  refine b_cons (j I H σ _ g ?_)
  cases m with
  | ok a => cases a with
    | nx s => exact fun I' H' σ' si g' => k s I' H' σ' D g' (PostG.up p si)
    | bk s => exact p
    | ct s => exact p
    | rt s => exact p
  | err e => exact p
  | stuck => exact p
theorem JR.seqG {m : Res (Fl S L γ)} {G1 : S → Knows} {f : S → Res γ} (j : J1G X I0 H0 W Kx G st m G1 GL rr) (k : ∀ s, JR X I0 H0 W Kx (G1 s) ss (f s) rr) : JR X I0 H0 W Kx G (st :: ss) (m.bind (Fl.out f)) rr := fun I H σ D g p => by
  refine b_cons (j I H σ _ g ?_)
  cases m with
  | ok a => cases a with
    | nx s => exact fun I' H' σ' si g' => k s I' H' σ' D g' p
    | bk s => exact p.elim
    | ct s => exact p.elim
    | rt s => exact p
  | err e => exact p
  | stuck => exact p
theorem JG.rt {m : Res γ} {G' : S → Knows} (j : JR X I0 H0 W Kx G ss m rr) : JG X I0 H0 W Kx G ss (m.bind fun y => .ok (.rt y)) G' GL rr := fun I H σ D g p => by
  refine j I H σ D g ?_
  cases m with
  | ok y => exact p
  | err e => exact p
  | stuck => exact p
theorem J1G.if {m1 m2 : Res (Fl S L γ)} {G' : S → Knows} (j : JT X I0 H0 W ctx mem c mc) (k1 : JG X I0 H0 W Kx (Stt I0 H0 ctx mem) s1 m1 G' GL rr) (k2 : JG X I0 H0 W Kx (Stt I0 H0 ctx mem) s2 m2 G' GL rr) (hx : ∀ I H σ d, Stt I0 H0 ctx mem I H σ → Fr H0 d → Kx I H σ d) :
    J1G X I0 H0 W Kx (Stt I0 H0 ctx mem) (.If c s1 s2 pos) (mc.bind fun x => if x = true then m1 else m2) G' GL rr := fun I H σ D g p => by
  refine s_if (j I H σ _ g ?_)
  cases mc with
  | ok x =>
    intro I1 H1 v f r y hy
    cases r; cases hy
    cases x with
    | true => exact iteT (k1 I1 H1 σ D (g.step f) (PostG.up p f.i))
    | false => exact iteF (k2 I1 H1 σ D (g.step f) (PostG.up p f.i))
  | err e => exact fun I' H' c d f x => p I' H' σ c d (hx _ _ _ _ (g.step f) (x.1.back g.fm.h)) x.2
  | stuck => exact p
theorem forG_drop {f : β → S → Res (Fl S S γ)} {xs : List β} {i : Nat} {x : β} (h : xs[i]? = some x) (s : S) : (forG f (xs.drop i) s : Res (Fl S L γ)) = (f x s).bind fun
    | .nx s' => forG f (xs.drop (i + 1)) s'
    | .ct s' => forG f (xs.drop (i + 1)) s'
    | .bk s' => .ok (.nx s')
    | .rt y => .ok (.rt y) := by
  have hi := (List.getElem?_eq_some_iff.mp h).1
  rw [List.drop_eq_getElem_cons hi]
  have : xs[i] = x := (List.getElem?_eq_some_iff.mp h).2
  rw [this]
  rfl
theorem J1G.forG (j : Nat) {r : Rp β} [mo : Mo r] {m : Res (List β)} {cx : S → List (Option SF)} {me : S → List MF} {f : β → S → Res (Fl S S γ)} {s0 : S} (hp : PassesOwn (model X.prog X.w) X.A X.env X.xe) (ji : JI X I0 H0 W ctx (me s0) (.Name n pos') iter m r)
    (jb : ∀ x s, JG X I0 H0 W Kx (Stt I0 H0 ((cx s).set j (some ⟨r, x⟩)) (me s)) body (f x s) (fun s' => Stt I0 H0 (cx s') (me s')) (fun s' => Stt I0 H0 (cx s') (me s')) rr) (hx : ∀ I H σ d, Stt I0 H0 ctx (me s0) I H σ → Fr H0 d → Kx I H σ d) (hw : weakC ctx (cx s0)) (hN : X.N.Nodup) (hc : Cool X := by first | exact .inl rfl | exact .inr ⟨_, by assumption, List.mem_cons_self⟩)
    (hj : X.N[j]? = some n := by rfl) (hl : Loc X.env.scope n := by first | exact Or.inl rfl | exact Or.inr rfl) (hf : X.fn n = true ∨ X.env.scope.names.lookup n = some .local := by first | exact .inl rfl | exact .inr rfl | assumption) (hs : ∀ x, foldedSetIterable iter X.env x = pure x := by intro _; rfl) :
    J1G X I0 H0 W Kx (Stt I0 H0 ctx (me s0)) (.For (.Name n pos') iter body [] pos) (m.bind fun xs => (Tr.forG f xs s0 : Res (Fl S L γ))) (fun s => Stt I0 H0 (cx s) (me s)) GL rr := fun I H σ D g p => by
  refine PS.w (ps_forC hp hc pi_W (pg_name (i := j) hN hj hl hf) pss_W hs) (ji I H σ _ g ?_)
  cases m with
  | ok xs =>
    intro I1 H1 J vs okp f1 itr stay pr
    have p0 : PostG X I0 H0 W Kx I1 (Tr.forG f xs s0) (fun s => Stt I0 H0 (cx s) (me s)) GL rr D := PostG.up p f1.i
    have hlen := Paired.length pr
    refine ⟨fun i k σ' H' => k + i = vs.length ∧ ∃ I' s, Same I1 I' ∧ Stt I0 H0 (cx s) (me s) I' H' σ' ∧ PostG X I0 H0 W Kx I' (Tr.forG f (xs.drop i) s) (fun s => Stt I0 H0 (cx s) (me s)) GL rr D, ⟨vs.length, rfl, I1, s0, Same.refl _, (g.step f1).weak hw, p0⟩, ?_⟩
    rintro i k σ' H' ⟨hk, I', s, si, g', p'⟩
    have hok := stay I' H' si g'.same g'.fm.h
    by_cases hi : i < vs.length
    · obtain ⟨go, yl⟩ := (itr i H' hok).1 hi
      refine .inr ⟨go, fun σ2 H2 => ∃ I2 s2, Same I1 I2 ∧ Stt I0 H0 (cx s2) (me s2) I2 H2 σ2 ∧ PostG X I0 H0 W Kx I2 (Tr.forG f (xs.drop (i + 1)) s2) (fun s => Stt I0 H0 (cx s) (me s)) GL rr D, fun σ2 H2 h => ⟨k - 1, by omega, by omega, h⟩, fun v H2 hy => ?_⟩
      obtain ⟨rfl, ev⟩ := yl v H2 hy
      obtain ⟨x, ex, hr⟩ := paired_drop pr i ev
      rw [forG_drop ex] at p'
      refine jb x s I' H2 (σ'.set j (some v)) _ (g'.set j (mo.up si hr)) ?_
      revert p'
      generalize f x s = z
      intro p'
      cases z with
      | ok a => cases a with
        | nx s2 => exact fun I2 H2 σ2 q1 q2 => ⟨I2, s2, si.trans q1, q2, PostG.up p' q1⟩
        | ct s2 => exact fun I2 H2 σ2 q1 q2 => ⟨I2, s2, si.trans q1, q2, PostG.up p' q1⟩
        | bk s2 => exact p'
        | rt y => exact p'
      | err e => exact p'
      | stuck => exact p'.elim
    · refine .inl ⟨(itr i H' hok).2 (by omega), ?_⟩
      have : xs.drop i = [] := List.drop_eq_nil_of_le (by omega)
      rw [this] at p'
      exact p' I' H' σ' (Same.refl _) g'
  | err e => exact fun I' H' c d f x => p I' H' σ c d (hx _ _ _ _ (g.step f) (x.1.back g.fm.h)) x.2
  | stuck => exact p.elim
end
end L2.Tr
namespace L2.Tr
open PySem PySem.Spec PyProof.Rows
def Fl.get {S L γ : Type} : Fl S L γ → Res S
  | .nx s => .ok s
  | _ => .stuck
end L2.Tr

namespace L2.Tr
open PySem PySem.Spec PyProof.Rows
abbrev big : Nat := 2 ^ 2000000
def fitI (n : Int) : Prop := n.natAbs ≤ big
def fits (q : Rat) : Prop := q.num.natAbs ≤ big ∧ q.den ≤ big
instance (n : Int) : Decidable (fitI n) := inferInstanceAs (Decidable (_ ≤ _))
instance (q : Rat) : Decidable (fits q) := inferInstanceAs (Decidable (_ ∧ _))
theorem den_nz (x : Rat) : (x.den : Int) ≠ 0 := by have := x.den_nz; omega
theorem qMk_okB {t b : Int} (hb : b ≠ 0) : qMk t b = .ok (Rat.divInt t b) := by unfold qMk; rw [if_neg hb]
theorem fd {x : Rat} (h : fits x) : ((x.den : Int)).natAbs ≤ big := by rw [Int.natAbs_natCast]; exact h.2
theorem add_divs (x y : Rat) : Rat.divInt (x.num * (y.den : Int) + y.num * (x.den : Int)) ((x.den : Int) * (y.den : Int)) = x + y := by
  conv => rhs; rw [← Rat.num_divInt_den x, ← Rat.num_divInt_den y, Rat.divInt_add_divInt _ _ (den_nz x) (den_nz y)]
theorem mul_divs (x y : Rat) : Rat.divInt (x.num * y.num) ((x.den : Int) * (y.den : Int)) = x * y := by
  conv => rhs; rw [← Rat.num_divInt_den x, ← Rat.num_divInt_den y, Rat.divInt_mul_divInt _ _]
def Sz (s : Nat) (q : Rat) : Prop := q.num.natAbs ≤ 2 ^ s ∧ q.den ≤ 2 ^ s
theorem sz_divInt {t b : Int} {s : Nat} (h1 : t.natAbs ≤ 2 ^ s) (h2 : b.natAbs ≤ 2 ^ s) : Sz s (Rat.divInt t b) := by
  by_cases hb : b = 0
  · subst hb
    rw [Rat.divInt_zero]
    exact ⟨by simp, Nat.one_le_two_pow⟩
  · refine ⟨?_, ?_⟩
    · obtain ⟨m, m0, e1, _⟩ := Rat.divInt_num_den hb (show Rat.divInt t b = ⟨(Rat.divInt t b).num, (Rat.divInt t b).den, (Rat.divInt t b).den_nz, (Rat.divInt t b).reduced⟩ from rfl)
      have h3 : t.natAbs = (Rat.divInt t b).num.natAbs * m.natAbs := by rw [← Int.natAbs_mul, ← e1]
      refine Nat.le_trans ?_ h1
      rw [h3]
      exact Nat.le_mul_of_pos_right _ (by omega)
    · rw [Rat.den_divInt, if_neg hb]
      exact Nat.le_trans (Nat.div_le_self _ _) h2
theorem sz_int {n : Int} {s : Nat} (h : n.natAbs ≤ 2 ^ s) : Sz s (n : Rat) := by
  unfold Sz
  rw [Rat.num_intCast, Rat.den_intCast]
  exact ⟨h, Nat.one_le_two_pow⟩
theorem pow2_mul {a b s t : Nat} (ha : a ≤ 2 ^ s) (hb : b ≤ 2 ^ t) : a * b ≤ 2 ^ (s + t) := by
  rw [Nat.pow_add]; exact Nat.mul_le_mul ha hb
theorem Sz.mul {s t : Nat} {x y : Rat} (hx : Sz s x) (hy : Sz t y) : Sz (s + t) (x * y) := by
  rw [← mul_divs]
  refine sz_divInt ?_ ?_
  · rw [Int.natAbs_mul]; exact pow2_mul hx.1 hy.1
  · rw [Int.natAbs_mul, Int.natAbs_natCast, Int.natAbs_natCast]; exact pow2_mul hx.2 hy.2
theorem Sz.add {s t : Nat} {x y : Rat} (hx : Sz s x) (hy : Sz t y) : Sz (s + t + 1) (x + y) := by
  rw [← add_divs]
  have a1 := pow2_mul hx.1 hy.2
  have a2 := pow2_mul hx.2 hy.1
  have a3 := pow2_mul hx.2 hy.2
  have e : 2 ^ (s + t + 1) = 2 ^ (s + t) + 2 ^ (s + t) := by rw [Nat.pow_succ]; omega
  refine sz_divInt ?_ ?_
  · refine Nat.le_trans (Int.natAbs_add_le _ _) ?_
    rw [Int.natAbs_mul, Int.natAbs_mul, Int.natAbs_natCast, Int.natAbs_natCast, Nat.mul_comm y.num.natAbs]
    omega
  · rw [Int.natAbs_mul, Int.natAbs_natCast, Int.natAbs_natCast]; omega
theorem Sz.neg {s : Nat} {x : Rat} (hx : Sz s x) : Sz s (-x) := by
  refine ⟨?_, ?_⟩
  · show (-x.num).natAbs ≤ _; rw [Int.natAbs_neg]; exact hx.1
  · exact hx.2
theorem Sz.sub {s t : Nat} {x y : Rat} (hx : Sz s x) (hy : Sz t y) : Sz (s + t + 1) (x - y) := by
  rw [Rat.sub_eq_add_neg]; exact hx.add hy.neg
theorem Sz.inv {s : Nat} {x : Rat} (hx : Sz s x) : Sz s x⁻¹ := by
  rw [Rat.inv_def]
  exact sz_divInt (by rw [Int.natAbs_natCast]; exact hx.2) hx.1
theorem Sz.div {s t : Nat} {x y : Rat} (hx : Sz s x) (hy : Sz t y) : Sz (s + t) (x / y) := by
  rw [Rat.div_def]; exact hx.mul hy.inv
end L2.Tr

namespace PySem.W
open PySem PySem.Calls PyProof.Rows
section
variable {prog : Program} {w : World} {A : Around} {E : Value → Shared → Prop} {s : Shared} {K : Frag} {x C dx L f : Addr} {h₀ : Heap} {m : Str → Option Value} {ox : Obj} {od : Option Obj} {nm : String}
end
end PySem.W
namespace L2.Tr
open PySem PySem.Spec PyProof.Rows He
section
variable {α β γ δ S : Type} {X : Cx} {I0 H0 : Hp} {W : WX} {Kx : KnowsX} {ctx : List (Option SF)} {mem : List MF} {e a b c o : Expr} {es bs : List Expr} {pos pos' : Pos} {n : Str} {ra : Ra α} {rb : Ra β} {rc : Ra γ} {ma : Res α} {mb : Res β}
variable {f f' : Addr} {k k' : Nat} {g : Rat × Num × Unit → Res γ} {g' : Rat × Int × Unit → Res γ}
theorem opi_add : OpJ X W (inplaceOp .Add) (rp rInt) (rp rInt) (fun x y => .ok (x + y)) (rp rInt) := fun I H σ Q u v x y s a b p => OpR.w iop_add ⟨x, y, a, b, p I H _ (Fm.refl s) rfl⟩
theorem J1.aug (i : Nat) {op : Operator} {r1 : Rp α} {r2 : Rp β} {r3 : Rp γ} [mo1 : Mo r1] [Mo r3] {mo : Mo r1} {m : Res β} {x : α} {h : α → β → Res γ} (j : JE X I0 H0 W ctx mem e m (rp r2)) (op_ : OpJ X W (inplaceOp op) (rp r1) (rp r2) h (rp r3)) (hx : ∀ I H σ d, Stt I0 H0 ctx mem I H σ → Fr H0 d → Kx I H σ d) (hN : X.N.Nodup)
    (hc : ctx[i]? = some (some (@SF.mk α r1 mo x)) := by rfl) (hi : X.N[i]? = some n := by rfl) (hl : Loc X.env.scope n := by first | exact Or.inl rfl | exact Or.inr rfl)
    (hf : X.fn n = true ∨ X.env.scope.names.lookup n = some .local := by first | exact .inl rfl | exact .inr rfl | assumption) : J1 X W Kx (Stt I0 H0 ctx mem) (.AugAssign (.Name n pos') op e pos) (m.bind fun y => h x y) (fun z => Stt I0 H0 (ctx.set i (some ⟨r3, z⟩)) mem) := fun I H σ D g p => by
  obtain ⟨v, e1, rv⟩ := g.sl i _ hc
  refine wS.mk fun pins sh Iv => ?_
  obtain ⟨m', hn, hl'⟩ := Iv.loc
  have vis : Vis X.env.scope n := by rcases hl with k | k; exact .inl k; exact .inr (.inl k)
  obtain ⟨u, r, l⟩ := hl' i n v hi e1 vis
  refine wpAny_AugAssign_Name ?_
  have go : wpAny (model X.prog X.w) X.A (eval e X.env) (fun w s₂ => wpAny (model X.prog X.w) X.A (inplaceOp op u w) (fun r s₃ => wpAny (model X.prog X.w) X.A (storeName X.env n r) (fun _ => SP X pins D .next) X.xe s₃) X.xe s₂) X.xe sh := by
    refine thn (j I H σ (fun y H1 => opW X (inplaceOp op) σ v y H1 fun z H2 => D.nx (σ.set i (some z)) H2) g ?_ pins sh Iv) fun w s1 ⟨y, H1, I1, r1, q1⟩ => ?_
    · cases m with
      | ok y =>
        intro I1 H1 vy f1 ry
        refine op_ I1 H1 σ _ v vy x y f1.ih (mo1.up f1.i rv) ry ?_
        revert p
        show PostB X W Kx I (h x y) _ D → _
        generalize h x y = z
        intro p
        cases z with
        | ok z => exact fun I2 H2 vz f2 rz => p I2 H2 _ (f1.i.trans f2.i) (((g.step f1).step f2).set i rz)
        | err e => exact fun I' H' c d f x => p I' H' σ c d (hx _ _ _ _ ((g.step f1).step f) (x.1.back (g.step f1).fm.h)) x.2
        | stuck => exact p
      | err e => exact fun I' H' c d f x => p I' H' σ c d (hx _ _ _ _ (g.step f) (x.1.back g.fm.h)) x.2
      | stuck => exact p
    refine thn (q1 pins s1 u w I1 r r1) fun z s2 ⟨zv, H2, I2, r2, q2⟩ => ?_
    exact store_ok I2 hN hi hl r2 (fun s3 I3 => ⟨_, H2, I3, q2⟩) hf
  rcases l with ⟨hk, hm⟩ | ⟨hk, c, hc', hcell⟩
  · exact wpAny_loadName_local Iv.ok.kind hk hn hm go
  · rcases hk with hk | hk
    · exact wpAny_loadName_cell Iv.ok.kind hk hc' hcell go
    · rcases hl with k | k
      · have : X.env.scope.names.lookup n = some .free := hk
        rw [k] at this; cases this
      · have : X.env.scope.names.lookup n = some .free := hk
        rw [k] at this; cases this
theorem run_W2 {k : Nat} {f : Addr} {sp : Sp} {vs : List V} {H : Hp} {σ : St} {Q : VK} (F : FnR X.prog X.w X.K X.mg X.base (L2N.CX X.prog X.w) k f sp) (hr : Room (k + 2) X.A) (tk : L2N.Takes X W) (h : sp vs H Q fun cls d H' => W cls d σ H') {pins : List (Addr × Obj)} {s : Shared} {us : List Value} (I : Inv X pins σ H s) (r : Vals vs us) :
    wpAny (model X.prog X.w) X.A.in1.in1 (call (.ref f) us) (EP X pins σ Q) X.xe s := by
  refine wpAny_call (codeAny_mono (F X.A.in1.in1 X.stack s H us vs Q _ (Room.in1 (k := k) (Room.in1 (k := k + 1) hr)) I.env0.in1.in1 r h) fun r s' hq => ?_)
  cases r with
  | error e => exact L2N.passAt tk σ pins H s e s' I hq
  | ok fl =>
    cases fl with
    | ret u => exact I.after hq
    | next => exact False.elim hq
    | brk => exact False.elim hq
    | cont => exact False.elim hq
end
end L2.Tr

namespace L2.Tr
open PySem PySem.Spec PyProof.Rows
section
variable {K : PySem.W.Frag} {x qual : Str} {params : Arguments} {body : List Stmt} {scope : Scope} {kws : List (Str × V)} {f : Addr} {fd : FuncData} {ps : List Str}
theorem kbindsN (F : FunD K x qual params body scope [] kws f fd) (n : Nat) (ks : List Str) (g : {α : Type} → List α → List α → List α) (hrel : ∀ {vs zs : List V} {us ws : List Value}, Vals vs us → Vals zs ws → Vals (g vs zs) (g us ws))
    (h : ∀ (kV doc pm : Value) (an : Option Addr) (cdv ct : Value) (us ws : List Value), us.length = n → ws.length = ks.length → bindArgs (PySem.W.fnOf x qual params body scope .none kV doc pm an cdv ct) ⟨us, ks.zip ws⟩ = pure (ps.zip (g us ws))) : KBn K fd ps n ks g g := by
  obtain ⟨oc, od, dV, kV, doc, pm, an, cdv, ct, osl, rfl, lk, hcd, hD, hK⟩ := F.ex
  rcases hD with ⟨_, rfl⟩ | ⟨e, _⟩
  · exact ⟨fun s us ws _ l1 l2 => .of_eq (h kV doc pm an cdv ct us ws l1 l2), hrel⟩
  · exact absurd rfl e
end
section
variable {α β γ δ ε : Type} {X : Cx} {I0 H0 : Hp} {W : WX} {ctx : List (Option SF)} {mem : List MF} {e a b c o : Expr} {es bs : List Expr} {kws : List Keyword} {pos pos' kpos : Pos} {n x : Str} {nm : Option Str} {ra : Ra α} {rb : Ra β} {rc : Ra γ} {ma : Res α} {mb : Res β}
variable {R : Hp → Hp → List V → δ → Prop} {R' : Hp → Hp → List V → ε → Prop} {md : Res δ} {me : Res ε} {g : δ → ε → Res γ} {ks : List Str}
theorem cjk_fn {k n : Nat} {f : Addr} {fd : FuncData} {ps : List Str} {gg : List Value → List Value → List Value} {gV : List V → List V → List V} {η : Type} {Ri : Hp → Hp → List V → η → Prop} {m : η → Res γ} {h : δ → ε → η} (F : FnOk X.prog X.w X.K X.mg X.base (L2N.CX X.prog X.w) k f fd ps (spF X.K Ri m rc)) (hr : Room k X.A)
    (hb : KBn X.K fd ps n ks gg gV) (tk : L2N.Takes X W) (hR : ∀ I H vs zs x y, R I H vs x → R' I H zs y → vs.length = n ∧ zs.length = ks.length ∧ Ri I H (gV vs zs) (h x y)) : CallKJ X W (.ref f) ks R R' (fun x y => m (h x y)) rc := fun I H σ Q vs zs x y sm r r' p pins s us ws Iv rv rz => by
  obtain ⟨l1, l2, hRi⟩ := hR I H vs zs x y r r'
  refine wpAny_call (codeAny_mono (F.run X.A X.stack s H ⟨us, ks.zip ws⟩ (gg us ws) (gV vs zs) Q _ hr Iv.env0 (hb.to s us ws Iv.kIn (rv.length.symm.trans l1) (rz.length.symm.trans l2)) (hb.rel rv rz) ⟨I, h x y, sm, hRi, p⟩) fun r s' hq => ?_)
  cases r with
  | error e => exact L2N.passAt tk σ pins H s e s' Iv hq
  | ok fl =>
    cases fl with
    | ret u => exact Iv.after hq
    | next => exact False.elim hq
    | brk => exact False.elim hq
    | cont => exact False.elim hq
end
end L2.Tr
namespace L2.Tr
open PySem PySem.Spec PyProof.Rows
section
variable {γ S L : Type} {X : Cx} {I0 H0 : Hp} {W : WX} {Kx : KnowsX} {G : Knows} {st : Stmt} {ss : List Stmt} {mem : List MF} {rr : Ra γ}
theorem J1.cx {m : Res S} {c c' : S → List (Option SF)} {me : S → List MF} (j : J1 X W Kx G st m (fun s => Stt I0 H0 (c s) (me s))) (h : ∀ s, c s = c' s := by intro _; rfl) : J1 X W Kx G st m (fun s => Stt I0 H0 (c' s) (me s)) := by
  have e : c = c' := funext h
  rw [← e]; exact j
theorem JG.at {m : Res (Fl S L γ)} {G' : S → Knows} {GL : L → Knows} {c c' : List (Option SF)} (j : JG X I0 H0 W Kx (Stt I0 H0 c' mem) ss m G' GL rr) (h : c = c' := by rfl) : JG X I0 H0 W Kx (Stt I0 H0 c mem) ss m G' GL rr := by
  rw [h]; exact j
end
end L2.Tr

namespace L2.Tr
open PySem PySem.Spec PyProof.Rows
class Bd (x : Int) (s : outParam Nat) : Prop where
  le : x.natAbs ≤ 2 ^ s
class NZ (x : Int) : Prop where
  ne : x ≠ 0
class SzC (q : Rat) (s : outParam Nat) : Prop where
  sz : Sz s q
instance {x y : Int} {s t : Nat} [h : Bd x s] [k : Bd y t] : Bd (x * y) (s + t) := ⟨by rw [Int.natAbs_mul]; exact pow2_mul h.le k.le⟩
theorem pow_add1 (s t : Nat) : 2 ^ s + 2 ^ t ≤ 2 ^ (s + t + 1) := by
  have a := Nat.pow_le_pow_right (show 0 < 2 by decide) (show s ≤ s + t by omega)
  have b := Nat.pow_le_pow_right (show 0 < 2 by decide) (show t ≤ s + t by omega)
  rw [Nat.pow_succ]; omega
instance {x y : Int} {s t : Nat} [h : Bd x s] [k : Bd y t] : Bd (x + y) (s + t + 1) := ⟨by
  have := Int.natAbs_add_le x y; have := h.le; have := k.le; have := pow_add1 s t; omega⟩
instance {x y : Int} {s t : Nat} [h : Bd x s] [k : Bd y t] : Bd (x - y) (s + t + 1) := ⟨by
  have := Int.natAbs_sub_le x y; have := h.le; have := k.le; have := pow_add1 s t; omega⟩
instance {x : Int} {s : Nat} [h : Bd x s] : Bd (-x) s := ⟨by rw [Int.natAbs_neg]; exact h.le⟩
instance {x : Int} {s : Nat} [h : Bd x s] : Bd (x.natAbs : Int) s := ⟨by rw [Int.natAbs_natCast]; exact h.le⟩
instance : Bd 0 0 := ⟨by decide⟩
instance : Bd 1 0 := ⟨by decide⟩
instance {x y : Int} [h : NZ x] [k : NZ y] : NZ (x * y) := ⟨Int.mul_ne_zero h.ne k.ne⟩
instance {x : Int} [h : NZ x] : NZ (-x) := ⟨Int.neg_ne_zero.mpr h.ne⟩
instance {x y : Rat} {s t : Nat} [h : SzC x s] [k : SzC y t] : SzC (x + y) (s + t + 1) := ⟨h.sz.add k.sz⟩
instance {x y : Rat} {s t : Nat} [h : SzC x s] [k : SzC y t] : SzC (x - y) (s + t + 1) := ⟨h.sz.sub k.sz⟩
instance {x y : Rat} {s t : Nat} [h : SzC x s] [k : SzC y t] : SzC (x * y) (s + t) := ⟨h.sz.mul k.sz⟩
instance {x y : Rat} {s t : Nat} [h : SzC x s] [k : SzC y t] : SzC (x / y) (s + t) := ⟨h.sz.div k.sz⟩
instance {x : Rat} {s : Nat} [h : SzC x s] : SzC (-x) s := ⟨h.sz.neg⟩
instance {n : Int} {s : Nat} [h : Bd n s] : SzC (n : Rat) s := ⟨sz_int h.le⟩
instance {n : Int} {m : Int} {s t : Nat} [h : Bd n s] [k : Bd m t] : SzC (Rat.divInt n m) (s + t) := ⟨sz_divInt (Nat.le_trans h.le (Nat.pow_le_pow_right (by decide) (by omega))) (Nat.le_trans k.le (Nat.pow_le_pow_right (by decide) (by omega)))⟩
instance : SzC 0 0 := ⟨⟨by decide, by decide⟩⟩
instance : SzC 1 0 := ⟨⟨by decide, by decide⟩⟩
section
variable {x y : Rat} {n : Int} {s t : Nat} [h : SzC x s]
end
end L2.Tr

namespace L2.Tr
open PySem PySem.Spec PyProof.Rows
section
variable {α β γ δ S L : Type} {X : Cx} {I0 H0 I H : Hp} {W : WX} {Kx : KnowsX} {G : Knows} {ctx : List (Option SF)} {mem : List MF} {e a b c o : Expr} {es bs : List Expr} {st : Stmt} {ss s1 s2 : List Stmt} {pos pos' : Pos} {n : Str} {ra : Ra α} {rb : Ra β} {rr : Ra γ} {ma : Res α} {mb : Res β} {σ : St}
def JM (X : Cx) (I0 H0 : Hp) (W : WX) (ctx : List (Option SF)) (mem : List MF) (e : Expr) (m : Res (List α)) (r : Rp α) : Prop :=
  ∀ (I H : Hp) (σ : St) (Q : VK), Stt I0 H0 ctx mem I H σ → (match m with
    | .ok xs => ∀ I1 H1 l vs, Fm I H I1 H1 → H l = none → I1 l = none → H1 l = some (.lst vs) → Paired (r I1) vs xs → Q (.ref l) H1
    | .err e => ∀ I' H' cls d, Fm I H I' H' → Fr H d ∧ ExR X.K I' H' e cls d → W cls d σ H'
    | .stuck => False) → wE X e σ H Q
theorem mpost {Q : VK} {I H I1 H1 : Hp} {r : Rp α} {xs : List α} (p : ∀ I1 H1 l vs, Fm I H I1 H1 → H l = none → I1 l = none → H1 l = some (.lst vs) → Paired (r I1) vs xs → Q (.ref l) H1) {l : Addr} {vs : List V} (f : Fm I H I1 H1) (hl : H1 l = none) (pr : Paired (r I1) vs xs) : Q (.ref l) (upd H1 l (.lst vs)) :=
  p I1 (upd H1 l (.lst vs)) l vs (f.trans (Fm.newM f.ih hl)) (f.h.free hl) (f.ih.free hl) upd_same pr
theorem Fm.ice {I H I1 H1 : Hp} {l : Addr} {o : HO} (f : Fm I H I1 H1) (hl : H l = none) (hI : I1 l = none) (h : H1 l = some o) : Fm I H (upd I1 l o) H1 ∧ Same I1 (upd I1 l o) := by
  have sm : Same I1 (upd I1 l o) := fun b u e => by
    have : b ≠ l := fun q => by rw [q, hI] at e; cases e
    rw [upd_ne this]; exact e
  refine ⟨⟨f.i.trans sm, f.h, fun b u e => ?_, fun b e nn => ?_⟩, sm⟩
  · by_cases hb : b = l
    · subst hb; rw [upd_same] at e; cases e; exact h
    · rw [upd_ne hb] at e; exact f.ih _ _ e
  · have : b ≠ l := fun q => nn (q ▸ hl)
    rw [upd_ne this]; exact f.mu b e nn
theorem JE.ofM {r : Rp α} [mo : Mo r] {m : Res (List α)} (j : JM X I0 H0 W ctx mem e m r) : JE X I0 H0 W ctx mem e m (rp (rL r)) := fun I H σ Q st p => by
  refine j I H σ Q st ?_
  cases m with
  | ok xs =>
    intro I1 H1 l vs f hl hI h1 pr
    obtain ⟨f2, sm⟩ := f.ice hl hI h1
    exact p _ H1 _ f2 ⟨l, vs, rfl, upd_same, Paired.mapP pr fun _ _ z => mo.up sm z⟩
  | err e => exact p
  | stuck => exact p
theorem JM.lst {k : Nat} {r : Rp α} {m : Res (List α)} (j : JA X I0 H0 W ctx mem es m (lR k (rp r))) (hk : k ≤ sizeLine := by decide) : JM X I0 H0 W ctx mem (.List es pos) m r := fun I H σ Q st p => by
  refine w_lst (j I H σ _ st ?_)
  cases m with
  | ok xs => exact fun I1 H1 vs f1 r1 => ⟨by rw [r1.1]; exact hk, fun q hq => mpost p f1 hq r1.2⟩
  | err e => exact p
  | stuck => exact p
end
end L2.Tr

namespace L2.Tr
open PySem PySem.Spec PyProof.Rows
section
variable {α β γ δ S L : Type} {X : Cx} {I0 H0 I H : Hp} {W : WX} {Kx : KnowsX} {G : Knows} {ctx : List (Option SF)} {mem : List MF} {e a b c o : Expr} {es bs : List Expr} {st : Stmt} {ss s1 s2 : List Stmt} {pos pos' p2 : Pos} {n : Str} {ra : Ra α} {rb : Ra β} {rr : Ra γ} {ma : Res α} {mb : Res β} {σ : St} {r : Rp α}
def rH (r : Rp α) : Ra (List α) := fun I H v xs => ∃ l vs, v = .ref l ∧ H l = some (.lst vs) ∧ Paired (r I) vs xs
instance [m : Mo r] : MoA (rH r) := ⟨fun s t ⟨l, vs, e, h, p⟩ => ⟨l, vs, e, t _ _ h, Paired.mapP p fun _ _ q => m.up s q⟩⟩
def JO (X : Cx) (I0 H0 : Hp) (W : WX) (ctx : List (Option SF)) (mem : List MF) (e : Option Expr) (m : Res (Option Int)) : Prop := match e with
  | none => m = .ok none
  | some e => ∃ mi : Res Int, m = mi.bind (fun i => .ok (some i)) ∧ JE X I0 H0 W ctx mem e mi (rp rInt)
theorem JO.no : JO X I0 H0 W ctx mem none (.ok none) := rfl
theorem JO.at {m : Res Int} (j : JE X I0 H0 W ctx mem e m (rp rInt)) : JO X I0 H0 W ctx mem (some e) (m.bind fun i => .ok (some i)) := ⟨m, rfl, j⟩
def PostO (X : Cx) (W : WX) (σ : St) (I H : Hp) (m : Res (Option Int)) (Q : Option Int → Hp → Prop) : Prop := match m with
  | .ok o => ∀ I' H', Fm I H I' H' → Q o H'
  | .err e => ∀ I' H' cls d, Fm I H I' H' → Fr H d ∧ ExR X.K I' H' e cls d → W cls d σ H'
  | .stuck => False
theorem JO.po {e : Option Expr} {m : Res (Option Int)} (j : JO X I0 H0 W ctx mem e m) : ∃ t, PO X e t ∧ ∀ (I H : Hp) (σ : St) (Q : Option Int → Hp → Prop), Stt I0 H0 ctx mem I H σ → PostO X W σ I H m Q → t σ H Q := by
  cases e with
  | none =>
    obtain rfl : m = .ok none := j
    exact ⟨_, po_none, fun I H σ Q st p => p I H (Fm.refl st.same)⟩
  | some e =>
    obtain ⟨mi, rfl, ji⟩ := j
    refine ⟨_, po_some pe_W, fun I H σ Q st p => ji I H σ _ st ?_⟩
    cases mi with
    | ok i => exact fun I1 H1 v f r => ⟨i, r, p I1 H1 f⟩
    | err e => exact p
    | stuck => exact p
end
end L2.Tr

namespace L2.Tr
open PySem PySem.Spec PyProof.Rows
section
variable {α β γ δ S L : Type} {X : Cx} {I0 H0 I H : Hp} {W : WX} {Kx : KnowsX} {G : Knows} {ctx : List (Option SF)} {mem : List MF} {e a b c o ix : Expr} {es bs : List Expr} {st : Stmt} {ss s1 s2 : List Stmt} {pos pos' p2 : Pos} {n : Str} {ra : Ra α} {rb : Ra β} {rr : Ra γ} {ma : Res α} {mb : Res β} {σ : St} {r : Rp α}
end
end L2.Tr

namespace L2.Tr
open PySem PySem.Spec PyProof.Rows
section
variable {α β γ δ S L : Type} {X : Cx} {I0 H0 I H : Hp} {W : WX} {Kx : KnowsX} {ctx : List (Option SF)} {mem : List MF} {e a b c o elt iter : Expr} {pos pos' p2 : Pos} {n : Str} {σ : St} {r : Rp α} {rb : Rp β}
end
end L2.Tr

namespace L2.Tr
open PySem PySem.Spec PyProof.Rows
section
variable {α γ S L : Type} {X : Cx} {I0 H0 I H : Hp} {W : WX} {Kx : KnowsX} {G : Knows} {st : Stmt} {ss : List Stmt} {ctx ctx' : List (Option SF)} {mem mem' : List MF} {rr : Ra γ} {σ : St}
variable (i j : Nat) {r : Rp α} [mo : Mo r] {l : Addr} {xs : List α}
end
end L2.Tr

namespace L2.Tr
open PySem PySem.Spec PyProof.Rows
section
variable {α β γ δ S L : Type} {X : Cx} {I0 H0 I H : Hp} {W : WX} {Kx : KnowsX} {ctx : List (Option SF)} {mem : List MF} {e a b c o : Expr} {pos pos' p2 : Pos} {n : Str} {σ : St} {r : Rp α} {ra : Ra α}
end
end L2.Tr

namespace PySem.W
open PySem PySem.Spec PySem.Calls PyProof.Rows
section
variable {prog : Program} {w : World} {A : Around} {E : Value → Shared → Prop} {s : Shared} {K : Frag} {x C f : Addr} {ox : Obj} {od : Option Obj}
end
end PySem.W
namespace L2.Tr
open PySem PySem.Spec PyProof.Rows He
section
variable {α β γ δ S L : Type} {X : Cx} {I0 H0 I H : Hp} {W : WX} {Kx : KnowsX} {ctx : List (Option SF)} {mem : List MF} {e a b c o : Expr} {es : List Expr} {pos pos' p2 : Pos} {n : Str} {σ : St} {Q : VK} {r : Rp α} {ra : Ra α} {rb : Ra β} {rc : Ra γ} {ma : Res α} {mb : Res β} {md : Res δ}
def rIns (C : Addr) (gs : α → List (Str × SF)) : Rp α := fun I v x => ∃ a dx fs, v = .ref a ∧ I a = some (.ins C dx fs) ∧ FldR I fs (gs x)
instance {C : Addr} {gs : α → List (Str × SF)} : Mo (rIns C gs) := ⟨fun s ⟨a, dx, fs, e, h, f⟩ => ⟨a, dx, fs, e, s _ _ h, FldR.up s f⟩⟩
theorem FldR.none {I : Hp} {f : Str} : ∀ {fs : List (Str × V)} {gs : List (Str × SF)}, FldR I fs gs → gs.lookup f = none → fs.lookup f = none
  | [], [], _, _ => rfl
  | (k, v) :: fs, (k', q) :: gs, ⟨h1, h2, h3⟩, e => by
    cases (show k = k' from h1)
    rw [List.lookup_cons] at e ⊢
    by_cases hk : (f == k) = true
    · rw [hk] at e; cases e
    · rw [Bool.not_eq_true] at hk
      rw [hk] at e ⊢
      exact FldR.none h3 e
  | [], _ :: _, h, _ => h.elim
  | _ :: _, [], h, _ => h.elim
structure PropP (K : PySem.W.Frag) (C : Addr) (f : Str) (p g : Addr) : Prop where
  po : PropOf K C f p g
structure SMet (K : PySem.W.Frag) (C : Addr) (mc : Value) (m : Str) (p g : Addr) : Prop where
  rd : PySem.W.readsIn K C mc = true
  ga : PySem.W.specialIn K (.ref C) "__getattribute__" = some (some (.builtin "type.__getattribute__"))
  at_ : PySem.W.findCls K (.ref C) mc m = some (.get (.builtin "staticmethod.__get__") (.ref p) .none (.ref C))
  rc : ∃ rest, PySem.W.recIn K p "staticmethod" = some (.ref g :: rest)
  kp : PySem.W.keepIn K (.ref g) = true
def rSq (K : PySem.W.Frag) (r : Ra α) : Ra (List α) := fun I H v xs => ∃ l vs, v = .ref l ∧ (SqL K H l vs ∨ SqT K H l vs) ∧ Paired (r I H) vs xs
theorem Same.seqT {K : PySem.W.Frag} {H H' : Hp} {a : Addr} {xs : List V} (s : Same H H') (h : SqT K H a xs) : SqT K H' a xs := by
  rcases h with h | h
  · rcases h with h | ⟨h1, h2⟩
    · exact .inl (.inl (s _ _ h))
    · exact .inl (.inr ⟨h1, s _ _ h2⟩)
  · exact .inr h
instance {K : PySem.W.Frag} {r : Ra α} [m : MoA r] : MoA (rSq K r) := ⟨fun s t ⟨l, vs, e, h, p⟩ => ⟨l, vs, e, h.imp (fun h => t.seq h) (fun h => Same.seqT t h), Paired.mapP p fun _ _ q => m.up s t q⟩⟩
theorem JE.sqL {m : Res (List α)} (j : JE X I0 H0 W ctx mem e m (rdL X.K ra)) : JE X I0 H0 W ctx mem e m (rSq X.K ra) := j.co fun _ _ _ _ _ ⟨l, vs, e, h, p⟩ => ⟨l, vs, e, .inl h, p⟩
theorem paired_map {F : β → α → Prop} {G : β → γ → Prop} {f : α → γ} (h : ∀ v x, F v x → G v (f x)) : ∀ {vs : List β} {xs : List α}, Paired F vs xs → Paired G vs (xs.map f)
  | _, _, .nil => .nil
  | _, _, .cons a t => .cons (h _ _ a) (paired_map h t)
theorem JM.map {m : Res (List α)} {rb : Rp β} {f : α → β} (j : JM X I0 H0 W ctx mem e m r) (h : ∀ I H v x, rp r I H v x → rp rb I H v (f x)) : JM X I0 H0 W ctx mem e (m.bind fun xs => .ok (xs.map f)) rb := fun I H σ Q st p => j I H σ Q st (by
  cases m with
  | ok xs => exact fun I1 H1 l vs f1 a b c pr => p I1 H1 l vs f1 a b c (paired_map (h I1 H1) pr)
  | err e => exact p
  | stuck => exact p)
end
end L2.Tr

namespace L2.Tr
open PySem PySem.Spec PyProof.Rows He
section
variable {α β γ δ S L : Type} {X : Cx} {I0 H0 I H : Hp} {W : WX} {Kx : KnowsX} {G : Knows} {ctx : List (Option SF)} {mem : List MF} {e a b c o : Expr} {es : List Expr} {ss : List Stmt} {pos pos' p2 : Pos} {n : Str} {σ : St} {Q : VK} {r : Rp α} {ra : Ra α} {rb : Ra β} {rc : Ra γ} {ma : Res α} {mb : Res β} {md : Res δ} {R : Hp → Hp → List V → δ → Prop}
def rNew (H0 : Hp) (r : Rp α) : Ra (List α) := fun I H v xs => ∃ l vs, v = .ref l ∧ H0 l = none ∧ I l = none ∧ H l = some (.lst vs) ∧ Paired (r I) vs xs
def spN (K : PySem.W.Frag) (R : Hp → Hp → List V → δ → Prop) (m : δ → Res (List α)) (r : Rp α) : Sp := fun vs H Q E => ∃ I d, Same I H ∧ R I H vs d ∧ PostE K (m d) (rNew H r) I H E Q
theorem FnN.nice {P : Program} {w : World} {K : PySem.W.Frag} {mg : Str → Option Value} {base : Heap} {k : Nat} {f : Addr} {m m' : δ → Res (List α)} (F : FnR P w K mg base (L2N.CX P w) k f (spN K R m r)) (h : ∀ d, m' d = .stuck ∨ m' d = m d) : FnR P w K mg base (L2N.CX P w) k f (spN K R m' r) := F.imp fun vs H Q E ⟨I, d, s, r, p⟩ => ⟨I, d, s, r, by
  rcases h d with e | e
  · rw [show m' d = _ from e] at p; exact p.elim
  · rw [← e]; exact p⟩
def rTu (R : Hp → Hp → List V → δ → Prop) : Rp δ := fun I v x => ∃ l vs, v = .ref l ∧ I l = some (.tup vs) ∧ R I I vs x
instance [m : MoR R] : Mo (rTu R) := ⟨fun s ⟨l, vs, e, h, p⟩ => ⟨l, vs, e, s _ _ h, m.up s s p⟩⟩
class Ice (R : Hp → Hp → List V → δ → Prop) : Prop where
  ice : ∀ {I H H' : Hp} {vs : List V} {x : δ}, R I H vs x → R I H' vs x
instance : Ice aNil := ⟨fun h => h⟩
instance [m : Ice R] : Ice (aCons (rp r) R) := ⟨fun ⟨v, ws, e, h, h'⟩ => ⟨v, ws, e, h, m.ice h'⟩⟩
end
def fnX (K : PySem.W.Frag) (a : Addr) : FnW := match K.lookup a with
  | some ⟨_, _, .func fd, _⟩ => some (fd.name, fd.qualname, fd.params, fd.body, fd.scope, fd.globals, fd.closure, fd.builtins)
  | _ => none
structure DX where
  at_ : PySem.W.Frag → Addr
  name : Str
  qual : Str
  params : Arguments
  body : List Stmt
  scope : Scope
  dfl : List Dv
  kwd : List (Str × Dv)
def DX.val (d : DX) : FnW := some (d.name, d.qual, d.params, .stmts d.body, d.scope, mainGlobals, [], builtinsNs)
def DX.ok (d : DX) (K : PySem.W.Frag) : Bool := PySem.W.keepIn K (.ref (d.at_ K)) && (match K.lookup (d.at_ K) with
  | some ⟨_, _, .func fd, _⟩ => PySem.W.codeIn K fd.code d.qual && (dflB K fd.defaults (d.dfl.map (Dv.v K)) && kwdB K fd.kwdefaults (d.kwd.map fun q => (q.1, q.2.v K)))
  | _ => false)
theorem DX.funD {K : PySem.W.Frag} {d : DX} (e : fnX K (d.at_ K) = d.val) (c : d.ok K = true) : ∃ fd, FunD K d.name d.qual d.params d.body d.scope (d.dfl.map (Dv.v K)) (d.kwd.map fun q => (q.1, q.2.v K)) (d.at_ K) fd := by
  obtain ⟨kp, c2⟩ := ba c
  unfold fnX at e
  generalize ha : d.at_ K = ad at *
  cases q : K.lookup ad with
  | none => rw [q] at c2; cases c2
  | some ob =>
    obtain ⟨oc, od, dt, osl⟩ := ob
    rw [q] at c2 e
    cases dt with
    | func fd =>
      obtain ⟨n1, n2, n3, n4, n5, n6, n7, n8, n9, n10, n11, n12, n13, n14, n15⟩ := fd
      have e2 : (some (n1, n2, n3, n4, n5, n6, n7, n15) : FnW) = some (d.name, d.qual, d.params, .stmts d.body, d.scope, mainGlobals, [], builtinsNs) := e
      simp only [Option.some.injEq, Prod.mk.injEq] at e2
      obtain ⟨h1, h2, h3, h4, h5, h6, h7, h8⟩ := e2
      subst h1 h2 h3 h4 h5 h6 h7 h8
      have c3 : (PySem.W.codeIn K n13 d.qual && (dflB K n8 (d.dfl.map (Dv.v K)) && kwdB K n9 (d.kwd.map fun q => (q.1, q.2.v K)))) = true := c2
      obtain ⟨k1, k2⟩ := ba c3
      obtain ⟨k3, k4⟩ := ba k2
      exact ⟨_, ⟨oc, od, n8, n9, n10, n11, n12, n13, n14, osl, rfl, q, k1, dflB_ok k3, kwdB_ok k4⟩, kp⟩
    | _ => cases c2
def obsY (fs : List FB) (fn : List DX) (K : PySem.W.Frag) : AlX := ((fs.all fun f => f K) && fn.all fun d => d.ok K, fn.map fun d => fnX K (d.at_ K))
def valY (fn : List DX) : AlX := (true, fn.map DX.val)
def SaysY (fs : List FB) (fn : List DX) (K : PySem.W.Frag) : Prop := obsY fs fn K = valY fn
theorem SaysY.fact {fs : List FB} {fn : List DX} {K : PySem.W.Frag} (c : SaysY fs fn K) (i : Nat) {f : FB} (h : fs[i]? = some f := by rfl) : f K = true := by
  have c1 := (ba (show ((fs.all fun f => f K) && fn.all fun d => d.ok K) = true from congrArg (fun z : AlX => z.1) c)).1
  exact List.all_eq_true.mp c1 f (List.mem_of_getElem? h)
theorem SaysY.def_ {fs : List FB} {fn : List DX} {K : PySem.W.Frag} (c : SaysY fs fn K) (i : Nat) {d : DX} (h : fn[i]? = some d := by rfl) : ∃ fd, FunD K d.name d.qual d.params d.body d.scope (d.dfl.map (Dv.v K)) (d.kwd.map fun q => (q.1, q.2.v K)) (d.at_ K) fd := by
  have c2 := (ba (show ((fs.all fun f => f K) && fn.all fun d => d.ok K) = true from congrArg (fun z : AlX => z.1) c)).2
  have e : fn.map (fun d => fnX K (d.at_ K)) = fn.map DX.val := congrArg (fun z : AlX => z.2) c
  have e2 : (fn.map fun d => fnX K (d.at_ K))[i]? = (fn.map DX.val)[i]? := by rw [e]
  rw [List.getElem?_map, List.getElem?_map, h] at e2
  exact DX.funD (Option.some.inj e2) (List.all_eq_true.mp c2 d (List.mem_of_getElem? h))
end L2.Tr

namespace L2.Tr
open PySem PySem.Spec PyProof.Rows He
section
variable {α β γ δ S L : Type} {X : Cx} {I0 H0 I H : Hp} {W : WX} {Kx : KnowsX} {G : Knows} {ctx : List (Option SF)} {mem : List MF} {e a b c o : Expr} {es : List Expr} {st : Stmt} {ss s1 : List Stmt} {pos pos' p2 : Pos} {n : Str} {σ : St} {Q : VK} {r : Rp α} {ra : Ra α} {rb : Ra β} {rc : Ra γ} {rr : Ra γ} {ma : Res α} {mb : Res β} {mc : Res Bool} {md : Res δ} {R : Hp → Hp → List V → δ → Prop} {K : PySem.W.Frag}
theorem JN.ifT {m1 m2 : Res S} {G' : S → Knows} (j : JT X I0 H0 W ctx mem c mc) (k1 : JN X W Kx (Stt I0 H0 ctx mem) s1 m1 (fun _ _ _ _ => False)) (k2 : JN X W Kx (Stt I0 H0 ctx mem) ss m2 G') (hx : ∀ I H σ d, Stt I0 H0 ctx mem I H σ → Fr H0 d → Kx I H σ d) :
    JN X W Kx (Stt I0 H0 ctx mem) (.If c s1 [] pos :: ss) (mc.bind fun x => if x = true then m1 else m2) G' := fun I H σ D g p => by
  refine b_cons (s_if (j I H σ _ g ?_))
  cases mc with
  | ok x =>
    intro I1 H1 v f r y hy
    cases r; cases hy
    cases x with
    | true =>
      refine iteT (b_mono (k1 I1 H1 σ { D with nx := fun _ _ => False } (g.step f) ?_) (fun _ _ z => z.elim) (fun _ _ z => z) (fun _ _ z => z) (fun _ _ z => z))
      have p1 : PostB X W Kx I1 m1 _ _ := PostB.up p f.i
      cases m1 with
      | ok a => exact fun _ _ _ _ z => z
      | err e => exact p1
      | stuck => exact p1
    | false => exact iteF (b_nil (k2 I1 H1 σ D (g.step f) (PostB.up p f.i)))
  | err e => exact fun I' H' c d f x => p I' H' σ c d (hx _ _ _ _ (g.step f) (x.1.back g.fm.h)) x.2
  | stuck => exact p
end
end L2.Tr

namespace L2.Tr
open PySem PySem.Spec PyProof.Rows
theorem Res.okb {α β : Type} (a : α) (f : α → Res β) : (Res.ok a).bind f = f a := by
  have h : ∀ m : Res α, m = .ok a → m.bind f = f a := fun m e => by subst e; rfl
  exact h _ rfl
theorem Fl.okb_out {S L γ : Type} (f : S → Res γ) (s : S) : Fl.out (L := L) f (.nx s) = f s := by
  have h : ∀ m : Fl S L γ, m = .nx s → Fl.out f m = f s := fun m e => by subst e; rfl
  exact h _ rfl
section
variable {α β γ S L : Type} {m : Res α} {P P' : α → Prop} {f : α → Res β} {Q : β → Prop}
def Ok (m : Res α) (P : α → Prop) : Prop := ∃ a, m = .ok a ∧ P a
theorem Ok.ok {a : α} (h : P a) : Ok (.ok a) P := ⟨a, rfl, h⟩
theorem Ok.bind (h : Ok m P) (k : ∀ a, P a → Ok (f a) Q) : Ok (m.bind f) Q := by
  obtain ⟨a, e, p⟩ := h
  rw [e]; exact k a p
theorem Ok.eq {a : α} (h : Ok m (fun x => x = a)) : m = .ok a := by
  obtain ⟨b, e, p⟩ := h
  rw [e, p]
theorem rangeM1_ok {hi : Int} (h : -(2 ^ 62) ≤ hi ∧ hi < 2 ^ 62) : rangeM1 hi = .ok (rngI 0 hi.toNat) := Res.guard_pos h _
theorem atM_get {xs : List α} {i : Int} {x : α} (h0 : 0 ≤ i) (h : xs[i.toNat]? = some x) : atM xs i = .ok x := by
  have e := atM_nat h
  rwa [Int.toNat_of_nonneg h0] at e
end
theorem mulI_le {a b : Int} {s t : Nat} (ha : a.natAbs ≤ 2 ^ s) (hb : b.natAbs ≤ 2 ^ t) (hs : s + t < 134000000) : mulI a b = .ok (a * b) := mulI_ok (by
  have h1 := log2_mono ha
  have h2 := log2_mono hb
  rw [Nat.log2_two_pow] at h1 h2
  omega)
theorem fdivI_pos {x y : Int} (h : 0 < y) (hl : y < 2 ^ 4000) : fdivI x y = .ok (x / y) := by
  have e : y.natAbs ≤ 2 ^ 4000 := by omega
  have h1 := log2_mono e
  rw [Nat.log2_two_pow] at h1
  rw [fdivI_ok (by omega) (by omega), Int.fdiv_eq_ediv_of_nonneg _ (by omega)]
theorem modI_pos {x y : Int} (h : 0 < y) : modI x y = .ok (x % y) := by
  rw [modI_ok (by omega), Int.fmod_eq_emod_of_nonneg _ (by omega)]
def DB (D B : Nat) (q : Rat) : Prop := 0 < D ∧ ∃ z : Int, q = Rat.divInt z (D : Int) ∧ z.natAbs ≤ B
theorem DB.int (n : Int) : DB 1 n.natAbs (n : Rat) := ⟨by decide, n, (Rat.num_divInt_den (n : Rat)).symm, Nat.le_refl _⟩
end L2.Tr
namespace L2.Tr
open PySem PySem.Spec PyProof.Rows
abbrev Pr := Int × Int × Unit
def pv (p : Pr) : Rat := Rat.divInt p.1 p.2.1
end L2.Tr

namespace L2.Tr
open PySem PySem.Spec PyProof.Rows He
section
variable {α β γ δ ζ S L : Type} {X : Cx} {I0 H0 I H : Hp} {W : WX} {Kx : KnowsX} {G : Knows} {ctx : List (Option SF)} {mem : List MF} {e a b c o ix : Expr} {es : List Expr} {st : Stmt} {ss s1 : List Stmt} {pos pos' p2 : Pos} {n : Str} {σ : St} {Q : VK} {r : Rp α} {ra : Ra α} {rb : Ra β} {rc : Ra γ} {rr : Ra γ} {ma : Res α} {mb : Res β} {mc : Res Bool} {md : Res δ} {R : Hp → Hp → List V → δ → Prop} {K : PySem.W.Frag}
end
end L2.Tr

namespace L2.Tr
open PySem PySem.Spec PyProof.Rows He
section
variable {α β γ δ ε ζ S L : Type} {X : Cx} {I0 H0 I H : Hp} {W : WX} {Kx : KnowsX} {G : Knows} {ctx : List (Option SF)} {mem : List MF} {e a b c o ix : Expr} {es : List Expr} {st : Stmt} {ss s1 : List Stmt} {pos pos' p2 : Pos} {n : Str} {σ : St} {Q : VK} {r : Rp α} {ra : Ra α} {rb : Ra β} {rc : Ra γ} {rr : Ra γ} {ma : Res α} {mb : Res β} {mc : Res Bool} {md : Res δ} {me : Res ε} {R : Hp → Hp → List V → δ → Prop} {R' : Hp → Hp → List V → ε → Prop} {kws : List Keyword} {ks : List Str}
end
section
variable {K : PySem.W.Frag} {x qual : Str} {params : Arguments} {body : List Stmt} {scope : Scope} {kws : List (Str × V)} {f : Addr} {fd : FuncData} {ps : List Str}
end
end L2.Tr

namespace L2.Tr
open PySem PySem.Spec PyProof.Rows
section
variable {α β : Type} {n : Nat} {f g : Nat → α}
def vec (n : Nat) (f : Nat → α) : List α := (List.range n).map f
@[simp] theorem vec_len : (vec n f).length = n := by simp [vec]
end
def sm (f : Nat → Int) : Nat → Int
  | 0 => 0
  | n + 1 => sm f n + f n
section
variable {f g : Nat → Int} {n m : Nat} {c : Int}
@[simp] theorem sm_zero : sm f 0 = 0 := rfl
end
def smQ (f : Nat → Rat) : Nat → Rat
  | 0 => 0
  | n + 1 => smQ f n + f n
section
variable {f g : Nat → Rat} {n m : Nat} {c : Rat}
@[simp] theorem smQ_zero : smQ f 0 = 0 := rfl
end
end L2.Tr
namespace L2.Tr
open PySem PySem.Spec PyProof.Rows
end L2.Tr

namespace L2
open PySem PySem.Spec PyProof.Rows GenW
section
variable {M : Model} {A : Around} {R : GenEnd} {Y : Protocol} {n : Nat} {s₀ : Shared} {c : Code} {fs : List Frame} {s : Shared} {env : Env} {K : Flow → Sem PySem.Fin} {J : Value → Sem PySem.Fin} {gd : Bool → Bool} {lv : List Value → List Value}
end
section
variable {prog : Program} {w : World} {A : Around} {R : GenEnd} {Y : Protocol} {n : Nat} {s₀ : Shared} {fs : List Frame} {s : Shared} {env : Env}
end

section
variable {X : Cx} {tg : Expr}
end
end L2

namespace L2.Tr
open PySem PySem.Spec PyProof.Rows
section
variable {α β γ δ S T : Type}
variable {X : Cx} {I0 H0 : Hp} {W : WX} {Kx : KnowsX} {G : Knows} {ctx : List (Option SF)} {mem : List MF} {e a b c o iter : Expr} {es : List Expr} {st : Stmt} {ss body : List Stmt} {pos pos' pos2 : Pos} {n : Str} {r : Rp β} {out : List β}
end
end L2.Tr

namespace L2.Tr
open PySem PySem.Spec PyProof.Rows
section
variable {α β γ δ S L : Type} {X : Cx} {I0 H0 : Hp} {W : WX} {Kx : KnowsX} {ctx : List (Option SF)} {mem : List MF} {e a : Expr} {ss : List Stmt} {pos : Pos} {rr : Ra γ} {r : Rp α}
def rOp (r : Rp α) : Rp (Option α) := fun I v x => match x with
  | none => v = .non
  | some y => r I v y
instance {r : Rp α} [m : Mo r] : Mo (rOp r) := ⟨fun {I I' v x} s h => by
  cases x with
  | none => exact h
  | some y => exact m.up s h⟩
def optM {β : Type} (x : Option α) (f1 : β) (f2 : α → β) : β := match x with
  | none => f1
  | some y => f2 y
class NoN (r : Rp α) : Prop where
  ne : ∀ I v x, r I v x → v ≠ .non
instance : NoN rInt := ⟨fun _ _ _ h z => by rw [show _ = V.int _ from h] at z; cases z⟩
instance : NoN rBl := ⟨fun _ _ _ h z => by rw [show _ = V.bl _ from h] at z; cases z⟩
instance : NoN rStr := ⟨fun _ _ _ h z => by rw [show _ = V.str _ from h] at z; cases z⟩
instance {K : PySem.W.Frag} : NoN (rFrac K) := ⟨fun _ _ _ ⟨_, _, e, _⟩ z => by rw [e] at z; cases z⟩
instance {K : PySem.W.Frag} : NoN (rNum K) := ⟨fun I v x h => by
  cases x with
  | i n => exact NoN.ne (r := rInt) I v n h
  | q q => exact NoN.ne (r := rFrac K) I v q h⟩
instance {r : Rp α} : NoN (rL r) := ⟨fun _ _ _ ⟨_, _, e, _⟩ z => by rw [e] at z; cases z⟩
instance {r : Rp α} : NoN (rT r) := ⟨fun _ _ _ ⟨_, _, e, _⟩ z => by rw [e] at z; cases z⟩
instance {R : Hp → Hp → List V → δ → Prop} : NoN (rTu R) := ⟨fun _ _ _ ⟨_, _, e, _⟩ z => by rw [e] at z; cases z⟩
instance {C : Addr} {gs : α → List (Str × SF)} : NoN (rIns C gs) := ⟨fun _ _ _ ⟨_, _, _, e, _⟩ z => by rw [e] at z; cases z⟩
theorem JG.dead {G : Knows} {G' : S → Knows} {GL : L → Knows} : JG X I0 H0 W Kx G ss (.stuck : Res (Fl S L γ)) G' GL rr := fun _ _ _ _ _ p => p.elim
end
end L2.Tr

namespace L2.Tr
open PySem PySem.Spec PyProof.Rows He
theorem pmk_oexN {X : Cx} {e : Expr} {es : List Expr} {ta : TA} {p pos : Pos} {CX : CXT} {x : Str} {C fI : Addr} {k : Nat} {fd : FuncData} {ps : List Str} {sp : Sp} (T : OexC X.K C) (iC : PySem.W.findIn X.K (.ref C) "__init__" = some (some (.ref fI))) (tI : PySem.W.typeIn X.K (.ref fI) = some (.type "function"))
    (F1 : FnOk X.prog X.w X.K X.mg X.base CX k fI fd ps sp) (hr : Room (k + 1) X.A) (hb : Binds X.K fd ps []) (hx : Passes CX X (fun _ _ _ => False)) (hg : Gl X x) (hm : X.mg x = some (.ref C)) (ha : PA X (e :: es) ta)
    (hdb : (x == ("__debug__" : Str)) = false := by decide) (he : starEach (e :: es) X.env = (false, eval e X.env) :: starEach es X.env := by rfl) (hpl : (backTo pos (starEach es X.env)).any (·.1) = false := by rfl) :
    L2N.PMk X (.Call (.Name x p) (e :: es) [] pos) (tMkO C sp [] ta) := by
  intro pins s σ H Q I h
  obtain ⟨nm, q, N, bs, bm, sn, sub, ab, col, dd, k0, k1, k2, k3, k5, hC, hbm⟩ := T.cls
  refine wpAny_Call_Name_kw (ld_glob I hg hm ?_ hdb)
  refine PySem.W.callWith_K (h₀ := X.base) I.ok.mod.kin T.kC (thn (ha.run pos pins s σ H _ I h) fun us s1 ⟨vs, H1, I1, r1, hz, q1⟩ => ⟨I1.kIn, ?_⟩) he hpl
  show wpAny _ _ (call (.ref C) us) _ _ _
  obtain ⟨hp, g, dr, tk, os⟩ := s1
  have hq := q1 (hp.objs.size + 1) (I1.hok.fresh (Nat.le_succ _))
  rw [List.append_nil] at hq
  have kk : ∀ b o, hp.get? b = some o → ((hp.push (PySem.W.kdv_tup us)).push (PySem.HandSPX.excO C hp.objs.size)).get? b = some o := fun b o e => Heap.get?_push_of_some _ (Heap.get?_push_of_some _ e)
  have hget : ((hp.push (PySem.W.kdv_tup us)).push (PySem.HandSPX.excO C hp.objs.size)).get? (hp.objs.size + 1) = some (PySem.HandSPX.excO C hp.objs.size) := by heap_get
  have I2 : Inv X pins σ (upd H1 (hp.objs.size + 1) (exo (hp.objs.size + 1) C none)) ⟨(hp.push (PySem.W.kdv_tup us)).push (PySem.HandSPX.excO C hp.objs.size), g, dr, tk, os⟩ :=
    I1.laid (t' := tk) (a := hp.objs.size + 1) (o := exo (hp.objs.size + 1) C none) (h' := (hp.push (PySem.W.kdv_tup us)).push (PySem.HandSPX.excO C hp.objs.size)) kk (Nat.le_succ _) (exo_ok hget)
  have r2 : Vals (V.ref (hp.objs.size + 1) :: vs) (Value.ref (hp.objs.size + 1) :: us) := .cons rfl r1
  have hl : (Value.ref (hp.objs.size + 1) :: us ++ []).length = ps.length := by
    have e := r2.length
    rw [F1.len _ _ _ _ hq] at e
    rw [List.append_nil]
    exact e.symm
  have hus : us.length ≤ sizeLine := by
    rw [← Paired.length r1, sizeLine_eq]
    omega
  have bnd := hb ⟨(hp.push (PySem.W.kdv_tup us)).push (PySem.HandSPX.excO C hp.objs.size), g, dr, tk, os⟩ (Value.ref (hp.objs.size + 1) :: us) I2.kIn hl
  rw [List.append_nil] at bnd
  refine wpAny_call (PySem.HandSPX.call_own F.excBase_ValueError (fun Y => PySem.HandSPX.refsVE_contains Y bm hbm) (I1.kIn _ _ hC) (PySem.W.looks_findIn I1.kIn iC) (fun self => PySem.W.bind_fn I1.kIn self tI) hus
    (codeAny_mono (F1.run _ X.stack _ _ ⟨Value.ref (hp.objs.size + 1) :: us, []⟩ (Value.ref (hp.objs.size + 1) :: us) _ _ (fun _ _ _ => False) (hr.make C us []) (I2.env0.make C us []) bnd r2 hq) fun r s' hq' => ?_))
  cases r with
  | error er => exact hx pins σ _ _ er s' I2 hq'
  | ok fl =>
    cases fl with
    | ret u =>
      obtain ⟨v, H2, os2, bare2, un2, hok2, rv, ev, d, fs, ea, ed, hd1, q2⟩ := hq'
      subst ev
      obtain ⟨h2, g2, d2, t2, os'⟩ := s'
      obtain ⟨t0, G, J, kG, ge, hoe, na⟩ := mk_end0 (d2 := d2) (t2 := t2) I1 (Nat.le_succ _) kk un2 hok2 os2 bare2 ea ed hd1
      exact ⟨rv, _, _, _, ⟨G, g2, d2, t2, os'⟩, _, .ref C, some d, rfl, J, kG, ge, hoe, ⟨rfl, rfl, fun vs z => by cases z; rfl⟩, rfl, rfl, na, rfl, bare2, raises_own T.exC T.tyC, q2⟩
    | next => exact False.elim hq'
    | brk => exact False.elim hq'
    | cont => exact False.elim hq'
structure ExcV (K : PySem.W.Frag) (mg : Str → Option Value) (x : Str) (fs : List Str) : Prop where
  oex : OexC K (ga K x)
  ini : PySem.W.findIn K (.ref (ga K x)) "__init__" = some (some (.ref (ma K (ga K x) "__init__")))
  tyI : PySem.W.typeIn K (.ref (ma K (ga K x) "__init__")) = some (.type "function")
  no : ∀ f, f ∈ fs → PySem.W.findIn K (.ref (ga K x)) f = some none
  gl : mg x = some (.ref (ga K x))
  xf : XfC K (ga K x)
def isOex (K : PySem.W.Frag) (C : Addr) : Bool := match List.lookup C K with
  | some ⟨.type "type", _, .cls cd, sl⟩ => (match cd.mro, sl.toList with
    | .ref C' :: bm, [_, _, _, _, some (.builtin n), _] => C' == C && (n == "ValueError.__new__" && (cd.hasDict && (!cd.hasDel && HandSPX.refsVE bm)))
    | _, _ => false)
  | _ => false
theorem isOex_ok {K : PySem.W.Frag} {C : Addr} (h : isOex K C = true) : ∃ nm q N bs bm sn sub ab col dd k0 k1 k2 k3 k5, List.lookup C K = some (excClassObj nm q C N bs bm true sn sub ab col dd k0 k1 k2 k3 k5 "ValueError.__new__") ∧ HandSPX.refsVE bm = true := by
  unfold isOex at h
  split at h
  · rename_i dd cd sl e
    split at h
    · rename_i C' bm k0 k1 k2 k3 n k5 e1 e2
      simp only [Bool.and_eq_true, beq_iff_eq, Bool.not_eq_true'] at h
      obtain ⟨h1, h2, h3, h4, h5⟩ := h
      obtain ⟨nm, bs, mro, N, q, hd, sn, sub, ab, col, del⟩ := cd
      dsimp only at e1 h3 h4
      subst h1; subst h2; subst h3; subst h4; subst e1
      refine ⟨nm, q, N, bs, bm, sn, sub, ab, col, dd, k0, k1, k2, k3, k5, ?_, h5⟩
      rw [e]
      congr 2
      exact Array.toList_inj.mp e2
    · cases h
  · cases h
def fExcV (x : Str) (fs : List Str) : FB := fun K => isOex K (ga K x) && (eqO (PySem.W.findIn K (.ref (ga K x)) "__setattr__") (some (some (.builtin "object.__setattr__"))) && (decide (PySem.W.subIn K (.ref (ga K x)) (.type "BaseException") = some true) && (decide (PySem.W.typeIn K (.ref (ga K x)) = some (.type "type")) && (PySem.W.keepIn K (.ref (ga K x)) &&
  (eqO (PySem.W.findIn K (.ref (ga K x)) "__init__") (some (some (.ref (ma K (ga K x) "__init__")))) && (decide (PySem.W.typeIn K (.ref (ma K (ga K x) "__init__")) = some (.type "function")) && (fs.all (fun f => eqO (PySem.W.findIn K (.ref (ga K x)) f) (some none)) && ((Fa.glo x).ok K &&
  (eqO (PySem.W.findIn K (.ref (ga K x)) "__getattribute__") (some (some (.builtin "BaseException.__getattribute__"))) && (eqO (PySem.W.findIn K (.ref (ga K x)) "__getattr__") (some none) && PySem.W.hasDictIn K (ga K x)))))))))))
theorem excV_of {K : PySem.W.Frag} {mg : Str → Option Value} {h : Heap} (X : K.In h) (G : h.Ns mainGlobals mg) {x : Str} {fs : List Str} (c : fExcV x fs K = true) : ExcV K mg x fs := by
  obtain ⟨c1, c⟩ := ba c
  obtain ⟨c2, c⟩ := ba c
  obtain ⟨c3, c⟩ := ba c
  obtain ⟨c4, c⟩ := ba c
  obtain ⟨c5, c⟩ := ba c
  obtain ⟨c6, c⟩ := ba c
  obtain ⟨c7, c⟩ := ba c
  obtain ⟨c8, c⟩ := ba c
  obtain ⟨c9, c⟩ := ba c
  obtain ⟨c10, c⟩ := ba c
  obtain ⟨c11, c12⟩ := ba c
  exact ⟨⟨isOex_ok c1, of_decide_eq_true c2, of_decide_eq_true c3, of_decide_eq_true c4, c5⟩, of_decide_eq_true c6, of_decide_eq_true c7, fun f hf => of_decide_eq_true (List.all_eq_true.mp c8 f hf), glo_ok X G c9, ⟨of_decide_eq_true c10, of_decide_eq_true c11, of_decide_eq_true c3, c12⟩⟩
section
variable {P : Program} {w : World} {K : PySem.W.Frag} {mg : Str → Option Value} {base : Heap}
def sp2 (C : Addr) (f g : Str) : Sp := fun vs H Q _ => ∃ a v u, vs = [.ref a, v, u] ∧ H a = some (exo a C none) ∧ ∀ dx, H dx = none → dx ≠ a → Q .non (upd (upd (upd H dx (exd dx [(f, v)])) a (exo a C (some dx))) dx (exd dx [(g, u), (f, v)]))
theorem init2 {x qual : Str} {params : Arguments} {body : List Stmt} {scope : Scope} {fl : Addr} {fd : FuncData} {p q f g : Str} {p1 p2 p3 pos p4 p5 p6 pos2 : Pos} {C : Addr} (F : FunD K x qual params body scope [] [] fl fd) (S : FnScope ["self", p, q] ["self", p, q] scope) (hb : body = [.Assign [.Attribute (.Name "self" p1) f p2] (.Name p p3) pos, .Assign [.Attribute (.Name "self" p4) g p5] (.Name q p6) pos2]) (T : OexC K C) (hno : PySem.W.findIn K (.ref C) f = some none) (hno2 : PySem.W.findIn K (.ref C) g = some none)
    (hv0 : Vis scope "self") (hv1 : Vis scope p) (hv2 : Vis scope q) (hd : (p == ("__debug__" : Str)) = false) (hcd : (p == ("__classdict__" : Str)) = false) (hd2 : (q == ("__debug__" : Str)) = false) (hcd2 : (q == ("__classdict__" : Str)) = false) : FnOk P w K mg base (L2N.CX P w) 1 fl fd ["self", p, q] (sp2 C f g) := by
  refine F.ok (k := 0) S (fun vs H Q E ⟨a, v, u, e, _⟩ => by rw [e]; rfl) fun cdv A outer s H vs Q E hr ⟨a, v, u, e, ha, h⟩ => ⟨_, pss_W, ?_⟩
  subst e; subst hb
  refine b_cons (PS.w (ps_ost pe_W pe_W) (w_var 1 (v := v) (w_var 0 (v := .ref a) ?_ rfl rfl hv0 (by decide) (by decide)) rfl rfl hv1 hd hcd))
  refine ⟨a, C, rfl, T, hno, .inl ⟨ha, fun dx h1 h2 => ?_⟩⟩
  refine b_cons (PS.w (ps_ost pe_W pe_W) (w_var 2 (v := u) (w_var 0 (v := .ref a) ?_ rfl rfl hv0 (by decide) (by decide)) rfl rfl hv2 hd2 hcd2))
  refine ⟨a, C, rfl, T, hno2, .inr ⟨dx, [(f, v)], upd_same, by rw [upd_ne h2, upd_same], by simp, ?_⟩⟩
  exact b_nil (h dx h1 h2)
abbrev ErR2 (P : Program) (w : World) (K : PySem.W.Frag) (mg : Str → Option Value) (base : Heap) (x f g : Str) : Prop := ExcV K mg x [f, g] ∧ ∃ fd ps, FnOk P w K mg base (L2N.CX P w) 1 (ma K (ga K x) "__init__") fd ps (sp2 (ga K x) f g) ∧ Binds K fd ps []
end
section
variable {α β γ δ S L : Type} {X : Cx} {I0 H0 : Hp} {W : WX} {Kx : KnowsX} {ctx cw : List (Option SF)} {mem : List MF} {e a b : Expr} {ss body suite : List Stmt} {b₀ : Stmt} {pos pos' np p1 p3 : Pos} {n x f g : Str} {rr : Ra γ} {r : Rp α} {r2 : Rp β} {G : Knows}
theorem passNo : Passes (L2N.CX X.prog X.w) X (fun _ _ _ => False) := fun _ _ _ _ _ _ _ ⟨_, _, _, _, _, _, _, _, _, _, _, _, h⟩ => h.elim
def ErrP (X : Cx) (W : WX) (Kx : KnowsX) (e : Exn) : Prop := ∀ I' H' σ' cls d, Kx I' H' σ' d → ExR X.K I' H' e cls d → W cls d σ' H'
theorem err_last {fs : List (Str × V)} {ps : List (Str × Pay)} {I H : Hp} {σ : L2.St} {a dx : Addr} (st : Stt I0 H0 ctx mem I H σ) (hx : ∀ I H σ d, Stt I0 H0 ctx mem I H σ → Fr H0 d → Kx I H σ d) (p : ErrP X W Kx ⟨x, ps⟩) (hp : ps ≠ []) (pr : Paired (fun (p : Str × V) (q : Str × Pay) => p.1 = q.1 ∧ PayR X.K I p.2 q.2) fs ps) (ha : H a = none) (h1 : H dx = none) (h2 : dx ≠ a) {H2 : Hp} (hH2 : ∀ b, b ≠ a → b ≠ dx → H2 b = H b) : W (.ref (ga X.K x)) (some dx) σ (upd (del H2 a) dx (.xd fs)) := by
  have e : upd (del H2 a) dx (.xd fs) = upd H dx (.xd fs) := funext fun b => by
    by_cases hb : b = dx
    · subst hb; rw [upd_same, upd_same]
    · rw [upd_ne hb, upd_ne hb]
      by_cases hb2 : b = a
      · subst hb2
        rw [ha]
        simp [del]
      · have : del H2 a b = H2 b := by simp [del, hb2]
        rw [this, hH2 b hb2 hb]
  rw [e]
  have f1 : Fm I H I (upd H dx (.xd fs)) := Fm.newM st.same h1
  refine p I _ σ _ (some dx) (hx _ _ _ _ (st.step f1) fun q z => by cases z; exact st.fm.h.free h1) ⟨rfl, hp, fs, upd_same, st.same.free h1, pr⟩
theorem raise2_core {m : Res α} {m2 : Res β} {pay : α → Pay} {pay2 : β → Pay} {D : Ends} {I H : Hp} {σ : L2.St} [Mo r] (hc : X.calm = true) (tk : L2N.Takes X W) (er : ErR2 X.prog X.w X.K X.mg X.base x f g) (hr : Room 2 X.A) (je : JE X I0 H0 W ctx mem e m (rp r)) (jb : JE X I0 H0 W ctx mem b m2 (rp r2)) (pc : ∀ I v y, r I v y → PayR X.K I v (pay y)) (pc2 : ∀ I v y, r2 I v y → PayR X.K I v (pay2 y)) (hx : ∀ I H σ d, Stt I0 H0 ctx mem I H σ → Fr H0 d → Kx I H σ d) (st : Stt I0 H0 ctx mem I H σ)
    (p : match m with | .ok y => (match m2 with | .ok z => ErrP X W Kx ⟨x, [(g, pay2 z), (f, pay y)]⟩ | .err ee => ErrP X W Kx ee | .stuck => False) | .err ee => ErrP X W Kx ee | .stuck => False) (hg : Gl X x := by rfl) (hdb : (x == ("__debug__" : Str)) = false := by decide) (hs : starEach [e, b] X.env = (false, eval e X.env) :: starEach [b] X.env := by rfl) (hs2 : starEach [b] X.env = (false, eval b X.env) :: starEach [] X.env := by rfl) (hpl : (backTo p3 (starEach [b] X.env)).any (·.1) = false := by rfl) :
    wS X (.Raise (some (.Call (.Name x p1) [e, b] [] p3)) none pos) D σ H := by
  obtain ⟨ev, fd, ps, F1, hb⟩ := er
  refine s_raise hc tk (pmk_oexN ev.oex ev.ini ev.tyI F1 hr hb passNo hg ev.gl pa_W hdb hs hpl) ?_
  refine Tr.w_cons (je I H σ _ st ?_) hs
  cases m with
  | ok y =>
    intro I1 H1 v f1 r1
    refine Tr.w_cons (jb I1 H1 σ _ (st.step f1) ?_) hs2
    cases m2 with
    | ok z =>
      intro I2 H2 u f2 r3
      refine w_nil ⟨by simp, fun q hq => ⟨q, v, u, rfl, upd_same, fun dx h1 h2 => ⟨rfl, dx, [(g, u), (f, v)], by rw [upd_ne (Ne.symm h2), upd_same], upd_same, by rwa [upd_ne h2] at h1, ?_⟩⟩⟩
      refine err_last ((st.step f1).step f2) hx p (by simp) (.cons ⟨rfl, pc2 I2 u z r3⟩ (.cons ⟨rfl, pc I2 v y (Mo.up f2.i r1)⟩ .nil)) hq (by rwa [upd_ne h2] at h1) h2 fun b h3 h4 => ?_
      rw [upd_ne h4, upd_ne h3, upd_ne h4, upd_ne h3]
    | err ee => exact fun I' H' c d f y => p I' H' σ c d (hx _ _ _ _ ((st.step f1).step f) (y.1.back (st.step f1).fm.h)) y.2
    | stuck => exact p
  | err ee => exact fun I' H' c d f y => p I' H' σ c d (hx _ _ _ _ (st.step f) (y.1.back st.fm.h)) y.2
  | stuck => exact p
theorem JN.raise2 {m : Res α} {m2 : Res β} {pay : α → Pay} {pay2 : β → Pay} {G' : S → Knows} [Mo r] (hc : X.calm = true) (tk : L2N.Takes X W) (er : ErR2 X.prog X.w X.K X.mg X.base x f g) (hr : Room 2 X.A) (je : JE X I0 H0 W ctx mem e m (rp r)) (jb : JE X I0 H0 W ctx mem b m2 (rp r2)) (pc : ∀ I v y, r I v y → PayR X.K I v (pay y)) (pc2 : ∀ I v y, r2 I v y → PayR X.K I v (pay2 y)) (hx : ∀ I H σ d, Stt I0 H0 ctx mem I H σ → Fr H0 d → Kx I H σ d) (hg : Gl X x := by rfl) (hdb : (x == ("__debug__" : Str)) = false := by decide) (hs : starEach [e, b] X.env = (false, eval e X.env) :: starEach [b] X.env := by rfl) (hs2 : starEach [b] X.env = (false, eval b X.env) :: starEach [] X.env := by rfl) (hpl : (backTo p3 (starEach [b] X.env)).any (·.1) = false := by rfl) :
    JN X W Kx (Stt I0 H0 ctx mem) (.Raise (some (.Call (.Name x p1) [e, b] [] p3)) none pos :: ss) (m.bind fun y => m2.bind fun z => (.err ⟨x, [(g, pay2 z), (f, pay y)]⟩ : Res S)) G' := fun I H σ D st p => by
  refine b_cons (raise2_core hc tk er hr je jb pc pc2 hx st ?_ hg hdb hs hs2 hpl)
  cases m with
  | ok y => cases m2 with
    | ok z => exact p
    | err ee => exact p
    | stuck => exact p
  | err ee => exact p
  | stuck => exact p
theorem JR.raise2 {m : Res α} {m2 : Res β} {pay : α → Pay} {pay2 : β → Pay} [Mo r] (hc : X.calm = true) (tk : L2N.Takes X W) (er : ErR2 X.prog X.w X.K X.mg X.base x f g) (hr : Room 2 X.A) (je : JE X I0 H0 W ctx mem e m (rp r)) (jb : JE X I0 H0 W ctx mem b m2 (rp r2)) (pc : ∀ I v y, r I v y → PayR X.K I v (pay y)) (pc2 : ∀ I v y, r2 I v y → PayR X.K I v (pay2 y)) (hx : ∀ I H σ d, Stt I0 H0 ctx mem I H σ → Fr H0 d → Kx I H σ d) (hg : Gl X x := by rfl) (hdb : (x == ("__debug__" : Str)) = false := by decide) (hs : starEach [e, b] X.env = (false, eval e X.env) :: starEach [b] X.env := by rfl) (hs2 : starEach [b] X.env = (false, eval b X.env) :: starEach [] X.env := by rfl) (hpl : (backTo p3 (starEach [b] X.env)).any (·.1) = false := by rfl) :
    JR X I0 H0 W Kx (Stt I0 H0 ctx mem) (.Raise (some (.Call (.Name x p1) [e, b] [] p3)) none pos :: ss) (m.bind fun y => m2.bind fun z => (.err ⟨x, [(g, pay2 z), (f, pay y)]⟩ : Res γ)) rr := fun I H σ D st p => by
  refine b_cons (raise2_core hc tk er hr je jb pc pc2 hx st ?_ hg hdb hs hs2 hpl)
  cases m with
  | ok y => cases m2 with
    | ok z => exact p
    | err ee => exact p
    | stuck => exact p
  | err ee => exact p
  | stuck => exact p
theorem pay_int {K : PySem.W.Frag} : ∀ I v y, rInt I v y → PayR K I v (.int y) := fun _ _ _ h => h
def tryG (m : Res (Fl S L γ)) (Ls : List (Str × Bool)) (h : Exn → Res (Fl S L γ)) : Res (Fl S L γ) := match m with
  | .ok s => .ok s
  | .err e => (match Ls.lookup e.cls with
    | some true => (match h e with
      | .ok y => .ok y
      | _ => .stuck)
    | some false => .err e
    | none => .stuck)
  | .stuck => .stuck
def MF.same (I1 : Hp) : MF := ⟨fun I _ fp => fp = [] ∧ Same I1 I, fun s ⟨e, h⟩ => ⟨e, h.trans s⟩, fun _ h => h⟩
theorem Regs.snoc {I H : Hp} {c : MF} : ∀ {mem : List MF} {fps : List (List Addr)} {fp : List Addr}, Regs I H mem fps → c.Q I H fp → Regs I H (mem ++ [c]) (fps ++ [fp])
  | [], [], _, _, h => ⟨h, True.intro⟩
  | _ :: _, _ :: _, _, ⟨a, b⟩, h => ⟨a, Regs.snoc b h⟩
  | [], _ :: _, _, h, _ => h.elim
  | _ :: _, [], _, h, _ => h.elim
theorem Regs.unsnoc {I H : Hp} {c : MF} : ∀ {mem : List MF} {fps : List (List Addr)}, Regs I H (mem ++ [c]) fps → ∃ fps0 fp, fps = fps0 ++ [fp] ∧ Regs I H mem fps0 ∧ c.Q I H fp
  | [], [fp], ⟨h, _⟩ => ⟨[], fp, rfl, True.intro, h⟩
  | [], [], h => h.elim
  | [], _ :: _ :: _, ⟨_, h⟩ => h.elim
  | _ :: _, q :: _, ⟨a, b⟩ => by
    obtain ⟨fps0, fp, e, r, h⟩ := Regs.unsnoc b
    exact ⟨q :: fps0, fp, by rw [e]; rfl, ⟨a, r⟩, h⟩
  | _ :: _, [], h => h.elim
theorem Stt.ghost {I H : Hp} {σ : L2.St} (s : Stt I0 H0 ctx mem I H σ) : Stt I0 H0 ctx (mem ++ [MF.same I]) I H σ := by
  obtain ⟨fps, rg, nd, k⟩ := s.me
  have e : (fps ++ [[]]).flatten = fps.flatten := by simp
  exact ⟨s.fm, s.len, s.sl, fps ++ [[]], rg.snoc ⟨rfl, Same.refl _⟩, by rw [e]; exact nd, fun a ha => k a (by rwa [e] at ha)⟩
theorem Stt.ungh {I1 I H : Hp} {σ : L2.St} (s : Stt I0 H0 ctx (mem ++ [MF.same I1]) I H σ) : Same I1 I ∧ Stt I0 H0 ctx mem I H σ := by
  obtain ⟨fps, rg, nd, k⟩ := s.me
  obtain ⟨fps0, fp, e, r, e2, h⟩ := rg.unsnoc
  subst e2; subst e
  have e : (fps0 ++ [[]]).flatten = fps0.flatten := by simp
  rw [e] at nd k
  exact ⟨h, s.fm, s.len, s.sl, fps0, r, nd, k⟩
theorem J1G.tryAs (i : Nat) {cv : Value} {Ls : List (Str × Bool)} {mb : Res (Fl S L γ)} {G' : S → Knows} {GL : L → Knows} {mh : Exn → Res (Fl S L γ)} {me' : Hp → List MF} (tk : L2N.Takes X W)
    (jb : ∀ (W' : WX) (pn : List (Addr × Obj)) (xe : Value → Shared → Prop) (I1 : Hp), L2N.Takes (X.tr pn xe) W' → PassesOwn (model X.prog X.w) X.A X.env xe → JG (X.tr pn xe) I0 H0 W' (fun I H σ d => Stt I0 H0 cw (me' I1) I H σ ∧ Fr H0 d) (Stt I0 H0 ctx (me' I1)) body mb G' GL rr)
    (js : ∀ (a : Addr) (oe : Obj) (ee : Exn) (d : Option Addr) (pn : List (Addr × Obj)), L2N.Zn (.ref (He.ga X.K ee.cls)) d oe → (∃ vs, oe.data = .fields vs) → (ee.cls, true) ∈ Ls → (d = none → ee.pay = []) → (∀ q, d = some q → ee.pay ≠ []) → JG (X.suite a ((a, oe) :: pn)) I0 H0 (fun _ _ _ _ => False) (fun _ _ _ _ => True) (Stt I0 H0 (cw.set i (some ⟨rExc a, ()⟩)) (exm X.K d ee ++ mem)) (b₀ :: suite) (mh ee) (fun s I H σ => G' s I H (σ.set i none)) (fun s I H σ => GL s I H (σ.set i none)) rr)
    (hL : ∀ y b, (y, b) ∈ Ls → PySem.W.exmOne X.K (.ref (He.ga X.K y)) cv = some b) (hc : Names X x cv) (hx : ∀ I H σ d, Stt I0 H0 cw mem I H σ → Fr H0 d → Kx I H σ d) (hN : X.N.Nodup) (hme : ∀ I1, me' I1 = mem ++ [MF.same I1] := by intro _; rfl)
    (hs : X.stack = X.env :: X.outer := by rfl) (hf : X.env.frame = some X.env.locals := by rfl) (hi : X.N[i]? = some n := by rfl) (hln : X.env.kindOf n = some .local := by rfl) (hmx : NoXd mem := by exact True.intro) :
    J1G X I0 H0 W Kx (Stt I0 H0 ctx mem) (.Try body [.ExceptHandler (some (.Name x np)) (some n) (b₀ :: suite) pos'] [] [] pos) (tryG mb Ls mh) G' GL rr := fun I H σ D g p => by
  refine PS.w (L2N.ps_try_as (i := i) (tb := fun W' D σ H => ∀ pn xe, L2N.Takes (X.tr pn xe) W' → PassesOwn (model X.prog X.w) X.A X.env xe → wB (X.tr pn xe) body D σ H) (ts := fun a cls d D σ H => ∀ oe pn, L2N.Zn cls d oe → (∃ vs, oe.data = .fields vs) → wB (X.suite a ((a, oe) :: pn)) (b₀ :: suite) D σ H) hs hf hN hi hln hc tk
    (fun W' pn xe t1 t2 => ⟨fun pins s σ H D Iv h => h pn xe t1 t2 pins s Iv⟩) (fun a oe cls d pn hz hf => ⟨fun pins s σ H D Iv h => h oe pn hz hf pins s Iv⟩)) ?_
  intro pn xe t1 t2
  refine jb _ pn xe I t1 t2 I H σ _ (by rw [hme]; exact g.ghost) ?_
  cases mb with
  | ok r =>
    cases r with
    | nx s => exact p
    | bk s => exact p
    | ct s => exact p
    | rt y => exact p
  | stuck => exact p.elim
  | err ee =>
    intro I' H' σ' cls d hk hxr
    obtain ⟨g0, fr⟩ := hk
    rw [hme] at g0
    obtain ⟨sm, g1⟩ := g0.ungh
    obtain ⟨ec, hxr2⟩ := id hxr
    have p1 : PostG X I0 H0 W Kx I (match Ls.lookup ee.cls with
      | some true => (match mh ee with
        | .ok y => .ok y
        | _ => .stuck)
      | some false => .err ee
      | none => .stuck) G' GL rr D := p
    cases hl : Ls.lookup ee.cls with
    | none => rw [hl] at p1; exact p1.elim
    | some bb =>
      rw [hl] at p1
      refine ⟨bb, by rw [ec]; exact hL _ _ (lookup_mem hl), fun hb a ha oe pn' hz hf' => ?_, fun hb => ?_⟩
      · subst hb
        rw [ec] at hz
        refine js a oe ee d pn' hz hf' (lookup_mem hl) (fun z => by subst z; exact hxr2) (fun q z => by subst z; exact hxr2.1) I' H' _ _ ((g1.set i (r := rExc a) (x := ()) rfl).exm fr hxr hmx) ?_
        have p2 : PostG X I0 H0 W Kx I (match mh ee with
          | .ok y => .ok y
          | _ => .stuck) G' GL rr D := p1
        revert p2
        generalize mh ee = z
        intro p2
        cases z with
        | ok y =>
          cases y with
          | nx s => exact fun I2 H2 σ2 s2 q => p2 I2 H2 _ (sm.trans s2) q
          | bk s => exact fun I2 H2 σ2 s2 q => p2 I2 H2 _ (sm.trans s2) q
          | ct s => exact fun I2 H2 σ2 s2 q => p2 I2 H2 _ (sm.trans s2) q
          | rt y => exact p2
        | err _ => exact p2.elim
        | stuck => exact p2.elim
      · subst hb
        exact p1 I' H' σ' cls d (hx _ _ _ _ g1 fr) hxr
def dInt : Pay → Option Int
  | .int n => some n
  | _ => none
def dStr : Pay → Option Str
  | .str n => some n
  | _ => none
def dFrac : Pay → Option Rat
  | .frac n => some n
  | _ => none
def dNum : Pay → Option Num
  | .int n => some (.i n)
  | .frac q => some (.q q)
  | _ => none
class PayD (K : PySem.W.Frag) (dp : Pay → Option α) (r : Rp α) : Prop where
  ok : ∀ I v p y, PayR K I v p → dp p = some y → r I v y
instance {K : PySem.W.Frag} : PayD K dInt rInt := ⟨fun I v p y h e => by cases p <;> first | (cases e; exact h) | cases e⟩
instance {K : PySem.W.Frag} : PayD K dStr rStr := ⟨fun I v p y h e => by cases p <;> first | (cases e; exact h) | cases e⟩
instance {K : PySem.W.Frag} : PayD K dFrac (rFrac K) := ⟨fun I v p y h e => by cases p <;> first | (cases e; exact h) | cases e⟩
instance {K : PySem.W.Frag} : PayD K dNum (rNum K) := ⟨fun I v p y h e => by cases p <;> first | (cases e; exact h) | cases e⟩
theorem JE.xfld (i j : Nat) {ad dd : Addr} {oe : Obj} {pn : List (Addr × Obj)} {c0 : Str} {ps : List (Str × Pay)} {p : Pay} {y : α} {dp : Pay → Option α} [pd : PayD X.K dp r] (hz : L2N.Zn (.ref (He.ga X.K c0)) (some dd) oe) (hf : ∃ vs, oe.data = .fields vs) (ev : XfC X.K (He.ga X.K c0)) (hno : PySem.W.findIn X.K (.ref (He.ga X.K c0)) f = some none) (hd : dp p = some y) (hl : ps.lookup f = some p) (je : JE (X.suite ad ((ad, oe) :: pn)) I0 H0 W ctx mem a (.ok ()) (rp (rExc ad))) (hj : mem[j]? = some (MF.xd X.K dd ps) := by rfl) (hab : attributeBase a f X.env (eval a X.env) = eval a X.env := by rfl) :
    JE (X.suite ad ((ad, oe) :: pn)) I0 H0 W ctx mem (.Attribute a f pos) (.ok y) (rp r) := fun I H σ Q st q => by
  refine PE.w (pe_xf ev hno hz.zc hf pe_W hab) (je I H σ _ st ?_)
  intro I1 H1 v f1 r1
  have ev1 : v = .ref ad := r1
  obtain ⟨_, _, o, h1, fs, e1, pr⟩ := (st.step f1).me1 (P := fun I o => ∃ fs, o = .xd fs ∧ Paired (fun (p : Str × V) (q : Str × Pay) => p.1 = q.1 ∧ PayR X.K I p.2 q.2) fs ps) hj fun q => q
  subst e1
  have look : ∀ {fs : List (Str × V)} {ps : List (Str × Pay)}, Paired (fun (p : Str × V) (q : Str × Pay) => p.1 = q.1 ∧ PayR X.K I1 p.2 q.2) fs ps → ps.lookup f = some p → ∃ v, fs.lookup f = some v ∧ PayR X.K I1 v p := by
    intro fs ps h
    induction h with
    | nil => intro h; cases h
    | @cons u w us ws hh ht ih =>
      intro hl
      obtain ⟨u1, u2⟩ := u
      obtain ⟨w1, w2⟩ := w
      obtain ⟨e, hp⟩ := hh
      dsimp only at e hp
      subst e
      have hl' : (match f == u1 with | true => some w2 | false => ws.lookup f) = some p := hl
      show ∃ v, (match f == u1 with | true => some u2 | false => us.lookup f) = some v ∧ _
      cases hb : f == u1 with
      | true => rw [hb] at hl'; cases hl'; exact ⟨u2, rfl, hp⟩
      | false => rw [hb] at hl'; exact ih hl'
  obtain ⟨z, hz1, hz2⟩ := look pr hl
  exact ⟨ev1, rfl, dd, fs, z, rfl, h1, hz1, q I1 H1 z f1 (pd.ok I1 z p y hz2 hd)⟩
end
end L2.Tr

namespace L2.Tr
open PySem PySem.Spec PyProof.Rows He
section
variable {α β γ δ S L : Type} {X : Cx} {I0 H0 I H : Hp} {W : WX} {Kx : KnowsX} {G : Knows} {ctx : List (Option SF)} {mem : List MF} {e a b c o : Expr} {es : List Expr} {st : Stmt} {ss s1 : List Stmt} {pos pos' p2 : Pos} {n : Str} {σ : St} {Q : VK} {r : Rp α} {ra : Ra α} {rb : Ra β} {rc : Ra γ} {rr : Ra γ} {ma : Res α} {mb : Res β} {mc : Res Bool} {md : Res δ} {R : Hp → Hp → List V → δ → Prop} {K : PySem.W.Frag}
end
end L2.Tr

namespace GQ
open PySem PySem.SeqAt
open AutoSeq1 (wpAny_loadPart')
open MeetsSeq MeetsSeq2 MeetsSeq3 SeqRoads2
section
variable {prog : Program} {w : World} {A : Around} {R : Result → Shared → Prop} {E : Value → Shared → Prop} {s : Shared}
end
end GQ
namespace L2.Tr
open PySem PySem.Spec PyProof.Rows He
instance : DecidableEq Num := fun x y => match x, y with
  | .i a, .i b => if h : a = b then .isTrue (by rw [h]) else .isFalse fun e => h (by cases e; rfl)
  | .q a, .q b => if h : a = b then .isTrue (by rw [h]) else .isFalse fun e => h (by cases e; rfl)
  | .i _, .q _ => .isFalse fun e => nomatch e
  | .q _, .i _ => .isFalse fun e => nomatch e
section
variable {X : Cx} {W : WX} {n : Nat} {D : Eqv}
end
end L2.Tr

namespace L2.Tr
open PySem PySem.Spec PyProof.Rows He
section
variable {α β γ δ S L : Type} {X : Cx} {I0 H0 I H : Hp} {W : WX} {ctx : List (Option SF)} {mem : List MF} {e a b c o : Expr} {es : List Expr} {pos pos' p2 : Pos} {n : Str} {σ : St} {Q : VK} {K : PySem.W.Frag}
def rIsV (K : PySem.W.Frag) (D ad dd : Addr) : List V → Hp → VK → Prop := fun xs H Q => ∃ (c : V) (u : Value) (t : Bool), xs = [.ref ad, c] ∧ (∀ v, RelV c v → v = u) ∧ PySem.W.kitOne K (.ref D) u = some t ∧ (∃ fs, H dd = some (.xd fs)) ∧ Q (.bl t) H
theorem call_isV {ad D dd : Addr} {oe : Obj} {pn : List (Addr × Obj)} (C : ExcC X.K D) (hz : L2N.Zn (.ref D) (some dd) oe) (hf : ∃ vs, oe.data = .fields vs) : CallR (X.suite ad ((ad, oe) :: pn)) (.builtin "isinstance") (rIsV X.K D ad dd) := by
  rintro pins s σ H xs us Q I r ⟨c, u, t, rfl, hu, hk, ⟨fs, hd⟩, q⟩
  cases r with | cons rx rr =>
  cases rr with | cons rt rr =>
  cases rr
  cases rx
  obtain rfl := hu _ rt
  obtain ⟨at_, _⟩ := I.pin (ad, oe) (List.mem_append_left _ List.mem_cons_self)
  obtain ⟨vs, hv⟩ := hf
  obtain ⟨mA, hns, _⟩ := (show ObjOk X.prog X.w H s.heap dd (.xd fs) from I.hok dd _ hd)
  obtain ⟨od, ho, _⟩ := lookIn_ns hns
  have J : PySem.W.InstAt s.heap ad oe D (some od) := ⟨at_, hz.1, by unfold PySem.W.notCls; rw [hv] <;> rfl, by rw [hz.2.1]; exact ho⟩
  have hcl : (PySem.W.clsIn X.K D).isSome = true := by obtain ⟨cd, h1, _⟩ := PySem.W.any_some C.hd; rw [h1]; rfl
  exact PySem.W.kia_one (PySem.W.kitx_exc hcl C.hg C.hk C.hs C.ha C.hn C.ht C.hm) I.kIn J hk (fun z => nomatch z) fun tk => ⟨.bl t, H, I.kept (t' := tk) fun _ _ z => z, rfl, q⟩
theorem JE.isV (j : Nat) {ad dd : Addr} {oe : Obj} {pn : List (Addr × Obj)} {D : Addr} {u : Value} {cv : V} {bb : Bool} {ps : List (Str × Pay)} (hz : L2N.Zn (.ref D) (some dd) oe) (hf : ∃ vs, oe.data = .fields vs) (C : ExcC X.K D) (hk : PySem.W.kitOne X.K (.ref D) u = some bb) (je : JE (X.suite ad ((ad, oe) :: pn)) I0 H0 W ctx mem a (.ok ()) (rp (rExc ad))) (jc : ∀ σ H Q, Q cv H → wE (X.suite ad ((ad, oe) :: pn)) b σ H Q) (hc : ClsV cv u) (hm : X.mg "isinstance" = none) (hj : mem[j]? = some (MF.xd X.K dd ps) := by rfl) (hg : Gl (X.suite ad ((ad, oe) :: pn)) "isinstance" := by rfl)
    (hs : starEach [a, b] X.env = (false, eval a X.env) :: starEach [b] X.env := by rfl) (hs2 : starEach [b] X.env = (false, eval b X.env) :: starEach [] X.env := by rfl) (hpl : (backTo pos (starEach [b] X.env)).any (·.1) = false := by rfl) :
    JE (X.suite ad ((ad, oe) :: pn)) I0 H0 W ctx mem (.Call (.Name "isinstance" pos') [a, b] [] pos) (.ok bb) (rp rBl) := fun I H σ Q st p => by
  refine w_callB (id := "isinstance") (Tr.w_cons (je I H σ _ st ?_) hs) hm (by decide +kernel) hg (by decide) (by decide) hs hpl
  intro I1 H1 v f1 r1
  cases (show v = V.ref ad from r1)
  obtain ⟨_, _, o, h1, fs, e1, _⟩ := (st.step f1).me1 (P := fun I o => ∃ fs, o = .xd fs ∧ Paired (fun (p : Str × V) (q : Str × Pay) => p.1 = q.1 ∧ PayR X.K I p.2 q.2) fs ps) hj fun q => q
  subst e1
  refine Tr.w_cons (jc σ H1 _ (w_nil ?_)) hs2
  exact CallR.w (call_isV C hz hf) ⟨cv, u, bb, rfl, fun w hw => hc.eq hw, hk, ⟨fs, h1⟩, p I1 H1 _ f1 rfl⟩
section
variable {ε : Type} {kws : List Keyword} {ks : List Str} {R : Hp → Hp → List V → δ → Prop} {R' : Hp → Hp → List V → ε → Prop} {rc : Ra γ} {me : Res ε}
end
end
end L2.Tr

namespace L2.Tr
open PySem PySem.Spec PyProof.Rows
section
variable {α β γ δ S T L : Type}
def PostX (X : Cx) (I0 H0 : Hp) (W : WX) (Kx : KnowsX) (ctx : List (Option SF)) (C : T → List MF) (σ : St) (I : Hp) (m : Res (α × T)) (r : Rp α) (Q : VK) : Prop := match m with
  | .ok x => ∀ I' H' v, Same I I' → Stt I0 H0 ctx (C x.2) I' H' σ → r I' v x.1 → Q v H'
  | .err e => ∀ I' H' cls d, Kx I' H' σ d → ExR X.K I' H' e cls d → W cls d σ H'
  | .stuck => False
def JX (X : Cx) (I0 H0 : Hp) (W : WX) (Kx : KnowsX) (ctx : List (Option SF)) (C : T → List MF) (t0 : T) (e : Expr) (m : Res (α × T)) (r : Rp α) : Prop :=
  ∀ (I H : Hp) (σ : St) (Q : VK), Stt I0 H0 ctx (C t0) I H σ → PostX X I0 H0 W Kx ctx C σ I m r Q → wE X e σ H Q
def Res.bindX (m : Res (α × T)) (f : α → T → Res β) : Res β := m.bind fun x => f x.1 x.2
@[simp] theorem Res.ok_bindX (a : α) (t : T) (f : α → T → Res β) : (Res.ok (a, t)).bindX f = f a t := rfl
@[simp] theorem Res.err_bindX (e : Exn) (f : α → T → Res β) : (Res.err e).bindX f = .err e := rfl
@[simp] theorem Res.stuck_bindX (f : α → T → Res β) : (Res.stuck).bindX f = .stuck := rfl
variable {X : Cx} {I0 H0 I H I1 : Hp} {W : WX} {Kx : KnowsX} {G : Knows} {ctx : List (Option SF)} {C : T → List MF} {t0 t : T} {e a b c o iter elt : Expr} {es bs : List Expr} {st : Stmt} {ss s1 s2 : List Stmt} {pos pos' p2 : Pos} {n : Str} {ra : Rp α} {rb : Rp β} {rc : Rp γ} {r : Rp α} {σ : St} {Q : VK} {R : Hp → Hp → List V → δ → Prop}
theorem JX.map {m : Res (α × T)} {r' : Rp β} {g : α → β} (j : JX X I0 H0 W Kx ctx C t0 e m r) (h : ∀ I v x, r I v x → r' I v (g x)) : JX X I0 H0 W Kx ctx C t0 e (m.bindX fun x t => .ok (g x, t)) r' := fun I H σ Q st p => j I H σ Q st (by
  cases m with
  | ok x => exact fun I' H' v s g' q => p I' H' v s g' (h _ _ _ q)
  | err e => exact p
  | stuck => exact p)
class MoN (R : Hp → Hp → List V → δ → Prop) : Prop where
  up : ∀ {I H I' H' : Hp} {vs : List V} {x : δ}, Same I I' → R I H vs x → R I' H' vs x
variable {md : Res (δ × T)} {g : δ → Res γ}
structure RgF (I H1 I' H' : Hp) (c : MF) (fp : List Addr) : Prop where
  fm : Fm I H1 I' H'
  nd : fp.Nodup
  own : ∀ a, a ∈ fp → H1 a = none ∧ I' a = none ∧ H' a ≠ none
  q : c.Q I' H' fp
structure RgS (I H : Hp) (c : MF) (fp : List Addr) : Prop where
  s : Same I H
  q : c.Q I H fp
  nd : fp.Nodup
  own : ∀ a, a ∈ fp → I a = none ∧ H a ≠ none
end
end L2.Tr

namespace L2.Tr
open PySem PySem.Spec PyProof.Rows
section
variable {α β γ δ S T L : Type} {X : Cx} {I0 H0 I H I1 : Hp} {W : WX} {Kx : KnowsX} {G : Knows} {ctx : List (Option SF)} {mem : List MF} {C : T → List MF} {t0 t : T} {e a b c o iter elt ix : Expr} {es bs : List Expr} {st : Stmt} {ss s1 s2 body : List Stmt} {pos pos' p2 : Pos} {n : Str} {ra : Rp α} {rb : Rp β} {rc : Rp γ} {r : Rp α} {σ : St} {Q : VK} {R : Hp → Hp → List V → δ → Prop} {rr : Ra γ}
end
end L2.Tr

namespace L2.Tr
open PySem PySem.Spec PyProof.Rows
section
variable {α β γ δ S T L : Type} {X : Cx} {I0 H0 I H I1 : Hp} {W : WX} {Kx : KnowsX} {G : Knows} {ctx : List (Option SF)} {mem : List MF} {C : T → List MF} {t0 t : T} {e a b c o iter elt ix : Expr} {es bs : List Expr} {st : Stmt} {ss s1 s2 body : List Stmt} {pos pos' p2 : Pos} {n : Str} {ra : Rp α} {rb : Rp β} {rc : Rp γ} {r : Rp α} {σ : St} {Q : VK} {R : Hp → Hp → List V → δ → Prop} {rr : Ra γ}
def atS (z : Str) (i : Int) : Res Str := Res.guard (z.length ≤ sizeLine) (match atI z.cps.toList i with
  | some c => .ok ⟨#[c]⟩
  | none => .stuck)
theorem atS_post {z : Str} {i : Int} {K : PySem.W.Frag} {E : XK} (h : PostE K (atS z i) (rp rStr) I H E Q) : ∃ c, z.length ≤ sizeLine ∧ atI z.cps.toList i = some c ∧ PostE K (.ok ⟨#[c]⟩) (rp rStr) I H E Q := by
  unfold atS at h
  obtain ⟨h1, h2⟩ := post_guard h
  cases e : atI z.cps.toList i with
  | none => rw [e] at h2; exact h2.elim
  | some c => rw [e] at h2; exact ⟨c, h1, rfl, h2⟩
theorem JE.ixStr {m : Res Str} {mi : Res Int} (ja : JE X I0 H0 W ctx mem a m (rp rStr)) (jb : JE X I0 H0 W ctx mem b mi (rp rInt)) (hs : PlainIx b := by exact fun _ _ => rfl) :
    JE X I0 H0 W ctx mem (.Subscript a b pos) (m.bind fun xs => mi.bind fun i => atS xs i) (rp rStr) := fun I H σ Q st p => by
  refine PE.w (pe_ix ix_str pe_W pe_W hs) (ja I H σ _ st ?_)
  cases m with
  | ok xs =>
    intro I1 H1 u f1 r1
    refine jb I1 H1 σ _ (st.step f1) ?_
    have p1 := PostE.up p f1
    cases mi with
    | ok i =>
      intro I2 H2 v f2 r2
      have p2 : PostE X.K (atS xs i) (rp rStr) I2 H2 _ Q := PostE.up p1 f2
      obtain ⟨c, h1, h2, p3⟩ := atS_post p2
      exact ⟨xs, i, c, r1, r2, h1, h2, p3 I2 H2 _ (Fm.refl f2.ih) rfl⟩
    | err e => exact p1
    | stuck => exact p1
  | err e => exact p
  | stuck => exact p
end
end L2.Tr

namespace L2.Tr
open PySem PySem.Spec PyProof.Rows
section
variable {α β γ δ ε : Type} {X : Cx} {I0 H0 : Hp} {W : WX} {ctx : List (Option SF)} {mem : List MF} {e a b c o : Expr} {es bs : List Expr} {kws : List Keyword} {pos pos' kpos : Pos} {n x : Str} {nm : Option Str} {r : Rp α}
variable {R : Hp → Hp → List V → δ → Prop} {R' : Hp → Hp → List V → ε → Prop} {md : Res δ} {me : Res ε} {g : δ → ε → Res (List α)} {ks : List Str}
end
end L2.Tr

namespace L2.Tr
open PySem PySem.Spec PyProof.Rows
section
variable {α β γ δ T U : Type}
end
def TP (t : List Int) : Prop := ∃ a b c : Int, t = [a, b, c] ∧ 0 ≤ a ∧ (0 ≤ b ∧ b < 2 ^ 40) ∧ (0 ≤ c ∧ c < 2 ^ 40)
end L2.Tr

namespace L2.Tr
open PySem PySem.Spec PyProof.Rows He
section
variable {α β γ : Type} {X : Cx} {I0 H0 I H : Hp} {W : WX} {ctx : List (Option SF)} {mem : List MF} {e a b c o : Expr} {pos pos' p2 : Pos} {n : Str} {σ : St} {Q : VK}
theorem paired_strs {I H : Hp} : ∀ {vs : List V} {xs : List Str}, Paired (rp rStr I H) vs xs → vs = xs.map V.str
  | _, _, .nil => rfl
  | _, _, .cons h t => by rw [List.map_cons, ← paired_strs t, show _ = V.str _ from h]
theorem inV_str (k : Str) : ∀ xs : List Str, inV (.str k) (xs.map V.str) = xs.contains k
  | [] => rfl
  | x :: xs => by
    have ih := inV_str k xs
    unfold inV at ih ⊢
    rw [List.map_cons, List.any_cons, ih, List.contains_cons]
    congr 1
    show (x == k) = (k == x)
    by_cases h : k = x
    · subst h; simp
    · have h2 : x ≠ k := fun z => h z.symm
      rw [beq_eq_false_iff_ne.mpr h2, beq_eq_false_iff_ne.mpr h]
theorem flat_strs : ∀ xs : List Str, (xs.map V.str).all flatV = true
  | [] => rfl
  | x :: xs => by rw [List.map_cons, List.all_cons, flat_strs xs]; rfl
theorem opj_inS : OpJ X W (compareOp .In) (rp rStr) (rSq X.K (rp rStr)) (fun x ys => .ok (ys.contains x)) (rp rBl) := fun I H σ Q u v x y s hu hv p => by
  obtain ⟨l, vs, rfl, hl, pr⟩ := hv
  cases (show u = V.str x from hu)
  obtain rfl := paired_strs pr
  refine OpR.w op_in_seq ⟨l, _, rfl, hl, rfl, flat_strs y, ?_⟩
  rw [if_neg (by decide), inV_str]
  exact p I H _ (Fm.refl s) rfl
theorem paired_map_str {I H : Hp} : ∀ zs : List Str, Paired (rp rStr I H) (zs.map V.str) zs
  | [] => .nil
  | _ :: zs => .cons rfl (paired_map_str zs)
def ctA (K : PySem.W.Frag) (C : Addr) (f : Str) : Addr := match PySem.W.findCls K (.ref C) (.type "type") f with
  | some (.val (.ref a)) => a
  | _ => 0
structure CTup (K : PySem.W.Frag) (C : Addr) (f : Str) (zs : List Str) : Prop where
  rd : ClX.CRead K C (.type "type")
  cv : ClX.CVal K C (.type "type") f (.ref (ctA K C f)) (.ref (ctA K C f))
  sq : ∀ H, SqT K H (ctA K C f) (zs.map V.str)
end
abbrev AlZ : Type := AlX × List (Option (List (Option (Str × Int))))
def obsZ (fs : List FB) (fn : List DX) (ts : List Tab) (K : PySem.W.Frag) : AlZ := (obsY fs fn K, ts.map fun t => dicW K (t.1 K))
def valZ (fn : List DX) (ts : List Tab) (w : World) : AlZ := (valY fn, ts.map fun t => some (keysIn w.params t.2))
def SaysZ (fs : List FB) (fn : List DX) (ts : List Tab) (w : World) (K : PySem.W.Frag) : Prop := obsZ fs fn ts K = valZ fn ts w
section
variable {fs : List FB} {fn : List DX} {ts : List Tab} {w : World} {K : PySem.W.Frag}
theorem SaysZ.y (c : SaysZ fs fn ts w K) : SaysY fs fn K := congrArg (fun z : AlZ => z.1) c
theorem SaysZ.fact (c : SaysZ fs fn ts w K) (i : Nat) {f : FB} (h : fs[i]? = some f := by rfl) : f K = true := c.y.fact i h
theorem SaysZ.def_ (c : SaysZ fs fn ts w K) (i : Nat) {d : DX} (h : fn[i]? = some d := by rfl) : ∃ fd, FunD K d.name d.qual d.params d.body d.scope (d.dfl.map (Dv.v K)) (d.kwd.map fun q => (q.1, q.2.v K)) (d.at_ K) fd := c.y.def_ i h
end
end L2.Tr

namespace L2.Tr
open PySem PySem.Spec PyProof.Rows
section
variable {α β γ S L : Type} {X : Cx} {I0 H0 : Hp} {W : WX} {Kx : KnowsX} {ctx cw : List (Option SF)} {mem : List MF} {body suite : List Stmt} {b₀ : Stmt} {h₀ : ExceptHandler} {pos pos' np : Pos} {n x f : Str} {rr : Ra γ} {G' : S → Knows} {GL : L → Knows}
def hdsM : List (List (Str × Bool) × (Exn → Res (Fl S L γ))) → Exn → Res (Fl S L γ)
  | [], e => .err e
  | (Ls, h) :: r, e => match Ls.lookup e.cls with
    | some true => (match h e with
      | .ok y => .ok y
      | _ => .stuck)
    | some false => hdsM r e
    | none => .stuck
def tsW (X : Cx) (ss : List Stmt) : Addr → Value → Option Addr → TS := fun a cls d D σ H => ∀ oe pn, L2N.Zn cls d oe → (∃ vs, oe.data = .fields vs) → wB (X.suite a ((a, oe) :: pn)) ss D σ H
inductive JHds (X : Cx) (I0 H0 : Hp) (cw : List (Option SF)) (mem : List MF) (G' : S → Knows) (GL : L → Knows) (rr : Ra γ) : List ExceptHandler → List (Value × (Addr → Value → Option Addr → TS)) → List (List (Str × Bool) × (Exn → Res (Fl S L γ))) → Prop
  | nil : JHds X I0 H0 cw mem G' GL rr [] [] []
  | only {x : Str} {cv : Value} {b₀ : Stmt} {suite : List Stmt} {np pos' : Pos} {hds : List ExceptHandler} {l : List (Value × (Addr → Value → Option Addr → TS))} {Ls : List (Str × Bool)} {mh : Exn → Res (Fl S L γ)} {ms : List (List (Str × Bool) × (Exn → Res (Fl S L γ)))}
      (js : ∀ (a : Addr) (oe : Obj) (ee : Exn) (d : Option Addr) (pn : List (Addr × Obj)), (ee.cls, true) ∈ Ls → JG (X.suite a ((a, oe) :: pn)) I0 H0 (fun _ _ _ _ => False) (fun _ _ _ _ => True) (Stt I0 H0 cw mem) (b₀ :: suite) (mh ee) G' GL rr)
      (hL : ∀ y b, (y, b) ∈ Ls → PySem.W.exmOne X.K (.ref (He.ga X.K y)) cv = some b) (hc : Names X x cv) (r : JHds X I0 H0 cw mem G' GL rr hds l ms) :
      JHds X I0 H0 cw mem G' GL rr (.ExceptHandler (some (.Name x np)) none (b₀ :: suite) pos' :: hds) ((cv, tsW X (b₀ :: suite)) :: l) ((Ls, mh) :: ms)
  | as_ {x n : Str} {cv : Value} {b₀ : Stmt} {suite : List Stmt} {np pos' : Pos} {hds : List ExceptHandler} {l : List (Value × (Addr → Value → Option Addr → TS))} {Ls : List (Str × Bool)} {mh : Exn → Res (Fl S L γ)} {ms : List (List (Str × Bool) × (Exn → Res (Fl S L γ)))} (i : Nat)
      (js : ∀ (a : Addr) (oe : Obj) (ee : Exn) (d : Option Addr) (pn : List (Addr × Obj)), L2N.Zn (.ref (He.ga X.K ee.cls)) d oe → (∃ vs, oe.data = .fields vs) → (ee.cls, true) ∈ Ls → (d = none → ee.pay = []) → (∀ q, d = some q → ee.pay ≠ []) → JG (X.suite a ((a, oe) :: pn)) I0 H0 (fun _ _ _ _ => False) (fun _ _ _ _ => True) (Stt I0 H0 (cw.set i (some ⟨rExc a, ()⟩)) (exm X.K d ee ++ mem)) (b₀ :: suite) (mh ee) (fun s I H σ => G' s I H (σ.set i none)) (fun s I H σ => GL s I H (σ.set i none)) rr)
      (hL : ∀ y b, (y, b) ∈ Ls → PySem.W.exmOne X.K (.ref (He.ga X.K y)) cv = some b) (hc : Names X x cv) (hi : X.N[i]? = some n) (hln : X.env.kindOf n = some .local) (r : JHds X I0 H0 cw mem G' GL rr hds l ms) :
      JHds X I0 H0 cw mem G' GL rr (.ExceptHandler (some (.Name x np)) (some n) (b₀ :: suite) pos' :: hds) ((cv, tsAs i (tsW X (b₀ :: suite))) :: l) ((Ls, mh) :: ms)
theorem JHds.w {hds : List ExceptHandler} {l : List (Value × (Addr → Value → Option Addr → TS))} {ms : List (List (Str × Bool) × (Exn → Res (Fl S L γ)))} (h : JHds X I0 H0 cw mem G' GL rr hds l ms) {I I' H' : Hp} {σ' : L2.St} {d : Option Addr} {cls : Value} {ee : Exn} {D : Ends} (sm : Same I I') (g : Stt I0 H0 cw mem I' H' σ') (fr : Fr H0 d) (hxr : ExR X.K I' H' ee cls d) (hmx : NoXd mem)
    (hx : ∀ I H σ d, Stt I0 H0 cw mem I H σ → Fr H0 d → Kx I H σ d) (p : PostG X I0 H0 W Kx I (hdsM ms ee) G' GL rr D) : wMany X.K W D l cls d σ' H' := by
  induction h with
  | nil => exact p I' H' σ' cls d (hx _ _ _ _ g fr) hxr
  | @only x cv b₀ suite np pos' hds l Ls mh ms js hL hc r ih =>
    have p1 : PostG X I0 H0 W Kx I (match Ls.lookup ee.cls with
      | some true => (match mh ee with
        | .ok y => .ok y
        | _ => .stuck)
      | some false => hdsM ms ee
      | none => .stuck) G' GL rr D := p
    obtain ⟨ec, hxr2⟩ := id hxr
    cases hl : Ls.lookup ee.cls with
    | none => rw [hl] at p1; exact p1.elim
    | some bb =>
      rw [hl] at p1
      refine ⟨bb, by rw [ec]; exact hL _ _ (lookup_mem hl), fun hb a ha oe pn' hz hf' => ?_, fun hb => ?_⟩
      · subst hb
        refine js a oe ee d pn' (lookup_mem hl) I' H' _ _ g ?_
        have p2 : PostG X I0 H0 W Kx I (match mh ee with
          | .ok y => .ok y
          | _ => .stuck) G' GL rr D := p1
        revert p2
        generalize mh ee = z
        intro p2
        cases z with
        | ok y =>
          cases y with
          | nx s => exact fun I2 H2 σ2 s2 q => p2 I2 H2 _ (sm.trans s2) q
          | bk s => exact fun I2 H2 σ2 s2 q => p2 I2 H2 _ (sm.trans s2) q
          | ct s => exact fun I2 H2 σ2 s2 q => p2 I2 H2 _ (sm.trans s2) q
          | rt y => exact p2
        | err _ => exact p2.elim
        | stuck => exact p2.elim
      · subst hb
        exact ih p1
  | @as_ x n cv b₀ suite np pos' hds l Ls mh ms i js hL hc hi hln r ih =>
    have p1 : PostG X I0 H0 W Kx I (match Ls.lookup ee.cls with
      | some true => (match mh ee with
        | .ok y => .ok y
        | _ => .stuck)
      | some false => hdsM ms ee
      | none => .stuck) G' GL rr D := p
    obtain ⟨ec, hxr2⟩ := id hxr
    cases hl : Ls.lookup ee.cls with
    | none => rw [hl] at p1; exact p1.elim
    | some bb =>
      rw [hl] at p1
      refine ⟨bb, by rw [ec]; exact hL _ _ (lookup_mem hl), fun hb a ha oe pn' hz hf' => ?_, fun hb => ?_⟩
      · subst hb
        rw [ec] at hz
        refine js a oe ee d pn' hz hf' (lookup_mem hl) (fun z => by subst z; exact hxr2) (fun q z => by subst z; exact hxr2.1) I' H' _ _ ((g.set i (r := rExc a) (x := ()) rfl).exm fr hxr hmx) ?_
        have p2 : PostG X I0 H0 W Kx I (match mh ee with
          | .ok y => .ok y
          | _ => .stuck) G' GL rr D := p1
        revert p2
        generalize mh ee = z
        intro p2
        cases z with
        | ok y =>
          cases y with
          | nx s => exact fun I2 H2 σ2 s2 q => p2 I2 H2 _ (sm.trans s2) q
          | bk s => exact fun I2 H2 σ2 s2 q => p2 I2 H2 _ (sm.trans s2) q
          | ct s => exact fun I2 H2 σ2 s2 q => p2 I2 H2 _ (sm.trans s2) q
          | rt y => exact p2
        | err _ => exact p2.elim
        | stuck => exact p2.elim
      · subst hb
        exact ih p1
end
end L2.Tr

namespace L2.Tr
open PySem PySem.Spec PyProof.Rows He
class DpC {α : Type} (r : Rp α) where
  deq : DecidableEq α
  enc : α → PyData
  lay : α → Bool
  dep : Nat
  dp : ∀ {K : PySem.W.Frag} {I H : Hp} {v : V} {x : α}, Same I H → r I v x → Dp K H v (enc x)
  eq : ∀ x y, PyData.eqv (enc x) (enc y) = decide (x = y)
  cl : ∀ x, lay x = true → PyData.canLay0 (enc x) = true
  dd : ∀ x, PyData.depth (enc x) ≤ dep
instance : DpC rInt where
  deq := inferInstance
  enc := .int
  lay := fun _ => true
  dep := 0
  dp := fun _ h => by rw [show _ = V.int _ from h]; exact .int _
  eq := fun x y => by
    show (x == y) = _
    by_cases h : x = y <;> simp [h]
  cl := fun _ _ => by simp only [PyData.canLay0]
  dd := fun _ => by simp only [PyData.depth]; exact Nat.le_refl _
instance : DpC rStr where
  deq := inferInstance
  enc := .str
  lay := fun x => PyData.strOk x
  dep := 0
  dp := fun _ h => by rw [show _ = V.str _ from h]; exact .str _
  eq := fun x y => by
    show (x == y) = _
    by_cases h : x = y <;> simp [h]
  cl := fun x h => by simp only [PyData.canLay0]; exact h
  dd := fun _ => by simp only [PyData.depth]; exact Nat.le_refl _
instance : DpC rBl where
  deq := inferInstance
  enc := .bool
  lay := fun _ => true
  dep := 0
  dp := fun _ h => by rw [show _ = V.bl _ from h]; exact .bl _
  eq := fun x y => by
    show (x == y) = _
    by_cases h : x = y <;> simp [h]
  cl := fun _ _ => by simp only [PyData.canLay0]
  dd := fun _ => by simp only [PyData.depth]; exact Nat.le_refl _
section
variable {α β : Type} {r : Rp α}
theorem eqvAll_map [d : DpC r] : ∀ xs ys : List α, PyData.eqvAll (xs.map d.enc) (ys.map d.enc) = @decide (xs = ys) (@instDecidableEqList _ d.deq xs ys)
  | [], [] => by simp [PyData.eqvAll]
  | [], _ :: _ => by simp [PyData.eqvAll]
  | _ :: _, [] => by simp [PyData.eqvAll]
  | x :: xs, y :: ys => by
    have := d.deq
    rw [List.map_cons, List.map_cons]
    show (PyData.eqv _ _ && PyData.eqvAll _ _) = _
    rw [eqvAll_map xs ys, d.eq]
    by_cases h : x = y <;> by_cases h' : xs = ys <;> simp [h, h']
theorem dpAll_map [d : DpC r] {K : PySem.W.Frag} {I H : Hp} (s : Same I H) : ∀ {vs : List V} {xs : List α}, Paired (r I) vs xs → DpAll K H vs (xs.map d.enc)
  | _, _, .nil => .nil
  | _, _, .cons h t => .cons (d.dp s h) (dpAll_map s t)
theorem canAll_map [d : DpC r] : ∀ {xs : List α}, xs.all d.lay = true → PyData.canLayAll0 (xs.map d.enc) = true
  | [], _ => by simp only [List.map_nil, PyData.canLayAll0]
  | x :: xs, h => by
    rw [List.all_cons, Bool.and_eq_true] at h
    simp only [List.map_cons, PyData.canLayAll0]
    rw [d.cl x h.1, canAll_map h.2]; rfl
theorem depAll_map [d : DpC r] : ∀ xs : List α, PyData.depthAll (xs.map d.enc) ≤ d.dep
  | [] => by simp only [List.map_nil, PyData.depthAll]; exact Nat.zero_le _
  | x :: xs => by
    simp only [List.map_cons, PyData.depthAll]
    exact Nat.max_le.mpr ⟨d.dd x, depAll_map xs⟩
instance dpcL [d : DpC r] : DpC (rL r) where
  deq := @instDecidableEqList _ d.deq
  enc := fun xs => .list (xs.map d.enc)
  lay := fun xs => xs.all d.lay
  dep := d.dep + 1
  dp := fun s ⟨l, vs, e, h, p⟩ => by rw [e]; exact .lst (SqL.of (s _ _ h)) (dpAll_map s p)
  eq := fun x y => by show PyData.eqvAll _ _ = _; exact eqvAll_map x y
  cl := fun x h => by simp only [PyData.canLay0]; exact canAll_map h
  dd := fun x => by simp only [PyData.depth]; have := depAll_map (r := r) x; omega
instance [d : DpC r] : DpC (rT r) where
  deq := @instDecidableEqList _ d.deq
  enc := fun xs => .tuple (xs.map d.enc)
  lay := fun xs => xs.all d.lay
  dep := d.dep + 1
  dp := fun s ⟨l, vs, e, h, p⟩ => by rw [e]; exact .tup (SqT.of (s _ _ h)) (dpAll_map s p)
  eq := fun x y => by show PyData.eqvAll _ _ = _; exact eqvAll_map x y
  cl := fun x h => by simp only [PyData.canLay0]; exact canAll_map h
  dd := fun x => by simp only [PyData.depth]; have := depAll_map (r := r) x; omega
class DpL {δ : Type} (R : Hp → Hp → List V → δ → Prop) where
  deq : DecidableEq δ
  enc : δ → List PyData
  lay : δ → Bool
  dep : Nat
  dp : ∀ {K : PySem.W.Frag} {I H : Hp} {vs : List V} {x : δ}, Same I H → R I I vs x → DpAll K H vs (enc x)
  eq : ∀ x y, PyData.eqvAll (enc x) (enc y) = decide (x = y)
  cl : ∀ x, lay x = true → PyData.canLayAll0 (enc x) = true
  dd : ∀ x, PyData.depthAll (enc x) ≤ dep
instance : DpL aNil where
  deq := inferInstance
  enc := fun _ => []
  lay := fun _ => true
  dep := 0
  dp := fun _ h => by rw [show _ = [] from h]; exact .nil
  eq := fun _ _ => by simp [PyData.eqvAll]
  cl := fun _ _ => by simp only [PyData.canLayAll0]
  dd := fun _ => by simp only [PyData.depthAll]; exact Nat.le_refl _
instance {δ : Type} {R : Hp → Hp → List V → δ → Prop} [d : DpC r] [l : DpL R] : DpL (aCons (rp r) R) where
  deq := @instDecidableEqProd _ _ d.deq l.deq
  enc := fun x => d.enc x.1 :: l.enc x.2
  lay := fun x => d.lay x.1 && l.lay x.2
  dep := max d.dep l.dep
  dp := fun s ⟨v, ws, e, h, h'⟩ => by rw [e]; exact .cons (d.dp s h) (l.dp s h')
  eq := fun x y => by
    have := d.deq
    have := l.deq
    show (PyData.eqv _ _ && PyData.eqvAll _ _) = _
    rw [d.eq, l.eq]
    obtain ⟨a, b⟩ := x
    obtain ⟨a', b'⟩ := y
    by_cases h : a = a' <;> by_cases h' : b = b' <;> simp [h, h']
  cl := fun x h => by
    rw [Bool.and_eq_true] at h
    simp only [PyData.canLayAll0]
    rw [d.cl _ h.1, l.cl _ h.2]; rfl
  dd := fun x => by
    simp only [PyData.depthAll]
    have h1 := d.dd x.1
    have h2 := l.dd x.2
    omega
instance {δ : Type} {R : Hp → Hp → List V → δ → Prop} [l : DpL R] : DpC (rTu R) where
  deq := l.deq
  enc := fun x => .tuple (l.enc x)
  lay := l.lay
  dep := l.dep + 1
  dp := fun s ⟨a, vs, e, h, p⟩ => by rw [e]; exact .tup (SqT.of (s _ _ h)) (l.dp s p)
  eq := fun x y => by show PyData.eqvAll _ _ = _; exact l.eq x y
  cl := fun x h => by simp only [PyData.canLay0]; exact l.cl x h
  dd := fun x => by simp only [PyData.depth]; have := l.dd x; omega
variable {X : Cx} {W : WX}
end
end L2.Tr

namespace L2.Tr
open PySem PySem.Spec PyProof.Rows He
section
variable {α β γ δ : Type} {X : Cx} {I0 H0 I H : Hp} {W : WX} {ctx : List (Option SF)} {mem : List MF} {e a b c o : Expr} {es : List Expr} {pos pos' p2 apos : Pos} {n : Str} {σ : St} {Q : VK} {r : Rp α} {R : Hp → Hp → List V → δ → Prop} {ma : Res α} {md : Res δ} {rb : Ra β}
def rLu (R : Hp → Hp → List V → δ → Prop) : Rp δ := fun I v x => ∃ l vs, v = .ref l ∧ I l = some (.lst vs) ∧ R I I vs x
instance [m : MoR R] : Mo (rLu R) := ⟨fun s ⟨l, vs, e, h, p⟩ => ⟨l, vs, e, s _ _ h, m.up s s p⟩⟩
theorem opj_addS : OpJ X W (binaryOp .Add) (rp rStr) (rp rStr) (fun x y => Res.guard (x.length + y.length ≤ sizeLine) (.ok (x ++ y))) (rp rStr) := fun I H σ Q u v x y s hu hv p => by
  obtain ⟨g, p⟩ := post_guard p
  cases (show u = V.str x from hu)
  cases (show v = V.str y from hv)
  exact OpR.w op_add_str ⟨x, y, rfl, rfl, g, p I H _ (Fm.refl s) rfl⟩
def rCT (K : PySem.W.Frag) (C : Addr) (f : Str) : Ra Unit := fun _ _ v _ => v = .ref (ctA K C f) ∧ ∃ o, K.lookup (ctA K C f) = some o ∧ o.cls = .type "tuple"
instance {K : PySem.W.Frag} {C : Addr} {f : Str} : MoA (rCT K C f) := ⟨fun _ _ h => h⟩
end
end L2.Tr

namespace L2.Tr
open PySem PySem.Spec PyProof.Rows He
section
variable {X : Cx} {I0 H0 : Hp} {W : WX} {ctx : List (Option SF)} {mem : List MF} {pos : Pos}
end
end L2.Tr

namespace L2.Tr
open PySem PySem.Spec PyProof.Rows
section
variable {α β γ δ S T : Type} {X : Cx} {I0 H0 : Hp} {W : WX} {Kx : KnowsX} {ctx : List (Option SF)} {mem : List MF} {e a b c o : Expr} {pos : Pos}
end
end L2.Tr

namespace L2.Tr
open PySem PySem.Spec PyProof.Rows
section
variable {α β γ S L : Type} {X : Cx} {I0 H0 : Hp} {W : WX} {Kx : KnowsX} {ctx ctx' : List (Option SF)} {mem : List MF} {st : Stmt} {rr : Ra γ}
end
end L2.Tr

namespace L2.Tr
open PySem PySem.Spec PyProof.Rows L2H
def FnL (P : Program) (w : World) (K : PySem.W.Frag) (mg : Str → Option Value) (base : Heap) (k : Nat) (f : Addr) (sp : Sp) : Prop :=
  ∀ (A : Around) (outer : List Env) (s : Shared) (H : Hp) (us : List Value) (vs : List V) (Q : VK) (E : XK) (p : Addr × Obj), RoomH k A → Hot1 A p → PinOk outer H s p → Env0 P w K mg base A outer s H → Vals vs us → sp vs H Q E →
    codeAny (model P w) A (.call (.ref f) ⟨us, []⟩) (CR (L2N.CX P w) outer P w H s Q E) s
section
variable {α β γ δ S L : Type} {P : Program} {w : World} {K : PySem.W.Frag} {mg : Str → Option Value} {base : Heap} {x qual : Str} {params : Arguments} {body : List Stmt} {scope : Scope} {f : Addr} {fd : FuncData} {N ps : List Str} {k : Nat} {r : Ra γ} {R : Hp → Hp → List V → δ → Prop} {m : δ → Res γ}
theorem FnL.nice {m' : δ → Res γ} (F : FnL P w K mg base k f (spF K R m r)) (h : ∀ d, m' d = .stuck ∨ m' d = m d) : FnL P w K mg base k f (spF K R m' r) := fun A outer s H us vs Q E p hr ho hp e0 rv ⟨I, d, sm, hR, post⟩ => by
  rcases h d with e | e
  · rw [e] at post; exact post.elim
  · rw [e] at post; exact F A outer s H us vs Q E p hr ho hp e0 rv ⟨I, d, sm, hR, post⟩
end
section
variable {α β γ δ : Type} {X : Cx} {W : WX} {f f' : Addr} {k : Nat} {ra : Ra α} {rb : Ra β} {rc : Ra γ} {R : Hp → Hp → List V → δ → Prop} {m : δ → Res γ}
variable {g : Rat × Num × Unit → Res γ}
end
end L2.Tr

namespace L2.Tr
open PySem PySem.Spec PyProof.Rows He
inductive OF where
  | im (s : SF)
  | ls {α : Type} (r : Rp α) (mo : Mo r) (xs : List α)
def OFR (I H : Hp) : List (Str × V) → List (Str × OF) → List Addr → Prop
  | [], [], as => as = []
  | p :: fs, (n, .im s) :: gs, as => p.1 = n ∧ s.r I p.2 s.x ∧ OFR I H fs gs as
  | p :: fs, (n, .ls r _ xs) :: gs, as => ∃ a as', as = a :: as' ∧ p.1 = n ∧ p.2 = .ref a ∧ (∃ vs, H a = some (.lst vs) ∧ Paired (r I) vs xs) ∧ OFR I H fs gs as'
  | [], _ :: _, _ => False
  | _ :: _, [], _ => False
theorem OFR.up {I I' H H' : Hp} (s : Same I I') : ∀ {gs : List (Str × OF)} {fs : List (Str × V)} {as : List Addr}, (∀ a, a ∈ as → H' a = H a) → OFR I H fs gs as → OFR I' H' fs gs as
  | [], [], _, _, h => h
  | (n, .im q) :: gs, p :: fs, as, k, ⟨a, b, c⟩ => ⟨a, q.mo.up s b, OFR.up s k c⟩
  | (n, .ls r mo xs) :: gs, p :: fs, as, k, ⟨a, as', e, h1, h2, ⟨vs, h3, h4⟩, h5⟩ => by
    subst e
    exact ⟨a, as', rfl, h1, h2, ⟨vs, by rw [k a List.mem_cons_self]; exact h3, Paired.mapP h4 fun _ _ q => mo.up s q⟩, OFR.up s (fun b hb => k b (List.mem_cons_of_mem _ hb)) h5⟩
  | [], _ :: _, _, _, h => h.elim
  | (_, .im _) :: _, [], _, _, h => h.elim
  | (_, .ls _ _ _) :: _, [], _, _, h => h.elim
theorem OFR.length {I H : Hp} : ∀ {gs : List (Str × OF)} {fs : List (Str × V)} {as : List Addr}, OFR I H fs gs as → fs.length = gs.length
  | [], [], _, _ => rfl
  | (n, .im q) :: gs, p :: fs, as, ⟨_, _, c⟩ => congrArg Nat.succ (OFR.length c)
  | (n, .ls r mo xs) :: gs, p :: fs, as, ⟨_, _, _, _, _, _, c⟩ => congrArg Nat.succ (OFR.length c)
  | [], _ :: _, _, h => h.elim
  | (_, .im _) :: _, [], _, h => h.elim
  | (_, .ls _ _ _) :: _, [], _, h => h.elim
theorem OFR.none {I H : Hp} {f : Str} : ∀ {gs : List (Str × OF)} {fs : List (Str × V)} {as : List Addr}, OFR I H fs gs as → gs.lookup f = none → fs.lookup f = none
  | [], [], _, _, _ => rfl
  | (n, o) :: gs, (k, v) :: fs, as, h, e => by
    have hk : k = n ∧ ∃ as', OFR I H fs gs as' := by
      cases o with
      | im q => exact ⟨h.1, _, h.2.2⟩
      | ls r mo xs => obtain ⟨_, as', _, h1, _, _, h5⟩ := h; exact ⟨h1, as', h5⟩
    obtain ⟨rfl, as', h'⟩ := hk
    rw [List.lookup_cons] at e ⊢
    by_cases hq : (f == k) = true
    · rw [hq] at e; cases e
    · rw [Bool.not_eq_true] at hq
      rw [hq] at e ⊢
      exact OFR.none h' e
  | [], _ :: _, _, h, _ => h.elim
  | (_, .im _) :: _, [], _, h, _ => h.elim
  | (_, .ls _ _ _) :: _, [], _, h, _ => h.elim
section
variable {α β γ δ S T L : Type} {X : Cx} {I0 H0 I H I1 H1 : Hp} {W : WX} {Kx : KnowsX} {G : Knows} {ctx : List (Option SF)} {mem : List MF} {C : T → List MF} {t0 t : T} {e a b c o : Expr} {es : List Expr} {st : Stmt} {ss : List Stmt} {pos pos' p2 : Pos} {n : Str} {σ : St} {Q : VK} {r : Rp α} {ra : Ra α} {rb : Ra β} {rc : Rp γ} {ma : Res α} {md : Res δ} {R : Hp → Hp → List V → δ → Prop}
def rdO (Cl : Addr) (gs : S → List (Str × OF)) : Ra S := fun I H v x => ∃ l dx fs as, v = .ref l ∧ H l = some (.ins Cl dx fs) ∧ OFR I H fs (gs x) as ∧ ∀ a, a ∈ as → H a ≠ none
theorem same_at {H H' : Hp} {a : Addr} (t : Same H H') (h : H a ≠ none) : H' a = H a := by
  cases z : H a with
  | none => exact absurd z h
  | some o => exact t _ _ z
instance {Cl : Addr} {gs : S → List (Str × OF)} : MoA (rdO Cl gs) := ⟨fun s t ⟨l, dx, fs, as, e, h, q, k⟩ => ⟨l, dx, fs, as, e, t _ _ h, q.up s fun a ha => same_at t (k a ha), fun a ha => by rw [same_at t (k a ha)]; exact k a ha⟩⟩
end
end L2.Tr

namespace L2.Tr
open PySem PySem.Spec PyProof.Rows He
section
variable {α β γ δ ε S T L : Type} {X : Cx} {I0 H0 I H I1 H1 : Hp} {W : WX} {Kx : KnowsX} {G : Knows} {ctx : List (Option SF)} {mem : List MF} {C : T → List MF} {t0 t : T} {e a b c o : Expr} {es : List Expr} {st : Stmt} {ss : List Stmt} {pos pos' p2 : Pos} {n : Str} {σ : St} {Q : VK} {r : Rp α} {ra : Ra α} {rb : Ra β} {rc : Rp γ} {rr : Ra γ} {ma : Res α} {md : Res δ} {R : Hp → Hp → List V → δ → Prop}
inductive Pk : List (Str × SF) → List MF → List (Str × OF) → Prop
  | nil : Pk [] [] []
  | im {n : Str} {s : SF} {gs ms os} : Pk gs ms os → Pk ((n, s) :: gs) ms ((n, .im s) :: os)
  | ls {n : Str} {l : Addr} {α : Type} {r : Rp α} {mo : Mo r} {xs : List α} {gs ms os} : Pk gs ms os → Pk ((n, SF.mk (rRef l) ()) :: gs) (@MF.lst α l r mo xs :: ms) ((n, .ls r mo xs) :: os)
theorem JE.some {o : Option α} {y : α} {r : Rp α} (j : JE X I0 H0 W ctx mem e (.ok o) (rp (rOp r))) (h : o = some y) : JE X I0 H0 W ctx mem e (.ok y) (rp r) := by
  subst h
  exact fun I H σ Q st p => j I H σ Q st fun I' H' v f q => p I' H' v f q
theorem JE.none {o : Option α} {r : Rp α} (j : JE X I0 H0 W ctx mem e (.ok o) (rp (rOp r))) (h : o = none) : JE X I0 H0 W ctx mem e (.ok ()) (rp rNon) := by
  subst h
  exact fun I H σ Q st p => j I H σ Q st fun I' H' v f q => p I' H' v f q
theorem JR.case {o : Option α} {m1 : Res γ} {m2 : α → Res γ} (k1 : o = none → JR X I0 H0 W Kx G ss m1 rr) (k2 : ∀ y, o = some y → JR X I0 H0 W Kx G ss (m2 y) rr) : JR X I0 H0 W Kx G ss (optM o m1 m2) rr := by
  cases o with
  | none => exact k1 rfl
  | some y => exact k2 y rfl
theorem JN.case {o : Option α} {G' : S → Knows} {m1 : Res S} {m2 : α → Res S} (k1 : o = none → JN X W Kx G ss m1 G') (k2 : ∀ y, o = some y → JN X W Kx G ss (m2 y) G') : JN X W Kx G ss (optM o m1 m2) G' := by
  cases o with
  | none => exact k1 rfl
  | some y => exact k2 y rfl
theorem JG.case {o : Option α} {G' : S → Knows} {GL : L → Knows} {m1 : Res (Fl S L γ)} {m2 : α → Res (Fl S L γ)} (k1 : o = none → JG X I0 H0 W Kx G ss m1 G' GL rr) (k2 : ∀ y, o = some y → JG X I0 H0 W Kx G ss (m2 y) G' GL rr) : JG X I0 H0 W Kx G ss (optM o m1 m2) G' GL rr := by
  cases o with
  | none => exact k1 rfl
  | some y => exact k2 y rfl
end
end L2.Tr
namespace L2.Tr
open PySem PySem.Spec PyProof.Rows He
section
variable {β S : Type} {X : Cx} {W : WX}
end
end L2.Tr

namespace L2.Tr
open PySem PySem.Spec PyProof.Rows He
def hookA (as : List Addr) (fs : List FB) (fn : List DX) (ts : List Tab) : PySem.W.Hook where
  α := AlZ
  obs := fun s => obsZ fs fn ts (frG s.heap.get? as)
  val := fun w => valZ fn ts w
  says := fun w h => ∃ K : PySem.W.Frag, K.In h ∧ SaysZ fs fn ts w K
  of := fun _ _ e => ⟨_, frG_in, e⟩
  keeps := fun _ _ _ ⟨K, hK, c⟩ k => ⟨K, PySem.W.Frag.In.keeps hK k, c⟩
theorem obsA_eq {as : List Addr} {fs : List FB} {fn : List DX} {ts : List Tab} {g : Addr → Option Obj} {s : Shared} (h : ∀ a, g a = s.heap.get? a) : obsZ fs fn ts (frG g as) = (hookA as fs fn ts).obs s := by
  have e : g = s.heap.get? := funext h
  rw [e] <;> rfl
end L2.Tr

namespace L2.Tr
open PySem PySem.Spec PyProof.Rows He
section
variable {X : Cx} {I0 H0 : Hp} {W : WX} {Kx : KnowsX} {ctx : List (Option SF)} {mem : List MF} {pos pos' : Pos} {n y : Str} {α : Type} {r : Rp α}
end
end L2.Tr

namespace L2.Tr
open PySem PySem.Spec PyProof.Rows He
def RowsR {α : Type} (I H : Hp) (r : Rp α) : List Addr → List (List α) → Prop
  | [], [] => True
  | a :: ls, xs :: xss => (∃ vs, H a = some (.lst vs) ∧ Paired (r I) vs xs) ∧ RowsR I H r ls xss
  | _, _ => False
theorem RowsR.up {α : Type} {r : Rp α} [mo : Mo r] {I I' H H' : Hp} (s : Same I I') : ∀ {ls : List Addr} {xss : List (List α)}, (∀ a, a ∈ ls → H' a = H a) → RowsR I H r ls xss → RowsR I' H' r ls xss
  | [], [], _, h => h
  | a :: ls, xs :: xss, k, ⟨⟨vs, h1, h2⟩, h3⟩ => ⟨⟨vs, by rw [k a List.mem_cons_self]; exact h1, Paired.mapP h2 fun _ _ q => mo.up s q⟩, RowsR.up s (fun b hb => k b (List.mem_cons_of_mem _ hb)) h3⟩
  | [], _ :: _, _, h => h.elim
  | _ :: _, [], _, h => h.elim
theorem RowsR.length {α : Type} {r : Rp α} {I H : Hp} : ∀ {ls : List Addr} {xss : List (List α)}, RowsR I H r ls xss → ls.length = xss.length
  | [], [], _ => rfl
  | _ :: _, _ :: _, ⟨_, h⟩ => congrArg Nat.succ (RowsR.length h)
  | [], _ :: _, h => h.elim
  | _ :: _, [], h => h.elim
theorem RowsR.snoc {α : Type} {r : Rp α} {I H : Hp} {a : Addr} {vs : List V} {xs : List α} (h1 : H a = some (.lst vs)) (h2 : Paired (r I) vs xs) : ∀ {ls : List Addr} {xss : List (List α)}, RowsR I H r ls xss → RowsR I H r (ls ++ [a]) (xss ++ [xs])
  | [], [], _ => ⟨⟨vs, h1, h2⟩, True.intro⟩
  | _ :: _, _ :: _, ⟨h3, h4⟩ => ⟨h3, RowsR.snoc h1 h2 h4⟩
  | [], _ :: _, h => h.elim
  | _ :: _, [], h => h.elim
def MF.tab {α : Type} (l : Addr) (r : Rp α) [m : Mo r] (xss : List (List α)) : MF :=
  ⟨fun I H fp => ∃ ls, fp = l :: ls ∧ H l = some (.lst (ls.map V.ref)) ∧ RowsR I H r ls xss,
   fun s ⟨ls, e, h1, h2⟩ => ⟨ls, e, h1, h2.up s fun _ _ => rfl⟩,
   fun k ⟨ls, e, h1, h2⟩ => ⟨ls, e, by rw [k l (by rw [e]; exact List.mem_cons_self)]; exact h1, h2.up (Same.refl _) fun a ha => k a (by rw [e]; exact List.mem_cons_of_mem _ ha)⟩⟩
section
variable {α β γ δ S L : Type} {X : Cx} {I0 H0 I H : Hp} {W : WX} {Kx : KnowsX} {ctx : List (Option SF)} {mem : List MF} {e a b c o elt iter ix ix2 : Expr} {pos pos' p2 : Pos} {n : Str} {σ : St} {r : Rp α} {rb : Rp β} {rr : Ra γ} {ss : List Stmt}
theorem Stt.row [mo : Mo r] {l D : Addr} {xs : List α} {acc : List (List α)} (s : Stt I0 H0 ctx (MF.lst l r xs :: MF.tab D r acc :: mem) I H σ) : ∃ ls, H D = some (.lst (ls.map V.ref)) ∧ I D = none ∧ ls.length = acc.length ∧ Stt I0 H0 ctx (MF.tab D r (acc ++ [xs]) :: mem) I (upd H D (.lst ((ls ++ [l]).map V.ref))) σ := by
  obtain ⟨fps, rg, nd, k⟩ := s.me
  match fps, rg, nd, k with
  | [], rg, _, _ => exact rg.elim
  | [_], ⟨_, rg⟩, _, _ => exact rg.elim
  | fp :: fq :: fps, ⟨⟨e1, ob, hl, vs, eo, pr⟩, ⟨ls, e2, hD, rows⟩, rg⟩, nd, k =>
    subst e1; subst eo; subst e2
    have nd0 : (l :: (D :: ls ++ fps.flatten)).Nodup := by simpa using nd
    have nl := (List.nodup_cons.mp nd0).1
    have nd1 := (List.nodup_cons.mp nd0).2
    have ndA := List.nodup_append.mp nd1
    have nD := (List.nodup_cons.mp ndA.1).1
    have kk : ∀ a, a = l ∨ a = D ∨ a ∈ ls ∨ a ∈ fps.flatten → H0 a = none ∧ I a = none ∧ H a ≠ none := fun a ha => k a (by
      simp only [List.flatten_cons, List.mem_append, List.mem_cons, List.not_mem_nil, or_false]
      rcases ha with h | h | h | h
      · exact .inl h
      · exact .inr (.inl (.inl h))
      · exact .inr (.inl (.inr h))
      · exact .inr (.inr h))
    have lD : l ≠ D := fun z => nl (by rw [z]; exact List.mem_append_left _ List.mem_cons_self)
    have kD := kk D (.inr (.inl rfl))
    refine ⟨ls, hD, kD.2.1, rows.length, ?_, s.len, s.sl, (D :: (ls ++ [l])) :: fps, ⟨⟨ls ++ [l], rfl, upd_same, ?_⟩, rg.up (Same.refl _) fun a ha => upd_ne fun z => ?_⟩, ?_, fun a ha => ?_⟩
    · exact ⟨s.fm.i, fun b u e => by rw [upd_ne (ne_of_none e kD.1)]; exact s.fm.h _ _ e, fun b u e => by rw [upd_ne (ne_of_none e kD.2.1)]; exact s.fm.ih _ _ e, s.fm.mu⟩
    · have rows' : RowsR I (upd H D (.lst ((ls ++ [l]).map V.ref))) r ls acc := rows.up (Same.refl _) fun a ha => upd_ne fun z => nD (z ▸ ha)
      exact rows'.snoc (by rw [upd_ne lD]; exact hl) pr
    · exact ndA.2.2 D List.mem_cons_self a ha z.symm
    · have p : (D :: (ls ++ [l]) ++ fps.flatten).Perm (l :: (D :: ls ++ fps.flatten)) := by
        have h1 : (D :: (ls ++ [l]) ++ fps.flatten) = (D :: ls) ++ l :: fps.flatten := by simp
        have h2 : (l :: (D :: ls ++ fps.flatten)) = l :: ((D :: ls) ++ fps.flatten) := rfl
        rw [h1, h2]; exact List.perm_middle
      show (List.flatten ((D :: (ls ++ [l])) :: fps)).Nodup
      rw [List.flatten_cons]
      exact p.nodup_iff.mpr nd0
    · have ha' : a = l ∨ a = D ∨ a ∈ ls ∨ a ∈ fps.flatten := by
        simp only [List.flatten_cons, List.mem_append, List.mem_cons, List.not_mem_nil, or_false] at ha
        rcases ha with (h | h | h) | h
        · exact .inr (.inl h)
        · exact .inr (.inr (.inl h))
        · exact .inl h
        · exact .inr (.inr (.inr h))
      obtain ⟨q1, q2, q3⟩ := kk a ha'
      refine ⟨q1, q2, ?_⟩
      by_cases z : a = D
      · rw [z, upd_same]; intro h; cases h
      · rw [upd_ne z]; exact q3
end
end L2.Tr

namespace L2.Tr
open PySem PySem.Spec PyProof.Rows L2H
section
variable {α β γ δ S T : Type} {X : Cx} {I0 H0 : Hp} {W : WX} {Kx : KnowsX} {G : Knows} {ctx : List (Option SF)} {mem : List MF} {e a b c o : Expr} {es bs : List Expr} {pos pos' : Pos} {n : Str} {ra : Ra α} {rb : Ra β} {rc : Ra γ} {ma : Res α} {r : Rp α} {f : Addr} {k : Nat} {R : Hp → Hp → List V → δ → Prop} {σ : L2.St} {H : Hp} {Q : VK}
end
section
variable {α β γ δ T : Type} {X : Cx} {I0 H0 I H I1 : Hp} {W : WX} {Kx : KnowsX} {ctx : List (Option SF)} {C : T → List MF} {t0 t : T} {e a b c : Expr} {es bs : List Expr} {pos : Pos} {Q : VK}
end
def pay2 {α β δ : Type} (g f : Str) (dg : Pay → Option β) (df : Pay → Option α) (h : α → β → Res δ) (ps : List (Str × Pay)) : Res δ := match ps with
  | [(g', q), (f', p)] => if g' = g ∧ f' = f then (match df p with
    | some y => (match dg q with
      | some z => h y z
      | none => .stuck)
    | none => .stuck) else .stuck
  | _ => .stuck
section
variable {α β γ S L : Type} {X : Cx} {I0 H0 : Hp} {W : WX} {Kx : KnowsX} {ctx cw : List (Option SF)} {mem : List MF} {body suite : List Stmt} {b₀ : Stmt} {pos pos' np : Pos} {n x : Str} {rr : Ra γ}
theorem J1G.tryAs2 (i : Nat) (f g : Str) (df : Pay → Option α) (dg : Pay → Option β) {c0 : Str} {cv : Value} {Ls : List (Str × Bool)} {mb : Res (Fl S L γ)} {G' : S → Knows} {GL : L → Knows} {mh : α → β → Res (Fl S L γ)} {me' : Hp → List MF} (tk : L2N.Takes X W)
    (jb : ∀ (W' : WX) (pn : List (Addr × Obj)) (xe : Value → Shared → Prop) (I1 : Hp), L2N.Takes (X.tr pn xe) W' → PassesOwn (model X.prog X.w) X.A X.env xe → JG (X.tr pn xe) I0 H0 W' (fun I H σ d => Stt I0 H0 cw (me' I1) I H σ ∧ Fr H0 d) (Stt I0 H0 ctx (me' I1)) body mb G' GL rr)
    (js : ∀ (a : Addr) (oe : Obj) (dd : Addr) (pn : List (Addr × Obj)) (p q : Pay) (y : α) (z : β), L2N.Zn (.ref (He.ga X.K c0)) (some dd) oe → (∃ vs, oe.data = .fields vs) → df p = some y → dg q = some z → JG (X.suite a ((a, oe) :: pn)) I0 H0 (fun _ _ _ _ => False) (fun _ _ _ _ => True) (Stt I0 H0 (cw.set i (some ⟨rExc a, ()⟩)) (MF.xd X.K dd [(g, q), (f, p)] :: mem)) (b₀ :: suite) (mh y z) (fun s I H σ => G' s I H (σ.set i none)) (fun s I H σ => GL s I H (σ.set i none)) rr)
    (hcl : ∀ c, (c, true) ∈ Ls → c = c0) (hL : ∀ y b, (y, b) ∈ Ls → PySem.W.exmOne X.K (.ref (He.ga X.K y)) cv = some b) (hc : Names X x cv) (hx : ∀ I H σ d, Stt I0 H0 cw mem I H σ → Fr H0 d → Kx I H σ d) (hN : X.N.Nodup) (hme : ∀ I1, me' I1 = mem ++ [MF.same I1] := by intro _; rfl)
    (hs : X.stack = X.env :: X.outer := by rfl) (hf : X.env.frame = some X.env.locals := by rfl) (hi : X.N[i]? = some n := by rfl) (hln : X.env.kindOf n = some .local := by rfl) (hmx : NoXd mem := by exact True.intro) :
    J1G X I0 H0 W Kx (Stt I0 H0 ctx mem) (.Try body [.ExceptHandler (some (.Name x np)) (some n) (b₀ :: suite) pos'] [] [] pos) (tryG mb Ls (fun ee => pay2 g f dg df mh ee.pay)) G' GL rr := by
  refine J1G.tryAs i tk jb (fun a oe ee d pn hz hf' hm h0 h1 => ?_) hL hc hx hN hme hs hf hi hln hmx
  rw [hcl _ hm] at hz
  obtain ⟨ec, ep⟩ := ee
  dsimp only at h0 h1 ⊢
  match ep, h0, h1 with
  | [], _, _ => exact JG.dead
  | [_], _, _ => exact JG.dead
  | (g', q) :: (f', p) :: [], h0, h1 =>
    unfold pay2
    dsimp only
    by_cases hg : g' = g ∧ f' = f
    · rw [if_pos hg]
      obtain ⟨rfl, rfl⟩ := hg
      cases hd : df p with
      | none => exact JG.dead
      | some y =>
        cases hd2 : dg q with
        | none => exact JG.dead
        | some z =>
          cases d with
          | none => cases h0 rfl
          | some dd => exact js a oe dd pn p q y z hz hf' hd hd2
    · rw [if_neg hg]; exact JG.dead
  | _ :: _ :: _ :: _, _, _ => exact JG.dead
end
section
variable {α δ : Type} {P : Program} {w : World} {K : PySem.W.Frag} {mg : Str → Option Value} {base : Heap} {x qual : Str} {params : Arguments} {body : List Stmt} {scope : Scope} {f : Addr} {fd : FuncData} {N ps : List Str} {k : Nat} {r : Rp α} {R : Hp → Hp → List V → δ → Prop} {m : δ → Res (List α)}
end
end L2.Tr

namespace L2.Tr
open PySem PySem.Spec PyProof.Rows
section
variable {α β γ δ ε S T L : Type} {X : Cx} {I0 H0 I H I1 : Hp} {W : WX} {Kx : KnowsX} {ctx : List (Option SF)} {mem : List MF} {C : T → List MF} {t0 t : T} {kws : List Keyword} {pos pos' p2 : Pos} {n : Str} {rc : Rp γ} {σ : St} {Q : VK} {R' : Hp → Hp → List V → ε → Prop} {me : Res ε} {ks : List Str}
end
end L2.Tr

namespace L2.Tr
open PySem PySem.Spec PyProof.Rows
section
variable {α γ S L : Type} {X : Cx} {I0 H0 I H : Hp} {W : WX} {Kx : KnowsX} {ss : List Stmt} {ctx ctx' : List (Option SF)} {mem mem' : List MF} {rr : Ra γ}
variable (i j : Nat) {r : Rp α} [mo : Mo r] {l : Addr} {xss : List (List α)}
end
end L2.Tr

namespace L2.Tr
open PySem PySem.Spec PyProof.Rows
section
variable {α β γ δ S : Type} {X : Cx} {I0 H0 : Hp} {W : WX} {Kx : KnowsX} {ctx : List (Option SF)} {mem : List MF} {e a b c o elt iter tg : Expr} {ss body : List Stmt} {pos pos' : Pos} {n : Str} {r : Rp α} {rb : Rp β}
end
end L2.Tr

namespace L2.Tr
open PySem PySem.Spec PyProof.Rows
section
variable {α β γ δ S T : Type} {X : Cx} {I0 H0 I H : Hp} {W : WX} {Kx : KnowsX} {ctx : List (Option SF)} {mem : List MF} {C : T → List MF} {t0 : T} {e : Expr} {es : List Expr} {ss : List Stmt} {pos pos' : Pos} {n : Str} {r : Rp α} {rt : Rp β} {σ : St} {Q : VK} {R : Hp → Hp → List V → δ → Prop}
end
section
variable {P : Program} {w : World} {K : PySem.W.Frag} {mg : Str → Option Value} {base : Heap} {N : List Str} {qual : Str} {scope : Scope} {f : Addr} {cd : Value} {A : Around} {outer : List Env} {s : Shared} {H : Hp} {E : XK} {pn : List (Addr × Obj)}
end
end L2.Tr

namespace GQ
open PySem PySem.SeqAt
section
variable {prog : Program} {w : World} {A : Around} {E : Value → Shared → Prop} {s : Shared}
end
end GQ
namespace L2.Tr
open PySem PySem.Spec PyProof.Rows He
section
variable {X : Cx} {W : WX} {n : Nat} {D : Eqv} {k : Nat} {f : Addr} {gb : Rat × Num × Unit → Res Bool}
def sameV (xs ys : List Num) : Prop := xs.map Num.val = ys.map Num.val
instance {xs ys : List Num} : Decidable (sameV xs ys) := by unfold sameV; infer_instance
end
end L2.Tr

namespace L2.Tr
open PySem PySem.Spec PyProof.Rows
section
variable {α β γ δ : Type} {X : Cx} {I0 H0 I H : Hp} {W : WX} {ctx : List (Option SF)} {mem : List MF} {e a b : Expr} {pos : Pos} {r : Rp α} {R : Hp → Hp → List V → δ → Prop} {md : Res δ} {mi : Res Int} {σ : St} {Q : VK}
def rFlt : Rp V := fun _ v x => v = x ∧ flatV x = true
instance : Mo rFlt := ⟨fun _ h => h⟩
end
end L2.Tr

namespace L2.Tr
open PySem PySem.Spec PyProof.Rows L2H
section
variable {α β γ δ S L : Type} {X : Cx} {I0 H0 I H : Hp} {W : WX} {Kx : KnowsX} {ctx : List (Option SF)} {mem : List MF} {e a b c o elt iter : Expr} {pos pos' p2 : Pos} {n : Str} {σ : St} {r : Rp α} {rb : Rp β}
end
section
variable {α β γ δ S L : Type} {X : Cx} {I0 H0 : Hp} {W : WX} {Kx : KnowsX} {ctx cw : List (Option SF)} {mem : List MF} {e a b : Expr} {ss body suite : List Stmt} {b₀ : Stmt} {pos pos' np p1 p3 : Pos} {n x f g : Str} {rr : Ra γ} {r : Rp α} {r2 : Rp β} {G : Knows}
end
end L2.Tr

namespace L2.Tr
open PySem PySem.Spec PyProof.Rows L2H
def FnLD (P : Program) (w : World) (K : PySem.W.Frag) (mg : Str → Option Value) (base : Heap) (k : Nat) (f : Addr) (dvs : List V) (sp : Sp) : Prop :=
  ∀ (A : Around) (outer : List Env) (s : Shared) (H : Hp) (us : List Value) (vs : List V) (Q : VK) (E : XK) (p : Addr × Obj), RoomH k A → Hot1 A p → PinOk outer H s p → Env0 P w K mg base A outer s H → Vals vs us → sp (vs ++ dvs) H Q E →
    codeAny (model P w) A (.call (.ref f) ⟨us, []⟩) (CR (L2N.CX P w) outer P w H s Q E) s
section
variable {γ δ : Type} {P : Program} {w : World} {K : PySem.W.Frag} {mg : Str → Option Value} {base : Heap} {x qual : Str} {params : Arguments} {body : List Stmt} {scope : Scope} {dvs dvs' : List V} {ds : List Value} {kws : List (Str × V)} {f C : Addr} {fd : FuncData} {N ps : List Str} {k : Nat} {R : Hp → Hp → List V → δ → Prop} {m : δ → Res γ} {r : Ra γ}
end
section
variable {γ δ : Type} {X : Cx} {W : WX} {C f : Addr} {k : Nat} {dvs : List V} {R R' : Hp → Hp → List V → δ → Prop} {m : δ → Res γ} {rc : Ra γ}
end
def MkL {γ δ : Type} (P : Program) (w : World) (K : PySem.W.Frag) (mg : Str → Option Value) (base : Heap) (k : Nat) (C : Addr) (R : Hp → Hp → List V → δ → Prop) (m : δ → Res γ) (r : Ra γ) : Prop :=
  ∀ (X : Cx) (W : WX), X.prog = P → X.w = w → X.K = K → X.mg = mg → X.base = base → RoomH k X.A → HotC X → L2N.Takes X W → CallJ X W (.ref C) R m r
theorem MkL.nice {γ δ : Type} {P : Program} {w : World} {K : PySem.W.Frag} {mg : Str → Option Value} {base : Heap} {k : Nat} {C : Addr} {R : Hp → Hp → List V → δ → Prop} {m m' : δ → Res γ} {r : Ra γ} (F : MkL P w K mg base k C R m r) (h : ∀ d, m' d = .stuck ∨ m' d = m d) : MkL P w K mg base k C R m' r := fun X W e1 e2 e3 e4 e5 hr hp tk I H σ Q vs d s a p => by
  refine F X W e1 e2 e3 e4 e5 hr hp tk I H σ Q vs d s a ?_
  rcases h d with e | e
  · rw [show m' d = _ from e] at p; exact p.elim
  · rw [← e]; exact p
section
variable {γ δ : Type} {X : Cx} {W : WX} {C : Addr} {k : Nat} {R : Hp → Hp → List V → δ → Prop} {m : δ → Res γ} {rc : Ra γ}
end
structure LargeH (X : Cx) : Prop where
  seer : fSeer X.K = true
  tree : X.prog.given.tree = none
  room : RoomH 34 X.A
  top : ∃ e o, X.stack = e :: o ∧ e.scope.isGenerator = false ∧ e.scope.isCoroutine = false ∧ e.builtins = builtinsNs ∧ e.globals = mainGlobals
end L2.Tr

namespace L2.Tr
section
variable {α β γ S L : Type}
end
open PySem PySem.Spec PyProof.Rows L2H
section
variable {α δ : Type} {P : Program} {w : World} {K : PySem.W.Frag} {mg : Str → Option Value} {base : Heap} {x qual : Str} {params : Arguments} {body : List Stmt} {scope : Scope} {dvs dvs' : List V} {ds : List Value} {kws : List (Str × V)} {f C : Addr} {fd : FuncData} {N ps : List Str} {k : Nat} {R : Hp → Hp → List V → δ → Prop} {m : δ → Res α} {gs : α → List (Str × SF)}
end
end L2.Tr

namespace L2.Tr
open PySem PySem.Spec PyProof.Rows L2H
section
variable {α β γ δ S L T : Type} {X : Cx} {I0 H0 : Hp} {W : WX} {Kx : KnowsX} {ctx : List (Option SF)} {mem : List MF} {tg iter : Expr} {body : List Stmt} {pos : Pos} {GL : L → Knows} {rr : Ra γ} {rb : Rp β} {C : T → List MF} {t0 : T}
end
end L2.Tr

namespace L2.Tr
open PySem PySem.Spec PyProof.Rows L2H
end L2.Tr

namespace GQ
open PySem PySem.SeqAt
open AutoSeq1 (wpAny_loadPart')
open MeetsSeq MeetsSeq2 MeetsSeq3 SeqRoads2
section
variable {prog : Program} {w : World} {A : Around} {E : Value → Shared → Prop} {s : Shared}
end
end GQ
namespace L2.Tr
open PySem PySem.Spec PyProof.Rows L2H
def rAny : Rp Unit := fun _ _ _ => True
instance : Mo rAny := ⟨fun _ h => h⟩
end L2.Tr
namespace L2H
end L2H
namespace L2
open PySem PySem.Spec PyProof.Rows
section
variable {X : Cx} {body : List Stmt} {h₀ : ExceptHandler} {hds : List ExceptHandler} {l : List (Value × (Addr → Value → Option Addr → TS))} {pos : Pos} {tb : WX → TS} {Wout : WX}
end
end L2
namespace L2.Tr
open PySem PySem.Spec PyProof.Rows L2H
section
variable {α β γ S S1 L : Type} {X : Cx} {I0 H0 : Hp} {W : WX} {Kx : KnowsX} {ctx cw : List (Option SF)} {mem : List MF} {body suite orelse : List Stmt} {b₀ : Stmt} {h₀ : ExceptHandler} {pos pos' np : Pos} {n x f : Str} {rr : Ra γ} {G' : S → Knows} {GL : L → Knows}
end
end L2.Tr

namespace L2
open PySem PySem.Spec PyProof.Rows
inductive HdsH (X : Cx) : List ExceptHandler → List (Value × (Addr → Value → Option Addr → TS)) → Prop
  | nil : HdsH X [] []
  | only {x : Str} {c : Value} {ts : Addr → Value → Option Addr → TS} {b₀ : Stmt} {suite : List Stmt} {np pos' : Pos} {hds : List ExceptHandler} {l : List (Value × (Addr → Value → Option Addr → TS))} (hc : Names X x c)
      (hsu : ∀ (a : Addr) (oe : Obj) (cls : Value) (d : Option Addr) (pn : List (Addr × Obj)), Zc cls d oe → (∃ vs, oe.data = .fields vs) → PSs (X.suite a ((a, oe) :: pn)) (b₀ :: suite) (ts a cls d)) (r : HdsH X hds l) :
      HdsH X (.ExceptHandler (some (.Name x np)) none (b₀ :: suite) pos' :: hds) ((c, ts) :: l)
section
variable {X : Cx} {body : List Stmt} {h₀ : ExceptHandler} {hds : List ExceptHandler} {l : List (Value × (Addr → Value → Option Addr → TS))} {pos : Pos} {tb : WX → TS} {Wout : WX}
end
end L2
namespace L2.Tr
open PySem PySem.Spec PyProof.Rows L2H He
section
variable {α β γ δ S L : Type} {X : Cx} {I0 H0 : Hp} {W : WX} {Kx : KnowsX} {G : Knows} {ctx cw : List (Option SF)} {mem : List MF} {body suite : List Stmt} {b₀ : Stmt} {pos pos' np : Pos} {n x : Str} {rr : Ra γ}
end
section
variable {α β γ δ S L : Type} {P : Program} {w : World} {K : PySem.W.Frag} {mg : Str → Option Value} {base : Heap} {x qual : Str} {params : Arguments} {body : List Stmt} {scope : Scope} {f : Addr} {fd : FuncData} {N ps : List Str} {k : Nat} {r : Ra γ} {R : Hp → Hp → List V → δ → Prop} {m : δ → Res γ}
end
section
variable {α β γ δ S : Type} {X : Cx} {I0 H0 : Hp} {W : WX} {Kx : KnowsX} {ctx : List (Option SF)} {mem : List MF} {f' : Addr} {k : Nat} {rc : Ra γ} {R : Hp → Hp → List V → δ → Prop} {m : δ → Res γ} {e : Expr} {pos p1 p3 : Pos} {ss : List Stmt} {x f : Str} {r : Rp α} {G : Knows} {rr : Ra γ}
end
section
variable {α β γ δ : Type} {X : Cx} {W : WX} {f f' : Addr} {k : Nat} {rc : Ra γ} {g : Rat × Num × Unit → Res γ}
end

section
variable {α β γ δ : Type} {X : Cx} {I0 H0 : Hp} {W : WX} {Kx : KnowsX} {ctx : List (Option SF)} {mem : List MF} {a b : Expr} {ma : Res α} {mb : Res β} {pos : Pos}
end
section
variable {α : Type} {x : Rat} {y : Num} {n : Int} {e : Exn}
end
end L2.Tr

namespace L2.Tr
open PySem PySem.Spec PyProof.Rows
section
variable {α β γ δ S T : Type} {X : Cx} {I0 H0 I H : Hp} {W : WX} {Kx : KnowsX} {ctx : List (Option SF)} {mem : List MF} {C : T → List MF} {t0 : T} {e : Expr} {es : List Expr} {ss : List Stmt} {pos pos' : Pos} {n : Str} {r : Rp α} {rt : Rp β} {σ : St} {Q : VK} {R : Hp → Hp → List V → δ → Prop}
end
end L2.Tr

namespace L2.Tr
open PySem PySem.Spec PyProof.Rows
section
variable {α β γ δ S T : Type} {X : Cx} {I0 H0 I H : Hp} {W : WX} {Kx : KnowsX} {ctx : List (Option SF)} {mem : List MF} {C : T → List MF} {t0 : T} {e : Expr} {es : List Expr} {ss : List Stmt} {pos pos' : Pos} {n : Str} {σ : St} {Q : VK} {R : Hp → Hp → List V → δ → Prop}
end
end L2.Tr

namespace L2.Tr
open PySem PySem.Spec PyProof.Rows
section
variable {α β γ δ S L : Type} {X : Cx} {I0 H0 : Hp} {W : WX} {Kx : KnowsX} {ctx : List (Option SF)} {mem : List MF} {e a : Expr} {ss : List Stmt} {pos : Pos} {rr : Ra γ} {r : Rp α} {q : Rp β}
def rUn (r : Rp α) (q : Rp β) : Rp (α ⊕ β) := fun I v x => match x with
  | .inl y => r I v y
  | .inr y => q I v y
instance {r : Rp α} {q : Rp β} [m : Mo r] [n : Mo q] : Mo (rUn r q) := ⟨fun {I I' v x} s h => by
  cases x with
  | inl y => exact m.up s h
  | inr y => exact n.up s h⟩
instance {r : Rp α} {q : Rp β} [m : NoN r] [n : NoN q] : NoN (rUn r q) := ⟨fun I v x h => by
  cases x with
  | inl y => exact m.ne I v y h
  | inr y => exact n.ne I v y h⟩
end
end L2.Tr

namespace L2.Tr
open PySem PySem.Spec PyProof.Rows He
section
variable {α β γ δ S L : Type} {X : Cx} {I0 H0 I H I1 H1 : Hp} {W : WX} {Kx : KnowsX} {ctx : List (Option SF)} {mem : List MF} {e a b c o elt iter ix ix2 : Expr} {pos pos' p2 : Pos} {n : Str} {σ : St} {r : Rp α} {rb : Rp β} {rr : Ra γ} {ss : List Stmt}
end
end L2.Tr

namespace L2.Tr
open PySem PySem.Spec PyProof.Rows
section
variable {α γ : Type} {P : Program} {w : World} {K : PySem.W.Frag} {mg : Str → Option Value} {base : Heap} {k : Nat} {f : Addr} {x qual : Str} {params : Arguments} {body : List Stmt} {scope : Scope} {fd : FuncData} {N : List Str} {pv : Str} {r : Rp α} {m : List α → Res γ} {rc : Ra γ}
end
section
variable {α : Type} {P : Program} {w : World} {K : PySem.W.Frag} {mg : Str → Option Value} {base : Heap} {k : Nat} {f : Addr} {x qual : Str} {params : Arguments} {body : List Stmt} {scope : Scope} {fd : FuncData} {N : List Str} {pv : Str} {r : Rp α} {m : List α → Res Unit}
end
section
variable {α γ δ : Type} {X : Cx} {I0 H0 H : Hp} {σ : St} {W : WX} {ctx : List (Option SF)} {mem : List MF} {e : Expr} {pos pos' sp : Pos} {n : Str} {r : Rp α} {rc : Ra γ} {g : List α → Res γ} {Q : VK}
end
end L2.Tr

namespace L2.Tr
open PySem PySem.Spec PyProof.Rows
section
variable {α β1 β2 γ : Type} {X : Cx} {I0 H0 : Hp} {W : WX} {ctx : List (Option SF)} {mem : List MF} {elt iter : Expr} {pos pos1 pos2 pt : Pos} {n1 n2 : Str} {r : Rp α} {r1 : Rp β1} {r2 : Rp β2} {kt : Nat}
end
end L2.Tr

namespace L2.Tr
open PySem PySem.Spec PyProof.Rows He
section
variable {α β γ δ S L : Type} {X : Cx} {I0 H0 I H I1 H1 : Hp} {W : WX} {Kx : KnowsX} {G : Knows} {ctx : List (Option SF)} {mem : List MF} {e a b c o elt iter ix ix2 : Expr} {es : List Expr} {pos pos' p2 : Pos} {n : Str} {σ : St} {Q : VK} {r : Rp α} {rb : Rp β} {rr : Ra γ} {md : Res δ} {R : Hp → Hp → List V → δ → Prop} {ss : List Stmt}
def rIdx (ls : List Addr) : Rp Nat := fun _ v q => ∃ a, ls[q]? = some a ∧ v = V.ref a
instance {ls : List Addr} : Mo (rIdx ls) := ⟨fun _ h => h⟩
section
variable {G G' : Knows} {cw : List (Option SF)} {tg : Expr} {body s1 s2 : List Stmt} {GL : L → Knows} {ra : Ra α} {ma : Res α} {mc : Res Bool}
end
instance {δ : Type} {R : Hp → Hp → List V → δ → Prop} [l : DpL R] : DpC (rLu R) where
  deq := l.deq
  enc := fun x => .list (l.enc x)
  lay := l.lay
  dep := l.dep + 1
  dp := fun s ⟨a, vs, e, h, p⟩ => by rw [e]; exact .lst (SqL.of (s _ _ h)) (l.dp s p)
  eq := fun x y => by show PyData.eqvAll _ _ = _; exact l.eq x y
  cl := fun x h => by simp only [PyData.canLay0]; exact l.cl x h
  dd := fun x => by simp only [PyData.depth]; have := l.dd x; omega
instance {R : Hp → Hp → List V → δ → Prop} : NoN (rLu R) := ⟨fun _ _ _ ⟨_, _, e, _⟩ z => by rw [e] at z; cases z⟩
end
end L2.Tr

namespace L2.Tr
open PySem PySem.Spec PyProof.Rows He
section
variable {α : Type} {X : Cx} {I0 H0 I H : Hp} {W : WX} {ctx : List (Option SF)} {mem : List MF} {a es : Expr} {pos p3 : Pos} {r : Rp α}
end
section
variable {α β ζ : Type} {X : Cx} {I0 H0 I H : Hp} {W : WX} {Kx : KnowsX} {ctx : List (Option SF)} {mem : List MF} {pos pos' : Pos} {n : Str} {σ : St} {Q : VK} {r : Rp α}
end
end L2.Tr

namespace L2.Tr
open PySem PySem.Spec PyProof.Rows He
section
variable {α β γ δ S L : Type} {X : Cx} {I0 H0 I H I1 H1 : Hp} {W : WX} {Kx : KnowsX} {ctx : List (Option SF)} {mem : List MF} {e a b c o elt iter ix ix2 : Expr} {pos pos' p2 : Pos} {n : Str} {σ : St} {r : Rp α} {rb : Rp β} {rr : Ra γ} {ss : List Stmt}
end
end L2.Tr

namespace GQ
open PySem PySem.SeqAt
open AutoSeq1 (wpAny_loadPart')
open MeetsSeq MeetsSeq2 MeetsSeq3 SeqRoads2
section
variable {prog : Program} {w : World} {A : Around} {E : Value → Shared → Prop} {s : Shared}
end
end GQ
namespace L2.Tr
open PySem PySem.Spec PyProof.Rows He L2H
section
variable {α β : Type} {X : Cx} {W : WX} {r : Rp α} {r2 : Rp β} {k : Nat}
end
section
variable {α β γ δ S L : Type} {X : Cx} {I0 H0 I H : Hp} {W : WX} {Kx : KnowsX} {ctx : List (Option SF)} {mem : List MF} {e a b c o elt iter : Expr} {pos pos' p2 : Pos} {n : Str} {σ : St} {r : Rp α} {rb : Rp β}
def rTb (r : Rp α) : Ra (List (List α)) := fun I H v xss => ∃ l ls, v = .ref l ∧ H l = some (.lst (ls.map V.ref)) ∧ RowsR I H r ls xss
theorem RowsR.upS [mo : Mo r] {I I' H H' : Hp} (s : Same I I') (s2 : Same H H') : ∀ {ls : List Addr} {xss : List (List α)}, RowsR I H r ls xss → RowsR I' H' r ls xss
  | [], [], h => h
  | a :: ls, xs :: xss, ⟨⟨vs, h1, h2⟩, h3⟩ => ⟨⟨vs, s2 _ _ h1, Paired.mapP h2 fun _ _ q => mo.up s q⟩, RowsR.upS s s2 h3⟩
  | [], _ :: _, h => h.elim
  | _ :: _, [], h => h.elim
instance [mo : Mo r] : MoA (rTb r) := ⟨fun s s2 ⟨l, ls, e, h, rows⟩ => ⟨l, ls, e, s2 _ _ h, rows.upS s s2⟩⟩
end
section
variable {α β γ δ S T : Type} {X : Cx} {I0 H0 I H : Hp} {W : WX} {Kx : KnowsX} {ctx : List (Option SF)} {mem : List MF} {C : T → List MF} {t0 : T} {a e : Expr} {pos pos' p2 : Pos} {n : Str} {r : Rp α} {σ : St} {Q : VK}
end
section
variable {α β γ δ ε : Type} {X : Cx} {I0 H0 : Hp} {W : WX} {ctx : List (Option SF)} {mem : List MF} {e a b c o : Expr} {es bs : List Expr} {kws : List Keyword} {pos pos' kpos : Pos} {n x : Str} {nm : Option Str} {r : Rp α}
variable {R : Hp → Hp → List V → δ → Prop} {R' : Hp → Hp → List V → ε → Prop} {md : Res δ} {me : Res ε} {g : δ → ε → Res (List (List α))} {ks : List Str}
end
section
variable {α β γ δ S T : Type} {X : Cx} {I0 H0 I H H1 : Hp} {W : WX} {Kx : KnowsX} {ctx : List (Option SF)} {mem : List MF} {a e : Expr} {es : List Expr} {pos pos' p2 : Pos} {n : Str} {r : Rp α} {rc : Rp γ} {σ : St} {Q : VK} {R : Hp → Hp → List V → δ → Prop}
def rdA (l : Addr) (r : Rp α) : Ra (List α) := fun I H v xs => ∃ vs, v = .ref l ∧ H l = some (.lst vs) ∧ Paired (r I) vs xs
instance {l : Addr} [mo : Mo r] : MoA (rdA l r) := ⟨fun s t ⟨vs, e, h, p⟩ => ⟨vs, e, t _ _ h, Paired.mapP p fun _ _ q => mo.up s q⟩⟩
end
end L2.Tr

set_option maxHeartbeats 2000000
namespace L2.Tr
open PySem PySem.Spec PyProof.Rows L2H HotX
section
variable {prog : Program} {w : World} {A : Around} {E : Value → Shared → Prop} {s : Shared}
end
section
variable {X : Cx} {W : WX}
end
end L2.Tr

namespace L2.Tr
open PySem PySem.Spec PyProof.Rows He
section
variable {α β γ δ S L : Type} {X : Cx} {I0 H0 I H I1 H1 : Hp} {W : WX} {Kx : KnowsX} {ctx : List (Option SF)} {mem : List MF} {e a b c o elt iter ix ix2 : Expr} {pos pos' p2 : Pos} {n : Str} {σ : St} {r : Rp α} {rb : Rp β} {rr : Ra γ} {ss : List Stmt}
end
end L2.Tr

namespace L2.Tr
open PySem PySem.Spec PyProof.Rows He
def rEr0 (K : PySem.W.Frag) (c : Str) : Rp Unit := fun I v _ => ∃ a, v = .ref a ∧ I a = some (ExO (.ref (ga K c)) a)
def rEr1 {α : Type} (K : PySem.W.Frag) (c f : Str) (r : Rp α) : Rp α := fun I v y => ∃ a dx u, v = .ref a ∧ I a = some (exo a (ga K c) (some dx)) ∧ I dx = some (exd dx [(f, u)]) ∧ r I u y
def rEr2 {α β : Type} (K : PySem.W.Frag) (c f g : Str) (r : Rp α) (rb : Rp β) : Rp (α × β) := fun I v y => ∃ a dx u z, v = .ref a ∧ I a = some (exo a (ga K c) (some dx)) ∧ I dx = some (exd dx [(g, z), (f, u)]) ∧ r I u y.1 ∧ rb I z y.2
def rErr (K : PySem.W.Frag) (ns : List Str) : Rp Str := fun I v x => x ∈ ns ∧ ∃ a, v = .ref a ∧ (I a = some (ExO (.ref (ga K x)) a) ∨ ∃ dx fs, I a = some (exo a (ga K x) (some dx)) ∧ I dx = some (exd dx fs))
instance {K : PySem.W.Frag} {c : Str} : Mo (rEr0 K c) := ⟨fun s ⟨a, e, h⟩ => ⟨a, e, s _ _ h⟩⟩
instance {α : Type} {K : PySem.W.Frag} {c f : Str} {r : Rp α} [mo : Mo r] : Mo (rEr1 K c f r) := ⟨fun s ⟨a, dx, u, e, h, h2, h3⟩ => ⟨a, dx, u, e, s _ _ h, s _ _ h2, mo.up s h3⟩⟩
instance {α β : Type} {K : PySem.W.Frag} {c f g : Str} {r : Rp α} {rb : Rp β} [mo : Mo r] [mb : Mo rb] : Mo (rEr2 K c f g r rb) := ⟨fun s ⟨a, dx, u, z, e, h, h2, h3, h4⟩ => ⟨a, dx, u, z, e, s _ _ h, s _ _ h2, mo.up s h3, mb.up s h4⟩⟩
instance {K : PySem.W.Frag} {ns : List Str} : Mo (rErr K ns) := ⟨fun s ⟨hm, a, e, h⟩ => ⟨hm, a, e, h.elim (fun h => .inl (s _ _ h)) fun ⟨dx, fs, h1, h2⟩ => .inr ⟨dx, fs, s _ _ h1, s _ _ h2⟩⟩⟩
section
variable {α β γ δ S L : Type} {X : Cx} {I0 H0 I H : Hp} {W : WX} {ctx : List (Option SF)} {mem : List MF} {e a b : Expr} {pos pos' p p1 p3 : Pos} {n x f g c : Str} {r : Rp α} {rb : Rp β} {ns : List Str}
end
end L2.Tr

namespace L2.Tr
open PySem PySem.Spec PyProof.Rows L2H
section
variable {α β γ δ S L : Type} {P : Program} {w : World} {K : PySem.W.Frag} {mg : Str → Option Value} {base : Heap} {x qual : Str} {params : Arguments} {body : List Stmt} {scope : Scope} {f : Addr} {fd : FuncData} {N ps : List Str} {k : Nat} {r : Ra γ} {R : Addr × Obj → Hp → Hp → List V → δ → Prop} {m : δ → Res γ}
end
section
variable {α β γ δ : Type} {X : Cx} {W : WX} {f f' : Addr} {k : Nat} {ra : Ra α} {rb : Ra β} {rc : Ra γ} {R : Addr × Obj → Hp → Hp → List V → δ → Prop} {m : δ → Res γ}
variable {g : Rat × Num × Unit → Res γ}
end
def rErrH (K : PySem.W.Frag) (ns : List Str) (p : Addr × Obj) : Rp Str := fun _ v x => v = .ref p.1 ∧ x ∈ ns ∧ L2N.Zn (.ref (He.ga K x)) none p.2 ∧ ∃ vs, p.2.data = .fields vs
instance {K : PySem.W.Frag} {ns : List Str} {p : Addr × Obj} : Mo (rErrH K ns p) := ⟨fun _ h => h⟩
section
variable {X : Cx} {I0 H0 I H : Hp} {W : WX} {ctx : List (Option SF)} {mem : List MF} {a b : Expr} {pos pos' : Pos} {n : Str} {ns : List Str}
end
end L2.Tr
namespace L2.Tr
open PySem PySem.Spec PyProof.Rows
def repT (x : Str) (n : Int) : Str := if n == 1 || x.length == 0 then x else ⟨(List.replicate n.toNat x.cps).foldl (· ++ ·) #[]⟩
def repS (x : Str) (n : Int) : Res Str := Res.guard (0 < n ∧ n ≤ 1000 ∧ x.length ≤ 1000 ∧ (repT x n).length ≤ 1000) (.ok (repT x n))
theorem opj_mulS {X : Cx} {W : WX} : OpJ X W (binaryOp .Mult) (rp rStr) (rp rInt) repS (rp rStr) := fun I H σ Q u v x y s hu hv p => by
  obtain ⟨⟨g0, g1, g2, g3⟩, p⟩ := post_guard p
  cases (show u = V.str x from hu)
  cases (show v = V.int y from hv)
  intro pins sh a b Iv ra rb
  obtain ⟨t, rfl⟩ := ra
  obtain ⟨t', rfl⟩ := rb
  have q : ∀ t2 tk, EP X pins σ Q (.str (repT x y) t2) { sh with toks := tk } := fun t2 tk => ⟨.str (repT x y), H, Iv.tok _, ⟨_, rfl⟩, p I H _ (Fm.refl s) rfl⟩
  refine P.mul_str ?_ (fun _ _ => ?_) (fun _ _ => ?_) ?_
  · rw [decide_eq_false (show ¬ y < -(2 ^ 63 : Int) by omega), decide_eq_false (show ¬ y ≥ (2 ^ 63 : Int) by omega)]; rfl
  · have h1 : (x.length : Int) * y ≤ 1000 * 1000 := Int.mul_le_mul (by omega) g1 (by omega) (by decide)
    have := (Int.le_ediv_iff_mul_le (a := (x.length : Int)) (b := 2 ^ 63 - 1) g0).mpr (by omega)
    omega
  · have h1 : x.length * y.toNat ≤ 1000 * 1000 := Nat.mul_le_mul g2 (by omega)
    exact decide_eq_false (by rw [sizeLine_eq]; omega)
  · rw [if_neg (by omega)]
    unfold repT at q g3
    by_cases c : (y == 1 || x.length == 0) = true
    · rw [if_pos c] at q g3 ⊢
      exact q t sh.toks
    · rw [if_neg c] at q g3 ⊢
      exact ⟨by rw [sizeLine_eq]; omega, q _ _⟩
end L2.Tr
namespace L2.Tr
open PySem PySem.Spec PyProof.Rows
end L2.Tr

namespace L2.Tr
open PySem PySem.Spec PyProof.Rows L2H
section
variable {X : Cx} {I0 H0 : Hp} {W : WX} {Kx : KnowsX} {G : Knows} {S L γ : Type} {body : List Stmt} {h₀ : ExceptHandler} {hs : List ExceptHandler} {pos : Pos} {mb : Res (Fl S L γ)} {G' : S → Knows} {GL : L → Knows} {rr : Ra γ}
end
section
variable {α β γ δ ε S L : Type} {P : Program} {w : World} {K : PySem.W.Frag} {mg : Str → Option Value} {base : Heap} {x qual : Str} {params : Arguments} {body : List Stmt} {scope : Scope} {dvs : List V} {kws : List (Str × V)} {f : Addr} {fd : FuncData} {N ps : List Str} {k : Nat} {sp : Sp}
end
section
variable {α β γ δ ε : Type} {X : Cx} {W : WX} {H : Hp} {σ : St} {Q : VK} {f : Addr} {fd : FuncData} {ps : List Str} {k : Nat} {sp : Sp} {ra : Ra α} {rb : Ra β} {rc : Ra γ} {R : Hp → Hp → List V → δ → Prop}
end
section
variable {γ δ : Type} {P : Program} {w : World} {K : PySem.W.Frag} {mg : Str → Option Value} {base : Heap} {x qual : Str} {params : Arguments} {body : List Stmt} {scope : Scope} {dvs : List V} {kws : List (Str × V)} {f C : Addr} {fd : FuncData} {N ps : List Str} {k : Nat} {R : Hp → Hp → List V → δ → Prop} {m : δ → Res γ} {r : Ra γ}
end
section
variable {γ δ β S : Type} {R : Hp → Hp → List V → δ → Prop}
end
section
variable {γ δ ε : Type} {X : Cx} {W : WX} {rc : Ra γ} {R : Hp → Hp → List V → δ → Prop} {R' : Hp → Hp → List V → ε → Prop} {ks : List Str}
end
section
variable {α β γ : Type} {X : Cx} {I0 H0 : Hp} {W : WX} {ctx : List (Option SF)} {mem : List MF} {a b : Expr} {pos : Pos} {ra : Ra α} {rb : Ra β} {rc : Ra γ} {ma : Res α} {mb : Res β}
end
section
variable {α β γ : Type}
end
section
variable {β γ δ : Type} {P : Program} {w : World} {K : PySem.W.Frag} {mg : Str → Option Value} {base : Heap} {f : Addr} {fd : FuncData} {ps : List Str} {k : Nat} {r : Ra γ} {R : Hp → Hp → List V → δ → Prop} {m m' : δ → Res γ} {CX : CXT}
theorem FnH.nice (F : FnH P w K mg base CX k f fd ps (spF K R m r)) (h : ∀ d, m' d = .stuck ∨ m' d = m d) : FnH P w K mg base CX k f fd ps (spF K R m' r) := by
  have go : ∀ {vs H Q E}, spF K R m' r vs H Q E → spF K R m r vs H Q E := by
    rintro vs H Q E ⟨I, d, sm, hR, post⟩
    rcases h d with e | e
    · rw [e] at post; exact post.elim
    · rw [e] at post; exact ⟨I, d, sm, hR, post⟩
  exact ⟨fun vs H Q E q => F.len vs H Q E (go q), fun A outer s H args us vs Q E p hr ho hp e0 bd rv q => F.run A outer s H args us vs Q E p hr ho hp e0 bd rv (go q)⟩
theorem FnLD.nice {C : Addr} {dvs : List V} (F : FnLD P w K mg base k f dvs (spI K C R m r)) (h : ∀ d, m' d = .stuck ∨ m' d = m d) : FnLD P w K mg base k f dvs (spI K C R m' r) := fun A outer s H us vs Q E p hr ho hp e0 rv q => by
  refine F A outer s H us vs Q E p hr ho hp e0 rv ?_
  obtain ⟨y, dx, ws, H0, I, d, e, n1, n2, n3, eH, sm, hR, post⟩ := q
  rcases h d with e' | e'
  · rw [e'] at post; exact post.elim
  · rw [e'] at post; exact ⟨y, dx, ws, H0, I, d, e, n1, n2, n3, eH, sm, hR, post⟩
end
section
variable {γ : Type} {X : Cx} {W : WX} {f : Addr} {k : Nat} {gb : Rat × Num × Unit → Res Bool}
end
end L2.Tr

namespace L2.Tr
open PySem PySem.Spec PyProof.Rows L2H
def lenS (x : Str) : Res Int := Res.guard (x.length ≤ sizeLine) (.ok (x.length : Int))
def strI (i : Int) : Str := toString i
def strM (i : Int) : Res Str := Res.guard (i.natAbs.log2 < 1920) (.ok (strI i))
def intS (x : Str) : Res Int := Res.guard (x.length ≤ 640) (match PySem.intText? x with
  | some n => .ok n
  | none => .stuck)
def slS (z : Str) (lo hi : Option Int) : Res Str := Res.guard (z.length ≤ sizeLine) (.ok (L2.cutS z lo hi))
def inSg (c z : Str) : Res Bool := Res.guard (c.cps.size = 1) (.ok (decide (c.cps.getD 0 0 ∈ z.cps.toList)))
section
variable {α β γ δ : Type} {X : Cx} {I0 H0 I H : Hp} {W : WX} {ctx : List (Option SF)} {mem : List MF} {e a b o : Expr} {es : List Expr} {pos p2 apos : Pos} {ra : Ra α} {σ : St} {Q : VK}
theorem cj_lenStr : CallJ X W (.builtin "len") (R1 (rp rStr)) (fun d => lenS d.1) (rp rInt) := fun I H σ Q vs x s a p => by
  obtain ⟨v, ws, rfl, h, rfl⟩ := a
  obtain ⟨g, p⟩ := post_guard p
  exact CallR.w call_len_str ⟨x.1, by rw [show v = _ from h], g, p I H _ (Fm.refl s) rfl⟩
theorem cj_strI : CallJ X W (.type "str") (R1 (rp rInt)) (fun d => strM d.1) (rp rStr) := fun I H σ Q vs x s a p => by
  obtain ⟨v, ws, rfl, h, rfl⟩ := a
  obtain ⟨g, p⟩ := post_guard p
  exact CallR.w call_str_int ⟨x.1, by rw [show v = _ from h], g, p I H _ (Fm.refl s) rfl⟩
theorem call_intS : CallR X (.type "int") (fun xs H Q => ∃ x n, xs = [.str x] ∧ PySem.intText? x = some n ∧ x.length ≤ 640 ∧ Q (.int n) H) := by
  intro pins s σ H xs us Q I r h
  obtain ⟨x, n, rfl, hn, hl, q⟩ := h
  obtain ⟨u, rfl, t, rfl⟩ := vals1 r
  exact PySem.W.KIN.call_text hn hl ⟨.int n, H, I.tok _, ⟨_, rfl⟩, q⟩
theorem cj_intS : CallJ X W (.type "int") (R1 (rp rStr)) (fun d => intS d.1) (rp rInt) := fun I H σ Q vs x s a p => by
  obtain ⟨v, ws, rfl, h, rfl⟩ := a
  obtain ⟨g, p⟩ := post_guard p
  cases hn : PySem.intText? x.1 with
  | none => rw [hn] at p; exact p.elim
  | some n =>
    rw [hn] at p
    exact CallR.w call_intS ⟨x.1, n, by rw [show v = _ from h], hn, g, p I H _ (Fm.refl s) rfl⟩
theorem sign1 {c : Str} (h : c.cps.size = 1) : c = ⟨#[c.cps.getD 0 0]⟩ := by
  obtain ⟨⟨l⟩⟩ := c
  match l, h with
  | [x], _ => rfl
theorem opj_inSg : OpJ X W (compareOp .In) (rp rStr) (rp rStr) inSg (rp rBl) := fun I H σ Q u v x y s hu hv p => by
  obtain ⟨g, p⟩ := post_guard p
  cases (show u = V.str x from hu)
  cases (show v = V.str y from hv)
  exact OpR.w op_in_sign ⟨x.cps.getD 0 0, y, by rw [← sign1 g], rfl, p I H _ (Fm.refl s) rfl⟩
theorem opj_ninSg : OpJ X W (compareOp .NotIn) (rp rStr) (rp rStr) (fun c z => (inSg c z).bind fun b => .ok (!b)) (rp rBl) := fun I H σ Q u v x y s hu hv p => by
  dsimp only at p
  by_cases g : x.cps.size = 1
  · rw [show inSg x y = .ok (decide (x.cps.getD 0 0 ∈ y.cps.toList)) from if_pos g] at p
    cases (show u = V.str x from hu)
    cases (show v = V.str y from hv)
    exact OpR.w op_notIn_sign ⟨x.cps.getD 0 0, y, by rw [← sign1 g], rfl, p I H _ (Fm.refl s) rfl⟩
  · rw [show inSg x y = .stuck from if_neg g] at p
    exact p.elim
theorem JE.slS {lo hi : Option Expr} {m : Res Str} {ml mh : Res (Option Int)} (ja : JE X I0 H0 W ctx mem a m (rp rStr)) (jl : JO X I0 H0 W ctx mem lo ml) (jh : JO X I0 H0 W ctx mem hi mh) :
    JE X I0 H0 W ctx mem (.Subscript a (.Slice lo hi Option.none p2) pos) (m.bind fun z => ml.bind fun x => mh.bind fun y => L2.Tr.slS z x y) (rp rStr) := fun I H σ Q st p => by
  obtain ⟨tl, pl, hl⟩ := jl.po
  obtain ⟨th, ph, hh⟩ := jh.po
  refine PE.w (pe_slice sl_str pe_W pl ph) (ja I H σ _ st ?_)
  cases m with
  | ok z =>
    intro I1 H1 u f1 r1
    cases (show u = V.str z from r1)
    refine hl I1 H1 σ _ (st.step f1) ?_
    cases ml with
    | ok x =>
      intro I2 H2 f2
      refine hh I2 H2 σ _ ((st.step f1).step f2) ?_
      cases mh with
      | ok y =>
        intro I3 H3 f3
        have p3 : PostE X.K (L2.Tr.slS z x y) (rp rStr) I3 H3 _ Q := PostE.up p (f1.trans (f2.trans f3))
        obtain ⟨g, p4⟩ := post_guard p3
        exact ⟨z, rfl, g, p4 I3 H3 _ (Fm.refl f3.ih) rfl⟩
      | err e => exact fun I' H' c d f z => p I' H' c d (f1.trans (f2.trans f)) ⟨(z.1.back f2.h).back f1.h, z.2⟩
      | stuck => exact p
    | err e => exact fun I' H' c d f z => p I' H' c d (f1.trans f) ⟨z.1.back f1.h, z.2⟩
    | stuck => exact p
  | err e => exact p
  | stuck => exact p
theorem cj_strO {k : Nat} {C f : Addr} {g : α × Unit → Res Str} (hm : OMet X.K C "__str__" f) (ia : InsR C ra) (hr : Room (k + 2) X.A) (tk : L2N.Takes X W) (F : FnR X.prog X.w X.K X.mg X.base (L2N.CX X.prog X.w) k f (spF X.K (R1 ra) g (rp rStr))) : CallJ X W (.type "str") (R1 ra) g (rp rStr) := fun I H σ Q vs x s h p pins sh us Iv r => by
  obtain ⟨v, ws, rfl, h1, rfl⟩ := h
  obtain ⟨au, dx, fs, rfl, hu⟩ := ia I H v x.1 s h1
  obtain rfl := Vals.ref1 r
  obtain ⟨od, J⟩ := insAt Iv hu
  refine PySem.W.kso_call (Nat.lt_of_succ_lt (hu_of (Room.in1 (k := k) (Room.in1 (k := k + 1) hr)))) Iv.kIn J hm.at_ hm.fn (thn (run_W2 (vs := [.ref au]) (Q := fun z H' => (∃ b, z = .str b) ∧ Q z H') F hr tk ⟨I, x, s, ⟨_, _, rfl, h1, rfl⟩, ?_⟩ Iv r) fun w s' ⟨z, H', I', rz, ⟨b, ez⟩, q⟩ => ?_)
  · revert p
    generalize g x = z
    intro p
    cases z with
    | ok y => exact fun I' H' v f r => ⟨⟨y, r⟩, p I' H' v f r⟩
    | err e => exact p
    | stuck => exact p
  · subst ez
    obtain ⟨t, rfl⟩ := (show ∃ t, w = Value.str b t from rz)
    exact ⟨.str b, H', I', ⟨_, rfl⟩, q⟩
def JFs (X : Cx) (I0 H0 : Hp) (W : WX) (ctx : List (Option SF)) (mem : List MF) (es : List Expr) (f : Str → Res Str) : Prop :=
  ∃ ts, PJ X es ts ∧ ∀ (I H : Hp) (σ : St) (Q : VK) (acc : Str), Stt I0 H0 ctx mem I H σ → PostE X.K (f acc) (rp rStr) I H (fun cls d H' => W cls d σ H') Q → tJs ts acc σ H (fun out H1 => Q (.str out) H1)
def glueS (acc y : Str) : Res Str := Res.guard ((acc ++ y).length ≤ sizeLine) (.ok (acc ++ y))
theorem JFs.nil : JFs X I0 H0 W ctx mem [] (fun acc => .ok acc) := ⟨[], .nil, fun I H σ Q acc st p => p I H _ (Fm.refl st.same) rfl⟩
theorem JFs.cons {m : Res Str} {f : Str → Res Str} (j : JE X I0 H0 W ctx mem e m (rp rStr)) (r : JFs X I0 H0 W ctx mem es f) : JFs X I0 H0 W ctx mem (e :: es) (fun acc => m.bind fun y => (glueS acc y).bind fun z => f z) := by
  obtain ⟨ts, hp, hr⟩ := r
  refine ⟨_ :: ts, .cons pe_W hp, fun I H σ Q acc st p => j I H σ _ st ?_⟩
  cases m with
  | ok y =>
    intro I1 H1 u f1 r1
    have p1 : PostE X.K ((glueS acc y).bind fun z => f z) (rp rStr) I1 H1 _ Q := PostE.up p f1
    unfold glueS Res.guard at p1
    by_cases g : (acc ++ y).length ≤ sizeLine
    · rw [if_pos g] at p1
      exact ⟨y, r1, g, hr I1 H1 σ Q _ (st.step f1) p1⟩
    · rw [if_neg g] at p1
      exact p1.elim
  | err e => exact p
  | stuck => exact p
theorem JE.joined {v1 v2 : Expr} {rest : List Expr} {f : Str → Res Str} (h : JFs X I0 H0 W ctx mem (v1 :: v2 :: rest) f) : JE X I0 H0 W ctx mem (.JoinedStr (v1 :: v2 :: rest) pos) (f Str.empty) (rp rStr) := fun I H σ Q st p => by
  obtain ⟨ts, hp, hr⟩ := h
  exact PE.w (pe_joined hp) (hr I H σ Q Str.empty st p)
theorem JE.fmtI {m : Res Int} (j : JE X I0 H0 W ctx mem e m (rp rInt)) : JE X I0 H0 W ctx mem (.FormattedValue e (-1) Option.none pos) (m.bind fun i => strM i) (rp rStr) := fun I H σ Q st p => by
  refine PE.w (pe_fmt pe_W) (j I H σ _ st ?_)
  cases m with
  | ok i =>
    intro I1 H1 u f1 r1
    have p1 : PostE X.K (strM i) (rp rStr) I1 H1 _ Q := PostE.up p f1
    obtain ⟨g, p2⟩ := post_guard p1
    exact .inr ⟨i, r1, g, p2 I1 H1 _ (Fm.refl f1.ih) rfl⟩
  | err e => exact p
  | stuck => exact p
def splitS (x y : Str) : Res (List Str) := Res.guard ((y.length == 0) = false ∧ x.length + 2 ≤ sizeLine) (.ok (Txt.split x y))
theorem JM.split {mo me : Res Str} (jo : JE X I0 H0 W ctx mem o mo (rp rStr)) (je : JE X I0 H0 W ctx mem e me (rp rStr))
    (hbase : attributeBase o "split" X.env (eval o X.env) = eval o X.env := by rfl)
    (hfew : ((backTo pos (starEach [e] X.env)).all (fun x => !x.1) && (backToKw pos (keywordEach [] X.env)).all (fun x => x.1.isSome)
      && decide (([e] : List Expr).length + ([] : List Keyword).length + (if ([] : List Keyword).isEmpty then 0 else 1) < 30)) = true := by rfl)
    (hline : (apos.endLine == pos.line) = true := by rfl)
    (hst : starEach [e] X.env = (false, eval e X.env) :: starEach [] X.env := by rfl) (hpl : (backTo pos (starEach [] X.env)).any (·.1) = false := by rfl) :
    JM X I0 H0 W ctx mem (.Call (.Attribute o "split" apos) [e] [] pos) (mo.bind fun x => me.bind fun y => splitS x y) rStr := fun I H σ Q st p => by
  refine PE.w (pe_bm PySem.F.plainAttrs_str PySem.F.slot_str_split PySem.F.type_str_split mt_split pe_W pa_W hbase hfew hline hst hpl) (jo I H σ _ st ?_)
  cases mo with
  | ok x =>
    intro I1 H1 u f1 r1
    cases (show u = V.str x from r1)
    refine ⟨(show tyV X.K "str" (.str x) H1 from rfl), ?_⟩
    refine Tr.w_cons (je I1 H1 σ _ (st.step f1) ?_) hst
    cases me with
    | ok y =>
      intro I2 H2 w f2 r2
      refine w_nil ?_
      cases (show w = V.str y from r2)
      by_cases g : (y.length == 0) = false ∧ x.length + 2 ≤ sizeLine
      · have e1 : ((Res.ok x).bind fun x => (Res.ok y).bind fun y => splitS x y) = .ok (Txt.split x y) := if_pos g
        rw [e1] at p
        exact ⟨x, y, rfl, rfl, g.1, g.2, fun q hq => mpost p (f1.trans f2) hq (paired_map_str (H := H2) _)⟩
      · have e1 : ((Res.ok x).bind fun x => (Res.ok y).bind fun y => splitS x y) = .stuck := if_neg g
        rw [e1] at p
        exact p.elim
    | err e => exact fun I2 H2 c d f2 x => p I2 H2 c d (f1.trans f2) ⟨x.1.back f1.h, x.2⟩
    | stuck => exact p
  | err e => exact p
  | stuck => exact p
def repS0 (x : Str) (n : Int) : Res Str := Res.guard (-1000000 ≤ n) (if n < 1 then .ok Str.empty else repS x n)
theorem opj_mulS0 : OpJ X W (binaryOp .Mult) (rp rStr) (rp rInt) repS0 (rp rStr) := fun I H σ Q u v x y s hu hv p => by
  obtain ⟨g, p⟩ := post_guard p
  by_cases c : y < 1
  · rw [if_pos c] at p
    cases (show u = V.str x from hu)
    cases (show v = V.int y from hv)
    intro pins sh a b Iv ra rb
    obtain ⟨t, rfl⟩ := ra
    obtain ⟨t', rfl⟩ := rb
    exact PySem.P.mul_str_none c (by omega) ⟨.str Str.empty, H, Iv.tok _, ⟨_, rfl⟩, p I H _ (Fm.refl s) rfl⟩
  · rw [if_neg c] at p
    exact opj_mulS I H σ Q u v x y s hu hv p
theorem JE.gInt {n : Str} {i : Int} (hm : ∃ t, X.mg n = Option.some (.int i t)) (hg : Gl X n := by rfl) (hd : (n == ("__debug__" : Str)) = false := by decide) : JE X I0 H0 W ctx mem (.Name n pos) (.ok i) (rp rInt) := fun I H σ Q st p => by
  obtain ⟨t, hm⟩ := hm
  exact w_glob (v := .int i) (p I H _ (Fm.refl st.same) rfl) hm ⟨t, rfl⟩ hg hd
theorem JE.gStr {n z : Str} (hm : ∃ t, X.mg n = Option.some (.str z t)) (hg : Gl X n := by rfl) (hd : (n == ("__debug__" : Str)) = false := by decide) : JE X I0 H0 W ctx mem (.Name n pos) (.ok z) (rp rStr) := fun I H σ Q st p => by
  obtain ⟨t, hm⟩ := hm
  exact w_glob (v := .str z) (p I H _ (Fm.refl st.same) rfl) hm ⟨t, rfl⟩ hg hd
end
section
variable {K : PySem.W.Frag} {mg : Str → Option Value} {h : Heap}
def fInt (x : Str) (i : Int) : FB := fun K => (He.Fa.int x i).ok K
def fStr (x z : Str) : FB := fun K => (He.Fa.str x z).ok K
theorem int_of (X : K.In h) (G : h.Ns mainGlobals mg) {x : Str} {i : Int} (c : fInt x i K = true) : ∃ t, mg x = some (.int i t) := He.int_ok X G c
theorem str_of (X : K.In h) (G : h.Ns mainGlobals mg) {x z : Str} (c : fStr x z K = true) : ∃ t, mg x = some (.str z t) := He.str_ok X G c
end
end L2.Tr

namespace L2.Tr
def qf (r : Nat → Rat) (n : Nat) (p : Nat → Rat) : Rat := smQ (fun i => smQ (fun j => p i * p j * r (i + j)) n) n
structure HM (r : Nat → Rat) : Prop where
  h0 : ∀ n p, 0 ≤ qf r n p
  h1 : ∀ n p, 0 ≤ qf (fun k => r (k + 1)) n p
  h2 : ∀ n p, 0 ≤ qf (fun k => r k - r (k + 1)) n p
  h3 : ∀ n p, 0 ≤ qf (fun k => r (k + 1) - r (k + 2)) n p
end L2.Tr

namespace L2.Tr
def dn (n : Nat) (w : Nat → Nat → Rat) (U : Nat → Rat) (x : Nat → Rat) (c : Nat) : Rat := smQ (fun i => w i c * x i) n / U c
structure RW (R C : Nat) (w : Nat → Nat → Rat) (T U : Nat → Rat) : Prop where
  w0 : ∀ i c, i < R → c < C → 0 ≤ w i c
  T0 : ∀ i, i < R → 0 < T i
  U0 : ∀ c, c < C → 0 < U c
  hT : ∀ i, i < R → smQ (w i) C ≤ T i
  hU : ∀ c, c < C → smQ (fun i => w i c) R ≤ U c
def tr (w : Nat → Nat → Rat) : Nat → Nat → Rat := fun i c => w c i
section
variable {R C : Nat} {w : Nat → Nat → Rat} {T U : Nat → Rat}
def both (R C : Nat) (w : Nat → Nat → Rat) (T U : Nat → Rat) (x : Nat → Rat) : Nat → Rat := dn C (tr w) T (dn R w U x)
def pw (R C : Nat) (w : Nat → Nat → Rat) (T U : Nat → Rat) (e : Nat → Rat) : Nat → Nat → Rat
  | 0 => e
  | k + 1 => both R C w T U (pw R C w T U e k)
end
end L2.Tr

namespace L2.Tr
open PySem PySem.Spec PyProof.Rows
def top (i : Nat) : Stmt := PySem.Challenge.pw_tracerline_k04_fraction_texts.main.body.getD i (.Pass ⟨0, 0, 0, 0⟩)
abbrev s_law_cell : Stmt := top 13
abbrev s_common_divisor : Stmt := top 8
abbrev s_Fraction_init : Stmt := inClass (top 9) 0
abbrev s_Fraction_str : Stmt := inClass (top 9) 15
abbrev s_law_divisor : Stmt := top 14
abbrev s_law_text : Stmt := top 15
abbrev s_BadText_init : Stmt := inClass (top 4) 0
abbrev s_numeral_end : Stmt := top 10
abbrev s_read_fraction : Stmt := top 11
abbrev s_law_numeral : Stmt := top 16
abbrev s_law_column : Stmt := top 19
abbrev s_law_read : Stmt := top 20
abbrev s_law_char : Stmt := top 17
abbrev s_law_spoiled : Stmt := top 18
abbrev s_law : Stmt := top 21
structure Txt (P : Program) (w : World) (K : PySem.W.Frag) (mg : Str → Option Value) : Prop where
  g_law_cell : mg "_law_cell" = some (.ref (He.ga K "_law_cell"))
  k_law_cell : PySem.W.keepIn K (.ref (He.ga K "_law_cell")) = true
  n_int : mg "int" = none
  g_Fraction : mg "Fraction" = some (.ref (He.ga K "Fraction"))
  mk_Fraction : Mk K (He.ga K "Fraction") (He.ma K (He.ga K "Fraction") "__init__")
  om_Fraction_str : OMet K (He.ga K "Fraction") "__str__" (He.ma K (He.ga K "Fraction") "__str__")
  n_str : mg "str" = none
  g_law_text : mg "_law_text" = some (.ref (He.ga K "_law_text"))
  k_law_text : PySem.W.keepIn K (.ref (He.ga K "_law_text")) = true
  g_read_fraction : mg "read_fraction" = some (.ref (He.ga K "read_fraction"))
  k_read_fraction : PySem.W.keepIn K (.ref (He.ga K "read_fraction")) = true
  o_Fraction : OCls K (He.ga K "Fraction")
  na_Fraction_top : NoAttr K (He.ga K "Fraction") "top"
  na_Fraction_bottom : NoAttr K (He.ga K "Fraction") "bottom"
  g_law_numeral : mg "_law_numeral" = some (.ref (He.ga K "_law_numeral"))
  k_law_numeral : PySem.W.keepIn K (.ref (He.ga K "_law_numeral")) = true
  g_law_read : mg "_law_read" = some (.ref (He.ga K "_law_read"))
  k_law_read : PySem.W.keepIn K (.ref (He.ga K "_law_read")) = true
  g_law_spoiled : mg "_law_spoiled" = some (.ref (He.ga K "_law_spoiled"))
  k_law_spoiled : PySem.W.keepIn K (.ref (He.ga K "_law_spoiled")) = true
  n_len : mg "len" = none
  F_law_cell : ∃ fd, FunD K "_law_cell" "_law_cell" (defArgs s_law_cell) (defBody s_law_cell) (defScope s_law_cell) [] [] (He.ga K "_law_cell") fd
  n_abs : mg "abs" = none
  F_common_divisor : ∃ fd, FunD K "common_divisor" "common_divisor" (defArgs s_common_divisor) (defBody s_common_divisor) (defScope s_common_divisor) [] [] (He.ga K "common_divisor") fd
  F_Fraction_str : ∃ fd, FunD K "__str__" "Fraction.__str__" (defArgs s_Fraction_str) (defBody s_Fraction_str) (defScope s_Fraction_str) [] [] (He.ma K (He.ga K "Fraction") "__str__") fd
  g_law_divisor : mg "_law_divisor" = some (.ref (He.ga K "_law_divisor"))
  k_law_divisor : PySem.W.keepIn K (.ref (He.ga K "_law_divisor")) = true
  F_law_divisor : ∃ fd, FunD K "_law_divisor" "_law_divisor" (defArgs s_law_divisor) (defBody s_law_divisor) (defScope s_law_divisor) [] [] (He.ga K "_law_divisor") fd
  F_law_text : ∃ fd, FunD K "_law_text" "_law_text" (defArgs s_law_text) (defBody s_law_text) (defScope s_law_text) [] [] (He.ga K "_law_text") fd
  g_numeral_end : mg "numeral_end" = some (.ref (He.ga K "numeral_end"))
  k_numeral_end : PySem.W.keepIn K (.ref (He.ga K "numeral_end")) = true
  gs_DIGITS : ∃ t, mg "DIGITS" = some (.str ("0123456789" : Str) t)
  gi_MOST_DIGITS : ∃ t, mg "MOST_DIGITS" = some (.int (60) t)
  F_BadText_init : ∃ fd, FunD K "__init__" "BadText.__init__" (defArgs s_BadText_init) (defBody s_BadText_init) (defScope s_BadText_init) [] [] (He.ma K (He.ga K "BadText") "__init__") fd
  ev_BadText : ExcV K mg "BadText" ["line", "column"]
  F_numeral_end : ∃ fd, FunD K "numeral_end" "numeral_end" (defArgs s_numeral_end) (defBody s_numeral_end) (defScope s_numeral_end) [] [("positive", .bl false)] (He.ga K "numeral_end") fd
  F_read_fraction : ∃ fd, FunD K "read_fraction" "read_fraction" (defArgs s_read_fraction) (defBody s_read_fraction) (defScope s_read_fraction) [] [] (He.ga K "read_fraction") fd
  F_law_numeral : ∃ fd, FunD K "_law_numeral" "_law_numeral" (defArgs s_law_numeral) (defBody s_law_numeral) (defScope s_law_numeral) [] [] (He.ga K "_law_numeral") fd
  g_law_column : mg "_law_column" = some (.ref (He.ga K "_law_column"))
  k_law_column : PySem.W.keepIn K (.ref (He.ga K "_law_column")) = true
  g_TracerError : mg "TracerError" = some (.ref (He.ga K "TracerError"))
  kt_BadText_TracerError : PySem.W.kitOne K (.ref (He.ga K "BadText")) (.ref (He.ga K "TracerError")) = some true
  xc_BadText : ExcC K (He.ga K "BadText")
  n_isinstance : mg "isinstance" = none
  xm_BadText_BadText : PySem.W.exmOne K (.ref (He.ga K "BadText")) (.ref (He.ga K "BadText")) = some true
  g_BadText : mg "BadText" = some (.ref (He.ga K "BadText"))
  kt_Fraction_Fraction : PySem.W.kitOne K (.ref (He.ga K "Fraction")) (.ref (He.ga K "Fraction")) = some true
  n_range : mg "range" = none
  F_law_column : ∃ fd, FunD K "_law_column" "_law_column" (defArgs s_law_column) (defBody s_law_column) (defScope s_law_column) [] [] (He.ga K "_law_column") fd
  F_law_read : ∃ fd, FunD K "_law_read" "_law_read" (defArgs s_law_read) (defBody s_law_read) (defScope s_law_read) [] [] (He.ga K "_law_read") fd
  g_law_char : mg "_law_char" = some (.ref (He.ga K "_law_char"))
  k_law_char : PySem.W.keepIn K (.ref (He.ga K "_law_char")) = true
  F_law_char : ∃ fd, FunD K "_law_char" "_law_char" (defArgs s_law_char) (defBody s_law_char) (defScope s_law_char) [] [] (He.ga K "_law_char") fd
  F_law_spoiled : ∃ fd, FunD K "_law_spoiled" "_law_spoiled" (defArgs s_law_spoiled) (defBody s_law_spoiled) (defScope s_law_spoiled) [] [] (He.ga K "_law_spoiled") fd
  F_law : ∃ fd, FunD K "law" "law" (defArgs s_law) (defBody s_law) (defScope s_law) [] [] (He.ga K "law") fd
  g_law : mg "law" = some (.ref (He.ga K "law"))
  F_Fraction_init : ∃ fd, FunD K "__init__" "Fraction.__init__" (defArgs s_Fraction_init) (defBody s_Fraction_init) (defScope s_Fraction_init) [.int 1] [] (He.ma K (He.ga K "Fraction") "__init__") fd
  seer : fSeer K = true
  ex_BadFraction : ExcP K mg "BadFraction"
  g_common_divisor : mg "common_divisor" = some (.ref (He.ga K "common_divisor"))
  k_common_divisor : PySem.W.keepIn K (.ref (He.ga K "common_divisor")) = true
  tree : P.given.tree = none
section
open He
def fs : List FB := [fGlo "_law_cell", fKeep "_law_cell", fFree "int", fGlo "Fraction", fMkr "Fraction", fOMet "Fraction" "__str__", fFree "str", fGlo "_law_text", fKeep "_law_text", fGlo "read_fraction", fKeep "read_fraction", fOcl "Fraction", fNoat "Fraction" "top", fNoat "Fraction" "bottom", fGlo "_law_numeral", fKeep "_law_numeral", fGlo "_law_read", fKeep "_law_read", fGlo "_law_spoiled", fKeep "_law_spoiled", fFree "len", fFree "abs", fGlo "_law_divisor", fKeep "_law_divisor", fGlo "numeral_end", fKeep "numeral_end", fStr "DIGITS" "0123456789", fInt "MOST_DIGITS" (60), fExcV "BadText" ["line", "column"], fGlo "_law_column", fKeep "_law_column", fGlo "TracerError", fKit "BadText" "TracerError" true, fExcC "BadText", fFree "isinstance", fExm "BadText" "BadText" true, fGlo "BadText", fKit "Fraction" "Fraction" true, fFree "range", fGlo "_law_char", fKeep "_law_char", fGlo "law", fSeer, fExc "BadFraction", fGlo "common_divisor", fKeep "common_divisor"]
def fnl : List DX := [⟨fun K => (He.ga K "_law_cell"), "_law_cell", "_law_cell", defArgs s_law_cell, defBody s_law_cell, defScope s_law_cell, [], []⟩,
  ⟨fun K => (He.ga K "common_divisor"), "common_divisor", "common_divisor", defArgs s_common_divisor, defBody s_common_divisor, defScope s_common_divisor, [], []⟩,
  ⟨fun K => (He.ma K (He.ga K "Fraction") "__str__"), "__str__", "Fraction.__str__", defArgs s_Fraction_str, defBody s_Fraction_str, defScope s_Fraction_str, [], []⟩,
  ⟨fun K => (He.ga K "_law_divisor"), "_law_divisor", "_law_divisor", defArgs s_law_divisor, defBody s_law_divisor, defScope s_law_divisor, [], []⟩,
  ⟨fun K => (He.ga K "_law_text"), "_law_text", "_law_text", defArgs s_law_text, defBody s_law_text, defScope s_law_text, [], []⟩,
  ⟨fun K => (He.ma K (He.ga K "BadText") "__init__"), "__init__", "BadText.__init__", defArgs s_BadText_init, defBody s_BadText_init, defScope s_BadText_init, [], []⟩,
  ⟨fun K => (He.ga K "numeral_end"), "numeral_end", "numeral_end", defArgs s_numeral_end, defBody s_numeral_end, defScope s_numeral_end, [], [("positive", .bl false)]⟩,
  ⟨fun K => (He.ga K "read_fraction"), "read_fraction", "read_fraction", defArgs s_read_fraction, defBody s_read_fraction, defScope s_read_fraction, [], []⟩,
  ⟨fun K => (He.ga K "_law_numeral"), "_law_numeral", "_law_numeral", defArgs s_law_numeral, defBody s_law_numeral, defScope s_law_numeral, [], []⟩,
  ⟨fun K => (He.ga K "_law_column"), "_law_column", "_law_column", defArgs s_law_column, defBody s_law_column, defScope s_law_column, [], []⟩,
  ⟨fun K => (He.ga K "_law_read"), "_law_read", "_law_read", defArgs s_law_read, defBody s_law_read, defScope s_law_read, [], []⟩,
  ⟨fun K => (He.ga K "_law_char"), "_law_char", "_law_char", defArgs s_law_char, defBody s_law_char, defScope s_law_char, [], []⟩,
  ⟨fun K => (He.ga K "_law_spoiled"), "_law_spoiled", "_law_spoiled", defArgs s_law_spoiled, defBody s_law_spoiled, defScope s_law_spoiled, [], []⟩,
  ⟨fun K => (He.ga K "law"), "law", "law", defArgs s_law, defBody s_law, defScope s_law, [], []⟩,
  ⟨fun K => (He.ma K (He.ga K "Fraction") "__init__"), "__init__", "Fraction.__init__", defArgs s_Fraction_init, defBody s_Fraction_init, defScope s_Fraction_init, [.int 1], []⟩]
def tbs : List He.Tab := []
abbrev RR : PySem.W.OpenRow := PySem.W.OpenLaw.row PySem.Challenge.rw_tracerline_k04_fraction_texts
abbrev hk : PySem.W.Hook := hookA [2, 1, 3, 4, 31, 44, 63, 72, 202, 214, 221, 228, 235, 242, 249, 256, 263, 270, 277, 284, 30, 43, 62, 71, 201, 213, 207, 220, 227, 234, 241, 248, 255, 262, 269, 276, 283, 60, 87, 192, 59, 86, 80, 191] fs fnl tbs
def ob (s : PySem.W.SharedT) : AlZ := obsZ fs fnl tbs (frG (HandSHeadRun.getT s) [2, 1, 3, 4, 31, 44, 63, 72, 202, 214, 221, 228, 235, 242, 249, 256, 263, 270, 277, 284, 30, 43, 62, 71, 201, 213, 207, 220, 227, 234, 241, 248, 255, 262, 269, 276, 283, 60, 87, 192, 59, 86, 80, 191])
theorem ob_eq (s : PySem.W.SharedT) : ob s = hk.obs s.abs := obsA_eq (HandSHeadRun.getT_eq s)
def names : List PySem.Str := ((["_wall", "__name__", "TracerError", "BadFraction", "BadText", "DIGITS", "MOST_DIGITS", "common_divisor", "Fraction", "numeral_end", "read_fraction", "_law_cell", "_law_divisor", "_law_text", "_law_numeral", "_law_char", "_law_spoiled", "_law_column", "_law_read"] : List PySem.Str))
set_option maxHeartbeats 0 in
theorem run (w : World) : HandSHeadRun.RunEq RR (PySem.W.view RR.prog [21]) hk ob 20000 names w := by
  intro os
  kernel_rfl
end
theorem sc_law_cell : FnScope ["_law_script", "_law_k"] ["_law_script", "_law_k"] (defScope s_law_cell) := ⟨rfl, rfl, rfl, by decide +kernel, rfl, by decide +kernel, by decide +kernel⟩
def m_law_cell (p_script : (List Int)) (p_k : Int) : Res Int :=
  (((Res.ok p_k).bind fun a192 => (((Res.ok p_script).bind fun a190 => (Res.ok ()).bind fun b191 => .ok (a190, b191)).bind (fun d => .ok (d.1.length : Int))).bind fun b193 => .ok (decide (a192 < b193))).bind fun x194 => if x194 = true then ((Res.ok p_script).bind fun a195 => (Res.ok p_k).bind fun b196 => atM a195 b196) else (Res.ok (0 : Int)))
abbrev C_law_cell (P : Program) (w : World) (K : PySem.W.Frag) (mg : Str → Option Value) (base : Heap) : Prop := FnR P w K mg base (L2N.CX P w) 1 (He.ga K "_law_cell") (spF K (aCons (rdL K (rp rInt)) (aCons (rp rInt) aNil)) (fun d => m_law_cell d.1 d.2.1) (rp rInt))
theorem ok_law_cell {P : Program} {w : World} {K : PySem.W.Frag} {mg : Str → Option Value} {base : Heap} (T : Txt P w K mg) {fd : FuncData} (F : FunD K "_law_cell" "_law_cell" (defArgs s_law_cell) (defBody s_law_cell) (defScope s_law_cell) [] [] (He.ga K "_law_cell") fd) : FnOk P w K mg base (L2N.CX P w) 1 (He.ga K "_law_cell") fd ["_law_script", "_law_k"] (spF K (aCons (rdL K (rp rInt)) (aCons (rp rInt) aNil)) (fun d => m_law_cell d.1 d.2.1) (rp rInt)) := by
  refine FunD.fn (k := 0) (N := ["_law_script", "_law_k"]) (ps := ["_law_script", "_law_k"]) F sc_law_cell (fun I H vs d h => ?_) (fun cdv A outer s I0 H0 E vs d hr sm h => ?_)
  · obtain ⟨v0, _, rfl, h0, v1, _, rfl, h1, rfl⟩ := h; rfl
  obtain ⟨v0, _, rfl, h0, v1, _, rfl, h1, rfl⟩ := h
  have hx : ∀ {ctx : List (Option SF)} {mem : List MF} (I H : Hp) (σ : St) (d : Option Addr), Stt I0 H0 ctx mem I H σ → Fr H0 d → bK I0 H0 I H σ d := fun _ _ _ _ s f => ⟨s.fm, f⟩
  have tk : L2N.Takes (bx P w K mg base ["_law_script", "_law_k"] "_law_cell" (defScope s_law_cell) (He.ga K "_law_cell") cdv A outer s H0 E) (bW E) := L2N.takes_of rfl rfl rfl rfl
  obtain ⟨p_script, p_k, _⟩ := d
  exact ⟨Stt I0 H0 [some (SF.mk (fun I v x => (rdL K (rp rInt)) I H0 v x) p_script), some (SF.mk rInt p_k)] [], Stt.start sm ⟨h0, h1, ini_nil rfl⟩ rfl (by simp), (JR.ifR (JT.cmp (JE.var 1) (JE.callB (JA.cons (JE.varP 0 (r := (rdL K (rp rInt)))) JA.nil) cj_len T.n_len boot_len) opj_lt) (JR.ret (JE.ix (JE.varP 0 (r := (rdL K (rp rInt)))) (JE.var 1)) hx) (JR.ret JE.int hx) hx)⟩
theorem fn_law_cell {P : Program} {w : World} {K : PySem.W.Frag} {mg : Str → Option Value} {base : Heap} (T : Txt P w K mg) : FnR P w K mg base (L2N.CX P w) 1 (He.ga K "_law_cell") (spF K (aCons (rdL K (rp rInt)) (aCons (rp rInt) aNil)) (fun d => m_law_cell d.1 d.2.1) (rp rInt)) := by
  obtain ⟨fd, F⟩ := T.F_law_cell
  exact FnOk.fr0 (ok_law_cell T F) (F.bindsN fun _ _ _ _ _ _ us hl => match us, hl with | [_, _], _ => rfl)
theorem sc_common_divisor : FnScope ["first", "second"] ["first", "second"] (defScope s_common_divisor) := ⟨rfl, rfl, rfl, by decide +kernel, rfl, by decide +kernel, by decide +kernel⟩
def m_common_divisor (p_first : Int) (p_second : Int) : Res Int :=
  ((((Res.ok p_first).bind fun a200 => (Res.ok ()).bind fun b201 => .ok (a200, b201)).bind (fun d => .ok (if d.1 < 0 then -d.1 else d.1))).bind fun v199 => ((((Res.ok p_second).bind fun a203 => (Res.ok ()).bind fun b204 => .ok (a203, b204)).bind (fun d => .ok (if d.1 < 0 then -d.1 else d.1))).bind fun v202 => ((whileM (fun s205 : (Int × Int) => ((Res.ok s205.2).bind fun a206 => (Res.ok (0 : Int)).bind fun b207 => .ok (!decide (a206 = b207)))) (fun s205 => (((Res.ok s205.2).bind fun a211 => ((Res.ok s205.1).bind fun a209 => (Res.ok s205.2).bind fun b210 => modI a209 b210).bind fun b212 => .ok (a211, b212)).bind fun v208 => (Res.ok (v208.1, v208.2)))) ((v202).toNat + 1) (v199, v202)).bind fun s205 => (Res.ok s205.1))))
abbrev C_common_divisor (P : Program) (w : World) (K : PySem.W.Frag) (mg : Str → Option Value) (base : Heap) : Prop := FnR P w K mg base (L2N.CX P w) 1 (He.ga K "common_divisor") (spF K (aCons (rp rInt) (aCons (rp rInt) aNil)) (fun d => n_cd d.1 d.2.1) (rp rInt))
theorem ok_common_divisor {P : Program} {w : World} {K : PySem.W.Frag} {mg : Str → Option Value} {base : Heap} (T : Txt P w K mg) {fd : FuncData} (F : FunD K "common_divisor" "common_divisor" (defArgs s_common_divisor) (defBody s_common_divisor) (defScope s_common_divisor) [] [] (He.ga K "common_divisor") fd) : FnOk P w K mg base (L2N.CX P w) 1 (He.ga K "common_divisor") fd ["first", "second"] (spF K (aCons (rp rInt) (aCons (rp rInt) aNil)) (fun d => m_common_divisor d.1 d.2.1) (rp rInt)) := by
  refine FunD.fn (k := 0) (N := ["first", "second"]) (ps := ["first", "second"]) F sc_common_divisor (fun I H vs d h => ?_) (fun cdv A outer s I0 H0 E vs d hr sm h => ?_)
  · obtain ⟨v0, _, rfl, h0, v1, _, rfl, h1, rfl⟩ := h; rfl
  obtain ⟨v0, _, rfl, h0, v1, _, rfl, h1, rfl⟩ := h
  have hx : ∀ {ctx : List (Option SF)} {mem : List MF} (I H : Hp) (σ : St) (d : Option Addr), Stt I0 H0 ctx mem I H σ → Fr H0 d → bK I0 H0 I H σ d := fun _ _ _ _ s f => ⟨s.fm, f⟩
  have tk : L2N.Takes (bx P w K mg base ["first", "second"] "common_divisor" (defScope s_common_divisor) (He.ga K "common_divisor") cdv A outer s H0 E) (bW E) := L2N.takes_of rfl rfl rfl rfl
  have hp : PsO9 P w (bx P w K mg base ["first", "second"] "common_divisor" (defScope s_common_divisor) (He.ga K "common_divisor") cdv A outer s H0 E) := passes_of rfl
  obtain ⟨p_first, p_second, _⟩ := d
  exact ⟨Stt I0 H0 [some (SF.mk rInt p_first), some (SF.mk rInt p_second)] [], Stt.start sm ⟨h0, h1, ini_nil rfl⟩ rfl (by simp), (JR.seq (J1.cx (c' := fun v199 => [some (SF.mk rInt v199), some (SF.mk rInt p_second)]) (J1.set 0 (JE.callB (JA.cons (JE.var 0) JA.nil) cj_abs T.n_abs boot_abs) hx sc_common_divisor.nd)) fun v199 => (JR.seq (J1.cx (c' := fun v202 => [some (SF.mk rInt v199), some (SF.mk rInt v202)]) (J1.set 1 (JE.callB (JA.cons (JE.var 1) JA.nil) cj_abs T.n_abs boot_abs) hx sc_common_divisor.nd)) fun v202 => (JR.seq (J1.while (S := (Int × Int)) (cx := fun s205 => [some (SF.mk rInt s205.1), some (SF.mk rInt s205.2)]) (me := fun s205 => []) (s0 := (v199, v202)) (fuel := (v202).toNat + 1) hp (fun s205 => (JT.cmp (JE.var 1) JE.int opj_ne)) (fun s205 => (JN.seq (J1.cx (c' := fun v208 => [some (SF.mk rInt v208.1), some (SF.mk rInt v208.2)]) (J1.par 0 1 (JE.var 1) (JE.bin (JE.var 0) (JE.var 1) opj_mod) hx sc_common_divisor.nd)) fun v208 => (JN.nil (fun _ _ _ h => h)))) fun _ => hx) fun s205 => (JR.ret (JE.var 0) hx))))⟩
theorem fn_common_divisor {P : Program} {w : World} {K : PySem.W.Frag} {mg : Str → Option Value} {base : Heap} (T : Txt P w K mg) : FnR P w K mg base (L2N.CX P w) 1 (He.ga K "common_divisor") (spF K (aCons (rp rInt) (aCons (rp rInt) aNil)) (fun d => m_common_divisor d.1 d.2.1) (rp rInt)) := by
  obtain ⟨fd, F⟩ := T.F_common_divisor
  exact FnOk.fr0 (ok_common_divisor T F) (F.bindsN fun _ _ _ _ _ _ us hl => match us, hl with | [_, _], _ => rfl)
theorem nice_common_divisor : ∀ d : Int × Int × Unit, n_cd d.1 d.2.1 = .stuck ∨ n_cd d.1 d.2.1 = m_common_divisor d.1 d.2.1 := fun ⟨a, b, _⟩ => by
  right
  show Res.ok _ = m_common_divisor a b
  have e : m_common_divisor a b = (whileM _ _ ((absI b).toNat + 1) (absI a, absI b)).bind fun s => .ok s.1 := rfl
  rw [e, absI_eq a, absI_eq b]
  simp only [Res.ok_bind]
  rw [cd_loop (fun s => rfl) (fun s h => by simp only [Res.ok_bind, modI_ok h]) _ _ _ (by omega)]
  simp only [Res.ok_bind, Int.gcd, Nat.gcd_comm b.natAbs]
theorem sc_Fraction_init : FnScope ["self", "top", "bottom", "divisor"] ["self", "top", "bottom"] (defScope s_Fraction_init) := ⟨rfl, rfl, rfl, by decide +kernel, rfl, by decide +kernel, by decide +kernel⟩
def mi_Fraction (top bottom : Int) : Res (Int × Int) :=
  (((Res.ok bottom).bind fun a => (Res.ok (0 : Int)).bind fun b => .ok (decide (a = b))).bind fun x => if x = true then (Res.err eBF : Res Unit) else .ok ()).bind fun _ =>
  (((Res.ok top).bind fun a => ((Res.ok bottom).bind fun b => (Res.ok ()).bind fun c => .ok (b, c)).bind fun d => .ok (a, d)).bind fun d => n_cd d.1 d.2.1).bind fun dv =>
  (((Res.ok bottom).bind fun a => (Res.ok (0 : Int)).bind fun b => .ok (decide (a < b))).bind fun x => if x = true then ((Res.ok dv).bind fun a => .ok (-a)).bind fun v => (Res.ok v) else .ok dv).bind fun s =>
  ((Res.ok top).bind fun a => (Res.ok s).bind fun b => fdivB a b).bind fun x =>
  ((Res.ok bottom).bind fun a => (Res.ok s).bind fun b => fdivB a b).bind fun y => .ok (x, y)
theorem mi_Fraction_eq (t b : Int) : mi_Fraction t b = (qRaw t b).bind fun q => .ok (q.num, (q.den : Int)) := by
  unfold mi_Fraction qRaw
  simp only [Res.ok_bind, n_cd]
  by_cases hb : b = 0
  · simp [hb]
  · simp only [hb, decide_false, Bool.false_eq_true, if_false, Res.ok_bind]
    have key : ∀ dv : Int, dv = (if b < 0 then -(Int.gcd t b : Int) else (Int.gcd t b : Int)) → (fdivB t dv).bind (fun x => (fdivB b dv).bind fun y => .ok (x, y)) = (Res.ok (Rat.divInt t b)).bind fun q => .ok (q.num, (q.den : Int)) := fun dv hd => by
      obtain ⟨e1, e2⟩ := div_num hb dv hd
      have hg : Int.gcd t b ≠ 0 := fun h => hb (Int.gcd_eq_zero_iff.mp h).2
      have nz : dv ≠ 0 := by rw [hd]; split <;> omega
      unfold fdivB
      rw [Res.guard_pos nz, Res.guard_pos nz, e1, e2]; rfl
    by_cases hlt : b < 0
    · simp only [hlt, decide_true, if_true, Res.ok_bind]
      exact key _ (by rw [if_pos hlt])
    · simp only [hlt, decide_false, Bool.false_eq_true, if_false, Res.ok_bind]
      exact key _ (by rw [if_neg hlt])
theorem in_Fraction {P : Program} {w : World} {K : PySem.W.Frag} {mg : Str → Option Value} {base : Heap} (T : Txt P w K mg) (c_common_divisor : C_common_divisor P w K mg base) {fd : FuncData} (F : FunD K "__init__" "Fraction.__init__" (defArgs s_Fraction_init) (defBody s_Fraction_init) (defScope s_Fraction_init) [.int 1] [] (He.ma K (He.ga K "Fraction") "__init__") fd) :
    FnOk P w K mg base (L2N.CX P w) 36 (He.ma K (He.ga K "Fraction") "__init__") fd ["self", "top", "bottom"] (spI K (He.ga K "Fraction") (aCons (rp rInt) (aCons (rp rInt) aNil)) (fun d => qRaw d.1 d.2.1) (rp (rFrac K))) := by
  refine FunD.init (k := 35) (N := ["self", "top", "bottom", "divisor"]) (S := Int × Int) F sc_Fraction_init (fun I H vs d h => ?_) (fun cdv A outer s I0 H0 H1 E vs d y dx hr sm h n1 n2 n3 eH => ?_)
  · obtain ⟨v0, _, rfl, h0, v1, _, rfl, h1, rfl⟩ := h; rfl
  obtain ⟨v0, _, rfl, h0, v1, _, rfl, h1, rfl⟩ := h
  obtain ⟨t, b, _⟩ := d
  have hx : ∀ {ctx : List (Option SF)} {mem : List MF} (I H : Hp) (σ : St) (d : Option Addr), Stt I0 H0 ctx mem I H σ → Fr H0 d → bK I0 H0 I H σ d := fun _ _ _ _ s f => ⟨s.fm, f⟩
  have tk : L2N.Takes (bx P w K mg base ["self", "top", "bottom", "divisor"] "Fraction.__init__" (defScope s_Fraction_init) (He.ma K (He.ga K "Fraction") "__init__") cdv A outer s H1 E) (bW E) := L2N.takes_of rfl rfl rfl rfl
  have lg : Large (bx P w K mg base ["self", "top", "bottom", "divisor"] "Fraction.__init__" (defScope s_Fraction_init) (He.ma K (He.ga K "Fraction") "__init__") cdv A outer s H1 E) := .bx T.seer T.tree hr sc_Fraction_init
  refine ⟨Stt I0 H0 [some ⟨rRef y, ()⟩, some ⟨rInt, t⟩, some ⟨rInt, b⟩, none] [.ins y (He.ga K "Fraction") dx []], Int × Int, mi_Fraction t b, fun s I H σ => ∃ ctx, Stt I0 H0 ctx [.ins y (He.ga K "Fraction") dx [("top", ⟨rInt, s.1⟩), ("bottom", ⟨rInt, s.2⟩)]] I H σ, ?_, ?_, ?_⟩
  · subst eH
    exact Stt.fresh sm n1 n2 n3 rfl fun i sf e => IniR.get (n := 1) (vs := [.ref y, v0, v1]) (c := [some ⟨rRef y, ()⟩, some ⟨rInt, t⟩, some ⟨rInt, b⟩, none]) ⟨rfl, h0, h1, ini_nil rfl⟩ i sf e
  · exact JN.seq (J1.if (S := Unit) (G' := fun _ => Stt I0 H0 [some ⟨rRef y, ()⟩, some ⟨rInt, t⟩, some ⟨rInt, b⟩, none] [.ins y (He.ga K "Fraction") dx []]) (JT.cmp (JE.var 2) JE.int opj_eq) (JN.last (J1.raiseP rfl tk T.ex_BadFraction hx)) (JN.nil fun _ _ _ h => h) hx) fun _ =>
      JN.seq (J1.set 3 (JE.call (JA.cons (JE.var 1) (JA.cons (JE.var 2) JA.nil)) (cj_of c_common_divisor (hr.mono (by decide)) tk) T.g_common_divisor T.k_common_divisor) hx sc_Fraction_init.nd) fun dv =>
      JN.seq (J1.if (S := Int) (G' := fun s => Stt I0 H0 [some ⟨rRef y, ()⟩, some ⟨rInt, t⟩, some ⟨rInt, b⟩, some ⟨rInt, s⟩] [.ins y (He.ga K "Fraction") dx []]) (JT.cmp (JE.var 2) JE.int opj_lt) (JN.seq (J1.set 3 (JE.un (JE.var 3) unj_neg) hx sc_Fraction_init.nd) fun v => JN.nil fun _ _ _ h => h) (JN.nil fun _ _ _ h => h) hx) fun s =>
      JN.seq (J1.sfld 0 (JE.bin (JE.var 1) (JE.var 3) (opj_fdivB lg)) T.o_Fraction.cl T.na_Fraction_top (by decide) hx) fun x =>
      JN.seq (J1.sfld 0 (JE.bin (JE.var 2) (JE.var 3) (opj_fdivB lg)) T.o_Fraction.cl T.na_Fraction_bottom (by simp [putG]) hx) fun y' => JN.nil fun _ _ _ h => ⟨_, h⟩
  · rw [mi_Fraction_eq]
    dsimp only
    generalize qRaw t b = z
    cases z with
    | err e => rfl
    | stuck => rfl
    | ok q =>
      refine ⟨q, rfl, fun I' H' σ' ⟨ctx, g⟩ => ?_⟩
      obtain ⟨fs, I2, e1, hf, g2, sm2, e2⟩ := g.freeze
      exact ⟨I2, g2.fm, y, dx, rfl, by rw [e2, frF_of rfl rfl hf]⟩
abbrev C_Fraction_2 (P : Program) (w : World) (K : PySem.W.Frag) (mg : Str → Option Value) (base : Heap) : Prop := MkR P w K mg base 37 (He.ga K "Fraction") (aCons (rp rInt) (aCons (rp rInt) aNil)) (fun d => qMk d.1 d.2.1) (rp (rFrac K))
theorem fn_Fraction_2 {P : Program} {w : World} {K : PySem.W.Frag} {mg : Str → Option Value} {base : Heap} (T : Txt P w K mg) (c_common_divisor : C_common_divisor P w K mg base) : C_Fraction_2 P w K mg base := by
  obtain ⟨fd, F⟩ := T.F_Fraction_init
  obtain ⟨ds, hd, hb⟩ := FunD.binds1 (ps := ["self", "top", "bottom"]) F 3 1 (by simp) rfl fun T kV doc pm an cdv ct us its hl hi => match us, hl, its, hi with | [_, _, _], _, [_], _ => ⟨_, rfl, rfl⟩
  exact MkR.nice (mkR_of (h := fun d => d) T.mk_Fraction (in_Fraction T c_common_divisor F) hb hd fun I H vs d h => by rw [show List.drop 1 [V.int 1] = [] from rfl, List.append_nil]; exact h) fun d => qMk_raw d.1 d.2.1

theorem sc_Fraction_str : FnScope ["self"] ["self"] (defScope s_Fraction_str) := ⟨rfl, rfl, rfl, by decide +kernel, rfl, by decide +kernel, by decide +kernel⟩
def m_Fraction_str (p_self : Rat) : Res Str :=
  ((((Res.ok p_self).bind fun a214 => .ok (a214.den : Int)).bind fun a215 => (Res.ok (1 : Int)).bind fun b216 => .ok (decide (a215 = b216))).bind fun x217 => if x217 = true then ((((Res.ok p_self).bind fun a218 => .ok a218.num).bind fun a219 => (Res.ok ()).bind fun b220 => .ok (a219, b220)).bind (fun d => strM d.1)) else ((fun c232 => (((Res.ok p_self).bind fun a222 => .ok a222.num).bind fun a223 => strM a223).bind fun y233 => (glueS c232 y233).bind fun z234 => (fun c229 => (Res.ok ("/" : Str)).bind fun y230 => (glueS c229 y230).bind fun z231 => (fun c226 => (((Res.ok p_self).bind fun a224 => .ok (a224.den : Int)).bind fun a225 => strM a225).bind fun y227 => (glueS c226 y227).bind fun z228 => (fun acc => .ok acc) z228) z231) z234) Str.empty))
abbrev C_Fraction_str (P : Program) (w : World) (K : PySem.W.Frag) (mg : Str → Option Value) (base : Heap) : Prop := FnR P w K mg base (L2N.CX P w) 1 (He.ma K (He.ga K "Fraction") "__str__") (spF K (aCons (rp (rFrac K)) aNil) (fun d => m_Fraction_str d.1) (rp rStr))
theorem ok_Fraction_str {P : Program} {w : World} {K : PySem.W.Frag} {mg : Str → Option Value} {base : Heap} (T : Txt P w K mg) {fd : FuncData} (F : FunD K "__str__" "Fraction.__str__" (defArgs s_Fraction_str) (defBody s_Fraction_str) (defScope s_Fraction_str) [] [] (He.ma K (He.ga K "Fraction") "__str__") fd) : FnOk P w K mg base (L2N.CX P w) 1 (He.ma K (He.ga K "Fraction") "__str__") fd ["self"] (spF K (aCons (rp (rFrac K)) aNil) (fun d => m_Fraction_str d.1) (rp rStr)) := by
  refine FunD.fn (k := 0) (N := ["self"]) (ps := ["self"]) F sc_Fraction_str (fun I H vs d h => ?_) (fun cdv A outer s I0 H0 E vs d hr sm h => ?_)
  · obtain ⟨v0, _, rfl, h0, rfl⟩ := h; rfl
  obtain ⟨v0, _, rfl, h0, rfl⟩ := h
  have hx : ∀ {ctx : List (Option SF)} {mem : List MF} (I H : Hp) (σ : St) (d : Option Addr), Stt I0 H0 ctx mem I H σ → Fr H0 d → bK I0 H0 I H σ d := fun _ _ _ _ s f => ⟨s.fm, f⟩
  have tk : L2N.Takes (bx P w K mg base ["self"] "Fraction.__str__" (defScope s_Fraction_str) (He.ma K (He.ga K "Fraction") "__str__") cdv A outer s H0 E) (bW E) := L2N.takes_of rfl rfl rfl rfl
  obtain ⟨p_self, _⟩ := d
  exact ⟨Stt I0 H0 [some (SF.mk (rFrac K) p_self)] [], Stt.start sm ⟨h0, ini_nil rfl⟩ rfl (by simp), (JR.ifR (JT.cmp (JE.fld (JE.var 0) fld_bottom T.o_Fraction.cl T.na_Fraction_bottom) JE.int opj_eq) (JR.ret (JE.callTy (JA.cons (JE.fld (JE.var 0) fld_top T.o_Fraction.cl T.na_Fraction_top) JA.nil) cj_strI T.n_str boot_str) hx) (JR.ret (JE.joined (JFs.cons (JE.fmtI (JE.fld (JE.var 0) fld_top T.o_Fraction.cl T.na_Fraction_top)) (JFs.cons JE.str (JFs.cons (JE.fmtI (JE.fld (JE.var 0) fld_bottom T.o_Fraction.cl T.na_Fraction_bottom)) JFs.nil)))) hx) hx)⟩
theorem fn_Fraction_str {P : Program} {w : World} {K : PySem.W.Frag} {mg : Str → Option Value} {base : Heap} (T : Txt P w K mg) : FnR P w K mg base (L2N.CX P w) 1 (He.ma K (He.ga K "Fraction") "__str__") (spF K (aCons (rp (rFrac K)) aNil) (fun d => m_Fraction_str d.1) (rp rStr)) := by
  obtain ⟨fd, F⟩ := T.F_Fraction_str
  exact FnOk.fr0 (ok_Fraction_str T F) (F.bindsN fun _ _ _ _ _ _ us hl => match us, hl with | [_], _ => rfl)
theorem sc_law_divisor : FnScope ["_law_first", "_law_second", "_law_rest"] ["_law_first", "_law_second"] (defScope s_law_divisor) := ⟨rfl, rfl, rfl, by decide +kernel, rfl, by decide +kernel, by decide +kernel⟩
def m_law_divisor (p_first : Int) (p_second : Int) : Res Int :=
  ((((Res.ok p_first).bind fun a265 => (Res.ok ()).bind fun b266 => .ok (a265, b266)).bind (fun d => .ok (if d.1 < 0 then -d.1 else d.1))).bind fun v264 => ((((Res.ok p_second).bind fun a268 => (Res.ok ()).bind fun b269 => .ok (a268, b269)).bind (fun d => .ok (if d.1 < 0 then -d.1 else d.1))).bind fun v267 => ((whileM (fun s270 : (Int × Int) => ((Res.ok s270.2).bind fun a271 => (Res.ok (0 : Int)).bind fun b272 => .ok (!decide (a271 = b272)))) (fun s270 => (((Res.ok s270.1).bind fun a274 => (Res.ok s270.2).bind fun b275 => modI a274 b275).bind fun v273 => ((Res.ok s270.2).bind fun v276 => ((Res.ok v273).bind fun v277 => (Res.ok (v276, v277)))))) ((v267).natAbs + 1) (v264, v267)).bind fun s270 => (Res.ok s270.1))))
abbrev C_law_divisor (P : Program) (w : World) (K : PySem.W.Frag) (mg : Str → Option Value) (base : Heap) : Prop := FnR P w K mg base (L2N.CX P w) 1 (He.ga K "_law_divisor") (spF K (aCons (rp rInt) (aCons (rp rInt) aNil)) (fun d => m_law_divisor d.1 d.2.1) (rp rInt))
theorem ok_law_divisor {P : Program} {w : World} {K : PySem.W.Frag} {mg : Str → Option Value} {base : Heap} (T : Txt P w K mg) {fd : FuncData} (F : FunD K "_law_divisor" "_law_divisor" (defArgs s_law_divisor) (defBody s_law_divisor) (defScope s_law_divisor) [] [] (He.ga K "_law_divisor") fd) : FnOk P w K mg base (L2N.CX P w) 1 (He.ga K "_law_divisor") fd ["_law_first", "_law_second"] (spF K (aCons (rp rInt) (aCons (rp rInt) aNil)) (fun d => m_law_divisor d.1 d.2.1) (rp rInt)) := by
  refine FunD.fn (k := 0) (N := ["_law_first", "_law_second", "_law_rest"]) (ps := ["_law_first", "_law_second"]) F sc_law_divisor (fun I H vs d h => ?_) (fun cdv A outer s I0 H0 E vs d hr sm h => ?_)
  · obtain ⟨v0, _, rfl, h0, v1, _, rfl, h1, rfl⟩ := h; rfl
  obtain ⟨v0, _, rfl, h0, v1, _, rfl, h1, rfl⟩ := h
  have hx : ∀ {ctx : List (Option SF)} {mem : List MF} (I H : Hp) (σ : St) (d : Option Addr), Stt I0 H0 ctx mem I H σ → Fr H0 d → bK I0 H0 I H σ d := fun _ _ _ _ s f => ⟨s.fm, f⟩
  have tk : L2N.Takes (bx P w K mg base ["_law_first", "_law_second", "_law_rest"] "_law_divisor" (defScope s_law_divisor) (He.ga K "_law_divisor") cdv A outer s H0 E) (bW E) := L2N.takes_of rfl rfl rfl rfl
  have hp : PsO9 P w (bx P w K mg base ["_law_first", "_law_second", "_law_rest"] "_law_divisor" (defScope s_law_divisor) (He.ga K "_law_divisor") cdv A outer s H0 E) := passes_of rfl
  obtain ⟨p_first, p_second, _⟩ := d
  exact ⟨Stt I0 H0 [some (SF.mk rInt p_first), some (SF.mk rInt p_second), none] [], Stt.start sm ⟨h0, h1, ini_nil rfl⟩ rfl (by simp), (JR.seq (J1.cx (c' := fun v264 => [some (SF.mk rInt v264), some (SF.mk rInt p_second), none]) (J1.set 0 (JE.callB (JA.cons (JE.var 0) JA.nil) cj_abs T.n_abs boot_abs) hx sc_law_divisor.nd)) fun v264 => (JR.seq (J1.cx (c' := fun v267 => [some (SF.mk rInt v264), some (SF.mk rInt v267), none]) (J1.set 1 (JE.callB (JA.cons (JE.var 1) JA.nil) cj_abs T.n_abs boot_abs) hx sc_law_divisor.nd)) fun v267 => (JR.seq (J1.while (S := (Int × Int)) (cx := fun s270 => [some (SF.mk rInt s270.1), some (SF.mk rInt s270.2), none]) (me := fun s270 => []) (s0 := (v264, v267)) (fuel := (v267).natAbs + 1) hp (fun s270 => (JT.cmp (JE.var 1) JE.int opj_ne)) (fun s270 => (JN.seq (J1.cx (c' := fun v273 => [some (SF.mk rInt s270.1), some (SF.mk rInt s270.2), some (SF.mk rInt v273)]) (J1.set 2 (JE.bin (JE.var 0) (JE.var 1) opj_mod) hx sc_law_divisor.nd)) fun v273 => (JN.seq (J1.cx (c' := fun v276 => [some (SF.mk rInt v276), some (SF.mk rInt s270.2), some (SF.mk rInt v273)]) (J1.set 0 (JE.var 1) hx sc_law_divisor.nd)) fun v276 => (JN.seq (J1.cx (c' := fun v277 => [some (SF.mk rInt v276), some (SF.mk rInt v277), some (SF.mk rInt v273)]) (J1.set 1 (JE.var 2) hx sc_law_divisor.nd)) fun v277 => (JN.nil (fun _ _ _ h => (Stt.weak h (weak_some (weak_some (weak_none weak_nil)))))))))) fun _ => hx) fun s270 => (JR.ret (JE.var 0) hx))))⟩
theorem fn_law_divisor {P : Program} {w : World} {K : PySem.W.Frag} {mg : Str → Option Value} {base : Heap} (T : Txt P w K mg) : FnR P w K mg base (L2N.CX P w) 1 (He.ga K "_law_divisor") (spF K (aCons (rp rInt) (aCons (rp rInt) aNil)) (fun d => m_law_divisor d.1 d.2.1) (rp rInt)) := by
  obtain ⟨fd, F⟩ := T.F_law_divisor
  exact FnOk.fr0 (ok_law_divisor T F) (F.bindsN fun _ _ _ _ _ _ us hl => match us, hl with | [_, _], _ => rfl)
theorem sc_law_text : FnScope ["_law_top", "_law_bottom", "_law_divisor_here"] ["_law_top", "_law_bottom"] (defScope s_law_text) := ⟨rfl, rfl, rfl, by decide +kernel, rfl, by decide +kernel, by decide +kernel⟩
def m_law_text (p_top : Int) (p_bottom : Int) : Res Str :=
  ((((Res.ok p_top).bind fun a241 => ((Res.ok p_bottom).bind fun a239 => (Res.ok ()).bind fun b240 => .ok (a239, b240)).bind fun b242 => .ok (a241, b242)).bind (fun d => m_law_divisor d.1 d.2.1)).bind fun v236 => (((Res.ok p_bottom).bind fun a243 => (Res.ok v236).bind fun b244 => .ok (decide (a243 = b244))).bind fun x245 => if x245 = true then ((((Res.ok p_top).bind fun a246 => (Res.ok v236).bind fun b247 => fdivI a246 b247).bind fun a248 => (Res.ok ()).bind fun b249 => .ok (a248, b249)).bind (fun d => strM d.1)) else ((((((Res.ok p_top).bind fun a251 => (Res.ok v236).bind fun b252 => fdivI a251 b252).bind fun a253 => (Res.ok ()).bind fun b254 => .ok (a253, b254)).bind (fun d => strM d.1)).bind fun a255 => (Res.ok ("/" : Str)).bind fun b256 => Res.guard (a255.length + b256.length ≤ sizeLine) (.ok (a255 ++ b256))).bind fun a261 => ((((Res.ok p_bottom).bind fun a257 => (Res.ok v236).bind fun b258 => fdivI a257 b258).bind fun a259 => (Res.ok ()).bind fun b260 => .ok (a259, b260)).bind (fun d => strM d.1)).bind fun b262 => Res.guard (a261.length + b262.length ≤ sizeLine) (.ok (a261 ++ b262)))))
abbrev C_law_text (P : Program) (w : World) (K : PySem.W.Frag) (mg : Str → Option Value) (base : Heap) : Prop := FnR P w K mg base (L2N.CX P w) 2 (He.ga K "_law_text") (spF K (aCons (rp rInt) (aCons (rp rInt) aNil)) (fun d => m_law_text d.1 d.2.1) (rp rStr))
theorem ok_law_text {P : Program} {w : World} {K : PySem.W.Frag} {mg : Str → Option Value} {base : Heap} (T : Txt P w K mg) (c_law_divisor : C_law_divisor P w K mg base) {fd : FuncData} (F : FunD K "_law_text" "_law_text" (defArgs s_law_text) (defBody s_law_text) (defScope s_law_text) [] [] (He.ga K "_law_text") fd) : FnOk P w K mg base (L2N.CX P w) 2 (He.ga K "_law_text") fd ["_law_top", "_law_bottom"] (spF K (aCons (rp rInt) (aCons (rp rInt) aNil)) (fun d => m_law_text d.1 d.2.1) (rp rStr)) := by
  refine FunD.fn (k := 1) (N := ["_law_top", "_law_bottom", "_law_divisor_here"]) (ps := ["_law_top", "_law_bottom"]) F sc_law_text (fun I H vs d h => ?_) (fun cdv A outer s I0 H0 E vs d hr sm h => ?_)
  · obtain ⟨v0, _, rfl, h0, v1, _, rfl, h1, rfl⟩ := h; rfl
  obtain ⟨v0, _, rfl, h0, v1, _, rfl, h1, rfl⟩ := h
  have hx : ∀ {ctx : List (Option SF)} {mem : List MF} (I H : Hp) (σ : St) (d : Option Addr), Stt I0 H0 ctx mem I H σ → Fr H0 d → bK I0 H0 I H σ d := fun _ _ _ _ s f => ⟨s.fm, f⟩
  have tk : L2N.Takes (bx P w K mg base ["_law_top", "_law_bottom", "_law_divisor_here"] "_law_text" (defScope s_law_text) (He.ga K "_law_text") cdv A outer s H0 E) (bW E) := L2N.takes_of rfl rfl rfl rfl
  obtain ⟨p_top, p_bottom, _⟩ := d
  exact ⟨Stt I0 H0 [some (SF.mk rInt p_top), some (SF.mk rInt p_bottom), none] [], Stt.start sm ⟨h0, h1, ini_nil rfl⟩ rfl (by simp), (JR.seq (J1.cx (c' := fun v236 => [some (SF.mk rInt p_top), some (SF.mk rInt p_bottom), some (SF.mk rInt v236)]) (J1.set 2 (JE.call (JA.cons (JE.var 0) (JA.cons (JE.var 1) JA.nil)) (cj_of c_law_divisor (hr.mono (by decide)) tk) T.g_law_divisor T.k_law_divisor) hx sc_law_text.nd)) fun v236 => (JR.ifR (JT.cmp (JE.var 1) (JE.var 2) opj_eq) (JR.ret (JE.callTy (JA.cons (JE.bin (JE.var 0) (JE.var 2) opj_fdiv) JA.nil) cj_strI T.n_str boot_str) hx) (JR.ret (JE.bin (JE.bin (JE.callTy (JA.cons (JE.bin (JE.var 0) (JE.var 2) opj_fdiv) JA.nil) cj_strI T.n_str boot_str) JE.str opj_addS) (JE.callTy (JA.cons (JE.bin (JE.var 1) (JE.var 2) opj_fdiv) JA.nil) cj_strI T.n_str boot_str) opj_addS) hx) hx))⟩
theorem fn_law_text {P : Program} {w : World} {K : PySem.W.Frag} {mg : Str → Option Value} {base : Heap} (T : Txt P w K mg) (c_law_divisor : C_law_divisor P w K mg base) : FnR P w K mg base (L2N.CX P w) 2 (He.ga K "_law_text") (spF K (aCons (rp rInt) (aCons (rp rInt) aNil)) (fun d => m_law_text d.1 d.2.1) (rp rStr)) := by
  obtain ⟨fd, F⟩ := T.F_law_text
  exact FnOk.fr0 (ok_law_text T c_law_divisor F) (F.bindsN fun _ _ _ _ _ _ us hl => match us, hl with | [_, _], _ => rfl)
theorem sc_BadText_init : FnScope ["self", "line", "column"] ["self", "line", "column"] (defScope s_BadText_init) := ⟨rfl, rfl, rfl, by decide +kernel, rfl, by decide +kernel, by decide +kernel⟩
abbrev C_err_BadText (P : Program) (w : World) (K : PySem.W.Frag) (mg : Str → Option Value) (base : Heap) : Prop := ErR2 P w K mg base "BadText" "line" "column"
theorem fn_err_BadText {P : Program} {w : World} {K : PySem.W.Frag} {mg : Str → Option Value} {base : Heap} (T : Txt P w K mg) : C_err_BadText P w K mg base := by
  obtain ⟨fd, F⟩ := T.F_BadText_init
  exact ⟨T.ev_BadText, fd, ["self", "line", "column"], init2 F sc_BadText_init rfl T.ev_BadText.oex (T.ev_BadText.no _ (by simp)) (T.ev_BadText.no _ (by simp)) (by first | exact Or.inl rfl | exact Or.inr (Or.inl rfl) | exact Or.inr (Or.inr rfl)) (by first | exact Or.inl rfl | exact Or.inr (Or.inl rfl) | exact Or.inr (Or.inr rfl)) (by first | exact Or.inl rfl | exact Or.inr (Or.inl rfl) | exact Or.inr (Or.inr rfl)) (by decide) (by decide) (by decide) (by decide), F.bindsN fun _ _ _ _ _ _ us hl => match us, hl with | [_, _, _], _ => rfl⟩
theorem sc_numeral_end : FnScope ["text", "start", "positive", "end"] ["text", "start", "positive"] (defScope s_numeral_end) := ⟨rfl, rfl, rfl, by decide +kernel, rfl, by decide +kernel, by decide +kernel⟩
def m_numeral_end (p_text : Str) (p_start : Int) (p_positive : Bool) : Res Int :=
  ((((Res.ok p_start).bind fun a370 => (((Res.ok p_text).bind fun a368 => (Res.ok ()).bind fun b369 => .ok (a368, b369)).bind (fun d => lenS d.1)).bind fun b371 => .ok (decide (a370 ≥ b371))).bind fun a376 => if a376 = true then .ok true else (((Res.ok p_text).bind fun a372 => (Res.ok p_start).bind fun b373 => atS a372 b373).bind fun a374 => (Res.ok ("0123456789" : Str)).bind fun b375 => (inSg a374 b375).bind fun z => .ok (!z))).bind fun x377 => if x377 = true then (((Res.ok (1 : Int)).bind fun y382 => ((Res.ok p_start).bind fun a379 => (Res.ok (1 : Int)).bind fun b380 => .ok (a379 + b380)).bind fun y383 => Res.err ⟨"BadText", [("column", Pay.int y383), ("line", Pay.int y382)]⟩)) else (((Res.ok p_positive).bind fun a388 => if a388 = true then (((Res.ok p_text).bind fun a384 => (Res.ok p_start).bind fun b385 => atS a384 b385).bind fun a386 => (Res.ok ("0" : Str)).bind fun b387 => .ok (decide (a386 = b387))) else .ok false).bind fun x389 => if x389 = true then (((Res.ok (1 : Int)).bind fun y394 => ((Res.ok p_start).bind fun a391 => (Res.ok (1 : Int)).bind fun b392 => .ok (a391 + b392)).bind fun y395 => Res.err ⟨"BadText", [("column", Pay.int y395), ("line", Pay.int y394)]⟩)) else (((Res.ok p_start).bind fun a397 => (Res.ok (1 : Int)).bind fun b398 => .ok (a397 + b398)).bind fun v396 => ((whileM (fun s399 : Int => (((Res.ok s399).bind fun a402 => (((Res.ok p_text).bind fun a400 => (Res.ok ()).bind fun b401 => .ok (a400, b401)).bind (fun d => lenS d.1)).bind fun b403 => .ok (decide (a402 < b403))).bind fun a408 => if a408 = true then (((Res.ok p_text).bind fun a404 => (Res.ok s399).bind fun b405 => atS a404 b405).bind fun a406 => (Res.ok ("0123456789" : Str)).bind fun b407 => inSg a406 b407) else .ok false)) (fun s399 => (((((Res.ok p_text).bind fun a409 => (Res.ok p_start).bind fun b410 => atS a409 b410).bind fun a411 => (Res.ok ("0" : Str)).bind fun b412 => .ok (decide (a411 = b412))).bind fun a417 => if a417 = true then .ok true else (((Res.ok s399).bind fun a413 => (Res.ok p_start).bind fun b414 => .ok (a413 - b414)).bind fun a415 => (Res.ok (60 : Int)).bind fun b416 => .ok (decide (a415 = b416)))).bind fun x418 => if x418 = true then (((Res.ok (1 : Int)).bind fun y423 => ((Res.ok s399).bind fun a420 => (Res.ok (1 : Int)).bind fun b421 => .ok (a420 + b421)).bind fun y424 => Res.err ⟨"BadText", [("column", Pay.int y424), ("line", Pay.int y423)]⟩)) else (((Res.ok (1 : Int)).bind fun y425 => .ok (s399 + y425)).bind fun v426 => (Res.ok v426)))) ((p_text).length + 1) v396).bind fun s399 => (Res.ok s399)))))
theorem ok_numeral_end {P : Program} {w : World} {K : PySem.W.Frag} {mg : Str → Option Value} {base : Heap} (T : Txt P w K mg) (c_err_BadText : C_err_BadText P w K mg base) {fd : FuncData} (F : FunD K "numeral_end" "numeral_end" (defArgs s_numeral_end) (defBody s_numeral_end) (defScope s_numeral_end) [] [("positive", .bl false)] (He.ga K "numeral_end") fd) : FnOk P w K mg base (L2N.CX P w) 3 (He.ga K "numeral_end") fd ["text", "start", "positive"] (spF K (aCons (rp rStr) (aCons (rp rInt) (aCons (rp rBl) aNil))) (fun d => m_numeral_end d.1 d.2.1 d.2.2.1) (rp rInt)) := by
  refine FunD.fn (k := 2) (N := ["text", "start", "positive", "end"]) (ps := ["text", "start", "positive"]) F sc_numeral_end (fun I H vs d h => ?_) (fun cdv A outer s I0 H0 E vs d hr sm h => ?_)
  · obtain ⟨v0, _, rfl, h0, v1, _, rfl, h1, v2, _, rfl, h2, rfl⟩ := h; rfl
  obtain ⟨v0, _, rfl, h0, v1, _, rfl, h1, v2, _, rfl, h2, rfl⟩ := h
  have hx : ∀ {ctx : List (Option SF)} {mem : List MF} (I H : Hp) (σ : St) (d : Option Addr), Stt I0 H0 ctx mem I H σ → Fr H0 d → bK I0 H0 I H σ d := fun _ _ _ _ s f => ⟨s.fm, f⟩
  have tk : L2N.Takes (bx P w K mg base ["text", "start", "positive", "end"] "numeral_end" (defScope s_numeral_end) (He.ga K "numeral_end") cdv A outer s H0 E) (bW E) := L2N.takes_of rfl rfl rfl rfl
  have hp : PsO9 P w (bx P w K mg base ["text", "start", "positive", "end"] "numeral_end" (defScope s_numeral_end) (He.ga K "numeral_end") cdv A outer s H0 E) := passes_of rfl
  obtain ⟨p_text, p_start, p_positive, _⟩ := d
  exact ⟨Stt I0 H0 [some (SF.mk rStr p_text), some (SF.mk rInt p_start), some (SF.mk rBl p_positive), none] [], Stt.start sm ⟨h0, h1, h2, ini_nil rfl⟩ rfl (by simp), (JR.ifR (JT.bool (JW.or (JT.cmp (JE.var 1) (JE.callB (JA.cons (JE.var 0) JA.nil) cj_lenStr T.n_len boot_len) opj_ge) (JW.or1 (JT.cmp (JE.ixStr (JE.var 0) (JE.var 1)) (JE.gStr T.gs_DIGITS) opj_ninSg)))) (JR.raise2 (pay := Pay.int) (pay2 := Pay.int) rfl tk c_err_BadText (hr.mono (by decide)) JE.int (JE.bin (JE.var 1) JE.int opj_add) pay_int pay_int hx) (JR.ifR (JT.bool (JW.and (JT.of (JE.var 2)) (JW.and1 (JT.cmp (JE.ixStr (JE.var 0) (JE.var 1)) JE.str opj_eqS)))) (JR.raise2 (pay := Pay.int) (pay2 := Pay.int) rfl tk c_err_BadText (hr.mono (by decide)) JE.int (JE.bin (JE.var 1) JE.int opj_add) pay_int pay_int hx) (JR.seq (J1.cx (c' := fun v396 => [some (SF.mk rStr p_text), some (SF.mk rInt p_start), some (SF.mk rBl p_positive), some (SF.mk rInt v396)]) (J1.set 3 (JE.bin (JE.var 1) JE.int opj_add) hx sc_numeral_end.nd)) fun v396 => (JR.seq (J1.while (S := Int) (cx := fun s399 => [some (SF.mk rStr p_text), some (SF.mk rInt p_start), some (SF.mk rBl p_positive), some (SF.mk rInt s399)]) (me := fun s399 => []) (s0 := v396) (fuel := (p_text).length + 1) hp (fun s399 => (JT.bool (JW.and (JT.cmp (JE.var 3) (JE.callB (JA.cons (JE.var 0) JA.nil) cj_lenStr T.n_len boot_len) opj_lt) (JW.and1 (JT.cmp (JE.ixStr (JE.var 0) (JE.var 3)) (JE.gStr T.gs_DIGITS) opj_inSg))))) (fun s399 => (JN.ifT (JT.bool (JW.or (JT.cmp (JE.ixStr (JE.var 0) (JE.var 1)) JE.str opj_eqS) (JW.or1 (JT.cmp (JE.bin (JE.var 3) (JE.var 1) opj_sub) (JE.gInt T.gi_MOST_DIGITS) opj_eq)))) (JN.raise2 (pay := Pay.int) (pay2 := Pay.int) rfl tk c_err_BadText (hr.mono (by decide)) JE.int (JE.bin (JE.var 3) JE.int opj_add) pay_int pay_int hx) (JN.seq (J1.cx (c' := fun v426 => [some (SF.mk rStr p_text), some (SF.mk rInt p_start), some (SF.mk rBl p_positive), some (SF.mk rInt v426)]) (J1.aug 3 (x := s399) (h := fun xx y425 => .ok (xx + y425)) JE.int opi_add hx sc_numeral_end.nd)) fun v426 => (JN.nil (fun _ _ _ h => h))) hx)) fun _ => hx) fun s399 => (JR.ret (JE.var 3) hx))) hx) hx)⟩
abbrev C_numeral_end_2_positive (P : Program) (w : World) (K : PySem.W.Frag) (mg : Str → Option Value) (base : Heap) : Prop := MkK P w K mg base 3 (He.ga K "numeral_end") ["positive"] (aCons (rp rStr) (aCons (rp rInt) aNil)) (aCons (rp rBl) aNil) (fun (x : (Str × Int × Unit)) (y : (Bool × Unit)) => m_numeral_end x.1 x.2.1 y.1) (rp rInt)
theorem fn_numeral_end_2_positive {P : Program} {w : World} {K : PySem.W.Frag} {mg : Str → Option Value} {base : Heap} (T : Txt P w K mg) (c_err_BadText : C_err_BadText P w K mg base) : C_numeral_end_2_positive P w K mg base := by
  obtain ⟨fd, F⟩ := T.F_numeral_end
  have hb := kbindsN (ps := ["text", "start", "positive"]) F 2 ["positive"] (fun us ws => us ++ ws) (fun a c => a.append c) fun kV doc pm an cdv ct us ws hl hw => match us, hl, ws, hw with | [_, _], _, [_], _ => rfl
  exact fun X W e1 e2 e3 e4 e5 hr tk => by
    subst e1; subst e2; subst e3; subst e4; subst e5
    exact cjk_fn (n := 2) (R := (aCons (rp rStr) (aCons (rp rInt) aNil))) (R' := (aCons (rp rBl) aNil)) (m := (fun (d : (Str × Int × Bool × Unit)) => m_numeral_end d.1 d.2.1 d.2.2.1)) (h := fun (x : (Str × Int × Unit)) (y : (Bool × Unit)) => (x.1, x.2.1, y.1, ())) (ok_numeral_end T c_err_BadText F) hr hb tk fun I H vs zs x y r r' => by
      obtain ⟨v0, _, rfl, h0, v1, _, rfl, h1, rfl⟩ := r
      obtain ⟨w0, _, rfl, k0, rfl⟩ := r'
      exact ⟨rfl, rfl, _, _, rfl, h0, _, _, rfl, h1, _, _, rfl, k0, rfl⟩
theorem sc_read_fraction : FnScope ["text", "negative", "start", "end", "top", "bottom", "close"] ["text"] (defScope s_read_fraction) := ⟨rfl, rfl, rfl, by decide +kernel, rfl, by decide +kernel, by decide +kernel⟩
def m_read_fraction (p_text : Str) : Res Rat :=
  ((((Res.ok p_text).bind fun a280 => (Res.ok none).bind fun b282 => ((Res.ok (1 : Int)).bind fun b281 => .ok (some b281)).bind fun c283 => slS a280 b282 c283).bind fun a284 => (Res.ok ("-" : Str)).bind fun b285 => .ok (decide (a284 = b285))).bind fun v279 => ((((Res.ok v279).bind fun a287 => (Res.ok ()).bind fun b288 => .ok (a287, b288)).bind (fun d => .ok (if d.1 = true then 1 else 0))).bind fun v286 => ((((Res.ok p_text).bind fun a299 => ((Res.ok v286).bind fun a297 => (Res.ok ()).bind fun b298 => .ok (a297, b298)).bind fun b300 => .ok (a299, b300)).bind fun x294 => ((Res.ok v279).bind fun a291 => (Res.ok ()).bind fun b292 => .ok (a291, b292)).bind fun y293 => (fun (x : (Str × Int × Unit)) (y : (Bool × Unit)) => m_numeral_end x.1 x.2.1 y.1) x294 y293).bind fun v289 => (((((Res.ok p_text).bind fun a302 => ((Res.ok v286).bind fun b303 => .ok (some b303)).bind fun b305 => ((Res.ok v289).bind fun b304 => .ok (some b304)).bind fun c306 => slS a302 b305 c306).bind fun a307 => (Res.ok ()).bind fun b308 => .ok (a307, b308)).bind (fun d => intS d.1)).bind fun v301 => ((Res.ok (1 : Int)).bind fun v309 => (((((Res.ok v289).bind fun a312 => (((Res.ok p_text).bind fun a310 => (Res.ok ()).bind fun b311 => .ok (a310, b311)).bind (fun d => lenS d.1)).bind fun b313 => .ok (decide (a312 < b313))).bind fun a318 => if a318 = true then (((Res.ok p_text).bind fun a314 => (Res.ok v289).bind fun b315 => atS a314 b315).bind fun a316 => (Res.ok ("/" : Str)).bind fun b317 => .ok (decide (a316 = b317))) else .ok false).bind fun x345 => if x345 = true then ((((Res.ok p_text).bind fun a331 => (((Res.ok v289).bind fun a326 => (Res.ok (1 : Int)).bind fun b327 => .ok (a326 + b327)).bind fun a329 => (Res.ok ()).bind fun b330 => .ok (a329, b330)).bind fun b332 => .ok (a331, b332)).bind fun x324 => ((Res.ok true).bind fun a321 => (Res.ok ()).bind fun b322 => .ok (a321, b322)).bind fun y323 => (fun (x : (Str × Int × Unit)) (y : (Bool × Unit)) => m_numeral_end x.1 x.2.1 y.1) x324 y323).bind fun v319 => (((((Res.ok p_text).bind fun a334 => (((Res.ok v289).bind fun a335 => (Res.ok (1 : Int)).bind fun b336 => .ok (a335 + b336)).bind fun b337 => .ok (some b337)).bind fun b339 => ((Res.ok v319).bind fun b338 => .ok (some b338)).bind fun c340 => slS a334 b339 c340).bind fun a341 => (Res.ok ()).bind fun b342 => .ok (a341, b342)).bind (fun d => intS d.1)).bind fun v333 => ((Res.ok v319).bind fun v343 => (Res.ok (v343, v333))))) else (Res.ok (v289, v309))).bind fun s344 => (((Res.ok s344.1).bind fun a348 => (((Res.ok p_text).bind fun a346 => (Res.ok ()).bind fun b347 => .ok (a346, b347)).bind (fun d => lenS d.1)).bind fun b349 => .ok (decide (a348 < b349))).bind fun x350 => if x350 = true then (((Res.ok (1 : Int)).bind fun y355 => ((Res.ok s344.1).bind fun a352 => (Res.ok (1 : Int)).bind fun b353 => .ok (a352 + b353)).bind fun y356 => Res.err ⟨"BadText", [("column", Pay.int y356), ("line", Pay.int y355)]⟩)) else (((Res.ok v279).bind fun x360 => if x360 = true then (((Res.ok v301).bind fun a358 => .ok (-a358)).bind fun v357 => (Res.ok v357)) else (Res.ok v301)).bind fun s359 => (((Res.ok s359).bind fun a365 => ((Res.ok s344.2).bind fun a363 => (Res.ok ()).bind fun b364 => .ok (a363, b364)).bind fun b366 => .ok (a365, b366)).bind (fun d => qMk d.1 d.2.1))))))))))
abbrev C_read_fraction (P : Program) (w : World) (K : PySem.W.Frag) (mg : Str → Option Value) (base : Heap) : Prop := FnR P w K mg base (L2N.CX P w) 38 (He.ga K "read_fraction") (spF K (aCons (rp rStr) aNil) (fun d => m_read_fraction d.1) (rp (rFrac K)))
theorem ok_read_fraction {P : Program} {w : World} {K : PySem.W.Frag} {mg : Str → Option Value} {base : Heap} (T : Txt P w K mg) (c_numeral_end_2_positive : C_numeral_end_2_positive P w K mg base) (c_err_BadText : C_err_BadText P w K mg base) (c_Fraction_2 : C_Fraction_2 P w K mg base) {fd : FuncData} (F : FunD K "read_fraction" "read_fraction" (defArgs s_read_fraction) (defBody s_read_fraction) (defScope s_read_fraction) [] [] (He.ga K "read_fraction") fd) : FnOk P w K mg base (L2N.CX P w) 38 (He.ga K "read_fraction") fd ["text"] (spF K (aCons (rp rStr) aNil) (fun d => m_read_fraction d.1) (rp (rFrac K))) := by
  refine FunD.fn (k := 37) (N := ["text", "negative", "start", "end", "top", "bottom", "close"]) (ps := ["text"]) F sc_read_fraction (fun I H vs d h => ?_) (fun cdv A outer s I0 H0 E vs d hr sm h => ?_)
  · obtain ⟨v0, _, rfl, h0, rfl⟩ := h; rfl
  obtain ⟨v0, _, rfl, h0, rfl⟩ := h
  have hx : ∀ {ctx : List (Option SF)} {mem : List MF} (I H : Hp) (σ : St) (d : Option Addr), Stt I0 H0 ctx mem I H σ → Fr H0 d → bK I0 H0 I H σ d := fun _ _ _ _ s f => ⟨s.fm, f⟩
  have tk : L2N.Takes (bx P w K mg base ["text", "negative", "start", "end", "top", "bottom", "close"] "read_fraction" (defScope s_read_fraction) (He.ga K "read_fraction") cdv A outer s H0 E) (bW E) := L2N.takes_of rfl rfl rfl rfl
  obtain ⟨p_text, _⟩ := d
  exact ⟨Stt I0 H0 [some (SF.mk rStr p_text), none, none, none, none, none, none] [], Stt.start sm ⟨h0, ini_nil rfl⟩ rfl (by simp), (JR.seq (J1.cx (c' := fun v279 => [some (SF.mk rStr p_text), some (SF.mk rBl v279), none, none, none, none, none]) (J1.set 1 (JE.cmp (JE.slS (JE.var 0) JO.no (JO.at JE.int)) JE.str opj_eqS) hx sc_read_fraction.nd)) fun v279 => (JR.seq (J1.cx (c' := fun v286 => [some (SF.mk rStr p_text), some (SF.mk rBl v279), some (SF.mk rInt v286), none, none, none, none]) (J1.set 2 (JE.callTy (JA.cons (JE.var 1) JA.nil) cj_intB T.n_int boot_int) hx sc_read_fraction.nd)) fun v286 => (JR.seq (J1.cx (c' := fun v289 => [some (SF.mk rStr p_text), some (SF.mk rBl v279), some (SF.mk rInt v286), some (SF.mk rInt v289), none, none, none]) (J1.set 3 (JE.callK (g := (fun (x : (Str × Int × Unit)) (y : (Bool × Unit)) => m_numeral_end x.1 x.2.1 y.1)) (JA.cons (JE.var 0) (JA.cons (JE.var 2) JA.nil)) (JK.cons (JE.var 1) JK.nil) (c_numeral_end_2_positive _ _ rfl rfl rfl rfl rfl (hr.mono (by decide)) tk) T.g_numeral_end T.k_numeral_end) hx sc_read_fraction.nd)) fun v289 => (JR.seq (J1.cx (c' := fun v301 => [some (SF.mk rStr p_text), some (SF.mk rBl v279), some (SF.mk rInt v286), some (SF.mk rInt v289), some (SF.mk rInt v301), none, none]) (J1.set 4 (JE.callTy (JA.cons (JE.slS (JE.var 0) (JO.at (JE.var 2)) (JO.at (JE.var 3))) JA.nil) cj_intS T.n_int boot_int) hx sc_read_fraction.nd)) fun v301 => (JR.seq (J1.cx (c' := fun v309 => [some (SF.mk rStr p_text), some (SF.mk rBl v279), some (SF.mk rInt v286), some (SF.mk rInt v289), some (SF.mk rInt v301), some (SF.mk rInt v309), none]) (J1.set 5 JE.int hx sc_read_fraction.nd)) fun v309 => (JR.seq (J1.if (S := (Int × Int)) (G' := fun s344 => Stt I0 H0 [some (SF.mk rStr p_text), some (SF.mk rBl v279), some (SF.mk rInt v286), some (SF.mk rInt s344.1), some (SF.mk rInt v301), some (SF.mk rInt s344.2), none] []) (JT.bool (JW.and (JT.cmp (JE.var 3) (JE.callB (JA.cons (JE.var 0) JA.nil) cj_lenStr T.n_len boot_len) opj_lt) (JW.and1 (JT.cmp (JE.ixStr (JE.var 0) (JE.var 3)) JE.str opj_eqS)))) (JN.seq (J1.cx (c' := fun v319 => [some (SF.mk rStr p_text), some (SF.mk rBl v279), some (SF.mk rInt v286), some (SF.mk rInt v289), some (SF.mk rInt v301), some (SF.mk rInt v309), some (SF.mk rInt v319)]) (J1.set 6 (JE.callK (g := (fun (x : (Str × Int × Unit)) (y : (Bool × Unit)) => m_numeral_end x.1 x.2.1 y.1)) (JA.cons (JE.var 0) (JA.cons (JE.bin (JE.var 3) JE.int opj_add) JA.nil)) (JK.cons JE.bl JK.nil) (c_numeral_end_2_positive _ _ rfl rfl rfl rfl rfl (hr.mono (by decide)) tk) T.g_numeral_end T.k_numeral_end) hx sc_read_fraction.nd)) fun v319 => (JN.seq (J1.cx (c' := fun v333 => [some (SF.mk rStr p_text), some (SF.mk rBl v279), some (SF.mk rInt v286), some (SF.mk rInt v289), some (SF.mk rInt v301), some (SF.mk rInt v333), some (SF.mk rInt v319)]) (J1.set 5 (JE.callTy (JA.cons (JE.slS (JE.var 0) (JO.at (JE.bin (JE.var 3) JE.int opj_add)) (JO.at (JE.var 6))) JA.nil) cj_intS T.n_int boot_int) hx sc_read_fraction.nd)) fun v333 => (JN.seq (J1.cx (c' := fun v343 => [some (SF.mk rStr p_text), some (SF.mk rBl v279), some (SF.mk rInt v286), some (SF.mk rInt v343), some (SF.mk rInt v301), some (SF.mk rInt v333), some (SF.mk rInt v319)]) (J1.set 3 (JE.var 6) hx sc_read_fraction.nd)) fun v343 => (JN.nil (fun _ _ _ h => (Stt.weak h (weak_some (weak_some (weak_some (weak_some (weak_some (weak_some (weak_none weak_nil))))))))))))) (JN.nil (fun _ _ _ h => h)) hx) fun s344 => (JR.ifR (JT.cmp (JE.var 3) (JE.callB (JA.cons (JE.var 0) JA.nil) cj_lenStr T.n_len boot_len) opj_lt) (JR.raise2 (pay := Pay.int) (pay2 := Pay.int) rfl tk c_err_BadText (hr.mono (by decide)) JE.int (JE.bin (JE.var 3) JE.int opj_add) pay_int pay_int hx) (JR.seq (J1.if (S := Int) (G' := fun s359 => Stt I0 H0 [some (SF.mk rStr p_text), some (SF.mk rBl v279), some (SF.mk rInt v286), some (SF.mk rInt s344.1), some (SF.mk rInt s359), some (SF.mk rInt s344.2), none] []) (JT.of (JE.var 1)) (JN.seq (J1.cx (c' := fun v357 => [some (SF.mk rStr p_text), some (SF.mk rBl v279), some (SF.mk rInt v286), some (SF.mk rInt s344.1), some (SF.mk rInt v357), some (SF.mk rInt s344.2), none]) (J1.set 4 (JE.un (JE.var 4) unj_neg) hx sc_read_fraction.nd)) fun v357 => (JN.nil (fun _ _ _ h => h))) (JN.nil (fun _ _ _ h => h)) hx) fun s359 => (JR.ret (JE.call (JA.cons (JE.var 4) (JA.cons (JE.var 5) JA.nil)) (c_Fraction_2 _ _ rfl rfl rfl rfl rfl (hr.mono (by decide)) tk) T.g_Fraction T.mk_Fraction.kp) hx)) hx)))))))⟩
theorem fn_read_fraction {P : Program} {w : World} {K : PySem.W.Frag} {mg : Str → Option Value} {base : Heap} (T : Txt P w K mg) (c_numeral_end_2_positive : C_numeral_end_2_positive P w K mg base) (c_err_BadText : C_err_BadText P w K mg base) (c_Fraction_2 : C_Fraction_2 P w K mg base) : FnR P w K mg base (L2N.CX P w) 38 (He.ga K "read_fraction") (spF K (aCons (rp rStr) aNil) (fun d => m_read_fraction d.1) (rp (rFrac K))) := by
  obtain ⟨fd, F⟩ := T.F_read_fraction
  exact FnOk.fr0 (ok_read_fraction T c_numeral_end_2_positive c_err_BadText c_Fraction_2 F) (F.bindsN fun _ _ _ _ _ _ us hl => match us, hl with | [_], _ => rfl)
theorem sc_law_numeral : FnScope ["_law_cell_here", "_law_choice", "_law_span", "_law_limit", "_law_words"] ["_law_cell_here", "_law_choice"] (defScope s_law_numeral) := ⟨rfl, rfl, rfl, by decide +kernel, rfl, by decide +kernel, by decide +kernel⟩
def m_law_numeral (p_cell_here : Int) (p_choice : Int) : Res Str :=
  ((((Res.ok (1 : Int)).bind fun a451 => ((Res.ok (2 : Int)).bind fun a448 => ((Res.ok (3 : Int)).bind fun a445 => ((Res.ok (59 : Int)).bind fun a442 => ((Res.ok (60 : Int)).bind fun a439 => ((Res.ok (61 : Int)).bind fun a436 => ((Res.ok (62 : Int)).bind fun a433 => ((Res.ok (5 : Int)).bind fun a430 => (Res.ok []).bind fun b431 => .ok (a430 :: b431)).bind fun b434 => .ok (a433 :: b434)).bind fun b437 => .ok (a436 :: b437)).bind fun b440 => .ok (a439 :: b440)).bind fun b443 => .ok (a442 :: b443)).bind fun b446 => .ok (a445 :: b446)).bind fun b449 => .ok (a448 :: b449)).bind fun b452 => .ok (a451 :: b452)).bind fun a455 => ((Res.ok p_choice).bind fun a453 => (Res.ok (8 : Int)).bind fun b454 => modI a453 b454).bind fun b456 => atM a455 b456).bind fun v428 => ((((Res.ok (10 : Int)).bind fun a494 => ((Res.ok (100 : Int)).bind fun a491 => ((Res.ok (1000 : Int)).bind fun a488 => (((Res.ok (10 : Int)).bind fun a458 => (Res.ok (59 : Int)).bind fun b459 => powI a458 b459).bind fun a485 => (((Res.ok (10 : Int)).bind fun a460 => (Res.ok (60 : Int)).bind fun b461 => powI a460 b461).bind fun a482 => ((((Res.ok (10 : Int)).bind fun a462 => (Res.ok (60 : Int)).bind fun b463 => powI a462 b463).bind fun a464 => (Res.ok (10 : Int)).bind fun b465 => mulI a464 b465).bind fun a479 => ((((Res.ok (10 : Int)).bind fun a466 => (Res.ok (60 : Int)).bind fun b467 => powI a466 b467).bind fun a468 => (Res.ok (100 : Int)).bind fun b469 => mulI a468 b469).bind fun a476 => (((Res.ok (10 : Int)).bind fun a470 => (Res.ok (5 : Int)).bind fun b471 => powI a470 b471).bind fun a473 => (Res.ok []).bind fun b474 => .ok (a473 :: b474)).bind fun b477 => .ok (a476 :: b477)).bind fun b480 => .ok (a479 :: b480)).bind fun b483 => .ok (a482 :: b483)).bind fun b486 => .ok (a485 :: b486)).bind fun b489 => .ok (a488 :: b489)).bind fun b492 => .ok (a491 :: b492)).bind fun b495 => .ok (a494 :: b495)).bind fun a498 => ((Res.ok p_choice).bind fun a496 => (Res.ok (8 : Int)).bind fun b497 => modI a496 b497).bind fun b499 => atM a498 b499).bind fun v457 => (((((((Res.ok p_cell_here).bind fun a501 => (Res.ok ()).bind fun b502 => .ok (a501, b502)).bind (fun d => .ok d.1)).bind fun a503 => (Res.ok v457).bind fun b504 => modI a503 b504).bind fun a505 => (Res.ok ()).bind fun b506 => .ok (a505, b506)).bind (fun d => strM d.1)).bind fun v500 => (((((Res.ok p_choice).bind fun a507 => (Res.ok (8 : Int)).bind fun b508 => fdivI a507 b508).bind fun a509 => (Res.ok (5 : Int)).bind fun b510 => modI a509 b510).bind fun a511 => (Res.ok (1 : Int)).bind fun b512 => .ok (decide (a511 = b512))).bind fun x513 => if x513 = true then (((Res.ok ("0" : Str)).bind fun a518 => ((Res.ok v428).bind fun a516 => (((Res.ok v500).bind fun a514 => (Res.ok ()).bind fun b515 => .ok (a514, b515)).bind (fun d => lenS d.1)).bind fun b517 => .ok (a516 - b517)).bind fun b519 => repS0 a518 b519).bind fun a520 => (Res.ok v500).bind fun b521 => Res.guard (a520.length + b521.length ≤ sizeLine) (.ok (a520 ++ b521))) else (((((Res.ok p_choice).bind fun a523 => (Res.ok (8 : Int)).bind fun b524 => fdivI a523 b524).bind fun a525 => (Res.ok (5 : Int)).bind fun b526 => modI a525 b526).bind fun a527 => (Res.ok (2 : Int)).bind fun b528 => .ok (decide (a527 = b528))).bind fun x529 => if x529 = true then (((Res.ok ("7" : Str)).bind fun a534 => ((Res.ok v428).bind fun a532 => (((Res.ok v500).bind fun a530 => (Res.ok ()).bind fun b531 => .ok (a530, b531)).bind (fun d => lenS d.1)).bind fun b533 => .ok (a532 - b533)).bind fun b535 => repS0 a534 b535).bind fun a536 => (Res.ok v500).bind fun b537 => Res.guard (a536.length + b537.length ≤ sizeLine) (.ok (a536 ++ b537))) else (Res.ok v500))))))
abbrev C_law_numeral (P : Program) (w : World) (K : PySem.W.Frag) (mg : Str → Option Value) (base : Heap) : Prop := FnR P w K mg base (L2N.CX P w) 1 (He.ga K "_law_numeral") (spF K (aCons (rp rInt) (aCons (rp rInt) aNil)) (fun d => m_law_numeral d.1 d.2.1) (rp rStr))
theorem ok_law_numeral {P : Program} {w : World} {K : PySem.W.Frag} {mg : Str → Option Value} {base : Heap} (T : Txt P w K mg) {fd : FuncData} (F : FunD K "_law_numeral" "_law_numeral" (defArgs s_law_numeral) (defBody s_law_numeral) (defScope s_law_numeral) [] [] (He.ga K "_law_numeral") fd) : FnOk P w K mg base (L2N.CX P w) 1 (He.ga K "_law_numeral") fd ["_law_cell_here", "_law_choice"] (spF K (aCons (rp rInt) (aCons (rp rInt) aNil)) (fun d => m_law_numeral d.1 d.2.1) (rp rStr)) := by
  refine FunD.fn (k := 0) (N := ["_law_cell_here", "_law_choice", "_law_span", "_law_limit", "_law_words"]) (ps := ["_law_cell_here", "_law_choice"]) F sc_law_numeral (fun I H vs d h => ?_) (fun cdv A outer s I0 H0 E vs d hr sm h => ?_)
  · obtain ⟨v0, _, rfl, h0, v1, _, rfl, h1, rfl⟩ := h; rfl
  obtain ⟨v0, _, rfl, h0, v1, _, rfl, h1, rfl⟩ := h
  have hx : ∀ {ctx : List (Option SF)} {mem : List MF} (I H : Hp) (σ : St) (d : Option Addr), Stt I0 H0 ctx mem I H σ → Fr H0 d → bK I0 H0 I H σ d := fun _ _ _ _ s f => ⟨s.fm, f⟩
  have tk : L2N.Takes (bx P w K mg base ["_law_cell_here", "_law_choice", "_law_span", "_law_limit", "_law_words"] "_law_numeral" (defScope s_law_numeral) (He.ga K "_law_numeral") cdv A outer s H0 E) (bW E) := L2N.takes_of rfl rfl rfl rfl
  obtain ⟨p_cell_here, p_choice, _⟩ := d
  exact ⟨Stt I0 H0 [some (SF.mk rInt p_cell_here), some (SF.mk rInt p_choice), none, none, none] [], Stt.start sm ⟨h0, h1, ini_nil rfl⟩ rfl (by simp), (JR.seq (J1.cx (c' := fun v428 => [some (SF.mk rInt p_cell_here), some (SF.mk rInt p_choice), some (SF.mk rInt v428), none, none]) (J1.set 2 (JE.ix (JE.rd (JE.ofM (JM.lst (r := rInt) (JA.consL JE.int (JA.consL JE.int (JA.consL JE.int (JA.consL JE.int (JA.consL JE.int (JA.consL JE.int (JA.consL JE.int (JA.consL JE.int JA.nilL))))))))))) (JE.bin (JE.var 1) JE.int opj_mod)) hx sc_law_numeral.nd)) fun v428 => (JR.seq (J1.cx (c' := fun v457 => [some (SF.mk rInt p_cell_here), some (SF.mk rInt p_choice), some (SF.mk rInt v428), some (SF.mk rInt v457), none]) (J1.set 3 (JE.ix (JE.rd (JE.ofM (JM.lst (r := rInt) (JA.consL JE.int (JA.consL JE.int (JA.consL JE.int (JA.consL (JE.bin JE.int JE.int opj_pow) (JA.consL (JE.bin JE.int JE.int opj_pow) (JA.consL (JE.bin (JE.bin JE.int JE.int opj_pow) JE.int opj_mul) (JA.consL (JE.bin (JE.bin JE.int JE.int opj_pow) JE.int opj_mul) (JA.consL (JE.bin JE.int JE.int opj_pow) JA.nilL))))))))))) (JE.bin (JE.var 1) JE.int opj_mod)) hx sc_law_numeral.nd)) fun v457 => (JR.seq (J1.cx (c' := fun v500 => [some (SF.mk rInt p_cell_here), some (SF.mk rInt p_choice), some (SF.mk rInt v428), some (SF.mk rInt v457), some (SF.mk rStr v500)]) (J1.set 4 (JE.callTy (JA.cons (JE.bin (JE.callTy (JA.cons (JE.var 0) JA.nil) cj_int T.n_int boot_int) (JE.var 3) opj_mod) JA.nil) cj_strI T.n_str boot_str) hx sc_law_numeral.nd)) fun v500 => (JR.ifR (JT.cmp (JE.bin (JE.bin (JE.var 1) JE.int opj_fdiv) JE.int opj_mod) JE.int opj_eq) (JR.ret (JE.bin (JE.bin JE.str (JE.bin (JE.var 2) (JE.callB (JA.cons (JE.var 4) JA.nil) cj_lenStr T.n_len boot_len) opj_sub) opj_mulS0) (JE.var 4) opj_addS) hx) (JR.ifR (JT.cmp (JE.bin (JE.bin (JE.var 1) JE.int opj_fdiv) JE.int opj_mod) JE.int opj_eq) (JR.ret (JE.bin (JE.bin JE.str (JE.bin (JE.var 2) (JE.callB (JA.cons (JE.var 4) JA.nil) cj_lenStr T.n_len boot_len) opj_sub) opj_mulS0) (JE.var 4) opj_addS) hx) (JR.ret (JE.var 4) hx) hx) hx))))⟩
theorem fn_law_numeral {P : Program} {w : World} {K : PySem.W.Frag} {mg : Str → Option Value} {base : Heap} (T : Txt P w K mg) : FnR P w K mg base (L2N.CX P w) 1 (He.ga K "_law_numeral") (spF K (aCons (rp rInt) (aCons (rp rInt) aNil)) (fun d => m_law_numeral d.1 d.2.1) (rp rStr)) := by
  obtain ⟨fd, F⟩ := T.F_law_numeral
  exact FnOk.fr0 (ok_law_numeral T F) (F.bindsN fun _ _ _ _ _ _ us hl => match us, hl with | [_, _], _ => rfl)
theorem sc_law_column : FnScope ["_law_line", "_law_state", "_law_count", "_law_at", "_law_char_here", "_law_digit"] ["_law_line"] (defScope s_law_column) := ⟨rfl, rfl, rfl, by decide +kernel, rfl, by decide +kernel, by decide +kernel⟩
def m_law_column (p_line : Str) : Res Int :=
  ((Res.ok ("start" : Str)).bind fun v638 => ((Res.ok (0 : Int)).bind fun v639 => ((((((Res.ok p_line).bind fun a641 => (Res.ok ()).bind fun b642 => .ok (a641, b642)).bind (fun d => lenS d.1)).bind fun a643 => rangeM1 a643).bind fun l737 => (forG (fun (i644 : Int) (s640 : (Str × Int)) => ((((Res.ok p_line).bind fun a646 => (Res.ok i644).bind fun b647 => atS a646 b647).bind fun v645 => (((Res.ok v645).bind fun a649 => (Res.ok ("0123456789" : Str)).bind fun b650 => inSg a649 b650).bind fun v648 => ((((((Res.ok s640.1).bind fun a651 => (Res.ok ("start" : Str)).bind fun b652 => .ok (decide (a651 = b652))).bind fun a655 => if a655 = true then ((Res.ok v645).bind fun a653 => (Res.ok ("-" : Str)).bind fun b654 => .ok (decide (a653 = b654))) else .ok false).bind fun x736 => if x736 = true then ((Res.ok ("minus" : Str)).bind fun v656 => (Res.ok (Fl.nx (v656, s640.2)))) else ((((((Res.ok s640.1).bind fun a657 => (Res.ok ("start" : Str)).bind fun b658 => .ok (decide (a657 = b658))).bind fun a661 => if a661 = true then ((Res.ok v645).bind fun a659 => (Res.ok ("0" : Str)).bind fun b660 => .ok (decide (a659 = b660))) else .ok false).bind fun x734 => if x734 = true then ((Res.ok ("zero" : Str)).bind fun v662 => (Res.ok (Fl.nx (v662, s640.2)))) else ((((((Res.ok s640.1).bind fun a672 => ((Res.ok ("start" : Str)).bind fun a667 => ((Res.ok ("minus" : Str)).bind fun a664 => (Res.ok []).bind fun b665 => .ok (a664 :: b665)).bind fun b668 => .ok (a667 :: b668)).bind fun b673 => .ok (b673.contains a672)).bind fun a677 => if a677 = true then ((Res.ok v648).bind fun a676 => if a676 = true then ((Res.ok v645).bind fun a674 => (Res.ok ("0" : Str)).bind fun b675 => .ok (!decide (a674 = b675))) else .ok false) else .ok false).bind fun x732 => if x732 = true then ((Res.ok ("top" : Str)).bind fun v678 => ((Res.ok (1 : Int)).bind fun v679 => (Res.ok (Fl.nx (v678, v679))))) else ((((((Res.ok s640.1).bind fun a680 => (Res.ok ("slash" : Str)).bind fun b681 => .ok (decide (a680 = b681))).bind fun a685 => if a685 = true then ((Res.ok v648).bind fun a684 => if a684 = true then ((Res.ok v645).bind fun a682 => (Res.ok ("0" : Str)).bind fun b683 => .ok (!decide (a682 = b683))) else .ok false) else .ok false).bind fun x730 => if x730 = true then ((Res.ok ("bottom" : Str)).bind fun v686 => ((Res.ok (1 : Int)).bind fun v687 => (Res.ok (Fl.nx (v686, v687))))) else ((((((Res.ok s640.1).bind fun a697 => ((Res.ok ("top" : Str)).bind fun a692 => ((Res.ok ("bottom" : Str)).bind fun a689 => (Res.ok []).bind fun b690 => .ok (a689 :: b690)).bind fun b693 => .ok (a692 :: b693)).bind fun b698 => .ok (b698.contains a697)).bind fun a702 => if a702 = true then ((Res.ok v648).bind fun a701 => if a701 = true then ((Res.ok s640.2).bind fun a699 => (Res.ok (60 : Int)).bind fun b700 => .ok (decide (a699 < b700))) else .ok false) else .ok false).bind fun x728 => if x728 = true then (((Res.ok s640.2).bind fun a704 => (Res.ok (1 : Int)).bind fun b705 => .ok (a704 + b705)).bind fun v703 => (Res.ok (Fl.nx (s640.1, v703)))) else ((((((Res.ok s640.1).bind fun a715 => ((Res.ok ("top" : Str)).bind fun a710 => ((Res.ok ("zero" : Str)).bind fun a707 => (Res.ok []).bind fun b708 => .ok (a707 :: b708)).bind fun b711 => .ok (a710 :: b711)).bind fun b716 => .ok (b716.contains a715)).bind fun a719 => if a719 = true then ((Res.ok v645).bind fun a717 => (Res.ok ("/" : Str)).bind fun b718 => .ok (decide (a717 = b718))) else .ok false).bind fun x726 => if x726 = true then ((Res.ok ("slash" : Str)).bind fun v720 => (Res.ok (Fl.nx v720))) else (((Res.ok i644).bind fun a721 => (Res.ok (1 : Int)).bind fun b722 => .ok (a721 + b722)).bind fun r724 => .ok (Fl.rt r724))) : Res (Fl Str (Str × Int) Int)).bind (Fl.then fun s725 => (Res.ok (Fl.nx (s725, s640.2)))))) : Res (Fl (Str × Int) (Str × Int) Int)).bind (Fl.then fun s727 => (Res.ok (Fl.nx (s727.1, s727.2)))))) : Res (Fl (Str × Int) (Str × Int) Int)).bind (Fl.then fun s729 => (Res.ok (Fl.nx (s729.1, s729.2)))))) : Res (Fl (Str × Int) (Str × Int) Int)).bind (Fl.then fun s731 => (Res.ok (Fl.nx (s731.1, s731.2)))))) : Res (Fl (Str × Int) (Str × Int) Int)).bind (Fl.then fun s733 => (Res.ok (Fl.nx (s733.1, s733.2)))))) : Res (Fl (Str × Int) (Str × Int) Int)).bind (Fl.then fun s735 => (Res.ok (Fl.nx (s735.1, s735.2))))))) : Res (Fl (Str × Int) (Str × Int) Int))) l737 (v638, v639) : Res (Fl (Str × Int) Unit Int))).bind (Fl.out fun s640 => (((Res.ok s640.1).bind fun a750 => ((Res.ok ("start" : Str)).bind fun a745 => ((Res.ok ("minus" : Str)).bind fun a742 => ((Res.ok ("slash" : Str)).bind fun a739 => (Res.ok []).bind fun b740 => .ok (a739 :: b740)).bind fun b743 => .ok (a742 :: b743)).bind fun b746 => .ok (a745 :: b746)).bind fun b751 => .ok (b751.contains a750)).bind fun x752 => if x752 = true then ((((Res.ok p_line).bind fun a753 => (Res.ok ()).bind fun b754 => .ok (a753, b754)).bind (fun d => lenS d.1)).bind fun a755 => (Res.ok (1 : Int)).bind fun b756 => .ok (a755 + b756)) else (Res.ok (0 : Int)))))))
abbrev C_law_column (P : Program) (w : World) (K : PySem.W.Frag) (mg : Str → Option Value) (base : Heap) : Prop := FnR P w K mg base (L2N.CX P w) 1 (He.ga K "_law_column") (spF K (aCons (rp rStr) aNil) (fun d => m_law_column d.1) (rp rInt))
theorem ok_law_column {P : Program} {w : World} {K : PySem.W.Frag} {mg : Str → Option Value} {base : Heap} (T : Txt P w K mg) {fd : FuncData} (F : FunD K "_law_column" "_law_column" (defArgs s_law_column) (defBody s_law_column) (defScope s_law_column) [] [] (He.ga K "_law_column") fd) : FnOk P w K mg base (L2N.CX P w) 1 (He.ga K "_law_column") fd ["_law_line"] (spF K (aCons (rp rStr) aNil) (fun d => m_law_column d.1) (rp rInt)) := by
  refine FunD.fn (k := 0) (N := ["_law_line", "_law_state", "_law_count", "_law_at", "_law_char_here", "_law_digit"]) (ps := ["_law_line"]) F sc_law_column (fun I H vs d h => ?_) (fun cdv A outer s I0 H0 E vs d hr sm h => ?_)
  · obtain ⟨v0, _, rfl, h0, rfl⟩ := h; rfl
  obtain ⟨v0, _, rfl, h0, rfl⟩ := h
  have hx : ∀ {ctx : List (Option SF)} {mem : List MF} (I H : Hp) (σ : St) (d : Option Addr), Stt I0 H0 ctx mem I H σ → Fr H0 d → bK I0 H0 I H σ d := fun _ _ _ _ s f => ⟨s.fm, f⟩
  have tk : L2N.Takes (bx P w K mg base ["_law_line", "_law_state", "_law_count", "_law_at", "_law_char_here", "_law_digit"] "_law_column" (defScope s_law_column) (He.ga K "_law_column") cdv A outer s H0 E) (bW E) := L2N.takes_of rfl rfl rfl rfl
  have hp : PsO9 P w (bx P w K mg base ["_law_line", "_law_state", "_law_count", "_law_at", "_law_char_here", "_law_digit"] "_law_column" (defScope s_law_column) (He.ga K "_law_column") cdv A outer s H0 E) := passes_of rfl
  obtain ⟨p_line, _⟩ := d
  exact ⟨Stt I0 H0 [some (SF.mk rStr p_line), none, none, none, none, none] [], Stt.start sm ⟨h0, ini_nil rfl⟩ rfl (by simp), (JR.seq (J1.cx (c' := fun v638 => [some (SF.mk rStr p_line), some (SF.mk rStr v638), none, none, none, none]) (J1.set 1 JE.str hx sc_law_column.nd)) fun v638 => (JR.seq (J1.cx (c' := fun v639 => [some (SF.mk rStr p_line), some (SF.mk rStr v638), some (SF.mk rInt v639), none, none, none]) (J1.set 2 JE.int hx sc_law_column.nd)) fun v639 => (JR.seqG (GL := fun _ _ _ _ => False) (J1G.forG (S := (Str × Int)) (cx := fun s640 => [some (SF.mk rStr p_line), some (SF.mk rStr s640.1), some (SF.mk rInt s640.2), none, none, none]) (me := fun s640 => []) (s0 := (v638, v639)) 3 hp (JI.range1 (JE.callB (JA.cons (JE.var 0) JA.nil) cj_lenStr T.n_len boot_len) T.n_range) (fun i644 s640 => JG.at (c' := [some (SF.mk rStr p_line), some (SF.mk rStr s640.1), some (SF.mk rInt s640.2), some (SF.mk rInt i644), none, none]) (JG.seq (J1.cx (c' := fun v645 => [some (SF.mk rStr p_line), some (SF.mk rStr s640.1), some (SF.mk rInt s640.2), some (SF.mk rInt i644), some (SF.mk rStr v645), none]) (J1.set 4 (JE.ixStr (JE.var 0) (JE.var 3)) hx sc_law_column.nd)) fun v645 => (JG.seq (J1.cx (c' := fun v648 => [some (SF.mk rStr p_line), some (SF.mk rStr s640.1), some (SF.mk rInt s640.2), some (SF.mk rInt i644), some (SF.mk rStr v645), some (SF.mk rBl v648)]) (J1.set 5 (JE.cmp (JE.var 4) JE.str opj_inSg) hx sc_law_column.nd)) fun v648 => (JG.seqG (J1G.if (S := (Str × Int)) (G' := fun s735 => Stt I0 H0 [some (SF.mk rStr p_line), some (SF.mk rStr s735.1), some (SF.mk rInt s735.2), some (SF.mk rInt i644), some (SF.mk rStr v645), some (SF.mk rBl v648)] []) (JT.bool (JW.and (JT.cmp (JE.var 1) JE.str opj_eqS) (JW.and1 (JT.cmp (JE.var 4) JE.str opj_eqS)))) (JG.seq (J1.cx (c' := fun v656 => [some (SF.mk rStr p_line), some (SF.mk rStr v656), some (SF.mk rInt s640.2), some (SF.mk rInt i644), some (SF.mk rStr v645), some (SF.mk rBl v648)]) (J1.set 1 JE.str hx sc_law_column.nd)) fun v656 => (JG.nil (fun _ _ _ h => h))) (JG.seqG (J1G.if (S := (Str × Int)) (G' := fun s733 => Stt I0 H0 [some (SF.mk rStr p_line), some (SF.mk rStr s733.1), some (SF.mk rInt s733.2), some (SF.mk rInt i644), some (SF.mk rStr v645), some (SF.mk rBl v648)] []) (JT.bool (JW.and (JT.cmp (JE.var 1) JE.str opj_eqS) (JW.and1 (JT.cmp (JE.var 4) JE.str opj_eqS)))) (JG.seq (J1.cx (c' := fun v662 => [some (SF.mk rStr p_line), some (SF.mk rStr v662), some (SF.mk rInt s640.2), some (SF.mk rInt i644), some (SF.mk rStr v645), some (SF.mk rBl v648)]) (J1.set 1 JE.str hx sc_law_column.nd)) fun v662 => (JG.nil (fun _ _ _ h => h))) (JG.seqG (J1G.if (S := (Str × Int)) (G' := fun s731 => Stt I0 H0 [some (SF.mk rStr p_line), some (SF.mk rStr s731.1), some (SF.mk rInt s731.2), some (SF.mk rInt i644), some (SF.mk rStr v645), some (SF.mk rBl v648)] []) (JT.bool (JW.and (JT.cmp (JE.var 1) (JE.sqL (JE.rd (JE.ofM (JM.lst (r := rStr) (JA.consL JE.str (JA.consL JE.str JA.nilL)))))) opj_inS) (JW.and (JT.of (JE.var 5)) (JW.and1 (JT.cmp (JE.var 4) JE.str opj_neS))))) (JG.seq (J1.cx (c' := fun v678 => [some (SF.mk rStr p_line), some (SF.mk rStr v678), some (SF.mk rInt s640.2), some (SF.mk rInt i644), some (SF.mk rStr v645), some (SF.mk rBl v648)]) (J1.set 1 JE.str hx sc_law_column.nd)) fun v678 => (JG.seq (J1.cx (c' := fun v679 => [some (SF.mk rStr p_line), some (SF.mk rStr v678), some (SF.mk rInt v679), some (SF.mk rInt i644), some (SF.mk rStr v645), some (SF.mk rBl v648)]) (J1.set 2 JE.int hx sc_law_column.nd)) fun v679 => (JG.nil (fun _ _ _ h => h)))) (JG.seqG (J1G.if (S := (Str × Int)) (G' := fun s729 => Stt I0 H0 [some (SF.mk rStr p_line), some (SF.mk rStr s729.1), some (SF.mk rInt s729.2), some (SF.mk rInt i644), some (SF.mk rStr v645), some (SF.mk rBl v648)] []) (JT.bool (JW.and (JT.cmp (JE.var 1) JE.str opj_eqS) (JW.and (JT.of (JE.var 5)) (JW.and1 (JT.cmp (JE.var 4) JE.str opj_neS))))) (JG.seq (J1.cx (c' := fun v686 => [some (SF.mk rStr p_line), some (SF.mk rStr v686), some (SF.mk rInt s640.2), some (SF.mk rInt i644), some (SF.mk rStr v645), some (SF.mk rBl v648)]) (J1.set 1 JE.str hx sc_law_column.nd)) fun v686 => (JG.seq (J1.cx (c' := fun v687 => [some (SF.mk rStr p_line), some (SF.mk rStr v686), some (SF.mk rInt v687), some (SF.mk rInt i644), some (SF.mk rStr v645), some (SF.mk rBl v648)]) (J1.set 2 JE.int hx sc_law_column.nd)) fun v687 => (JG.nil (fun _ _ _ h => h)))) (JG.seqG (J1G.if (S := (Str × Int)) (G' := fun s727 => Stt I0 H0 [some (SF.mk rStr p_line), some (SF.mk rStr s727.1), some (SF.mk rInt s727.2), some (SF.mk rInt i644), some (SF.mk rStr v645), some (SF.mk rBl v648)] []) (JT.bool (JW.and (JT.cmp (JE.var 1) (JE.sqL (JE.rd (JE.ofM (JM.lst (r := rStr) (JA.consL JE.str (JA.consL JE.str JA.nilL)))))) opj_inS) (JW.and (JT.of (JE.var 5)) (JW.and1 (JT.cmp (JE.var 2) JE.int opj_lt))))) (JG.seq (J1.cx (c' := fun v703 => [some (SF.mk rStr p_line), some (SF.mk rStr s640.1), some (SF.mk rInt v703), some (SF.mk rInt i644), some (SF.mk rStr v645), some (SF.mk rBl v648)]) (J1.set 2 (JE.bin (JE.var 2) JE.int opj_add) hx sc_law_column.nd)) fun v703 => (JG.nil (fun _ _ _ h => h))) (JG.seqG (J1G.if (S := Str) (G' := fun s725 => Stt I0 H0 [some (SF.mk rStr p_line), some (SF.mk rStr s725), some (SF.mk rInt s640.2), some (SF.mk rInt i644), some (SF.mk rStr v645), some (SF.mk rBl v648)] []) (JT.bool (JW.and (JT.cmp (JE.var 1) (JE.sqL (JE.rd (JE.ofM (JM.lst (r := rStr) (JA.consL JE.str (JA.consL JE.str JA.nilL)))))) opj_inS) (JW.and1 (JT.cmp (JE.var 4) JE.str opj_eqS)))) (JG.seq (J1.cx (c' := fun v720 => [some (SF.mk rStr p_line), some (SF.mk rStr v720), some (SF.mk rInt s640.2), some (SF.mk rInt i644), some (SF.mk rStr v645), some (SF.mk rBl v648)]) (J1.set 1 JE.str hx sc_law_column.nd)) fun v720 => (JG.nil (fun _ _ _ h => h))) (JG.rt (JR.ret (JE.bin (JE.var 3) JE.int opj_add) hx)) hx) fun s725 => (JG.nil (fun _ _ _ h => h))) hx) fun s727 => (JG.nil (fun _ _ _ h => h))) hx) fun s729 => (JG.nil (fun _ _ _ h => h))) hx) fun s731 => (JG.nil (fun _ _ _ h => h))) hx) fun s733 => (JG.nil (fun _ _ _ h => h))) hx) fun s735 => (JG.nil (fun _ _ _ h => (Stt.weak h (weak_some (weak_some (weak_some (weak_none (weak_none (weak_none weak_nil))))))))))))) hx (weak_some (weak_some (weak_some (weak_none (weak_none (weak_none weak_nil)))))) sc_law_column.nd) fun s640 => (JR.ifR (JT.cmp (JE.var 1) (JE.sqL (JE.rd (JE.ofM (JM.lst (r := rStr) (JA.consL JE.str (JA.consL JE.str (JA.consL JE.str JA.nilL))))))) opj_inS) (JR.ret (JE.bin (JE.callB (JA.cons (JE.var 0) JA.nil) cj_lenStr T.n_len boot_len) JE.int opj_add) hx) (JR.ret JE.int hx) hx))))⟩
theorem fn_law_column {P : Program} {w : World} {K : PySem.W.Frag} {mg : Str → Option Value} {base : Heap} (T : Txt P w K mg) : FnR P w K mg base (L2N.CX P w) 1 (He.ga K "_law_column") (spF K (aCons (rp rStr) aNil) (fun d => m_law_column d.1) (rp rInt)) := by
  obtain ⟨fd, F⟩ := T.F_law_column
  exact FnOk.fr0 (ok_law_column T F) (F.bindsN fun _ _ _ _ _ _ us hl => match us, hl with | [_], _ => rfl)
abbrev C_read_fraction_0_text (P : Program) (w : World) (K : PySem.W.Frag) (mg : Str → Option Value) (base : Heap) : Prop := MkK P w K mg base 38 (He.ga K "read_fraction") ["text"] aNil (aCons (rp rStr) aNil) (fun (x : (Unit)) (y : (Str × Unit)) => m_read_fraction y.1) (rp (rFrac K))
theorem fn_read_fraction_0_text {P : Program} {w : World} {K : PySem.W.Frag} {mg : Str → Option Value} {base : Heap} (T : Txt P w K mg) (c_numeral_end_2_positive : C_numeral_end_2_positive P w K mg base) (c_err_BadText : C_err_BadText P w K mg base) (c_Fraction_2 : C_Fraction_2 P w K mg base) : C_read_fraction_0_text P w K mg base := by
  obtain ⟨fd, F⟩ := T.F_read_fraction
  have hb := kbindsN (ps := ["text"]) F 0 ["text"] (fun us ws => us ++ ws) (fun a c => a.append c) fun kV doc pm an cdv ct us ws hl hw => match us, hl, ws, hw with | [], _, [_], _ => rfl
  exact fun X W e1 e2 e3 e4 e5 hr tk => by
    subst e1; subst e2; subst e3; subst e4; subst e5
    exact cjk_fn (n := 0) (R := aNil) (R' := (aCons (rp rStr) aNil)) (m := (fun (d : (Str × Unit)) => m_read_fraction d.1)) (h := fun (x : (Unit)) (y : (Str × Unit)) => (y.1, ())) (ok_read_fraction T c_numeral_end_2_positive c_err_BadText c_Fraction_2 F) hr hb tk fun I H vs zs x y r r' => by
      obtain rfl := r
      obtain ⟨w0, _, rfl, k0, rfl⟩ := r'
      exact ⟨rfl, rfl, _, _, rfl, k0, rfl⟩
theorem sc_law_read : FnScope ["_law_line", "_law_column_here", "_law_got", "e", "_law_parts", "_law_bottom", "_law_divisor_here"] ["_law_line"] (defScope s_law_read) := ⟨rfl, rfl, rfl, by decide +kernel, rfl, by decide +kernel, by decide +kernel⟩
def m_law_read (p_line : Str) : Res Bool :=
  ((((Res.ok p_line).bind fun a542 => (Res.ok ()).bind fun b543 => .ok (a542, b543)).bind (fun d => m_law_column d.1)).bind fun v540 => ((tryG (((((Res.ok p_line).bind fun a547 => (Res.ok ()).bind fun b548 => .ok (a547, b548)).bind fun y549 => (fun (x : (Unit)) (y : (Str × Unit)) => m_read_fraction y.1) () y549).bind fun v545 => (Res.ok (Fl.nx v545))) : Res (Fl Rat Unit Bool)) [("BadText", true)] (fun ee => pay2 "column" "line" dInt dInt (fun y551 y554 => (((Res.ok true).bind fun a575 => if a575 = true then (((Res.ok v540).bind fun a558 => (Res.ok (0 : Int)).bind fun b559 => .ok (decide (a558 > b559))).bind fun a574 => if a574 = true then (((Res.ok y551).bind fun a564 => ((Res.ok y554).bind fun a561 => (Res.ok []).bind fun b562 => .ok (a561 :: b562)).bind fun b565 => .ok (a564 :: b565)).bind fun a572 => ((Res.ok (1 : Int)).bind fun a570 => ((Res.ok v540).bind fun a567 => (Res.ok []).bind fun b568 => .ok (a567 :: b568)).bind fun b571 => .ok (a570 :: b571)).bind fun b573 => .ok (decide (a572 = b573))) else .ok false) else .ok false).bind fun r577 => .ok (Fl.rt r577))) ee.pay)).bind (Fl.out fun s578 => ((((Res.ok v540).bind fun a579 => (Res.ok (0 : Int)).bind fun b580 => .ok (decide (a579 > b580))).bind fun a583 => if a583 = true then .ok true else (((Res.ok s578).bind fun a581 => .ok true).bind fun a582 => .ok (!a582))).bind fun x584 => if x584 = true then (Res.ok false) else (((Res.ok p_line).bind fun a587 => (Res.ok ("/" : Str)).bind fun b588 => splitS a587 b588).bind fun v586 => ((Res.ok (1 : Int)).bind fun v589 => ((((((Res.ok v586).bind fun a591 => (Res.ok ()).bind fun b592 => .ok (a591, b592)).bind (fun d => .ok (d.1.length : Int))).bind fun a593 => (Res.ok (2 : Int)).bind fun b594 => .ok (decide (a593 = b594))).bind fun x601 => if x601 = true then (((((Res.ok v586).bind fun a596 => (Res.ok (1 : Int)).bind fun b597 => atM a596 b597).bind fun a598 => (Res.ok ()).bind fun b599 => .ok (a598, b599)).bind (fun d => intS d.1)).bind fun v595 => (Res.ok v595)) else (Res.ok v589)).bind fun s600 => (((((((Res.ok v586).bind fun a603 => (Res.ok (0 : Int)).bind fun b604 => atM a603 b604).bind fun a605 => (Res.ok ()).bind fun b606 => .ok (a605, b606)).bind (fun d => intS d.1)).bind fun a611 => ((Res.ok s600).bind fun a609 => (Res.ok ()).bind fun b610 => .ok (a609, b610)).bind fun b612 => .ok (a611, b612)).bind (fun d => m_law_divisor d.1 d.2.1)).bind fun v602 => ((((Res.ok s578).bind fun a613 => .ok a613.num).bind fun a619 => (((Res.ok s578).bind fun a614 => .ok (a614.den : Int)).bind fun a616 => (Res.ok []).bind fun b617 => .ok (a616 :: b617)).bind fun b620 => .ok (a619 :: b620)).bind fun a635 => ((((((Res.ok v586).bind fun a621 => (Res.ok (0 : Int)).bind fun b622 => atM a621 b622).bind fun a623 => (Res.ok ()).bind fun b624 => .ok (a623, b624)).bind (fun d => intS d.1)).bind fun a625 => (Res.ok v602).bind fun b626 => fdivI a625 b626).bind fun a633 => (((Res.ok s600).bind fun a627 => (Res.ok v602).bind fun b628 => fdivI a627 b628).bind fun a630 => (Res.ok []).bind fun b631 => .ok (a630 :: b631)).bind fun b634 => .ok (a633 :: b634)).bind fun b636 => .ok (decide (a635 = b636)))))))))))
abbrev C_law_read (P : Program) (w : World) (K : PySem.W.Frag) (mg : Str → Option Value) (base : Heap) : Prop := FnR P w K mg base (L2N.CX P w) 39 (He.ga K "_law_read") (spF K (aCons (rp rStr) aNil) (fun d => m_law_read d.1) (rp rBl))
theorem ok_law_read {P : Program} {w : World} {K : PySem.W.Frag} {mg : Str → Option Value} {base : Heap} (T : Txt P w K mg) (c_law_column : C_law_column P w K mg base) (c_read_fraction_0_text : C_read_fraction_0_text P w K mg base) (c_law_divisor : C_law_divisor P w K mg base) {fd : FuncData} (F : FunD K "_law_read" "_law_read" (defArgs s_law_read) (defBody s_law_read) (defScope s_law_read) [] [] (He.ga K "_law_read") fd) : FnOk P w K mg base (L2N.CX P w) 39 (He.ga K "_law_read") fd ["_law_line"] (spF K (aCons (rp rStr) aNil) (fun d => m_law_read d.1) (rp rBl)) := by
  refine FunD.fn (k := 38) (N := ["_law_line", "_law_column_here", "_law_got", "e", "_law_parts", "_law_bottom", "_law_divisor_here"]) (ps := ["_law_line"]) F sc_law_read (fun I H vs d h => ?_) (fun cdv A outer s I0 H0 E vs d hr sm h => ?_)
  · obtain ⟨v0, _, rfl, h0, rfl⟩ := h; rfl
  obtain ⟨v0, _, rfl, h0, rfl⟩ := h
  have hx : ∀ {ctx : List (Option SF)} {mem : List MF} (I H : Hp) (σ : St) (d : Option Addr), Stt I0 H0 ctx mem I H σ → Fr H0 d → bK I0 H0 I H σ d := fun _ _ _ _ s f => ⟨s.fm, f⟩
  have tk : L2N.Takes (bx P w K mg base ["_law_line", "_law_column_here", "_law_got", "e", "_law_parts", "_law_bottom", "_law_divisor_here"] "_law_read" (defScope s_law_read) (He.ga K "_law_read") cdv A outer s H0 E) (bW E) := L2N.takes_of rfl rfl rfl rfl
  have hp : PsO9 P w (bx P w K mg base ["_law_line", "_law_column_here", "_law_got", "e", "_law_parts", "_law_bottom", "_law_divisor_here"] "_law_read" (defScope s_law_read) (He.ga K "_law_read") cdv A outer s H0 E) := passes_of rfl
  obtain ⟨p_line, _⟩ := d
  exact ⟨Stt I0 H0 [some (SF.mk rStr p_line), none, none, none, none, none, none] [], Stt.start sm ⟨h0, ini_nil rfl⟩ rfl (by simp), (JR.seq (J1.cx (c' := fun v540 => [some (SF.mk rStr p_line), some (SF.mk rInt v540), none, none, none, none, none]) (J1.set 1 (JE.call (JA.cons (JE.var 0) JA.nil) (cj_of c_law_column (hr.mono (by decide)) tk) T.g_law_column T.k_law_column) hx sc_law_read.nd)) fun v540 => (JR.seqG (GL := fun _ _ _ _ => False) (J1G.tryAs2 3 "line" "column" dInt dInt (c0 := "BadText") (cv := .ref (He.ga K "BadText")) (Ls := [("BadText", true)]) (cw := [some (SF.mk rStr p_line), some (SF.mk rInt v540), none, none, none, none, none]) (me' := fun I544 => [MF.same I544]) (G' := fun s578 => Stt I0 H0 [some (SF.mk rStr p_line), some (SF.mk rInt v540), some (SF.mk (rFrac K) s578), none, none, none, none] []) tk (by exact fun W' pn xe I544 tk hp => (JG.seq (J1.cx (c' := fun v545 => [some (SF.mk rStr p_line), some (SF.mk rInt v540), some (SF.mk (rFrac K) v545), none, none, none, none]) (J1.set 2 (JE.callK0 (g := (fun (x : (Unit)) (y : (Str × Unit)) => m_read_fraction y.1)) (JK.cons (JE.var 0) JK.nil) (c_read_fraction_0_text _ _ rfl rfl rfl rfl rfl (hr.mono (by decide)) tk) T.g_read_fraction T.k_read_fraction) (fun _ _ _ _ s f => ⟨s.weak (by repeat (first | exact weak_nil | apply weak_some | apply weak_none)), f⟩) sc_law_read.nd)) fun v545 => (JG.nil (fun _ _ _ h => (Stt.forgetAt h 0 rfl))))) (by exact fun a oe dd pn p552 p555 y551 y554 hz hf hd553 hd556 => (JG.rt (JR.ret (JE.and (JE.isV 0 hz hf T.xc_BadText T.kt_BadText_TracerError (JE.var 3) (w_glob_at T.g_TracerError rfl (by decide)) (.own _) T.n_isinstance) (JE.and (JE.cmp (JE.var 1) JE.int opj_gt) (JE.one (JE.cmp (JE.rd (JE.ofM (JM.lst (r := rInt) (JA.consL (JE.xfld 3 0 (r := rInt) (dp := dInt) hz hf T.ev_BadText.xf (T.ev_BadText.no _ (by simp)) hd553 rfl (JE.var 3)) (JA.consL (JE.xfld 3 0 (r := rInt) (dp := dInt) hz hf T.ev_BadText.xf (T.ev_BadText.no _ (by simp)) hd556 rfl (JE.var 3)) JA.nilL))))) (JE.rd (JE.ofM (JM.lst (r := rInt) (JA.consL JE.int (JA.consL (JE.var 1) JA.nilL))))) (opj_eqL hr.units))))) (fun _ _ _ _ _ _ => True.intro)))) (fun c h => by simpa using h) (fun y b h => by
        simp only [List.mem_cons, List.mem_nil_iff, or_false, Prod.mk.injEq] at h
        obtain ⟨rfl, rfl⟩ := h
        exact T.xm_BadText_BadText) ⟨rfl, by decide, .inl T.g_BadText⟩ hx sc_law_read.nd (hmx := (by repeat (first | exact True.intro | refine ⟨noxd_lst, ?_⟩ | refine ⟨noxd_ins, ?_⟩ | refine ⟨noxd_obj, ?_⟩)))) fun s578 => (JR.ifR (JT.bool (JW.or (JT.cmp (JE.var 1) JE.int opj_gt) (JW.or1 (JT.not (JT.of (JE.isi (JE.var 2) (w_glob_at T.g_Fraction rfl (by decide)) (.own _) (tyr_ins T.o_Fraction insF T.kt_Fraction_Fraction) T.n_isinstance)))))) (JR.ret JE.bl hx) (JR.seq (J1.cx (c' := fun v586 => [some (SF.mk rStr p_line), some (SF.mk rInt v540), some (SF.mk (rFrac K) s578), none, some (SF.mk (rL rStr) v586), none, none]) (J1.set 4 (JE.ofM (JM.split (JE.var 0) JE.str)) hx sc_law_read.nd)) fun v586 => (JR.seq (J1.cx (c' := fun v589 => [some (SF.mk rStr p_line), some (SF.mk rInt v540), some (SF.mk (rFrac K) s578), none, some (SF.mk (rL rStr) v586), some (SF.mk rInt v589), none]) (J1.set 5 JE.int hx sc_law_read.nd)) fun v589 => (JR.seq (J1.if (S := Int) (G' := fun s600 => Stt I0 H0 [some (SF.mk rStr p_line), some (SF.mk rInt v540), some (SF.mk (rFrac K) s578), none, some (SF.mk (rL rStr) v586), some (SF.mk rInt s600), none] []) (JT.cmp (JE.callB (JA.cons (JE.rd (JE.var 4)) JA.nil) cj_len T.n_len boot_len) JE.int opj_eq) (JN.seq (J1.cx (c' := fun v595 => [some (SF.mk rStr p_line), some (SF.mk rInt v540), some (SF.mk (rFrac K) s578), none, some (SF.mk (rL rStr) v586), some (SF.mk rInt v595), none]) (J1.set 5 (JE.callTy (JA.cons (JE.ix (JE.rd (JE.var 4)) JE.int) JA.nil) cj_intS T.n_int boot_int) hx sc_law_read.nd)) fun v595 => (JN.nil (fun _ _ _ h => h))) (JN.nil (fun _ _ _ h => h)) hx) fun s600 => (JR.seq (J1.cx (c' := fun v602 => [some (SF.mk rStr p_line), some (SF.mk rInt v540), some (SF.mk (rFrac K) s578), none, some (SF.mk (rL rStr) v586), some (SF.mk rInt s600), some (SF.mk rInt v602)]) (J1.set 6 (JE.call (JA.cons (JE.callTy (JA.cons (JE.ix (JE.rd (JE.var 4)) JE.int) JA.nil) cj_intS T.n_int boot_int) (JA.cons (JE.var 5) JA.nil)) (cj_of c_law_divisor (hr.mono (by decide)) tk) T.g_law_divisor T.k_law_divisor) hx sc_law_read.nd)) fun v602 => (JR.ret (JE.cmp (JE.rd (JE.ofM (JM.lst (r := rInt) (JA.consL (JE.fld (JE.var 2) fld_top T.o_Fraction.cl T.na_Fraction_top) (JA.consL (JE.fld (JE.var 2) fld_bottom T.o_Fraction.cl T.na_Fraction_bottom) JA.nilL))))) (JE.rd (JE.ofM (JM.lst (r := rInt) (JA.consL (JE.bin (JE.callTy (JA.cons (JE.ix (JE.rd (JE.var 4)) JE.int) JA.nil) cj_intS T.n_int boot_int) (JE.var 6) opj_fdiv) (JA.consL (JE.bin (JE.var 5) (JE.var 6) opj_fdiv) JA.nilL))))) (opj_eqL hr.units)) hx))))) hx)))⟩
theorem fn_law_read {P : Program} {w : World} {K : PySem.W.Frag} {mg : Str → Option Value} {base : Heap} (T : Txt P w K mg) (c_law_column : C_law_column P w K mg base) (c_read_fraction_0_text : C_read_fraction_0_text P w K mg base) (c_law_divisor : C_law_divisor P w K mg base) : FnR P w K mg base (L2N.CX P w) 39 (He.ga K "_law_read") (spF K (aCons (rp rStr) aNil) (fun d => m_law_read d.1) (rp rBl)) := by
  obtain ⟨fd, F⟩ := T.F_law_read
  exact FnOk.fr0 (ok_law_read T c_law_column c_read_fraction_0_text c_law_divisor F) (F.bindsN fun _ _ _ _ _ _ us hl => match us, hl with | [_], _ => rfl)
theorem sc_law_char : FnScope ["_law_choice", "_law_chars"] ["_law_choice"] (defScope s_law_char) := ⟨rfl, rfl, rfl, by decide +kernel, rfl, by decide +kernel, by decide +kernel⟩
def m_law_char (p_choice : Int) : Res Str :=
  ((Res.ok (" !\"#$&'()*+,-./0123456789:;<=>?@ABCDEFGHIJKLMNOPQRSTUVWXYZ[\\]^_`abcdefghijklmnopqrstuvwxyz{|}~" : Str)).bind fun v843 => ((((Res.ok p_choice).bind fun a844 => (Res.ok (3 : Int)).bind fun b845 => modI a844 b845).bind fun a846 => (Res.ok (0 : Int)).bind fun b847 => .ok (decide (a846 = b847))).bind fun x848 => if x848 = true then ((Res.ok ("0/-19 " : Str)).bind fun a853 => (((Res.ok p_choice).bind fun a849 => (Res.ok (3 : Int)).bind fun b850 => fdivI a849 b850).bind fun a851 => (Res.ok (6 : Int)).bind fun b852 => modI a851 b852).bind fun b854 => atS a853 b854) else ((Res.ok v843).bind fun a862 => (((Res.ok p_choice).bind fun a856 => (Res.ok (3 : Int)).bind fun b857 => fdivI a856 b857).bind fun a860 => (((Res.ok v843).bind fun a858 => (Res.ok ()).bind fun b859 => .ok (a858, b859)).bind (fun d => lenS d.1)).bind fun b861 => modI a860 b861).bind fun b863 => atS a862 b863)))
abbrev C_law_char (P : Program) (w : World) (K : PySem.W.Frag) (mg : Str → Option Value) (base : Heap) : Prop := FnR P w K mg base (L2N.CX P w) 1 (He.ga K "_law_char") (spF K (aCons (rp rInt) aNil) (fun d => m_law_char d.1) (rp rStr))
theorem ok_law_char {P : Program} {w : World} {K : PySem.W.Frag} {mg : Str → Option Value} {base : Heap} (T : Txt P w K mg) {fd : FuncData} (F : FunD K "_law_char" "_law_char" (defArgs s_law_char) (defBody s_law_char) (defScope s_law_char) [] [] (He.ga K "_law_char") fd) : FnOk P w K mg base (L2N.CX P w) 1 (He.ga K "_law_char") fd ["_law_choice"] (spF K (aCons (rp rInt) aNil) (fun d => m_law_char d.1) (rp rStr)) := by
  refine FunD.fn (k := 0) (N := ["_law_choice", "_law_chars"]) (ps := ["_law_choice"]) F sc_law_char (fun I H vs d h => ?_) (fun cdv A outer s I0 H0 E vs d hr sm h => ?_)
  · obtain ⟨v0, _, rfl, h0, rfl⟩ := h; rfl
  obtain ⟨v0, _, rfl, h0, rfl⟩ := h
  have hx : ∀ {ctx : List (Option SF)} {mem : List MF} (I H : Hp) (σ : St) (d : Option Addr), Stt I0 H0 ctx mem I H σ → Fr H0 d → bK I0 H0 I H σ d := fun _ _ _ _ s f => ⟨s.fm, f⟩
  have tk : L2N.Takes (bx P w K mg base ["_law_choice", "_law_chars"] "_law_char" (defScope s_law_char) (He.ga K "_law_char") cdv A outer s H0 E) (bW E) := L2N.takes_of rfl rfl rfl rfl
  obtain ⟨p_choice, _⟩ := d
  exact ⟨Stt I0 H0 [some (SF.mk rInt p_choice), none] [], Stt.start sm ⟨h0, ini_nil rfl⟩ rfl (by simp), (JR.seq (J1.cx (c' := fun v843 => [some (SF.mk rInt p_choice), some (SF.mk rStr v843)]) (J1.set 1 JE.str hx sc_law_char.nd)) fun v843 => (JR.ifR (JT.cmp (JE.bin (JE.var 0) JE.int opj_mod) JE.int opj_eq) (JR.ret (JE.ixStr JE.str (JE.bin (JE.bin (JE.var 0) JE.int opj_fdiv) JE.int opj_mod)) hx) (JR.ret (JE.ixStr (JE.var 1) (JE.bin (JE.bin (JE.var 0) JE.int opj_fdiv) (JE.callB (JA.cons (JE.var 1) JA.nil) cj_lenStr T.n_len boot_len) opj_mod)) hx) hx))⟩
theorem fn_law_char {P : Program} {w : World} {K : PySem.W.Frag} {mg : Str → Option Value} {base : Heap} (T : Txt P w K mg) : FnR P w K mg base (L2N.CX P w) 1 (He.ga K "_law_char") (spF K (aCons (rp rInt) aNil) (fun d => m_law_char d.1) (rp rStr)) := by
  obtain ⟨fd, F⟩ := T.F_law_char
  exact FnOk.fr0 (ok_law_char T F) (F.bindsN fun _ _ _ _ _ _ us hl => match us, hl with | [_], _ => rfl)
theorem sc_law_spoiled : FnScope ["_law_line", "_law_cell_here", "_law_number", "_law_place", "_law_way", "_law_char_here"] ["_law_line", "_law_cell_here"] (defScope s_law_spoiled) := ⟨rfl, rfl, rfl, by decide +kernel, rfl, by decide +kernel, by decide +kernel⟩
def m_law_spoiled (p_line : Str) (p_cell_here : Int) : Res Str :=
  (((((Res.ok p_cell_here).bind fun a760 => (Res.ok ()).bind fun b761 => .ok (a760, b761)).bind (fun d => .ok d.1)).bind fun a764 => ((Res.ok (10 : Int)).bind fun a762 => (Res.ok (12 : Int)).bind fun b763 => powI a762 b763).bind fun b765 => modI a764 b765).bind fun v759 => (((Res.ok v759).bind fun a771 => ((((Res.ok p_line).bind fun a767 => (Res.ok ()).bind fun b768 => .ok (a767, b768)).bind (fun d => lenS d.1)).bind fun a769 => (Res.ok (1 : Int)).bind fun b770 => .ok (a769 + b770)).bind fun b772 => modI a771 b772).bind fun v766 => ((((Res.ok v759).bind fun a774 => (Res.ok (200 : Int)).bind fun b775 => fdivI a774 b775).bind fun a776 => (Res.ok (8 : Int)).bind fun b777 => modI a776 b777).bind fun v773 => (((((Res.ok v759).bind fun a779 => (Res.ok (1600 : Int)).bind fun b780 => fdivI a779 b780).bind fun a782 => (Res.ok ()).bind fun b783 => .ok (a782, b783)).bind (fun d => m_law_char d.1)).bind fun v778 => (((Res.ok v773).bind fun a784 => (Res.ok (0 : Int)).bind fun b785 => .ok (decide (a784 = b785))).bind fun x786 => if x786 = true then ((((Res.ok p_line).bind fun a787 => (Res.ok none).bind fun b789 => ((Res.ok v766).bind fun b788 => .ok (some b788)).bind fun c790 => slS a787 b789 c790).bind fun a791 => (Res.ok v778).bind fun b792 => Res.guard (a791.length + b792.length ≤ sizeLine) (.ok (a791 ++ b792))).bind fun a797 => ((Res.ok p_line).bind fun a793 => ((Res.ok v766).bind fun b794 => .ok (some b794)).bind fun b795 => (Res.ok none).bind fun c796 => slS a793 b795 c796).bind fun b798 => Res.guard (a797.length + b798.length ≤ sizeLine) (.ok (a797 ++ b798))) else (((Res.ok v773).bind fun a800 => (Res.ok (1 : Int)).bind fun b801 => .ok (decide (a800 = b801))).bind fun x802 => if x802 = true then ((((Res.ok p_line).bind fun a803 => (Res.ok none).bind fun b805 => ((Res.ok v766).bind fun b804 => .ok (some b804)).bind fun c806 => slS a803 b805 c806).bind fun a807 => (Res.ok v778).bind fun b808 => Res.guard (a807.length + b808.length ≤ sizeLine) (.ok (a807 ++ b808))).bind fun a815 => ((Res.ok p_line).bind fun a809 => (((Res.ok v766).bind fun a810 => (Res.ok (1 : Int)).bind fun b811 => .ok (a810 + b811)).bind fun b812 => .ok (some b812)).bind fun b813 => (Res.ok none).bind fun c814 => slS a809 b813 c814).bind fun b816 => Res.guard (a815.length + b816.length ≤ sizeLine) (.ok (a815 ++ b816))) else (((Res.ok v773).bind fun a818 => (Res.ok (2 : Int)).bind fun b819 => .ok (decide (a818 = b819))).bind fun x820 => if x820 = true then (((Res.ok p_line).bind fun a821 => (Res.ok none).bind fun b823 => ((Res.ok v766).bind fun b822 => .ok (some b822)).bind fun c824 => slS a821 b823 c824).bind fun a831 => ((Res.ok p_line).bind fun a825 => (((Res.ok v766).bind fun a826 => (Res.ok (1 : Int)).bind fun b827 => .ok (a826 + b827)).bind fun b828 => .ok (some b828)).bind fun b829 => (Res.ok none).bind fun c830 => slS a825 b829 c830).bind fun b832 => Res.guard (a831.length + b832.length ≤ sizeLine) (.ok (a831 ++ b832))) else (((Res.ok v773).bind fun a834 => (Res.ok (3 : Int)).bind fun b835 => .ok (decide (a834 = b835))).bind fun x836 => if x836 = true then ((Res.ok p_line).bind fun a837 => (Res.ok none).bind fun b839 => ((Res.ok v766).bind fun b838 => .ok (some b838)).bind fun c840 => slS a837 b839 c840) else (Res.ok p_line)))))))))
abbrev C_law_spoiled (P : Program) (w : World) (K : PySem.W.Frag) (mg : Str → Option Value) (base : Heap) : Prop := FnR P w K mg base (L2N.CX P w) 2 (He.ga K "_law_spoiled") (spF K (aCons (rp rStr) (aCons (rp rInt) aNil)) (fun d => m_law_spoiled d.1 d.2.1) (rp rStr))
theorem ok_law_spoiled {P : Program} {w : World} {K : PySem.W.Frag} {mg : Str → Option Value} {base : Heap} (T : Txt P w K mg) (c_law_char : C_law_char P w K mg base) {fd : FuncData} (F : FunD K "_law_spoiled" "_law_spoiled" (defArgs s_law_spoiled) (defBody s_law_spoiled) (defScope s_law_spoiled) [] [] (He.ga K "_law_spoiled") fd) : FnOk P w K mg base (L2N.CX P w) 2 (He.ga K "_law_spoiled") fd ["_law_line", "_law_cell_here"] (spF K (aCons (rp rStr) (aCons (rp rInt) aNil)) (fun d => m_law_spoiled d.1 d.2.1) (rp rStr)) := by
  refine FunD.fn (k := 1) (N := ["_law_line", "_law_cell_here", "_law_number", "_law_place", "_law_way", "_law_char_here"]) (ps := ["_law_line", "_law_cell_here"]) F sc_law_spoiled (fun I H vs d h => ?_) (fun cdv A outer s I0 H0 E vs d hr sm h => ?_)
  · obtain ⟨v0, _, rfl, h0, v1, _, rfl, h1, rfl⟩ := h; rfl
  obtain ⟨v0, _, rfl, h0, v1, _, rfl, h1, rfl⟩ := h
  have hx : ∀ {ctx : List (Option SF)} {mem : List MF} (I H : Hp) (σ : St) (d : Option Addr), Stt I0 H0 ctx mem I H σ → Fr H0 d → bK I0 H0 I H σ d := fun _ _ _ _ s f => ⟨s.fm, f⟩
  have tk : L2N.Takes (bx P w K mg base ["_law_line", "_law_cell_here", "_law_number", "_law_place", "_law_way", "_law_char_here"] "_law_spoiled" (defScope s_law_spoiled) (He.ga K "_law_spoiled") cdv A outer s H0 E) (bW E) := L2N.takes_of rfl rfl rfl rfl
  obtain ⟨p_line, p_cell_here, _⟩ := d
  exact ⟨Stt I0 H0 [some (SF.mk rStr p_line), some (SF.mk rInt p_cell_here), none, none, none, none] [], Stt.start sm ⟨h0, h1, ini_nil rfl⟩ rfl (by simp), (JR.seq (J1.cx (c' := fun v759 => [some (SF.mk rStr p_line), some (SF.mk rInt p_cell_here), some (SF.mk rInt v759), none, none, none]) (J1.set 2 (JE.bin (JE.callTy (JA.cons (JE.var 1) JA.nil) cj_int T.n_int boot_int) (JE.bin JE.int JE.int opj_pow) opj_mod) hx sc_law_spoiled.nd)) fun v759 => (JR.seq (J1.cx (c' := fun v766 => [some (SF.mk rStr p_line), some (SF.mk rInt p_cell_here), some (SF.mk rInt v759), some (SF.mk rInt v766), none, none]) (J1.set 3 (JE.bin (JE.var 2) (JE.bin (JE.callB (JA.cons (JE.var 0) JA.nil) cj_lenStr T.n_len boot_len) JE.int opj_add) opj_mod) hx sc_law_spoiled.nd)) fun v766 => (JR.seq (J1.cx (c' := fun v773 => [some (SF.mk rStr p_line), some (SF.mk rInt p_cell_here), some (SF.mk rInt v759), some (SF.mk rInt v766), some (SF.mk rInt v773), none]) (J1.set 4 (JE.bin (JE.bin (JE.var 2) JE.int opj_fdiv) JE.int opj_mod) hx sc_law_spoiled.nd)) fun v773 => (JR.seq (J1.cx (c' := fun v778 => [some (SF.mk rStr p_line), some (SF.mk rInt p_cell_here), some (SF.mk rInt v759), some (SF.mk rInt v766), some (SF.mk rInt v773), some (SF.mk rStr v778)]) (J1.set 5 (JE.call (JA.cons (JE.bin (JE.var 2) JE.int opj_fdiv) JA.nil) (cj_of c_law_char (hr.mono (by decide)) tk) T.g_law_char T.k_law_char) hx sc_law_spoiled.nd)) fun v778 => (JR.ifR (JT.cmp (JE.var 4) JE.int opj_eq) (JR.ret (JE.bin (JE.bin (JE.slS (JE.var 0) JO.no (JO.at (JE.var 3))) (JE.var 5) opj_addS) (JE.slS (JE.var 0) (JO.at (JE.var 3)) JO.no) opj_addS) hx) (JR.ifR (JT.cmp (JE.var 4) JE.int opj_eq) (JR.ret (JE.bin (JE.bin (JE.slS (JE.var 0) JO.no (JO.at (JE.var 3))) (JE.var 5) opj_addS) (JE.slS (JE.var 0) (JO.at (JE.bin (JE.var 3) JE.int opj_add)) JO.no) opj_addS) hx) (JR.ifR (JT.cmp (JE.var 4) JE.int opj_eq) (JR.ret (JE.bin (JE.slS (JE.var 0) JO.no (JO.at (JE.var 3))) (JE.slS (JE.var 0) (JO.at (JE.bin (JE.var 3) JE.int opj_add)) JO.no) opj_addS) hx) (JR.ifR (JT.cmp (JE.var 4) JE.int opj_eq) (JR.ret (JE.slS (JE.var 0) JO.no (JO.at (JE.var 3))) hx) (JR.ret (JE.var 0) hx) hx) hx) hx) hx)))))⟩
theorem fn_law_spoiled {P : Program} {w : World} {K : PySem.W.Frag} {mg : Str → Option Value} {base : Heap} (T : Txt P w K mg) (c_law_char : C_law_char P w K mg base) : FnR P w K mg base (L2N.CX P w) 2 (He.ga K "_law_spoiled") (spF K (aCons (rp rStr) (aCons (rp rInt) aNil)) (fun d => m_law_spoiled d.1 d.2.1) (rp rStr)) := by
  obtain ⟨fd, F⟩ := T.F_law_spoiled
  exact FnOk.fr0 (ok_law_spoiled T c_law_char F) (F.bindsN fun _ _ _ _ _ _ us hl => match us, hl with | [_, _], _ => rfl)
theorem sc_law : FnScope ["_law_script", "_law_choice", "_law_top", "_law_bottom", "_law_got", "_law_words", "_law_back", "_law_line"] ["_law_script"] (defScope s_law) := ⟨rfl, rfl, rfl, by decide +kernel, rfl, by decide +kernel, by decide +kernel⟩
def m_law (p_script : (List Int)) : Res Bool :=
  (((((((Res.ok p_script).bind fun a6 => ((Res.ok (0 : Int)).bind fun a4 => (Res.ok ()).bind fun b5 => .ok (a4, b5)).bind fun b7 => .ok (a6, b7)).bind (fun d => m_law_cell d.1 d.2.1)).bind fun a8 => (Res.ok ()).bind fun b9 => .ok (a8, b9)).bind (fun d => .ok d.1)).bind fun a12 => ((Res.ok (10 : Int)).bind fun a10 => (Res.ok (9 : Int)).bind fun b11 => powI a10 b11).bind fun b13 => modI a12 b13).bind fun v_law_choice_1 => (((((((Res.ok p_script).bind fun a19 => ((Res.ok (1 : Int)).bind fun a17 => (Res.ok ()).bind fun b18 => .ok (a17, b18)).bind fun b20 => .ok (a19, b20)).bind (fun d => m_law_cell d.1 d.2.1)).bind fun a21 => (Res.ok ()).bind fun b22 => .ok (a21, b22)).bind (fun d => .ok d.1)).bind fun a25 => ((Res.ok (10 : Int)).bind fun a23 => (Res.ok (60 : Int)).bind fun b24 => powI a23 b24).bind fun b26 => modI a25 b26).bind fun v14 => (((Res.ok (1 : Int)).bind fun a42 => ((((((Res.ok p_script).bind fun a32 => ((Res.ok (2 : Int)).bind fun a30 => (Res.ok ()).bind fun b31 => .ok (a30, b31)).bind fun b33 => .ok (a32, b33)).bind (fun d => m_law_cell d.1 d.2.1)).bind fun a34 => (Res.ok ()).bind fun b35 => .ok (a34, b35)).bind (fun d => .ok d.1)).bind fun a40 => (((Res.ok (10 : Int)).bind fun a36 => (Res.ok (60 : Int)).bind fun b37 => powI a36 b37).bind fun a38 => (Res.ok (1 : Int)).bind fun b39 => .ok (a38 - b39)).bind fun b41 => modI a40 b41).bind fun b43 => .ok (a42 + b43)).bind fun v27 => (((((Res.ok v_law_choice_1).bind fun a44 => (Res.ok (2 : Int)).bind fun b45 => modI a44 b45).bind fun a46 => (Res.ok (1 : Int)).bind fun b47 => .ok (decide (a46 = b47))).bind fun x57 => if x57 = true then (((Res.ok v14).bind fun a49 => (Res.ok (30 : Int)).bind fun b50 => modI a49 b50).bind fun v48 => (((Res.ok (1 : Int)).bind fun a54 => ((Res.ok v27).bind fun a52 => (Res.ok (12 : Int)).bind fun b53 => modI a52 b53).bind fun b55 => .ok (a54 + b55)).bind fun v51 => (Res.ok (v48, v51)))) else (Res.ok (v14, v27))).bind fun s56 => ((((((Res.ok v_law_choice_1).bind fun a58 => (Res.ok (2 : Int)).bind fun b59 => fdivI a58 b59).bind fun a60 => (Res.ok (2 : Int)).bind fun b61 => modI a60 b61).bind fun a62 => (Res.ok (1 : Int)).bind fun b63 => .ok (decide (a62 = b63))).bind fun x67 => if x67 = true then (((Res.ok s56.1).bind fun a65 => .ok (-a65)).bind fun v64 => (Res.ok v64)) else (Res.ok s56.1)).bind fun s66 => ((((Res.ok s66).bind fun a73 => ((Res.ok s56.2).bind fun a71 => (Res.ok ()).bind fun b72 => .ok (a71, b72)).bind fun b74 => .ok (a73, b74)).bind (fun d => qMk d.1 d.2.1)).bind fun v68 => ((((Res.ok v68).bind fun a76 => (Res.ok ()).bind fun b77 => .ok (a76, b77)).bind (fun d => m_Fraction_str d.1)).bind fun v75 => (((Res.ok v75).bind fun a84 => (((Res.ok s66).bind fun a82 => ((Res.ok s56.2).bind fun a80 => (Res.ok ()).bind fun b81 => .ok (a80, b81)).bind fun b83 => .ok (a82, b83)).bind (fun d => m_law_text d.1 d.2.1)).bind fun b85 => .ok (!decide (a84 = b85))).bind fun x86 => if x86 = true then (Res.ok false) else ((((Res.ok v75).bind fun a90 => (Res.ok ()).bind fun b91 => .ok (a90, b91)).bind (fun d => m_read_fraction d.1)).bind fun v88 => (((((Res.ok v88).bind fun a92 => .ok a92.num).bind fun a98 => (((Res.ok v88).bind fun a93 => .ok (a93.den : Int)).bind fun a95 => (Res.ok []).bind fun b96 => .ok (a95 :: b96)).bind fun b99 => .ok (a98 :: b99)).bind fun a108 => (((Res.ok v68).bind fun a100 => .ok a100.num).bind fun a106 => (((Res.ok v68).bind fun a101 => .ok (a101.den : Int)).bind fun a103 => (Res.ok []).bind fun b104 => .ok (a103 :: b104)).bind fun b107 => .ok (a106 :: b107)).bind fun b109 => .ok (!decide (a108 = b109))).bind fun x110 => if x110 = true then (Res.ok false) else ((((((Res.ok p_script).bind fun a117 => ((Res.ok (3 : Int)).bind fun a115 => (Res.ok ()).bind fun b116 => .ok (a115, b116)).bind fun b118 => .ok (a117, b118)).bind (fun d => m_law_cell d.1 d.2.1)).bind fun a125 => (((Res.ok v_law_choice_1).bind fun a120 => (Res.ok (4 : Int)).bind fun b121 => fdivI a120 b121).bind fun a123 => (Res.ok ()).bind fun b124 => .ok (a123, b124)).bind fun b126 => .ok (a125, b126)).bind (fun d => m_law_numeral d.1 d.2.1)).bind fun v112 => ((((((Res.ok v_law_choice_1).bind fun a127 => (Res.ok (160 : Int)).bind fun b128 => fdivI a127 b128).bind fun a129 => (Res.ok (3 : Int)).bind fun b130 => modI a129 b130).bind fun a131 => (Res.ok (0 : Int)).bind fun b132 => .ok (decide (a131 > b132))).bind fun x153 => if x153 = true then ((((Res.ok v112).bind fun a134 => (Res.ok ("/" : Str)).bind fun b135 => Res.guard (a134.length + b135.length ≤ sizeLine) (.ok (a134 ++ b135))).bind fun a150 => (((((Res.ok p_script).bind fun a140 => ((Res.ok (4 : Int)).bind fun a138 => (Res.ok ()).bind fun b139 => .ok (a138, b139)).bind fun b141 => .ok (a140, b141)).bind (fun d => m_law_cell d.1 d.2.1)).bind fun a148 => (((Res.ok v_law_choice_1).bind fun a143 => (Res.ok (480 : Int)).bind fun b144 => fdivI a143 b144).bind fun a146 => (Res.ok ()).bind fun b147 => .ok (a146, b147)).bind fun b149 => .ok (a148, b149)).bind (fun d => m_law_numeral d.1 d.2.1)).bind fun b151 => Res.guard (a150.length + b151.length ≤ sizeLine) (.ok (a150 ++ b151))).bind fun v133 => (Res.ok v133)) else (Res.ok v112)).bind fun s152 => ((((((Res.ok v_law_choice_1).bind fun a154 => (Res.ok (19200 : Int)).bind fun b155 => fdivI a154 b155).bind fun a156 => (Res.ok (3 : Int)).bind fun b157 => modI a156 b157).bind fun a158 => (Res.ok (1 : Int)).bind fun b159 => .ok (decide (a158 = b159))).bind fun x164 => if x164 = true then (((Res.ok ("-" : Str)).bind fun a161 => (Res.ok s152).bind fun b162 => Res.guard (a161.length + b162.length ≤ sizeLine) (.ok (a161 ++ b162))).bind fun v160 => (Res.ok v160)) else (Res.ok s152)).bind fun s163 => ((((Res.ok s163).bind fun a166 => (Res.ok ()).bind fun b167 => .ok (a166, b167)).bind (fun d => m_law_read d.1)).bind fun a187 => if a187 = true then ((((((Res.ok s163).bind fun a178 => ((((Res.ok p_script).bind fun a173 => ((Res.ok (5 : Int)).bind fun a171 => (Res.ok ()).bind fun b172 => .ok (a171, b172)).bind fun b174 => .ok (a173, b174)).bind (fun d => m_law_cell d.1 d.2.1)).bind fun a176 => (Res.ok ()).bind fun b177 => .ok (a176, b177)).bind fun b179 => .ok (a178, b179)).bind (fun d => m_law_spoiled d.1 d.2.1)).bind fun a181 => (Res.ok ()).bind fun b182 => .ok (a181, b182)).bind (fun d => m_law_read d.1)).bind fun a186 => if a186 = true then (((Res.ok ("" : Str)).bind fun a184 => (Res.ok ()).bind fun b185 => .ok (a184, b185)).bind (fun d => m_law_read d.1)) else .ok false) else .ok false))))))))))))))
theorem fn_law {P : Program} {w : World} {K : PySem.W.Frag} {mg : Str → Option Value} {base : Heap} (T : Txt P w K mg) (c_law_cell : C_law_cell P w K mg base) (c_Fraction_2 : C_Fraction_2 P w K mg base) (c_Fraction_str : C_Fraction_str P w K mg base) (c_law_text : C_law_text P w K mg base) (c_read_fraction : C_read_fraction P w K mg base) (c_law_numeral : C_law_numeral P w K mg base) (c_law_read : C_law_read P w K mg base) (c_law_spoiled : C_law_spoiled P w K mg base) {fd : FuncData} (F : FunD K "law" "law" (defArgs s_law) (defBody s_law) (defScope s_law) [] [] (He.ga K "law") fd) : FnOk P w K mg base (L2N.CX P w) 40 (He.ga K "law") fd ["_law_script"] (spF K (aCons (rdL K (rp rInt)) aNil) (fun d => m_law d.1) (rp rBl)) := by
  refine FunD.fn (k := 39) (N := ["_law_script", "_law_choice", "_law_top", "_law_bottom", "_law_got", "_law_words", "_law_back", "_law_line"]) (ps := ["_law_script"]) F sc_law (fun I H vs d h => ?_) (fun cdv A outer s I0 H0 E vs d hr sm h => ?_)
  · obtain ⟨v0, _, rfl, h0, rfl⟩ := h; rfl
  obtain ⟨v0, _, rfl, h0, rfl⟩ := h
  have hx : ∀ {ctx : List (Option SF)} {mem : List MF} (I H : Hp) (σ : St) (d : Option Addr), Stt I0 H0 ctx mem I H σ → Fr H0 d → bK I0 H0 I H σ d := fun _ _ _ _ s f => ⟨s.fm, f⟩
  have tk : L2N.Takes (bx P w K mg base ["_law_script", "_law_choice", "_law_top", "_law_bottom", "_law_got", "_law_words", "_law_back", "_law_line"] "law" (defScope s_law) (He.ga K "law") cdv A outer s H0 E) (bW E) := L2N.takes_of rfl rfl rfl rfl
  obtain ⟨p_script, _⟩ := d
  exact ⟨Stt I0 H0 [some (SF.mk (fun I v x => (rdL K (rp rInt)) I H0 v x) p_script), none, none, none, none, none, none, none] [], Stt.start sm ⟨h0, ini_nil rfl⟩ rfl (by simp), (JR.seq (J1.cx (c' := fun v_law_choice_1 => [some (SF.mk (fun I v x => (rdL K (rp rInt)) I H0 v x) p_script), some (SF.mk rInt v_law_choice_1), none, none, none, none, none, none]) (J1.set 1 (JE.bin (JE.callTy (JA.cons (JE.call (JA.cons (JE.varP 0 (r := (rdL K (rp rInt)))) (JA.cons JE.int JA.nil)) (cj_of c_law_cell (hr.mono (by decide)) tk) T.g_law_cell T.k_law_cell) JA.nil) cj_int T.n_int boot_int) (JE.bin JE.int JE.int opj_pow) opj_mod) hx sc_law.nd)) fun v_law_choice_1 => (JR.seq (J1.cx (c' := fun v14 => [some (SF.mk (fun I v x => (rdL K (rp rInt)) I H0 v x) p_script), some (SF.mk rInt v_law_choice_1), some (SF.mk rInt v14), none, none, none, none, none]) (J1.set 2 (JE.bin (JE.callTy (JA.cons (JE.call (JA.cons (JE.varP 0 (r := (rdL K (rp rInt)))) (JA.cons JE.int JA.nil)) (cj_of c_law_cell (hr.mono (by decide)) tk) T.g_law_cell T.k_law_cell) JA.nil) cj_int T.n_int boot_int) (JE.bin JE.int JE.int opj_pow) opj_mod) hx sc_law.nd)) fun v14 => (JR.seq (J1.cx (c' := fun v27 => [some (SF.mk (fun I v x => (rdL K (rp rInt)) I H0 v x) p_script), some (SF.mk rInt v_law_choice_1), some (SF.mk rInt v14), some (SF.mk rInt v27), none, none, none, none]) (J1.set 3 (JE.bin JE.int (JE.bin (JE.callTy (JA.cons (JE.call (JA.cons (JE.varP 0 (r := (rdL K (rp rInt)))) (JA.cons JE.int JA.nil)) (cj_of c_law_cell (hr.mono (by decide)) tk) T.g_law_cell T.k_law_cell) JA.nil) cj_int T.n_int boot_int) (JE.bin (JE.bin JE.int JE.int opj_pow) JE.int opj_sub) opj_mod) opj_add) hx sc_law.nd)) fun v27 => (JR.seq (J1.if (S := (Int × Int)) (G' := fun s56 => Stt I0 H0 [some (SF.mk (fun I v x => (rdL K (rp rInt)) I H0 v x) p_script), some (SF.mk rInt v_law_choice_1), some (SF.mk rInt s56.1), some (SF.mk rInt s56.2), none, none, none, none] []) (JT.cmp (JE.bin (JE.var 1) JE.int opj_mod) JE.int opj_eq) (JN.seq (J1.cx (c' := fun v48 => [some (SF.mk (fun I v x => (rdL K (rp rInt)) I H0 v x) p_script), some (SF.mk rInt v_law_choice_1), some (SF.mk rInt v48), some (SF.mk rInt v27), none, none, none, none]) (J1.set 2 (JE.bin (JE.var 2) JE.int opj_mod) hx sc_law.nd)) fun v48 => (JN.seq (J1.cx (c' := fun v51 => [some (SF.mk (fun I v x => (rdL K (rp rInt)) I H0 v x) p_script), some (SF.mk rInt v_law_choice_1), some (SF.mk rInt v48), some (SF.mk rInt v51), none, none, none, none]) (J1.set 3 (JE.bin JE.int (JE.bin (JE.var 3) JE.int opj_mod) opj_add) hx sc_law.nd)) fun v51 => (JN.nil (fun _ _ _ h => h)))) (JN.nil (fun _ _ _ h => h)) hx) fun s56 => (JR.seq (J1.if (S := Int) (G' := fun s66 => Stt I0 H0 [some (SF.mk (fun I v x => (rdL K (rp rInt)) I H0 v x) p_script), some (SF.mk rInt v_law_choice_1), some (SF.mk rInt s66), some (SF.mk rInt s56.2), none, none, none, none] []) (JT.cmp (JE.bin (JE.bin (JE.var 1) JE.int opj_fdiv) JE.int opj_mod) JE.int opj_eq) (JN.seq (J1.cx (c' := fun v64 => [some (SF.mk (fun I v x => (rdL K (rp rInt)) I H0 v x) p_script), some (SF.mk rInt v_law_choice_1), some (SF.mk rInt v64), some (SF.mk rInt s56.2), none, none, none, none]) (J1.set 2 (JE.un (JE.var 2) unj_neg) hx sc_law.nd)) fun v64 => (JN.nil (fun _ _ _ h => h))) (JN.nil (fun _ _ _ h => h)) hx) fun s66 => (JR.seq (J1.cx (c' := fun v68 => [some (SF.mk (fun I v x => (rdL K (rp rInt)) I H0 v x) p_script), some (SF.mk rInt v_law_choice_1), some (SF.mk rInt s66), some (SF.mk rInt s56.2), some (SF.mk (rFrac K) v68), none, none, none]) (J1.set 4 (JE.call (JA.cons (JE.var 2) (JA.cons (JE.var 3) JA.nil)) (c_Fraction_2 _ _ rfl rfl rfl rfl rfl (hr.mono (by decide)) tk) T.g_Fraction T.mk_Fraction.kp) hx sc_law.nd)) fun v68 => (JR.seq (J1.cx (c' := fun v75 => [some (SF.mk (fun I v x => (rdL K (rp rInt)) I H0 v x) p_script), some (SF.mk rInt v_law_choice_1), some (SF.mk rInt s66), some (SF.mk rInt s56.2), some (SF.mk (rFrac K) v68), some (SF.mk rStr v75), none, none]) (J1.set 5 (by exact JE.callTy (JA.cons (JE.var 4) JA.nil) (cj_strO T.om_Fraction_str insF (hr.mono (by decide)) tk c_Fraction_str) T.n_str boot_str) hx sc_law.nd)) fun v75 => (JR.ifR (JT.cmp (JE.var 5) (JE.call (JA.cons (JE.var 2) (JA.cons (JE.var 3) JA.nil)) (cj_of c_law_text (hr.mono (by decide)) tk) T.g_law_text T.k_law_text) opj_neS) (JR.ret JE.bl hx) (JR.seq (J1.cx (c' := fun v88 => [some (SF.mk (fun I v x => (rdL K (rp rInt)) I H0 v x) p_script), some (SF.mk rInt v_law_choice_1), some (SF.mk rInt s66), some (SF.mk rInt s56.2), some (SF.mk (rFrac K) v68), some (SF.mk rStr v75), some (SF.mk (rFrac K) v88), none]) (J1.set 6 (JE.call (JA.cons (JE.var 5) JA.nil) (cj_of c_read_fraction (hr.mono (by decide)) tk) T.g_read_fraction T.k_read_fraction) hx sc_law.nd)) fun v88 => (JR.ifR (JT.cmp (JE.rd (JE.ofM (JM.lst (r := rInt) (JA.consL (JE.fld (JE.var 6) fld_top T.o_Fraction.cl T.na_Fraction_top) (JA.consL (JE.fld (JE.var 6) fld_bottom T.o_Fraction.cl T.na_Fraction_bottom) JA.nilL))))) (JE.rd (JE.ofM (JM.lst (r := rInt) (JA.consL (JE.fld (JE.var 4) fld_top T.o_Fraction.cl T.na_Fraction_top) (JA.consL (JE.fld (JE.var 4) fld_bottom T.o_Fraction.cl T.na_Fraction_bottom) JA.nilL))))) (opj_neL hr.units)) (JR.ret JE.bl hx) (JR.seq (J1.cx (c' := fun v112 => [some (SF.mk (fun I v x => (rdL K (rp rInt)) I H0 v x) p_script), some (SF.mk rInt v_law_choice_1), some (SF.mk rInt s66), some (SF.mk rInt s56.2), some (SF.mk (rFrac K) v68), some (SF.mk rStr v75), some (SF.mk (rFrac K) v88), some (SF.mk rStr v112)]) (J1.set 7 (JE.call (JA.cons (JE.call (JA.cons (JE.varP 0 (r := (rdL K (rp rInt)))) (JA.cons JE.int JA.nil)) (cj_of c_law_cell (hr.mono (by decide)) tk) T.g_law_cell T.k_law_cell) (JA.cons (JE.bin (JE.var 1) JE.int opj_fdiv) JA.nil)) (cj_of c_law_numeral (hr.mono (by decide)) tk) T.g_law_numeral T.k_law_numeral) hx sc_law.nd)) fun v112 => (JR.seq (J1.if (S := Str) (G' := fun s152 => Stt I0 H0 [some (SF.mk (fun I v x => (rdL K (rp rInt)) I H0 v x) p_script), some (SF.mk rInt v_law_choice_1), some (SF.mk rInt s66), some (SF.mk rInt s56.2), some (SF.mk (rFrac K) v68), some (SF.mk rStr v75), some (SF.mk (rFrac K) v88), some (SF.mk rStr s152)] []) (JT.cmp (JE.bin (JE.bin (JE.var 1) JE.int opj_fdiv) JE.int opj_mod) JE.int opj_gt) (JN.seq (J1.cx (c' := fun v133 => [some (SF.mk (fun I v x => (rdL K (rp rInt)) I H0 v x) p_script), some (SF.mk rInt v_law_choice_1), some (SF.mk rInt s66), some (SF.mk rInt s56.2), some (SF.mk (rFrac K) v68), some (SF.mk rStr v75), some (SF.mk (rFrac K) v88), some (SF.mk rStr v133)]) (J1.set 7 (JE.bin (JE.bin (JE.var 7) JE.str opj_addS) (JE.call (JA.cons (JE.call (JA.cons (JE.varP 0 (r := (rdL K (rp rInt)))) (JA.cons JE.int JA.nil)) (cj_of c_law_cell (hr.mono (by decide)) tk) T.g_law_cell T.k_law_cell) (JA.cons (JE.bin (JE.var 1) JE.int opj_fdiv) JA.nil)) (cj_of c_law_numeral (hr.mono (by decide)) tk) T.g_law_numeral T.k_law_numeral) opj_addS) hx sc_law.nd)) fun v133 => (JN.nil (fun _ _ _ h => h))) (JN.nil (fun _ _ _ h => h)) hx) fun s152 => (JR.seq (J1.if (S := Str) (G' := fun s163 => Stt I0 H0 [some (SF.mk (fun I v x => (rdL K (rp rInt)) I H0 v x) p_script), some (SF.mk rInt v_law_choice_1), some (SF.mk rInt s66), some (SF.mk rInt s56.2), some (SF.mk (rFrac K) v68), some (SF.mk rStr v75), some (SF.mk (rFrac K) v88), some (SF.mk rStr s163)] []) (JT.cmp (JE.bin (JE.bin (JE.var 1) JE.int opj_fdiv) JE.int opj_mod) JE.int opj_eq) (JN.seq (J1.cx (c' := fun v160 => [some (SF.mk (fun I v x => (rdL K (rp rInt)) I H0 v x) p_script), some (SF.mk rInt v_law_choice_1), some (SF.mk rInt s66), some (SF.mk rInt s56.2), some (SF.mk (rFrac K) v68), some (SF.mk rStr v75), some (SF.mk (rFrac K) v88), some (SF.mk rStr v160)]) (J1.set 7 (JE.bin JE.str (JE.var 7) opj_addS) hx sc_law.nd)) fun v160 => (JN.nil (fun _ _ _ h => h))) (JN.nil (fun _ _ _ h => h)) hx) fun s163 => (JR.ret (JE.and (JE.call (JA.cons (JE.var 7) JA.nil) (cj_of c_law_read (hr.mono (by decide)) tk) T.g_law_read T.k_law_read) (JE.and (JE.call (JA.cons (JE.call (JA.cons (JE.var 7) (JA.cons (JE.call (JA.cons (JE.varP 0 (r := (rdL K (rp rInt)))) (JA.cons JE.int JA.nil)) (cj_of c_law_cell (hr.mono (by decide)) tk) T.g_law_cell T.k_law_cell) JA.nil)) (cj_of c_law_spoiled (hr.mono (by decide)) tk) T.g_law_spoiled T.k_law_spoiled) JA.nil) (cj_of c_law_read (hr.mono (by decide)) tk) T.g_law_read T.k_law_read) (JE.one (JE.call (JA.cons JE.str JA.nil) (cj_of c_law_read (hr.mono (by decide)) tk) T.g_law_read T.k_law_read)))) hx)))) hx)) hx))))))))⟩
end L2.Tr

namespace L2.Tr
open PySem PySem.Spec PyProof.Rows
theorem cell_eq (ns : List Int) (k : Int) (hk : 0 ≤ k) : m_law_cell ns k = .ok (ns.getD k.toNat 0) := by
  unfold m_law_cell
  simp only [Res.okb]
  by_cases h : k < (ns.length : Int)
  · simp only [h, decide_true, if_true]
    have hl : k.toNat < ns.length := by omega
    have e : atM ns ((k.toNat : Nat) : Int) = .ok (ns.getD k.toNat 0) := atM_nat (by simp [List.getD, hl])
    rwa [Int.toNat_of_nonneg hk] at e
  · simp only [h, decide_false, Bool.false_eq_true, if_false]
    have : ns[k.toNat]? = none := List.getElem?_eq_none (by omega)
    simp [List.getD, this]

theorem tryG_ok' {S L γ : Type} {x : Fl S L γ} {Ls : List (Str × Bool)} {h : Exn → Res (Fl S L γ)} : tryG (.ok x) Ls h = .ok x := by
  have k : ∀ m : Res (Fl S L γ), m = .ok x → tryG m Ls h = .ok x := fun m e => by subst e; rfl
  exact k _ rfl
abbrev cl (x : Str) : List Nat := x.cps.toList
abbrev mkT (l : List Nat) : Str := ⟨l.toArray⟩
abbrev ch (c : Nat) : Str := ⟨#[c]⟩
theorem cl_ext {x y : Str} (h : cl x = cl y) : x = y := Str.ext' (Array.toList_inj.mp h)
theorem cl_len (x : Str) : x.length = (cl x).length := by simp [cl, Str.length]
theorem cl_app (x y : Str) : cl (x ++ y) = cl x ++ cl y := by
  show (x ++ y).cps.toList = _
  rw [Str.cps_append, Array.toList_append]
theorem line1000 {n : Nat} (h : n ≤ 1000000) : n ≤ sizeLine := Nat.le_trans h (by decide)
theorem lenS_ok {x : Str} (h : (cl x).length ≤ 1000000) : lenS x = .ok ((cl x).length : Int) := by
  unfold lenS
  rw [cl_len]
  exact Res.guard_pos (line1000 h) _
theorem atI_at {α : Type} {xs : List α} {k : Nat} {w : α} (h : xs[k]? = some w) : atI xs (k : Int) = some w := by
  have hl := (List.getElem?_eq_some_iff.mp h).1
  unfold atI ixN
  rw [if_pos (by omega), if_pos (by omega), Option.bind_some, Int.toNat_natCast]
  exact h
theorem atS_ok {x : Str} {i c : Nat} (h : (cl x).length ≤ 1000000) (e : (cl x)[i]? = some c) : atS x (i : Int) = .ok (ch c) := by
  unfold atS
  rw [show atI x.cps.toList (i : Int) = some c from atI_at e]
  exact Res.guard_pos (by rw [cl_len]; exact line1000 h) _
def isDb (c : Nat) : Bool := decide (48 ≤ c ∧ c ≤ 57)
theorem cl_digs : cl ("0123456789" : Str) = [48, 49, 50, 51, 52, 53, 54, 55, 56, 57] := by kernel_rfl
theorem inSg_ch {c : Nat} {z : Str} : inSg (ch c) z = .ok (decide (c ∈ cl z)) := Res.guard_pos rfl _
theorem inSg_dig {c : Nat} : inSg (ch c) ("0123456789" : Str) = .ok (isDb c) := by
  rw [inSg_ch, cl_digs]
  refine congrArg Res.ok (decide_eq_decide.mpr ?_)
  simp only [List.mem_cons, List.not_mem_nil, or_false]
  omega
theorem ch_eq {c d : Nat} : decide (ch c = ch d) = decide (c = d) := decide_eq_decide.mpr ⟨fun h => by
  have := congrArg cl h
  exact (List.cons.inj this).1, fun h => by rw [h]⟩
theorem guard_cut {z : Str} {lo hi : Option Int} (h : (cl z).length ≤ 1000000) : slS z lo hi = .ok (L2.cutS z lo hi) := Res.guard_pos (by rw [cl_len]; exact line1000 h) _
theorem slS_ok {x : Str} {i j : Nat} (h : (cl x).length ≤ 1000000) (hi : i ≤ j) (hj : j ≤ (cl x).length) : slS x (some (i : Int)) (some (j : Int)) = .ok (mkT (((cl x).drop i).take (j - i))) := by
  rw [guard_cut h]
  refine congrArg Res.ok ?_
  unfold L2.cutS
  rw [cl_len, HT.sIx_nat, HT.sIx_nat, Nat.min_eq_left hj, Nat.min_eq_left (show i ≤ (cl x).length by omega)]
theorem slS_to {x : Str} {j : Nat} (h : (cl x).length ≤ 1000000) : slS x none (some (j : Int)) = .ok (mkT ((cl x).take j)) := by
  rw [guard_cut h]
  refine congrArg Res.ok ?_
  unfold L2.cutS
  rw [cl_len, HT.sIx_nat, HT.sIx_none, List.drop_zero, Nat.sub_zero]
  refine congrArg mkT ?_
  rcases Nat.le_total j (cl x).length with c | c
  · rw [Nat.min_eq_left c]
  · rw [Nat.min_eq_right c, List.take_length, List.take_of_length_le c]
theorem slS_from {x : Str} {i : Nat} (h : (cl x).length ≤ 1000000) : slS x (some (i : Int)) none = .ok (mkT ((cl x).drop i)) := by
  rw [guard_cut h]
  refine congrArg Res.ok ?_
  unfold L2.cutS
  rw [cl_len, HT.sIx_nat, HT.sIx_none]
  refine congrArg mkT ?_
  rcases Nat.le_total i (cl x).length with c | c
  · rw [Nat.min_eq_left c, List.take_of_length_le (by rw [List.length_drop]; exact Nat.le_refl _)]
  · rw [Nat.min_eq_right c, List.drop_length, List.drop_of_length_le c, List.take_nil]
open PySem.NumText in
theorem intS_dig {l : List Nat} (h : AllDigits l) (h1 : l ≠ []) (h2 : l.length ≤ 640) : intS (mkT l) = .ok ((digitsVal l : Nat) : Int) := by
  unfold intS
  rw [PySem.intText_digits (x := mkT l) h h1 (Nat.le_trans h2 (by decide))]
  exact Res.guard_pos h2 _
open PySem.NumText in
theorem intS_neg {l : List Nat} (h : AllDigits l) (h1 : l ≠ []) (h2 : l.length ≤ 600) : intS (mkT (45 :: l)) = .ok (-((digitsVal l : Nat) : Int)) := by
  unfold intS
  rw [PySem.intText_neg (x := mkT (45 :: l)) rfl h h1 (by show l.length + 1 ≤ 4300; omega)]
  exact Res.guard_pos (by show l.length + 1 ≤ 640; omega) _
abbrev numL := TL.numL
theorem log_fit {i : Int} (h : i.natAbs < 10 ^ 500) : i.natAbs.log2 < 1920 := by
  by_cases c : i.natAbs = 0
  · rw [c]; decide
  · exact (Nat.log2_lt c).mpr (Nat.lt_of_lt_of_le h (by decide +kernel))
theorem strM_ok {i : Int} (h : i.natAbs < 10 ^ 500) : strM i = .ok (strI i) := Res.guard_pos (log_fit h) _
theorem cl_nat (n : Nat) : cl (strI (n : Int)) = numL n := TL.tl_num n
theorem cl_neg (n : Nat) : cl (strI (-((n + 1 : Nat) : Int))) = 45 :: numL (n + 1) := by
  show cl (Str.ofString (toString (-((n + 1 : Nat) : Int)))) = _
  have e : toString (-((n + 1 : Nat) : Int)) = "-" ++ toString ((n + 1 : Nat) : Int) := by
    show Int.repr (Int.negSucc n) = "-" ++ Int.repr (Int.ofNat (n + 1))
    rfl
  rw [e]
  show (Str.ofString ("-" ++ toString ((n + 1 : Nat) : Int))).cps.toList = _
  rw [PyProof.Rows.signs_ofString, String.toList_append, List.map_append]
  have := cl_nat (n + 1)
  rw [← this]
  show [45] ++ _ = 45 :: (Str.ofString (toString ((n + 1 : Nat) : Int))).cps.toList
  rw [PyProof.Rows.signs_ofString]
  rfl
theorem ch_lit {c d : Nat} {z : Str} (h : z = ch d) : decide (ch c = z) = decide (c = d) := by rw [h, ch_eq]

def bt {α : Type} (c : Int) : Res α := .err ⟨"BadText", [("column", Pay.int c), ("line", Pay.int 1)]⟩
def dig : List Nat → Nat
  | [] => 0
  | c :: r => if isDb c = true then dig r + 1 else 0
theorem dig_at : ∀ {S : List Nat} {c : Nat}, c ≤ dig S → ((∃ a, S[c]? = some a ∧ isDb a = true) ↔ c < dig S)
  | [], c, h => by
    have : c = 0 := by unfold dig at h; omega
    subst this
    exact ⟨fun ⟨a, e, _⟩ => (by cases e), fun h => (by unfold dig at h; omega)⟩
  | d :: r, c, h => by
    unfold dig at h ⊢
    by_cases q : isDb d = true
    · rw [if_pos q] at h ⊢
      cases c with
      | zero => exact ⟨fun _ => by omega, fun _ => ⟨d, rfl, q⟩⟩
      | succ c =>
        rw [List.getElem?_cons_succ]
        exact (dig_at (S := r) (c := c) (by omega)).trans (by omega)
    · rw [if_neg q] at h ⊢
      have : c = 0 := by omega
      subst this
      exact ⟨fun ⟨a, e, z⟩ => (by cases e; exact absurd z q), fun h => (by omega)⟩
theorem dig_le : ∀ S : List Nat, dig S ≤ S.length
  | [] => Nat.le_refl _
  | d :: r => by
    unfold dig
    split
    · have := dig_le r; rw [List.length_cons]; omega
    · exact Nat.zero_le _
def neR (s : Nat) (pos : Bool) (S : List Nat) : Res Int :=
  if dig S = 0 ∨ (pos = true ∧ S.head? = some 48) then bt ((s : Int) + 1) else
  if S.head? = some 48 then (if 2 ≤ dig S then bt ((s : Int) + 2) else .ok ((s : Int) + 1)) else
  if 60 < dig S then bt ((s : Int) + 61) else .ok ((s : Int) + (dig S : Int))
theorem bind_err {α β : Type} (e : Exn) (f : α → Res β) : (Res.err e).bind f = .err e := by
  have h : ∀ m : Res α, m = .err e → m.bind f = .err e := fun m q => by subst q; rfl
  exact h _ rfl
theorem ne_ok {x : Str} {s : Nat} {pos : Bool} (hl : (cl x).length ≤ 1000) (hs : s ≤ (cl x).length) : m_numeral_end x (s : Int) pos = neR s pos ((cl x).drop s) := by
  have hl6 : (cl x).length ≤ 1000000 := by omega
  obtain ⟨S, hS⟩ : ∃ S, S = (cl x).drop s := ⟨_, rfl⟩
  have at_ : ∀ c, (cl x)[s + c]? = S[c]? := fun c => by rw [hS, List.getElem?_drop]
  have len : S.length = (cl x).length - s := by rw [hS, List.length_drop]
  rw [← hS]
  unfold m_numeral_end
  simp only [Res.okb, Res.bind_assoc, Res.bind_ok]
  rw [lenS_ok hl6, Res.okb]
  have test : ∀ c, c ≤ dig S → (if decide (((s + c : Nat) : Int) < ((cl x).length : Int)) = true then (atS x ((s + c : Nat) : Int)).bind fun a => inSg a ("0123456789" : Str) else Res.ok false) = Res.ok (decide (c < dig S)) := fun c hc => by
    have d := dig_at hc
    by_cases q : s + c < (cl x).length
    · obtain ⟨a, ea⟩ : ∃ a, (cl x)[s + c]? = some a := ⟨_, List.getElem?_eq_getElem q⟩
      rw [if_pos (by rw [decide_eq_true_eq]; omega), atS_ok hl6 ea, Res.okb, inSg_dig]
      rw [at_] at ea
      rw [ea] at d
      refine congrArg Res.ok ?_
      cases e : isDb a with
      | true => exact (decide_eq_true (d.mp ⟨a, rfl, e⟩)).symm
      | false =>
        refine (decide_eq_false fun z => ?_).symm
        obtain ⟨b, e1, e2⟩ := d.mpr z
        cases e1
        rw [e] at e2
        cases e2
    · rw [if_neg (by rw [decide_eq_true_eq]; omega)]
      refine congrArg Res.ok (decide_eq_false fun z => ?_).symm
      have := dig_le S
      omega
  have h0 : ∀ a, S[0]? = some a → S.head? = some a := fun a h => by rw [← h]; cases S <;> rfl
  have lit0 : ("0" : Str) = ch 48 := by kernel_rfl
  have first : (if decide ((s : Int) ≥ ((cl x).length : Int)) = true then Res.ok true else (atS x (s : Int)).bind fun a => (inSg a ("0123456789" : Str)).bind fun z => Res.ok (!z)) = .ok (decide (dig S = 0)) := by
    have d := dig_at (S := S) (Nat.zero_le _)
    by_cases q : s < (cl x).length
    · obtain ⟨a, ea⟩ : ∃ a, (cl x)[s]? = some a := ⟨_, List.getElem?_eq_getElem q⟩
      rw [if_neg (by rw [decide_eq_true_eq]; omega), atS_ok hl6 ea, Res.okb, inSg_dig, Res.okb]
      have ea' := at_ 0
      rw [Nat.add_zero, ea] at ea'
      rw [← ea'] at d
      refine congrArg Res.ok ?_
      cases e : isDb a with
      | true => have := d.mp ⟨a, rfl, e⟩; exact (decide_eq_false (by omega)).symm
      | false =>
        refine (decide_eq_true ?_).symm
        refine Classical.byContradiction fun z => ?_
        obtain ⟨b, e1, e2⟩ := d.mpr (by omega)
        cases e1
        rw [e] at e2
        cases e2
    · rw [if_pos (by rw [decide_eq_true_eq]; omega)]
      have := dig_le S
      exact congrArg Res.ok (decide_eq_true (by omega)).symm
  rw [first, Res.okb]
  unfold neR
  by_cases d0 : dig S = 0
  · rw [if_pos (decide_eq_true d0), if_pos (.inl d0)]; rfl
  rw [if_neg (by rw [decide_eq_true_eq]; exact d0)]
  obtain ⟨a0, ea0, _⟩ := (dig_at (S := S) (Nat.zero_le _)).mpr (by omega)
  have hd := h0 a0 ea0
  have at0 : atS x (s : Int) = .ok (ch a0) := atS_ok hl6 (by have := at_ 0; rw [Nat.add_zero] at this; rw [this, ea0])
  simp only [hd, Option.some.injEq]
  rw [at0, Res.okb, ch_lit lit0]
  by_cases p48 : pos = true ∧ a0 = 48
  · rw [if_pos p48.1, Res.okb, if_pos (decide_eq_true p48.2), if_pos (.inr p48)]; rfl
  rw [show (if pos = true then Res.ok (decide (a0 = 48)) else Res.ok false) = Res.ok false from by
    by_cases q : pos = true
    · rw [if_pos q, decide_eq_false fun z => p48 ⟨q, z⟩]
    · rw [if_neg q], Res.okb, if_neg (by decide), if_neg (fun z => z.elim d0 p48)]
  have loop : ∀ fuel c, 1 ≤ c → c ≤ dig S → (a0 = 48 → c = 1) → c ≤ 60 → dig S - c < fuel → whileM (fun e : Int => (Res.ok ((cl x).length : Int)).bind fun a => if decide (e < a) = true then (atS x e).bind fun a => inSg a ("0123456789" : Str) else Res.ok false) (fun e : Int => (Res.ok (ch a0)).bind fun a => (if decide (a = ("0" : Str)) = true then Res.ok true else Res.ok (decide (e - (s : Int) = 60))).bind fun b => if b = true then Res.err ⟨"BadText", [("column", Pay.int (e + 1)), ("line", Pay.int 1)]⟩ else Res.ok (e + 1)) fuel ((s + c : Nat) : Int) = if a0 = 48 then (if 2 ≤ dig S then bt ((s : Int) + 2) else .ok ((s : Int) + 1)) else if 60 < dig S then bt ((s : Int) + 61) else .ok ((s : Int) + (dig S : Int)) := fun fuel => by
    induction fuel with
    | zero => intro c _ _ _ _ h; omega
    | succ fuel ih =>
      intro c c1 cd cz c60 cf
      unfold whileM
      rw [Res.okb, test c cd, Res.okb]
      by_cases q : c < dig S
      · rw [if_pos (decide_eq_true q), Res.okb, ch_lit lit0]
        by_cases z : a0 = 48
        · have := cz z
          rw [if_pos (decide_eq_true z), Res.okb, if_pos rfl, bind_err, if_pos z, if_pos (by omega)]
          unfold bt
          rw [show ((s + c : Nat) : Int) + 1 = (s : Int) + 2 by omega]
        · rw [if_neg (by rw [decide_eq_true_eq]; exact z), Res.okb]
          by_cases k : c = 60
          · rw [if_pos (by rw [decide_eq_true_eq]; omega), bind_err, if_neg z, if_pos (by omega)]
            unfold bt
            rw [show ((s + c : Nat) : Int) + 1 = (s : Int) + 61 by omega]
          · rw [if_neg (by rw [decide_eq_true_eq]; omega), Res.okb, show ((s + c : Nat) : Int) + 1 = ((s + (c + 1) : Nat) : Int) by omega]
            exact ih (c + 1) (by omega) (by omega) (fun h => absurd h z) (by omega) (by omega)
      · rw [if_neg (by rw [decide_eq_true_eq]; exact q)]
        have cd' : c = dig S := by omega
        by_cases z : a0 = 48
        · have := cz z
          rw [if_pos z, if_neg (by omega)]
          congr 1
          omega
        · rw [if_neg z, if_neg (by omega)]
          congr 1
          omega
  have := loop (x.length + 1) 1 (by omega) (by omega) (fun _ => rfl) (by decide) (by have := dig_le S; rw [cl_len]; omega)
  rw [show ((s + 1 : Nat) : Int) = (s : Int) + 1 by omega] at this
  exact this
theorem andR {a b : Bool} : (if a = true then Res.ok b else Res.ok false : Res Bool) = Res.ok (a && b) := by cases a <;> rfl
inductive St4 where
  | start | minus | zero | top | slash | bottom
def St4.name : St4 → Str
  | .start => "start"
  | .minus => "minus"
  | .zero => "zero"
  | .top => "top"
  | .slash => "slash"
  | .bottom => "bottom"
def St4.is (s t : St4) : Bool := match s, t with
  | .start, .start | .minus, .minus | .zero, .zero | .top, .top | .slash, .slash | .bottom, .bottom => true
  | _, _ => false
def stepB (s : St4) (cnt : Nat) (d c45 c48 c47 lt : Bool) : Option (St4 × Nat) := match s with
  | .start => if c45 = true then some (.minus, cnt) else if c48 = true then some (.zero, cnt) else if d = true then some (.top, 1) else none
  | .minus => if (d && !c48) = true then some (.top, 1) else none
  | .zero => if c47 = true then some (.slash, cnt) else none
  | .top => if (d && lt) = true then some (.top, cnt + 1) else if c47 = true then some (.slash, cnt) else none
  | .slash => if (d && !c48) = true then some (.bottom, 1) else none
  | .bottom => if (d && lt) = true then some (.bottom, cnt + 1) else none
def stepA (s : St4) (cnt c : Nat) : Option (St4 × Nat) := stepB s cnt (isDb c) (decide (c = 45)) (decide (c = 48)) (decide (c = 47)) (decide (cnt < 60))
def St4.open (s : St4) : Bool := s.is .start || s.is .minus || s.is .slash
def runA : St4 → Nat → Nat → List Nat → Nat
  | s, _, p, [] => if s.open = true then p + 1 else 0
  | s, cnt, p, c :: r => match stepA s cnt c with
    | some (t, k) => runA t k (p + 1) r
    | none => p + 1
def flA (i : Nat) : Option (St4 × Nat) → Fl (Str × Int) (Str × Int) Int
  | some (t, k) => .nx (t.name, (k : Int))
  | none => .rt ((i : Int) + 1)
theorem rngI_cons (lo : Int) (m : Nat) : rngI lo (m + 1) = lo :: rngI (lo + 1) m := by
  unfold rngI
  rw [List.range_succ_eq_map, List.map_cons, List.map_map]
  congr 1
  · simp
  · refine List.map_congr_left fun a _ => ?_
    simp only [Function.comp]
    omega
theorem forG_runA {L : List Nat} {F : Int → Str × Int → Res (Fl (Str × Int) (Str × Int) Int)} {fin : Str × Int → Res Int} (hF : ∀ (i c : Nat) (s : St4) (cnt : Nat), L[i]? = some c → F (i : Int) (s.name, (cnt : Int)) = .ok (flA i (stepA s cnt c))) (hfin : ∀ (s : St4) (cnt : Nat), fin (s.name, (cnt : Int)) = if s.open = true then .ok ((L.length : Int) + 1) else .ok 0) :
    ∀ (S : List Nat) (i : Nat) (s : St4) (cnt : Nat), L.drop i = S → i ≤ L.length → ((forG F (rngI (i : Int) S.length) (s.name, (cnt : Int)) : Res (Fl (Str × Int) Unit Int)).bind (Fl.out fin)) = .ok ((runA s cnt i S : Nat) : Int)
  | [], i, s, cnt, h, hi => by
    have hl : L.length = i := by
      have := congrArg List.length h
      rw [List.length_drop] at this
      simp at this
      omega
    show ((Res.ok (Fl.nx (s.name, (cnt : Int))) : Res (Fl (Str × Int) Unit Int)).bind _) = _
    rw [Res.okb, show Fl.out fin (Fl.nx (s.name, (cnt : Int))) = fin (s.name, (cnt : Int)) from rfl, hfin]
    unfold runA
    by_cases c : s.open = true
    · rw [if_pos c, if_pos c, hl]; rfl
    · rw [if_neg c, if_neg c]; rfl
  | c :: r, i, s, cnt, h, hi => by
    have e : L[i]? = some c := by
      have := congrArg (·[0]?) h
      simpa [List.getElem?_drop] using this
    have h2 : L.drop (i + 1) = r := by
      have : (L.drop i).drop 1 = r := by rw [h]; rfl
      rwa [List.drop_drop] at this
    have hl : i < L.length := (List.getElem?_eq_some_iff.mp e).1
    have ih := forG_runA hF hfin r (i + 1)
    rw [List.length_cons, rngI_cons]
    unfold forG
    rw [hF i c s cnt e]
    unfold runA
    cases q : stepA s cnt c with
    | none => rfl
    | some w =>
      obtain ⟨t, k⟩ := w
      have := ih t k h2 (by omega)
      rw [show ((i + 1 : Nat) : Int) = (i : Int) + 1 by omega] at this
      exact this
theorem col_ok {x : Str} (hl : (cl x).length ≤ 1000) : m_law_column x = .ok ((runA .start 0 0 (cl x) : Nat) : Int) := by
  have hl6 : (cl x).length ≤ 1000000 := by omega
  unfold m_law_column
  simp only [Res.okb, Res.bind_assoc, Res.bind_ok]
  rw [lenS_ok hl6, Res.okb, rangeM1_ok ⟨by omega, by omega⟩, Res.okb, Int.toNat_natCast]
  simp only [andR, Res.okb]
  refine forG_runA (L := cl x) (fun i c s cnt e => ?_) (fun s cnt => ?_) (cl x) 0 .start 0 rfl (Nat.zero_le _)
  · dsimp only
    have n1 : decide (s.name = ("start" : Str)) = s.is .start := by cases s <;> kernel_rfl
    have n2 : decide (s.name = ("slash" : Str)) = s.is .slash := by cases s <;> kernel_rfl
    have n3 : ([("start" : Str), "minus"].contains s.name) = (s.is .start || s.is .minus) := by cases s <;> kernel_rfl
    have n4 : ([("top" : Str), "bottom"].contains s.name) = (s.is .top || s.is .bottom) := by cases s <;> kernel_rfl
    have n5 : ([("top" : Str), "zero"].contains s.name) = (s.is .top || s.is .zero) := by cases s <;> kernel_rfl
    have n6 : decide ((cnt : Int) < 60) = decide (cnt < 60) := decide_eq_decide.mpr (by omega)
    have l45 : ("-" : Str) = ch 45 := by kernel_rfl
    have l48 : ("0" : Str) = ch 48 := by kernel_rfl
    have l47 : ("/" : Str) = ch 47 := by kernel_rfl
    rw [atS_ok hl6 e, Res.okb, inSg_dig, Res.okb, n1, n2, n3, n4, n5, n6, ch_lit l45, ch_lit l48, ch_lit l47]
    unfold stepA
    generalize isDb c = d
    generalize decide (c = 45) = c45
    generalize decide (c = 48) = c48
    generalize decide (c = 47) = c47
    generalize decide (cnt < 60) = lt
    cases s <;> cases c45 <;> cases c48 <;> cases d <;> cases c47 <;> cases lt <;> rfl
  · dsimp only
    have n : ([("start" : Str), "minus", "slash"].contains s.name) = s.open := by cases s <;> kernel_rfl
    rw [n]
theorem isDb_dig {c : Nat} {r : List Nat} (h : isDb c = true) : dig (c :: r) = dig r + 1 := if_pos h
theorem isDb_not {c : Nat} {r : List Nat} (h : ¬ isDb c = true) : dig (c :: r) = 0 := if_neg h
theorem db47 : isDb 47 = false := by decide
section
variable {s t : St4} {cnt k p c : Nat} {r : List Nat}
theorem runA_some (h : stepA s cnt c = some (t, k)) : runA s cnt p (c :: r) = runA t k (p + 1) r := by
  show (match stepA s cnt c with
    | some (t, k) => runA t k (p + 1) r
    | none => p + 1) = _
  rw [h]
theorem runA_none (h : stepA s cnt c = none) : runA s cnt p (c :: r) = p + 1 := by
  show (match stepA s cnt c with
    | some (t, k) => runA t k (p + 1) r
    | none => p + 1) = _
  rw [h]
theorem and2 {a : Bool} {P : Prop} [Decidable P] : (a && decide P) = true ↔ a = true ∧ P := by rw [Bool.and_eq_true, decide_eq_true_eq]
theorem andn {a : Bool} {P : Prop} [Decidable P] : (a && !decide P) = true ↔ a = true ∧ ¬ P := by rw [Bool.and_eq_true, Bool.not_eq_true', decide_eq_false_iff_not]
theorem sA_bot1 (d : isDb c = true) (l : cnt < 60) : stepA .bottom cnt c = some (.bottom, cnt + 1) := if_pos (and2.mpr ⟨d, l⟩)
theorem sA_bot0 (h : ¬ (isDb c = true ∧ cnt < 60)) : stepA .bottom cnt c = none := if_neg fun z => h (and2.mp z)
theorem sA_sl1 (d : isDb c = true) (l : c ≠ 48) : stepA .slash cnt c = some (.bottom, 1) := if_pos (andn.mpr ⟨d, l⟩)
theorem sA_sl0 (h : ¬ (isDb c = true ∧ c ≠ 48)) : stepA .slash cnt c = none := if_neg fun z => h (andn.mp z)
theorem sA_mi1 (d : isDb c = true) (l : c ≠ 48) : stepA .minus cnt c = some (.top, 1) := if_pos (andn.mpr ⟨d, l⟩)
theorem sA_mi0 (h : ¬ (isDb c = true ∧ c ≠ 48)) : stepA .minus cnt c = none := if_neg fun z => h (andn.mp z)
theorem sA_ze1 : stepA .zero cnt 47 = some (.slash, cnt) := rfl
theorem sA_ze0 (h : c ≠ 47) : stepA .zero cnt c = none := if_neg fun z => h (of_decide_eq_true z)
theorem sA_to1 (d : isDb c = true) (l : cnt < 60) : stepA .top cnt c = some (.top, cnt + 1) := if_pos (and2.mpr ⟨d, l⟩)
theorem sA_to2 : stepA .top cnt 47 = some (.slash, cnt) := rfl
theorem sA_to0 (h : ¬ (isDb c = true ∧ cnt < 60)) (h2 : c ≠ 47) : stepA .top cnt c = none := (if_neg fun z => h (and2.mp z)).trans (if_neg fun z => h2 (of_decide_eq_true z))
theorem sA_st1 : stepA .start cnt 45 = some (.minus, cnt) := rfl
theorem sA_st2 : stepA .start cnt 48 = some (.zero, cnt) := rfl
theorem sA_st3 (h : c ≠ 45) (h2 : c ≠ 48) (d : isDb c = true) : stepA .start cnt c = some (.top, 1) := (if_neg fun z => h (of_decide_eq_true z)).trans ((if_neg fun z => h2 (of_decide_eq_true z)).trans (if_pos d))
theorem sA_st0 (h : c ≠ 45) (h2 : c ≠ 48) (d : ¬ isDb c = true) : stepA .start cnt c = none := (if_neg fun z => h (of_decide_eq_true z)).trans ((if_neg fun z => h2 (of_decide_eq_true z)).trans (if_neg d))
end
theorem dig_nil : dig [] = 0 := rfl
theorem run_bot : ∀ (S : List Nat) (cnt p : Nat), cnt ≤ 60 → runA .bottom cnt p S = if 60 < cnt + dig S then p + (60 - cnt) + 1 else if S.drop (dig S) = [] then 0 else p + dig S + 1
  | [], cnt, p, h => by
    rw [dig_nil, if_neg (by omega), if_pos (List.drop_nil)]; rfl
  | c :: r, cnt, p, h => by
    by_cases d : isDb c = true
    · rw [isDb_dig d, List.drop_succ_cons]
      by_cases l : cnt < 60
      · rw [runA_some (sA_bot1 d l), run_bot r (cnt + 1) (p + 1) (by omega)]
        by_cases q : 60 < cnt + 1 + dig r
        · rw [if_pos q, if_pos (show 60 < cnt + (dig r + 1) by omega)]; omega
        · rw [if_neg q, if_neg (show ¬ 60 < cnt + (dig r + 1) by omega)]
          by_cases z : r.drop (dig r) = []
          · rw [if_pos z, if_pos z]
          · rw [if_neg z, if_neg z]; omega
      · rw [runA_none (sA_bot0 fun h => l h.2), if_pos (by omega)]; omega
    · rw [isDb_not d, runA_none (sA_bot0 fun h => d h.1), if_neg (by omega), List.drop_zero, if_neg (List.cons_ne_nil _ _)]
theorem run_slash {S : List Nat} {cnt p : Nat} : runA .slash cnt p S = if dig S = 0 ∨ S.head? = some 48 then p + 1 else if 60 < dig S then p + 61 else if S.drop (dig S) = [] then 0 else p + dig S + 1 := by
  cases S with
  | nil => rw [if_pos (.inl rfl)]; rfl
  | cons c r =>
    by_cases d : isDb c = true
    · by_cases z : c = 48
      · rw [runA_none (sA_sl0 fun h => h.2 z), if_pos (.inr (by rw [z]; rfl))]
      · rw [runA_some (sA_sl1 d z), isDb_dig d, if_neg (fun h => h.elim (fun e => by omega) fun e => z (Option.some.inj e)), run_bot r 1 (p + 1) (by decide), List.drop_succ_cons]
        by_cases q : 60 < 1 + dig r
        · rw [if_pos q, if_pos (show 60 < dig r + 1 by omega)]
        · rw [if_neg q, if_neg (show ¬ 60 < dig r + 1 by omega)]
          by_cases y : r.drop (dig r) = []
          · rw [if_pos y, if_pos y]
          · rw [if_neg y, if_neg y]; omega
    · rw [runA_none (sA_sl0 fun h => d h.1), if_pos (.inl (isDb_not d))]
def tailA (p : Nat) : List Nat → Nat
  | [] => 0
  | c :: r => if c = 47 then runA .slash 0 (p + 1) r else p + 1
theorem slash_cnt {cnt p : Nat} {S : List Nat} : runA .slash cnt p S = runA .slash 0 p S := by rw [run_slash, run_slash]
theorem tail_sl {p : Nat} {r : List Nat} : tailA p (47 :: r) = runA .slash 0 (p + 1) r := by
  show (if (47 : Nat) = 47 then runA .slash 0 (p + 1) r else p + 1) = _
  exact if_pos rfl
theorem tail_no {p c : Nat} {r : List Nat} (h : c ≠ 47) : tailA p (c :: r) = p + 1 := by
  show (if c = 47 then runA .slash 0 (p + 1) r else p + 1) = _
  exact if_neg h
theorem tail_dig {p c : Nat} {r : List Nat} (h : isDb c = true) : tailA p (c :: r) = p + 1 := tail_no fun z => by rw [z, db47] at h; cases h
theorem run_top : ∀ (S : List Nat) (cnt p : Nat), cnt ≤ 60 → runA .top cnt p S = if 60 < cnt + dig S then p + (60 - cnt) + 1 else tailA (p + dig S) (S.drop (dig S))
  | [], cnt, p, h => by
    rw [dig_nil, if_neg (by omega)]; rfl
  | c :: r, cnt, p, h => by
    by_cases d : isDb c = true
    · rw [isDb_dig d, List.drop_succ_cons]
      by_cases l : cnt < 60
      · rw [runA_some (sA_to1 d l), run_top r (cnt + 1) (p + 1) (by omega)]
        by_cases q : 60 < cnt + 1 + dig r
        · rw [if_pos q, if_pos (by omega)]; omega
        · rw [if_neg q, if_neg (by omega), show p + 1 + dig r = p + (dig r + 1) by omega]
      · rw [runA_none (sA_to0 (fun h => l h.2) fun z => by rw [z, db47] at d; cases d), if_pos (by omega)]; omega
    · rw [isDb_not d, if_neg (by omega), List.drop_zero, Nat.add_zero]
      by_cases z : c = 47
      · rw [z, runA_some sA_to2, tail_sl, slash_cnt]
      · rw [runA_none (sA_to0 (fun h => d h.1) z), tail_no z]
theorem run_zero {S : List Nat} {cnt p : Nat} : runA .zero cnt p S = tailA p S := by
  cases S with
  | nil => rfl
  | cons c r =>
    by_cases z : c = 47
    · rw [z, runA_some sA_ze1, tail_sl, slash_cnt]
    · rw [runA_none (sA_ze0 z), tail_no z]
def headA (s : Nat) (sg : Bool) (S : List Nat) : Nat :=
  if dig S = 0 ∨ (sg = true ∧ S.head? = some 48) then s + 1 else
  if S.head? = some 48 then (if 2 ≤ dig S then s + 2 else tailA (s + 1) (S.drop 1)) else
  if 60 < dig S then s + 61 else tailA (s + dig S) (S.drop (dig S))
theorem run_minus {S : List Nat} {cnt p : Nat} : runA .minus cnt p S = headA p true S := by
  unfold headA
  cases S with
  | nil => rw [if_pos (.inl rfl)]; rfl
  | cons c r =>
    by_cases d : isDb c = true
    · by_cases z : c = 48
      · rw [runA_none (sA_mi0 fun h => h.2 z), if_pos (.inr ⟨rfl, by rw [z]; rfl⟩)]
      · have hz : ¬ (c :: r).head? = some 48 := fun e => z (Option.some.inj e)
        rw [runA_some (sA_mi1 d z), isDb_dig d, if_neg (fun h => h.elim (fun e => by omega) fun e => hz e.2), if_neg hz, run_top r 1 (p + 1) (by decide), List.drop_succ_cons]
        by_cases q : 60 < 1 + dig r
        · rw [if_pos q, if_pos (by omega)]
        · rw [if_neg q, if_neg (by omega), show p + 1 + dig r = p + (dig r + 1) by omega]
    · rw [runA_none (sA_mi0 fun h => d h.1), if_pos (.inl (isDb_not d))]
theorem run_start {L : List Nat} : runA .start 0 0 L = if L.head? = some 45 then headA 1 true (L.drop 1) else headA 0 false L := by
  cases L with
  | nil => rw [if_neg (by decide)]; rfl
  | cons c r =>
    by_cases m : c = 45
    · rw [if_pos (show (c :: r).head? = some 45 by rw [m]; rfl), m, runA_some sA_st1]
      exact run_minus
    · rw [if_neg (show ¬ (c :: r).head? = some 45 from fun e => m (Option.some.inj e))]
      unfold headA
      by_cases z : c = 48
      · have d : isDb c = true := by rw [z]; decide
        rw [isDb_dig d, if_neg (fun h => h.elim (fun e => by omega) fun e => (by cases e.1)), if_pos (show (c :: r).head? = some 48 by rw [z]; rfl), z, runA_some sA_st2, run_zero]
        by_cases q : 2 ≤ dig r + 1
        · rw [if_pos q]
          cases r with
          | nil => exact absurd q (by decide)
          | cons b t =>
            refine tail_dig ?_
            by_cases y : isDb b = true
            · exact y
            · rw [isDb_not y] at q; omega
        · rw [if_neg q]; rfl
      · have hz : ¬ (c :: r).head? = some 48 := fun e => z (Option.some.inj e)
        by_cases d : isDb c = true
        · rw [runA_some (sA_st3 m z d), isDb_dig d, if_neg (fun h => h.elim (fun e => by omega) fun e => hz e.2), if_neg hz, run_top r 1 (0 + 1) (by decide), List.drop_succ_cons]
          by_cases q : 60 < 1 + dig r
          · rw [if_pos q, if_pos (by omega)]
          · rw [if_neg q, if_neg (by omega), show 0 + 1 + dig r = 0 + (dig r + 1) by omega]
        · rw [runA_none (sA_st0 m z d), if_pos (.inl (isDb_not d))]
open PySem.NumText (AllDigits digitsVal)
def numBad (pos : Bool) (S : List Nat) : Option Nat :=
  if dig S = 0 ∨ (pos = true ∧ S.head? = some 48) then some 1 else if S.head? = some 48 ∧ 2 ≤ dig S then some 2 else if 60 < dig S then some 61 else none
theorem neR_eq {s : Nat} {pos : Bool} {S : List Nat} : neR s pos S = match numBad pos S with
    | some j => bt ((s + j : Nat) : Int)
    | none => .ok ((s + dig S : Nat) : Int) := by
  unfold neR numBad
  by_cases a : dig S = 0 ∨ (pos = true ∧ S.head? = some 48)
  · rw [if_pos a, if_pos a]; rfl
  rw [if_neg a, if_neg a]
  by_cases b : S.head? = some 48
  · rw [if_pos b]
    by_cases c : 2 ≤ dig S
    · rw [if_pos c, if_pos ⟨b, c⟩]; rfl
    · rw [if_neg c, if_neg (show ¬ (S.head? = some 48 ∧ 2 ≤ dig S) from fun z => c z.2), if_neg (show ¬ 60 < dig S by omega)]
      have : dig S = 1 := by
        have : dig S ≠ 0 := fun z => a (.inl z)
        omega
      rw [this]; rfl
  · rw [if_neg b, if_neg (show ¬ (S.head? = some 48 ∧ 2 ≤ dig S) from fun z => b z.1)]
    by_cases c : 60 < dig S
    · rw [if_pos c, if_pos c]; rfl
    · rw [if_neg c, if_neg c]; rfl
theorem headA_eq {s : Nat} {pos : Bool} {S : List Nat} : headA s pos S = match numBad pos S with
    | some j => s + j
    | none => tailA (s + dig S) (S.drop (dig S)) := by
  unfold headA numBad
  by_cases a : dig S = 0 ∨ (pos = true ∧ S.head? = some 48)
  · rw [if_pos a, if_pos a]
  rw [if_neg a, if_neg a]
  by_cases b : S.head? = some 48
  · rw [if_pos b]
    by_cases c : 2 ≤ dig S
    · rw [if_pos c, if_pos ⟨b, c⟩]
    · rw [if_neg c, if_neg (show ¬ (S.head? = some 48 ∧ 2 ≤ dig S) from fun z => c z.2), if_neg (show ¬ 60 < dig S by omega)]
      have : dig S = 1 := by
        have : dig S ≠ 0 := fun z => a (.inl z)
        omega
      rw [this]
  · rw [if_neg b, if_neg (show ¬ (S.head? = some 48 ∧ 2 ≤ dig S) from fun z => b z.1)]
    by_cases c : 60 < dig S
    · rw [if_pos c, if_pos c]
    · rw [if_neg c, if_neg c]
theorem slash_eq {cnt p : Nat} {S : List Nat} : runA .slash cnt p S = match numBad true S with
    | some j => p + j
    | none => if S.drop (dig S) = [] then 0 else p + dig S + 1 := by
  rw [run_slash]
  unfold numBad
  by_cases a : dig S = 0 ∨ S.head? = some 48
  · rw [if_pos a, if_pos (show dig S = 0 ∨ (true = true ∧ S.head? = some 48) from a.imp id fun h => ⟨rfl, h⟩)]
  rw [if_neg a, if_neg (show ¬ (dig S = 0 ∨ (true = true ∧ S.head? = some 48)) from fun z => a (z.imp id fun h => h.2)), if_neg (show ¬ (S.head? = some 48 ∧ 2 ≤ dig S) from fun z => a (.inr z.1))]
  by_cases c : 60 < dig S
  · rw [if_pos c, if_pos c]
  · rw [if_neg c, if_neg c]
theorem bad_none {pos : Bool} {S : List Nat} (h : numBad pos S = none) : dig S ≠ 0 ∧ dig S ≤ 60 ∧ (S.head? = some 48 → pos = false ∧ dig S = 1) := by
  unfold numBad at h
  by_cases a : dig S = 0 ∨ (pos = true ∧ S.head? = some 48)
  · rw [if_pos a] at h; cases h
  rw [if_neg a] at h
  by_cases b : S.head? = some 48 ∧ 2 ≤ dig S
  · rw [if_pos b] at h; cases h
  rw [if_neg b] at h
  by_cases c : 60 < dig S
  · rw [if_pos c] at h; cases h
  have d0 : dig S ≠ 0 := fun z => a (.inl z)
  refine ⟨d0, by omega, fun z => ⟨?_, ?_⟩⟩
  · cases pos with
    | false => rfl
    | true => exact absurd (.inr ⟨rfl, z⟩) a
  · have : ¬ 2 ≤ dig S := fun q => b ⟨z, q⟩
    omega
theorem bad_some {pos : Bool} {S : List Nat} {j : Nat} (h : numBad pos S = some j) : 0 < j := by
  unfold numBad at h
  split at h
  · cases h; decide
  · split at h
    · cases h; decide
    · split at h
      · cases h; decide
      · cases h
theorem dig_all : ∀ S : List Nat, AllDigits (S.take (dig S))
  | [] => fun c hc => by cases hc
  | c :: r => by
    by_cases d : isDb c = true
    · rw [isDb_dig d, List.take_succ_cons]
      intro b hb
      rcases List.mem_cons.mp hb with h | h
      · rw [h]; exact of_decide_eq_true d
      · exact dig_all r b h
    · rw [isDb_not d]
      intro b hb
      cases hb
theorem dig_take (S : List Nat) : (S.take (dig S)).length = dig S := by
  rw [List.length_take]
  exact Nat.min_eq_left (dig_le S)
theorem dig_app : ∀ {A T : List Nat}, AllDigits A → (∀ c, T.head? = some c → isDb c = false) → dig (A ++ T) = A.length
  | [], T, _, hT => by
    cases T with
    | nil => rfl
    | cons c r => exact isDb_not (by rw [hT c rfl]; decide)
  | c :: A, T, hA, hT => by
    rw [List.cons_append, isDb_dig (decide_eq_true (hA c (List.mem_cons_self ..))), dig_app (fun d hd => hA d (List.mem_cons_of_mem _ hd)) hT, List.length_cons]
def valS (sg : Bool) (A : List Nat) : Int := if sg = true then -((digitsVal A : Nat) : Int) else ((digitsVal A : Nat) : Int)
def rdR (L : List Nat) : Res Rat :=
  let sg : Bool := decide (L.head? = some 45)
  let s := if sg = true then 1 else 0
  let S := L.drop s
  match numBad sg S with
  | some j => bt ((s + j : Nat) : Int)
  | none => match S.drop (dig S) with
    | [] => qMk (valS sg (S.take (dig S))) 1
    | c :: r => if c = 47 then (match numBad true r with
      | some j => bt ((s + dig S + 1 + j : Nat) : Int)
      | none => if r.drop (dig r) = [] then qMk (valS sg (S.take (dig S))) ((digitsVal (r.take (dig r)) : Nat) : Int) else bt ((s + dig S + 1 + dig r + 1 : Nat) : Int)) else bt ((s + dig S + 1 : Nat) : Int)
theorem read_eq {x : Str} (hl : (cl x).length ≤ 1000) : m_read_fraction x = rdR (cl x) := by
  have hl6 : (cl x).length ≤ 1000000 := by omega
  have neg : decide (mkT ((cl x).take 1) = ("-" : Str)) = decide ((cl x).head? = some 45) := by
    have l45 : ("-" : Str) = mkT [45] := by kernel_rfl
    rw [l45]
    refine decide_eq_decide.mpr ?_
    cases cl x with
    | nil => exact ⟨fun h => (by have := congrArg cl h; cases this), fun h => (by cases h)⟩
    | cons c r => exact ⟨fun h => (by have := congrArg cl h; exact congrArg some (List.cons.inj this).1), fun h => (by rw [Option.some.inj h]; rfl)⟩
  obtain ⟨sg, hsg⟩ : ∃ sg : Bool, sg = decide ((cl x).head? = some 45) := ⟨_, rfl⟩
  obtain ⟨s, hs⟩ : ∃ s : Nat, s = if sg = true then 1 else 0 := ⟨_, rfl⟩
  have sl : s ≤ (cl x).length := by
    rw [hs]
    cases q : sg with
    | false => exact Nat.zero_le _
    | true =>
      rw [q] at hsg
      have := of_decide_eq_true hsg.symm
      cases e : cl x with
      | nil => rw [e] at this; cases this
      | cons c r => rw [if_pos rfl, List.length_cons]; omega
  have sl1 : slS x none (some (1 : Int)) = .ok (mkT ((cl x).take 1)) := slS_to (j := 1) hl6
  unfold m_read_fraction rdR
  dsimp only
  simp only [Res.okb, Res.bind_assoc, Res.bind_ok]
  rw [← hsg, ← hs, sl1, Res.okb, neg, ← hsg]
  have es : (if sg = true then (1 : Int) else 0) = (s : Int) := by rw [hs]; cases sg <;> rfl
  obtain ⟨S, hS⟩ : ∃ S, S = (cl x).drop s := ⟨_, rfl⟩
  have lS : S.length = (cl x).length - s := by rw [hS, List.length_drop]
  have dS := dig_le S
  rw [es, ne_ok hl sl, ← hS, neR_eq]
  cases nb : numBad sg S with
  | some j => exact bind_err _ _
  | none =>
    obtain ⟨d0, d60, _⟩ := bad_none nb
    have tk := dig_take S
    dsimp only
    rw [Res.okb, slS_ok hl6 (by omega) (by omega), Res.okb, show s + dig S - s = dig S by omega, ← hS, intS_dig (dig_all S) (fun z => by rw [z] at tk; exact d0 tk.symm) (by omega), Res.okb, lenS_ok hl6, Res.okb]
    have at0 : (cl x)[s + dig S]? = (S.drop (dig S))[0]? := by rw [List.getElem?_drop, hS, List.getElem?_drop, Nat.add_zero]
    have lR : (S.drop (dig S)).length = (cl x).length - (s + dig S) := by rw [List.length_drop, lS]; omega
    have top : ∀ z : Int, (if sg = true then Res.ok (-((digitsVal (S.take (dig S)) : Nat) : Int)) else Res.ok ((digitsVal (S.take (dig S)) : Nat) : Int)) = .ok (valS sg (S.take (dig S))) := fun z => by
      unfold valS
      cases sg <;> rfl
    have err : ∀ {c : Nat} {e : Int}, e = (c : Int) → (Res.err ⟨"BadText", [("column", Pay.int (e + 1)), ("line", Pay.int 1)]⟩ : Res Rat) = bt ((c + 1 : Nat) : Int) := fun {c e} h => by rw [h]; rfl
    cases R : S.drop (dig S) with
    | nil =>
      rw [R] at lR
      have : (cl x).length = s + dig S := by
        have : (0 : Nat) = (cl x).length - (s + dig S) := lR
        omega
      rw [if_neg (by rw [decide_eq_true_eq]; omega), Res.okb, if_neg (by decide), Res.okb, Res.okb, if_neg (by rw [decide_eq_true_eq]; omega), top 0, Res.okb]
    | cons c r =>
      rw [R] at at0 lR
      have at0 : (cl x)[s + dig S]? = some c := at0
      have lR : r.length + 1 = (cl x).length - (s + dig S) := lR
      have l47 : ("/" : Str) = ch 47 := by kernel_rfl
      rw [if_pos (by rw [decide_eq_true_eq]; omega), atS_ok hl6 at0, Res.okb, Res.okb, ch_lit l47]
      by_cases z : c = 47
      · have r1 : (cl x).drop (s + dig S + 1) = r := by
          have h1 : (cl x).drop (s + dig S) = c :: r := by rw [← List.drop_drop, ← hS, R]
          have : ((cl x).drop (s + dig S)).drop 1 = r := by rw [h1]; rfl
          rwa [List.drop_drop] at this
        rw [if_pos (decide_eq_true z), show ((s + dig S : Nat) : Int) + 1 = ((s + dig S + 1 : Nat) : Int) by omega, ne_ok hl (by omega), r1, neR_eq]
        dsimp only
        rw [if_pos z]
        cases nr : numBad true r with
        | some j => exact (congrArg (fun m : Res (Int × Int) => m.bind _) (bind_err _ _)).trans (bind_err _ _)
        | none =>
          obtain ⟨q0, q60, _⟩ := bad_none nr
          have tr := dig_take r
          have dr := dig_le r
          dsimp only
          rw [Res.okb, slS_ok hl6 (by omega) (by omega), Res.okb, show s + dig S + 1 + dig r - (s + dig S + 1) = dig r by omega, r1, intS_dig (dig_all r) (fun z => by rw [z] at tr; exact q0 tr.symm) (by omega), Res.okb, Res.okb, Res.okb]
          have lr2 : (r.drop (dig r)).length = (cl x).length - (s + dig S + 1 + dig r) := by rw [List.length_drop]; omega
          by_cases y : r.drop (dig r) = []
          · rw [y] at lr2
            have lr2 : (0 : Nat) = (cl x).length - (s + dig S + 1 + dig r) := lr2
            rw [if_neg (by rw [decide_eq_true_eq]; omega), if_pos y, top 0, Res.okb]
          · have : (r.drop (dig r)).length ≠ 0 := fun h => y (List.length_eq_zero_iff.mp h)
            rw [if_pos (by rw [decide_eq_true_eq]; omega), if_neg y]
            exact err rfl
      · rw [if_neg (by rw [decide_eq_true_eq]; exact z), Res.okb, Res.okb, if_pos (by rw [decide_eq_true_eq]; omega)]
        dsimp only
        rw [if_neg z]
        exact err rfl
open PySem.NumText (AllDigits digitsVal)
def tB : Option (List Nat) → List Nat
  | none => []
  | some b => 47 :: b
def botS : Option (List Nat) → Int
  | none => 1
  | some b => ((digitsVal b : Nat) : Int)
structure GD (L : List Nat) (sg : Bool) (A : List Nat) (B : Option (List Nat)) : Prop where
  eq : L = (if sg = true then [45] else []) ++ (A ++ tB B)
  dA : AllDigits A
  nA : A ≠ []
  lA : A.length ≤ 60
  hA : A.head? = some 48 → sg = false ∧ A.length = 1
  dB : ∀ b, B = some b → AllDigits b ∧ b ≠ [] ∧ b.length ≤ 60 ∧ b.head? ≠ some 48
theorem bad_no {pos : Bool} {S : List Nat} (h0 : dig S ≠ 0) (h1 : dig S ≤ 60) (h2 : S.head? = some 48 → pos = false ∧ dig S = 1) : numBad pos S = none := by
  unfold numBad
  rw [if_neg (fun z => z.elim h0 fun q => by have := (h2 q.2).1; rw [q.1] at this; cases this), if_neg (fun z => by have := (h2 z.1).2; omega), if_neg (by omega)]
theorem tB_head {B : Option (List Nat)} (c : Nat) (h : (tB B).head? = some c) : isDb c = false := by
  cases B with
  | none => cases h
  | some b => cases h; exact db47
theorem head_app {A T : List Nat} (h : A ≠ []) : (A ++ T).head? = A.head? := by
  cases A with
  | nil => exact absurd rfl h
  | cons a A => rfl
theorem GD.sgn {L : List Nat} {sg : Bool} {A : List Nat} {B : Option (List Nat)} (g : GD L sg A B) : decide (L.head? = some 45) = sg := by
  rw [g.eq]
  cases sg with
  | true => rfl
  | false =>
    show decide ((A ++ tB B).head? = some 45) = false
    rw [head_app g.nA]
    refine decide_eq_false fun z => ?_
    have hA := g.dA
    cases e : A with
    | nil => exact g.nA e
    | cons a r =>
      rw [e] at z hA
      have := hA a (List.mem_cons_self ..)
      have z : a = 45 := Option.some.inj z
      omega
theorem rd_good {L : List Nat} {sg : Bool} {A : List Nat} {B : Option (List Nat)} (g : GD L sg A B) : rdR L = qMk (valS sg A) (botS B) := by
  have S1 : L.drop (if sg = true then 1 else 0) = A ++ tB B := by
    rw [g.eq]
    cases sg <;> rfl
  have d1 : dig (A ++ tB B) = A.length := dig_app g.dA tB_head
  have lA : A.length ≠ 0 := fun h => g.nA (List.length_eq_zero_iff.mp h)
  unfold rdR
  dsimp only
  rw [g.sgn, S1, bad_no (by omega) (by rw [d1]; exact g.lA) (fun h => by rw [head_app g.nA] at h; rw [d1]; exact g.hA h)]
  dsimp only
  rw [d1, List.drop_left, List.take_left]
  cases hB : B with
  | none => rfl
  | some b =>
    obtain ⟨b1, b2, b3, b4⟩ := g.dB b hB
    have d2 : dig b = b.length := by
      have := dig_app (A := b) (T := []) b1 fun c h => by cases h
      rwa [List.append_nil] at this
    have lb : b.length ≠ 0 := fun h => b2 (List.length_eq_zero_iff.mp h)
    show (if 47 = 47 then _ else _) = _
    rw [if_pos rfl, bad_no (by omega) (by omega) (fun h => absurd h b4)]
    dsimp only
    rw [d2, List.drop_length, if_pos rfl, List.take_length]
    rfl
theorem rd_run (L : List Nat) : (0 < runA .start 0 0 L ∧ rdR L = bt ((runA .start 0 0 L : Nat) : Int)) ∨ (runA .start 0 0 L = 0 ∧ ∃ sg A B, GD L sg A B) := by
  obtain ⟨sg, hsg⟩ : ∃ sg : Bool, sg = decide (L.head? = some 45) := ⟨_, rfl⟩
  obtain ⟨s, hs⟩ : ∃ s : Nat, s = if sg = true then 1 else 0 := ⟨_, rfl⟩
  have W : runA .start 0 0 L = headA s sg (L.drop s) := by
    rw [run_start]
    by_cases c : L.head? = some 45
    · rw [decide_eq_true c] at hsg
      rw [if_pos c, hs, hsg]; rfl
    · rw [decide_eq_false c] at hsg
      rw [if_neg c, hs, hsg]; rfl
  have eL : L = (if sg = true then [45] else []) ++ L.drop s := by
    rw [hs, hsg]
    cases L with
    | nil => rfl
    | cons c r =>
      by_cases q : c = 45
      · rw [q]; rfl
      · rw [show decide ((c :: r).head? = some 45) = false from decide_eq_false fun z => q (Option.some.inj z)]; rfl
  rw [W, headA_eq]
  unfold rdR
  dsimp only
  rw [← hsg, ← hs]
  obtain ⟨S, hS⟩ : ∃ S, S = L.drop s := ⟨_, rfl⟩
  rw [← hS] at eL ⊢
  cases nb : numBad sg S with
  | some j => exact .inl ⟨show 0 < s + j by have := bad_some nb; omega, rfl⟩
  | none =>
    obtain ⟨d0, d60, dh⟩ := bad_none nb
    have tk := dig_take S
    have ta : S.take (dig S) ++ S.drop (dig S) = S := List.take_append_drop _ _
    have nt : S.take (dig S) ≠ [] := fun z => by rw [z] at tk; exact d0 tk.symm
    have hh : (S.take (dig S)).head? = S.head? := by
      conv => rhs; rw [← ta]
      exact (head_app nt).symm
    have hA : (S.take (dig S)).head? = some 48 → sg = false ∧ (S.take (dig S)).length = 1 := fun h => by rw [hh] at h; rw [tk]; exact dh h
    dsimp only
    cases R : S.drop (dig S) with
    | nil =>
      refine .inr ⟨rfl, sg, S.take (dig S), none, ?_, dig_all S, nt, by omega, hA, fun b h => by cases h⟩
      rw [R] at ta
      show L = _ ++ (S.take (dig S) ++ [])
      rw [ta]; exact eL
    | cons c r =>
      rw [R] at ta
      dsimp only
      by_cases z : c = 47
      · rw [z, tail_sl, slash_eq, if_pos rfl]
        cases nr : numBad true r with
        | some j => exact .inl ⟨show 0 < s + dig S + 1 + j by omega, rfl⟩
        | none =>
          obtain ⟨q0, q60, qh⟩ := bad_none nr
          have tr := dig_take r
          dsimp only
          by_cases y : r.drop (dig r) = []
          · rw [if_pos y, if_pos y]
            have rr : r.take (dig r) = r := by
              have := List.take_append_drop (dig r) r
              rwa [y, List.append_nil] at this
            refine .inr ⟨rfl, sg, S.take (dig S), some r, ?_, dig_all S, nt, by omega, hA, fun b h => ?_⟩
            · show L = _ ++ (S.take (dig S) ++ (47 :: r))
              rw [← z, ta]; exact eL
            · cases h
              rw [rr] at tr
              have da := dig_all r
              rw [rr] at da
              exact ⟨da, fun h => q0 (by rw [h]; rfl), by omega, fun h => by have := (qh h).1; cases this⟩
          · rw [if_neg y, if_neg y]
            exact .inl ⟨by omega, rfl⟩
      · rw [tail_no z, if_neg z]
        exact .inl ⟨by omega, rfl⟩
theorem div_ok (a b : Int) : m_law_divisor a b = .ok (Int.gcd a b : Int) := by
  unfold m_law_divisor
  simp only [Res.okb, Res.bind_assoc, Res.bind_ok]
  have ea : (if a < 0 then -a else a) = ((a.natAbs : Nat) : Int) := by split <;> omega
  have eb : (if b < 0 then -b else b) = ((b.natAbs : Nat) : Int) := by split <;> omega
  rw [ea, eb, cd_loop (c := fun s : Int × Int => .ok (!decide (s.2 = 0))) (f := fun s => (modI s.1 s.2).bind fun v => .ok (s.2, v)) (fun _ => rfl) (fun s hs => by rw [modI_ok hs]; rfl) (((b.natAbs : Nat) : Int).natAbs + 1) a.natAbs b.natAbs (by omega), Res.okb]
  unfold Int.gcd
  rw [Nat.gcd_comm]
open PySem.NumText (AllDigits digitsVal)
theorem val_lt {l : List Nat} (h : AllDigits l) : digitsVal l < 10 ^ l.length := by
  have key : ∀ (l : List Nat) (a : Nat), AllDigits l → l.foldl (fun acc c => acc * 10 + (c - 48)) a < (a + 1) * 10 ^ l.length := fun l => by
    induction l with
    | nil => intro a _; show a < (a + 1) * 1; omega
    | cons c r ih =>
      intro a h
      have hc := h c (List.mem_cons_self ..)
      have := ih (a * 10 + (c - 48)) fun d hd => h d (List.mem_cons_of_mem _ hd)
      show r.foldl _ (a * 10 + (c - 48)) < _
      refine Nat.lt_of_lt_of_le this ?_
      rw [List.length_cons, Nat.pow_succ, Nat.mul_comm (10 ^ r.length) 10, ← Nat.mul_assoc]
      exact Nat.mul_le_mul_right _ (by omega)
  have := key l 0 h
  rwa [Nat.zero_add, Nat.one_mul] at this
theorem GD.bot {L : List Nat} {sg : Bool} {A : List Nat} {B : Option (List Nat)} (g : GD L sg A B) : 0 < botS B ∧ botS B < 10 ^ 60 := by
  cases hB : B with
  | none => exact ⟨by decide, by decide⟩
  | some b =>
    obtain ⟨b1, b2, b3, b4⟩ := g.dB b hB
    have h1 := val_lt b1
    have h2 : digitsVal b < 10 ^ 60 := Nat.lt_of_lt_of_le h1 (Nat.pow_le_pow_right (by decide) b3)
    have h3 : 0 < digitsVal b := by
      cases e : b with
      | nil => exact absurd e b2
      | cons c r =>
        rw [e] at b1 b4
        have := b1 c (List.mem_cons_self ..)
        have c48 : c ≠ 48 := fun z => b4 (by rw [z]; rfl)
        exact PySem.NumText.digitsVal_pos (by omega)
    exact ⟨by show (0 : Int) < ((digitsVal b : Nat) : Int); omega, by show ((digitsVal b : Nat) : Int) < 10 ^ 60; exact_mod_cast h2⟩
theorem fracs {t b : Int} (b0 : 0 < b) (bB : b < 10 ^ 60) : ∃ g : Int, (Int.gcd t b : Int) = g ∧ fdivI t g = .ok (Rat.divInt t b).num ∧ fdivI b g = .ok ((Rat.divInt t b).den : Int) := by
  refine ⟨_, rfl, ?_⟩
  have g0 : 0 < (Int.gcd t b : Int) := by
    have := Int.gcd_pos_of_ne_zero_right t (show b ≠ 0 by omega)
    omega
  have gb : (Int.gcd t b : Int) ≤ b := Int.le_of_dvd b0 (Int.gcd_dvd_right ..)
  have big : (10 : Int) ^ 60 < 2 ^ 4000 := by decide +kernel
  obtain ⟨h1, h2⟩ := div_num (t := t) (b := b) (by omega) (Int.gcd t b : Int) (by rw [if_neg (by omega)])
  rw [Int.fdiv_eq_ediv_of_nonneg _ (Int.le_of_lt g0)] at h1 h2
  exact ⟨by rw [fdivI_pos g0 (by omega), h1], by rw [fdivI_pos g0 (by omega), h2]⟩
theorem intS_sg {sg : Bool} {A : List Nat} (h : AllDigits A) (h1 : A ≠ []) (h2 : A.length ≤ 60) : intS (mkT ((if sg = true then [45] else []) ++ A)) = .ok (valS sg A) := by
  cases sg with
  | true => exact intS_neg (l := A) h h1 (by omega)
  | false => exact intS_dig (l := A) h h1 (by omega)
theorem sl_lit : cl ("/" : Str) = [47] := by kernel_rfl
def pB : Option (List Nat) → List Str
  | none => []
  | some b => [mkT b]
theorem GD.split {x : Str} {sg : Bool} {A : List Nat} {B : Option (List Nat)} (g : GD (cl x) sg A B) : Txt.split x ("/" : Str) = mkT ((if sg = true then [45] else []) ++ A) :: pB B := by
  have nd : ∀ {l : List Nat}, AllDigits l → (47 : Nat) ∉ l := fun h z => by have := h 47 z; omega
  have nA : (47 : Nat) ∉ ((if sg = true then [45] else []) ++ A : List Nat) := fun z => by
    rcases List.mem_append.mp z with h | h
    · cases sg
      · cases h
      · cases (List.mem_singleton.mp h)
    · exact nd g.dA h
  have key : ∀ parts : List Str, parts ≠ [] → (∀ p ∈ parts, (47 : Nat) ∉ cl p) → cl x = TL.joinL [47] (parts.map cl) → Txt.split x ("/" : Str) = parts := fun parts h1 h2 h3 => by
    have e : x = Txt.join ("/" : Str) parts := cl_ext (by
      rw [TL.join_eq]
      exact h3.trans (by rw [← sl_lit]; exact (TL.tl_join ("/" : Str) parts).symm))
    rw [e]
    exact TL.split_join (s := 47) (S := []) sl_lit (by kernel_rfl) h1 h2
  cases hB : B with
  | none =>
    refine key _ (by simp) (fun p hp => ?_) ?_
    · rw [List.mem_singleton.mp hp]; exact nA
    · rw [g.eq, hB]
      show _ ++ (A ++ []) = _
      rw [List.append_nil]; rfl
  | some b =>
    refine key _ (by simp) (fun p hp => ?_) ?_
    · rcases List.mem_cons.mp hp with h | h
      · rw [h]; exact nA
      · rw [List.mem_singleton.mp h]; exact nd (g.dB b hB).1
    · rw [g.eq, hB]
      show _ ++ (A ++ 47 :: b) = (_ ++ A) ++ ([47] ++ b)
      rw [List.append_assoc]; rfl
theorem tryG_err04 {S L γ : Type} {e : Exn} {Ls : List (Str × Bool)} {h : Exn → Res (Fl S L γ)} {y : Fl S L γ} (h1 : Ls.lookup e.cls = some true) (h2 : h e = .ok y) : tryG (.err e) Ls h = .ok y := by
  unfold tryG
  dsimp only
  rw [h1]
  dsimp only
  rw [h2]
theorem pay2_hit04 {α β δ : Type} {g f : Str} {dg : Pay → Option β} {df : Pay → Option α} {h : α → β → Res δ} {p q : Pay} {y : α} {z : β} (e1 : df p = some y) (e2 : dg q = some z) : pay2 g f dg df h [(g, q), (f, p)] = h y z := by
  unfold pay2
  show (if g = g ∧ f = f then _ else _) = _
  rw [if_pos ⟨rfl, rfl⟩, e1]
  dsimp only
  rw [e2]
theorem lawread_ok {x : Str} (hl : (cl x).length ≤ 600) : m_law_read x = .ok true := by
  unfold m_law_read
  simp only [Res.okb, Res.bind_assoc, Res.bind_ok]
  rw [col_ok (by omega), Res.okb, read_eq (by omega)]
  rcases rd_run (cl x) with ⟨w0, eb⟩ | ⟨w0, sg, A, B, g⟩
  · generalize runA .start 0 0 (cl x) = w at *
    rw [eb]
    unfold bt
    rw [bind_err, tryG_err04 (S := Rat) (L := Unit) (y := Fl.rt true) rfl ?_, Res.okb]
    · rfl
    · refine (pay2_hit04 (dg := dInt) (df := dInt) (y := 1) (z := (w : Int)) rfl rfl).trans ?_
      rw [if_pos trivial, if_pos (by rw [decide_eq_true_eq]; omega), Res.okb, decide_eq_true rfl]
  · obtain ⟨b0, bB⟩ := g.bot
    rw [w0, rd_good g, qMk_okB (by omega), Res.okb, tryG_ok', Res.okb, Fl.okb_out]
    have sp : splitS x ("/" : Str) = .ok (mkT ((if sg = true then [45] else []) ++ A) :: pB B) := by
      rw [← g.split]
      exact Res.guard_pos ⟨by kernel_rfl, by rw [cl_len]; exact line1000 (by omega)⟩ _
    have iA := intS_sg (sg := sg) g.dA g.nA g.lA
    obtain ⟨G, eG, f1, f2⟩ := fracs (t := valS sg A) b0 bB
    have mid : (if decide (((mkT ((if sg = true then [45] else []) ++ A) :: pB B).length : Int) = 2) = true then (atM (mkT ((if sg = true then [45] else []) ++ A) :: pB B) 1).bind fun a => intS a else Res.ok 1) = .ok (botS B) := by
      cases hB : B with
      | none => exact if_neg (show ¬ decide (((1 : Nat) : Int) = 2) = true by decide)
      | some b =>
        obtain ⟨b1, b2, b3, _⟩ := g.dB b hB
        refine (if_pos (show decide (((2 : Nat) : Int) = 2) = true by decide)).trans ?_
        show (Res.ok (mkT b)).bind _ = _
        rw [Res.okb]
        exact intS_dig b1 b2 (by omega)
    have a0 : atM (mkT ((if sg = true then [45] else []) ++ A) :: pB B) 0 = .ok (mkT ((if sg = true then [45] else []) ++ A)) := atM_get (by decide) rfl
    rw [if_neg (by decide), Res.okb, if_neg (by decide), sp, Res.okb, mid, Res.okb]
    rw [a0, Res.okb, iA, Res.okb, div_ok, Res.okb, eG, Res.okb, iA, Res.okb, f1, Res.okb, f2, Res.okb, decide_eq_true rfl]
open PySem.NumText (AllDigits digitsVal)
theorem cl_strI (i : Int) : cl (strI i) = (if decide (i < 0) = true then [45] else []) ++ numL i.natAbs := by
  cases i with
  | ofNat n => exact (cl_nat n).trans (by rw [if_neg (by rw [decide_eq_true_eq]; show ¬ ((n : Nat) : Int) < 0; omega)]; rfl)
  | negSucc n => exact (cl_neg n).trans (by rw [if_pos (by rw [decide_eq_true_eq]; omega)]; rfl)
theorem strI_len {i : Int} {k : Nat} (hk : 0 < k) (h : i.natAbs < 10 ^ k) : (cl (strI i)).length ≤ k + 1 := by
  rw [cl_strI, List.length_append]
  have : (numL i.natAbs).length ≤ k := TL.numL_len hk h
  by_cases c : decide (i < 0) = true
  · rw [if_pos c]
    show 1 + (numL i.natAbs).length ≤ k + 1
    omega
  · rw [if_neg c]
    show 0 + (numL i.natAbs).length ≤ k + 1
    omega
theorem numL_head : ∀ n : Nat, (numL n).head? = some 48 → n = 0 := fun n => by
  induction n using Nat.strongRecOn with
  | _ n ih =>
    intro h
    by_cases c : n < 10
    · rw [show numL n = [48 + n] from TL.numL_lt c] at h
      have := Option.some.inj h
      omega
    · rw [show numL n = numL (n / 10) ++ [48 + n % 10] from TL.numL_step (by omega), head_app (TL.numL_ne _)] at h
      have := ih (n / 10) (by omega) h
      omega
theorem glue_ok {x y : Str} (h : (cl x).length + (cl y).length ≤ 1000) : glueS x y = .ok (x ++ y) := Res.guard_pos (by rw [cl_len, cl_app, List.length_append]; exact line1000 (by omega)) _
theorem add_ok {x y : Str} (h : (cl x).length + (cl y).length ≤ 1000) : Res.guard (x.length + y.length ≤ sizeLine) (Res.ok (x ++ y)) = .ok (x ++ y) := Res.guard_pos (by rw [cl_len, cl_len]; exact line1000 (by omega)) _
def txtQ (q : Rat) : Str := if q.den = 1 then strI q.num else strI q.num ++ ("/" : Str) ++ strI (q.den : Int)
theorem small60 {n : Nat} (h : n < 10 ^ 60) : n < 10 ^ 500 := Nat.lt_of_lt_of_le h (Nat.pow_le_pow_right (by decide) (by decide))
theorem str_ok {q : Rat} (hn : q.num.natAbs < 10 ^ 60) (hd : q.den < 10 ^ 60) : m_Fraction_str q = .ok (txtQ q) := by
  have ln := strI_len (k := 60) (by decide) hn
  have ld := strI_len (i := (q.den : Int)) (k := 60) (by decide) hd
  have lsl : (cl ("/" : Str)).length = 1 := by rw [sl_lit]; rfl
  have e0 : ∀ y : Str, Str.empty ++ y = y := fun y => cl_ext (by rw [cl_app]; rfl)
  unfold m_Fraction_str txtQ
  simp only [Res.okb, Res.bind_assoc, Res.bind_ok]
  by_cases c : q.den = 1
  · rw [if_pos c, if_pos (decide_eq_true (by omega)), strM_ok (small60 hn)]
  · rw [if_neg c, if_neg (by rw [decide_eq_true_eq]; omega), strM_ok (small60 hn), Res.okb, glue_ok (by show 0 + _ ≤ _; omega), Res.okb, e0, glue_ok (by omega), Res.okb, strM_ok (small60 (show ((q.den : Int)).natAbs < 10 ^ 60 from hd)), Res.okb, glue_ok (by rw [cl_app, List.length_append]; omega)]
theorem txt_gd {q : Rat} (hn : q.num.natAbs < 10 ^ 60) (hd : q.den < 10 ^ 60) : GD (cl (txtQ q)) (decide (q.num < 0)) (numL q.num.natAbs) (if q.den = 1 then none else some (numL q.den)) := by
  have d0 := q.den_pos
  refine ⟨?_, TL.numL_digits _, TL.numL_ne _, TL.numL_len (by decide) hn, fun h => ?_, fun b h => ?_⟩
  · unfold txtQ
    by_cases c : q.den = 1
    · rw [if_pos c, if_pos c, cl_strI]
      show _ = _ ++ (numL q.num.natAbs ++ [])
      rw [List.append_nil]
    · rw [if_neg c, if_neg c, cl_app, cl_app, cl_strI, sl_lit, cl_nat, List.append_assoc, List.append_assoc]
      rfl
  · have z := numL_head _ h
    have : q.num = 0 := by omega
    rw [this]
    exact ⟨rfl, by rw [show numL (0 : Int).natAbs = [48] from TL.numL_lt (by decide)]; rfl⟩
  · by_cases c : q.den = 1
    · rw [if_pos c] at h; cases h
    · rw [if_neg c] at h
      cases h
      exact ⟨TL.numL_digits _, TL.numL_ne _, TL.numL_len (by decide) hd, fun z => by have := numL_head _ z; omega⟩
theorem txt_len {q : Rat} (hn : q.num.natAbs < 10 ^ 60) (hd : q.den < 10 ^ 60) : (cl (txtQ q)).length ≤ 200 := by
  have ln := strI_len (k := 60) (by decide) hn
  have ld := strI_len (i := (q.den : Int)) (k := 60) (by decide) hd
  have lsl : (cl ("/" : Str)).length = 1 := by rw [sl_lit]; rfl
  unfold txtQ
  split
  · omega
  · rw [cl_app, cl_app, List.length_append, List.length_append]; omega
theorem back_ok {q : Rat} (hn : q.num.natAbs < 10 ^ 60) (hd : q.den < 10 ^ 60) : m_read_fraction (txtQ q) = .ok q := by
  have tl := txt_len hn hd
  rw [read_eq (by omega), rd_good (txt_gd hn hd)]
  have d0 := q.den_pos
  have e1 : valS (decide (q.num < 0)) (numL q.num.natAbs) = q.num := by
    unfold valS
    rw [show digitsVal (numL q.num.natAbs) = q.num.natAbs from TL.numL_val _]
    by_cases c : q.num < 0
    · rw [if_pos (decide_eq_true c)]; omega
    · rw [if_neg (by rw [decide_eq_true_eq]; exact c)]; omega
  have e2 : botS (if q.den = 1 then none else some (numL q.den)) = (q.den : Int) := by
    by_cases c : q.den = 1
    · rw [if_pos c, c]; rfl
    · rw [if_neg c]
      show ((digitsVal (numL q.den) : Nat) : Int) = _
      rw [show digitsVal (numL q.den) = q.den from TL.numL_val _]
  rw [e1, e2, qMk_okB (by omega), Rat.num_divInt_den]
theorem fracs_b {t b : Int} (b0 : 0 < b) : b = (Int.gcd t b : Int) * ((Rat.divInt t b).den : Int) ∧ (Rat.divInt t b).num.natAbs ≤ t.natAbs ∧ ((Rat.divInt t b).den : Int) ≤ b := by
  have g0 : 0 < (Int.gcd t b : Int) := by
    have := Int.gcd_pos_of_ne_zero_right t (show b ≠ 0 by omega)
    omega
  obtain ⟨h1, h2⟩ := div_num (t := t) (b := b) (by omega) (Int.gcd t b : Int) (by rw [if_neg (by omega)])
  rw [Int.fdiv_eq_ediv_of_nonneg _ (Int.le_of_lt g0)] at h1 h2
  have db : (Int.gcd t b : Int) ∣ b := Int.gcd_dvd_right ..
  have dt : (Int.gcd t b : Int) ∣ t := Int.gcd_dvd_left ..
  refine ⟨by rw [← h2]; exact (Int.mul_ediv_cancel' db).symm, ?_, ?_⟩
  · rw [← h1, Int.natAbs_ediv_of_dvd dt]
    exact Nat.div_le_self _ _
  · rw [← h2]
    exact Int.ediv_le_self _ (Int.le_of_lt b0)
theorem text_ok {t b : Int} (b0 : 0 < b) (bB : b < 10 ^ 60) (tB : t.natAbs < 10 ^ 60) : m_law_text t b = .ok (txtQ (Rat.divInt t b)) := by
  obtain ⟨G, eG, f1, f2⟩ := fracs (t := t) b0 bB
  obtain ⟨e, n1, d1⟩ := fracs_b (t := t) b0
  have d0 := (Rat.divInt t b).den_pos
  have hn : (Rat.divInt t b).num.natAbs < 10 ^ 60 := by omega
  have hd : (Rat.divInt t b).den < 10 ^ 60 := by
    have : ((Rat.divInt t b).den : Int) < ((10 ^ 60 : Nat) : Int) := by
      rw [Int.natCast_pow]
      exact Int.lt_of_le_of_lt d1 bB
    omega
  have ln := strI_len (k := 60) (by decide) hn
  have ld := strI_len (i := ((Rat.divInt t b).den : Int)) (k := 60) (by decide) hd
  have lsl : (cl ("/" : Str)).length = 1 := by rw [sl_lit]; rfl
  rw [eG] at e
  unfold m_law_text txtQ
  simp only [Res.okb, Res.bind_assoc, Res.bind_ok]
  rw [div_ok, Res.okb, eG, f1, f2]
  by_cases c : (Rat.divInt t b).den = 1
  · rw [if_pos c, if_pos (decide_eq_true (by rw [c] at e; omega)), Res.okb, strM_ok (small60 hn)]
  · have nb : b ≠ G := fun z => by
      have g0 : G ≠ 0 := by omega
      have : G * 1 = G * ((Rat.divInt t b).den : Int) := by rw [Int.mul_one]; exact z.symm.trans e
      have := Int.eq_of_mul_eq_mul_left g0 this
      omega
    rw [if_neg c, if_neg (by rw [decide_eq_true_eq]; exact nb), Res.okb, strM_ok (small60 hn), Res.okb, add_ok (by omega), Res.okb, Res.okb, strM_ok (small60 (show (((Rat.divInt t b).den : Int)).natAbs < 10 ^ 60 from hd)), Res.okb, add_ok (by rw [cl_app, List.length_append]; omega)]
theorem fold_size {x : Array Nat} : ∀ (k : Nat) (a : Array Nat), ((List.replicate k x).foldl (· ++ ·) a).size = a.size + k * x.size
  | 0, a => by simp
  | k + 1, a => by
    rw [List.replicate_succ, List.foldl_cons, fold_size k, Array.size_append, Nat.succ_mul]
    omega
theorem rep_ok {x : Str} {n : Int} (hx : (cl x).length = 1) (h0 : -1000 ≤ n) (h1 : n ≤ 100) : Ok (repS0 x n) fun y => (cl y).length ≤ 100 := by
  have xs : x.cps.size = 1 := by rw [← hx]; exact Array.length_toList.symm
  unfold repS0
  rw [Res.guard_pos (by omega)]
  by_cases c : n < 1
  · rw [if_pos c]
    exact .ok (by show 0 ≤ 100; decide)
  · rw [if_neg c]
    have lt : (repT x n).length ≤ 100 := by
      unfold repT
      by_cases q : (n == 1 || x.length == 0) = true
      · rw [if_pos q]
        show x.cps.size ≤ 100
        omega
      · rw [if_neg q]
        show ((List.replicate n.toNat x.cps).foldl (· ++ ·) #[]).size ≤ 100
        rw [fold_size, xs]
        show 0 + n.toNat * 1 ≤ 100
        omega
    unfold repS
    rw [Res.guard_pos ⟨by omega, by omega, by show x.cps.size ≤ 1000; omega, by omega⟩]
    exact .ok (by rw [← cl_len]; exact lt)
theorem spans {m : Int} (h0 : 0 ≤ m) (h : m < 8) : ∃ s : Nat, atM [(1 : Int), 2, 3, 59, 60, 61, 62, 5] m = .ok (s : Int) ∧ atM [(10 : Int), 100, 1000, 10 ^ 59, 10 ^ 60, 10 ^ 60 * 10, 10 ^ 60 * 100, 10 ^ 5] m = .ok (10 ^ s) ∧ 0 < s ∧ s ≤ 62 := by
  rcases (show m = 0 ∨ m = 1 ∨ m = 2 ∨ m = 3 ∨ m = 4 ∨ m = 5 ∨ m = 6 ∨ m = 7 by omega) with rfl | rfl | rfl | rfl | rfl | rfl | rfl | rfl
  · exact ⟨1, rfl, rfl, by decide, by decide⟩
  · exact ⟨2, rfl, rfl, by decide, by decide⟩
  · exact ⟨3, rfl, rfl, by decide, by decide⟩
  · exact ⟨59, rfl, rfl, by decide, by decide⟩
  · exact ⟨60, rfl, rfl, by decide, by decide⟩
  · exact ⟨61, rfl, rfl, by decide, by decide⟩
  · exact ⟨62, rfl, rfl, by decide, by decide⟩
  · exact ⟨5, rfl, rfl, by decide, by decide⟩
theorem numeral_ok (c k : Int) : Ok (m_law_numeral c k) fun y => (cl y).length ≤ 200 := by
  have m0 : ∀ x y : Int, 0 < y → 0 ≤ x % y ∧ x % y < y := fun x y a => ⟨Int.emod_nonneg _ (by omega), Int.emod_lt_of_pos _ a⟩
  have pw : ∀ {y : Nat}, y ≤ 60 → powI (10 : Int) (y : Int) = .ok (10 ^ y) := fun {y} h => powI_ok (y := y) (by omega) (by omega)
  have p59 : powI (10 : Int) 59 = .ok (10 ^ 59) := pw (y := 59) (by decide)
  have p60 : powI (10 : Int) 60 = .ok (10 ^ 60) := pw (y := 60) (by decide)
  have p5 : powI (10 : Int) 5 = .ok (10 ^ 5) := pw (y := 5) (by decide)
  have k1 : mulI ((10 : Int) ^ 60) 10 = .ok (10 ^ 60 * 10) := mulI_le (s := 200) (t := 4) (by decide +kernel) (by decide) (by decide)
  have k2 : mulI ((10 : Int) ^ 60) 100 = .ok (10 ^ 60 * 100) := mulI_le (s := 200) (t := 7) (by decide +kernel) (by decide) (by decide)
  obtain ⟨s, e1, e2, s0, s62⟩ := spans (m0 k 8 (by decide)).1 (m0 k 8 (by decide)).2
  unfold m_law_numeral
  simp only [Res.okb, Res.bind_assoc, Res.bind_ok]
  rw [modI_pos (by decide), Res.okb, e1, Res.okb, p59, Res.okb, p60, Res.okb, Res.okb, k1, Res.okb, Res.okb, k2, Res.okb, p5, Res.okb, Res.okb, e2, Res.okb]
  have pos : (0 : Int) < 10 ^ s := Int.pow_pos (by decide)
  obtain ⟨w0, w1⟩ := m0 c (10 ^ s) pos
  obtain ⟨w, hw⟩ := Int.eq_ofNat_of_zero_le w0
  rw [modI_pos pos, Res.okb, hw]
  rw [hw] at w1
  have wN : w < 10 ^ s := by exact_mod_cast w1
  have lw : (cl (strI (w : Int))).length ≤ s := by rw [cl_nat]; exact TL.numL_len s0 wN
  rw [strM_ok (show ((w : Nat) : Int).natAbs < 10 ^ 500 from Nat.lt_of_lt_of_le wN (Nat.pow_le_pow_right (by decide) (by omega))), Res.okb, lenS_ok (by omega)]
  have dv : fdivI k 8 = .ok (k / 8) := fdivI_pos (by decide) (by decide)
  have z0 : (cl ("0" : Str)).length = 1 := by rw [show cl ("0" : Str) = [48] by kernel_rfl]; rfl
  have z7 : (cl ("7" : Str)).length = 1 := by rw [show cl ("7" : Str) = [55] by kernel_rfl]; rfl
  rw [dv, Res.okb, modI_pos (by decide), Res.okb]
  by_cases q : k / 8 % 5 = 1
  · rw [if_pos (decide_eq_true q), Res.okb]
    refine (rep_ok z0 (by omega) (by omega)).bind fun y hy => ?_
    rw [add_ok (by omega)]
    exact .ok (by rw [cl_app, List.length_append]; omega)
  · rw [if_neg (by rw [decide_eq_true_eq]; exact q), Res.okb, modI_pos (by decide), Res.okb]
    by_cases q : k / 8 % 5 = 2
    · rw [if_pos (decide_eq_true q), Res.okb]
      refine (rep_ok z7 (by omega) (by omega)).bind fun y hy => ?_
      rw [add_ok (by omega)]
      exact .ok (by rw [cl_app, List.length_append]; omega)
    · rw [if_neg (by rw [decide_eq_true_eq]; exact q)]
      exact .ok (by omega)
theorem at_ok {x : Str} {i : Int} (h : (cl x).length ≤ 1000) (h0 : 0 ≤ i) (h1 : i < ((cl x).length : Int)) : ∃ c, atS x i = .ok (ch c) := by
  obtain ⟨k, rfl⟩ := Int.eq_ofNat_of_zero_le h0
  exact ⟨_, atS_ok (by omega) (List.getElem?_eq_getElem (by omega))⟩
theorem char_ok {c : Int} : ∃ d, m_law_char c = .ok (ch d) := by
  have m0 : ∀ x y : Int, 0 < y → 0 ≤ x % y ∧ x % y < y := fun x y a => ⟨Int.emod_nonneg _ (by omega), Int.emod_lt_of_pos _ a⟩
  have dv : fdivI c 3 = .ok (c / 3) := fdivI_pos (by decide) (by decide)
  unfold m_law_char
  simp only [Res.okb, Res.bind_assoc, Res.bind_ok]
  generalize hz : (" !\"#$&'()*+,-./0123456789:;<=>?@ABCDEFGHIJKLMNOPQRSTUVWXYZ[\\]^_`abcdefghijklmnopqrstuvwxyz{|}~" : Str) = z
  have lz : (cl z).length = 94 := by rw [← hz]; kernel_rfl
  have l6 : (cl ("0/-19 " : Str)).length = 6 := by kernel_rfl
  rw [modI_pos (by decide), Res.okb, dv, Res.okb, Res.okb, lenS_ok (by omega), Res.okb, lz]
  by_cases q : c % 3 = 0
  · rw [if_pos (decide_eq_true q), modI_pos (by decide), Res.okb]
    exact at_ok (by omega) (m0 (c / 3) 6 (by decide)).1 (by rw [l6]; exact (m0 (c / 3) 6 (by decide)).2)
  · rw [if_neg (by rw [decide_eq_true_eq]; exact q), modI_pos (by decide), Res.okb]
    exact at_ok (by omega) (m0 (c / 3) 94 (by decide)).1 (by rw [lz]; exact (m0 (c / 3) 94 (by decide)).2)
theorem spoiled_ok {x : Str} (c : Int) (hl : (cl x).length ≤ 500) : Ok (m_law_spoiled x c) fun y => (cl y).length ≤ 600 := by
  have m0 : ∀ x y : Int, 0 < y → 0 ≤ x % y ∧ x % y < y := fun x y a => ⟨Int.emod_nonneg _ (by omega), Int.emod_lt_of_pos _ a⟩
  have hl6 : (cl x).length ≤ 1000000 := by omega
  unfold m_law_spoiled
  simp only [Res.okb, Res.bind_assoc, Res.bind_ok]
  rw [show powI (10 : Int) (12 : Int) = .ok (10 ^ 12) from powI_ok (y := 12) (by decide) (by decide), Res.okb, modI_pos (by decide), Res.okb, lenS_ok hl6, Res.okb, modI_pos (by omega), Res.okb]
  generalize c % 10 ^ 12 = n
  obtain ⟨p, hp⟩ := Int.eq_ofNat_of_zero_le (m0 n (((cl x).length : Int) + 1) (by omega)).1
  obtain ⟨d, ed⟩ := char_ok (c := n / 1600)
  rw [hp, show fdivI n 200 = .ok (n / 200) from fdivI_pos (by decide) (by decide), Res.okb, modI_pos (by decide), Res.okb, show fdivI n 1600 = .ok (n / 1600) from fdivI_pos (by decide) (by decide), Res.okb, ed, Res.okb]
  have lt : ∀ j, (cl (mkT ((cl x).take j))).length ≤ 500 := fun j => by show ((cl x).take j).length ≤ 500; rw [List.length_take]; omega
  have ld : ∀ j, (cl (mkT ((cl x).drop j))).length ≤ 500 := fun j => by show ((cl x).drop j).length ≤ 500; rw [List.length_drop]; omega
  have sum : ∀ j i : Nat, j ≤ i → ((cl x).take j).length + ((cl x).drop i).length ≤ 500 := fun j i h => by rw [List.length_take, List.length_drop]; omega
  have lc : (cl (ch d)).length = 1 := rfl
  have s1 := lt p
  have s2 := ld p
  have s3 := ld (p + 1)
  have t1 : (cl (mkT ((cl x).take p))).length + (cl (mkT ((cl x).drop p))).length ≤ 500 := sum p p (Nat.le_refl _)
  have t2 : (cl (mkT ((cl x).take p))).length + (cl (mkT ((cl x).drop (p + 1)))).length ≤ 500 := sum p (p + 1) (by omega)
  have ep : (p : Int) + 1 = ((p + 1 : Nat) : Int) := by omega
  have a1 : (cl (mkT ((cl x).take p) ++ ch d)).length = (cl (mkT ((cl x).take p))).length + 1 := by rw [cl_app, List.length_append, lc]
  rw [slS_to hl6, Res.okb, slS_from hl6, ep, slS_from hl6]
  by_cases q0 : n / 200 % 8 = 0
  · rw [if_pos (decide_eq_true q0), add_ok (by omega), Res.okb, Res.okb, add_ok (by omega)]
    exact .ok (by rw [cl_app, List.length_append, a1]; omega)
  rw [if_neg (by rw [decide_eq_true_eq]; exact q0)]
  by_cases q1 : n / 200 % 8 = 1
  · rw [if_pos (decide_eq_true q1), Res.okb, add_ok (by omega), Res.okb, Res.okb, add_ok (by omega)]
    exact .ok (by rw [cl_app, List.length_append, a1]; omega)
  rw [if_neg (by rw [decide_eq_true_eq]; exact q1)]
  by_cases q2 : n / 200 % 8 = 2
  · rw [if_pos (decide_eq_true q2), Res.okb, Res.okb, add_ok (by omega)]
    exact .ok (by rw [cl_app, List.length_append]; omega)
  rw [if_neg (by rw [decide_eq_true_eq]; exact q2)]
  by_cases q3 : n / 200 % 8 = 3
  · rw [if_pos (decide_eq_true q3)]
    exact .ok (by omega)
  · rw [if_neg (by rw [decide_eq_true_eq]; exact q3)]
    exact .ok (by omega)
theorem law_ok (ns : List Int) (hl : ns.length ≤ 63) : m_law ns = .ok true := by
  have m0 : ∀ x y : Int, 0 < y → 0 ≤ x % y ∧ x % y < y := fun x y a => ⟨Int.emod_nonneg _ (by omega), Int.emod_lt_of_pos _ a⟩
  have p60 : powI (10 : Int) (60 : Int) = .ok (10 ^ 60) := powI_ok (y := 60) (by decide) (by decide)
  refine Ok.eq ?_
  unfold m_law
  simp only [Res.okb, Res.bind_assoc, Res.bind_ok]
  rw [cell_eq ns 0 (by decide), Res.okb, show powI (10 : Int) (9 : Int) = .ok (10 ^ 9) from powI_ok (y := 9) (by decide) (by decide), Res.okb, modI_pos (by decide), Res.okb, cell_eq ns 1 (by decide), Res.okb, p60, Res.okb, modI_pos (by decide), Res.okb, cell_eq ns 2 (by decide), Res.okb, Res.okb, modI_pos (by decide), Res.okb]
  generalize ns.getD (Int.toNat 0) 0 % 10 ^ 9 = ch0
  obtain ⟨t0, t1⟩ := m0 (ns.getD (Int.toNat 1) 0) (10 ^ 60) (by decide)
  obtain ⟨b0, b1⟩ := m0 (ns.getD (Int.toNat 2) 0) (10 ^ 60 - 1) (by decide)
  generalize ns.getD (Int.toNat 1) 0 % 10 ^ 60 = tp at *
  generalize ns.getD (Int.toNat 2) 0 % (10 ^ 60 - 1) = bo at *
  rw [modI_pos (by decide), Res.okb]
  refine Ok.bind (P := fun s : Int × Int => 0 ≤ s.1 ∧ s.1 < 10 ^ 60 ∧ 0 < s.2 ∧ s.2 < 10 ^ 60) ?_ fun s ⟨s0, s1, s2, s3⟩ => ?_
  · by_cases c : ch0 % 2 = 1
    · obtain ⟨a, b⟩ := m0 tp 30 (by decide)
      obtain ⟨a', b'⟩ := m0 (1 + bo) 12 (by decide)
      rw [if_pos (decide_eq_true c), modI_pos (by decide), Res.okb, modI_pos (by decide), Res.okb]
      exact .ok ⟨a, by dsimp only; omega, by dsimp only; omega, by dsimp only; omega⟩
    · rw [if_neg (by rw [decide_eq_true_eq]; exact c)]
      exact .ok ⟨t0, t1, by dsimp only; omega, by dsimp only; omega⟩
  obtain ⟨t, b⟩ := s
  dsimp only at s0 s1 s2 s3 ⊢
  have dv : ∀ y : Int, 0 < y → y < 2 ^ 4000 → fdivI ch0 y = .ok (ch0 / y) := fun y a b => fdivI_pos a b
  rw [dv 2 (by decide) (by decide), Res.okb, modI_pos (by decide), Res.okb]
  have hb : (10 : Int) ^ 60 = ((10 ^ 60 : Nat) : Int) := by rw [Int.natCast_pow]; rfl
  refine Ok.bind (P := fun u : Int => u.natAbs < 10 ^ 60) ?_ fun u hu => ?_
  · by_cases c : ch0 / 2 % 2 = 1
    · rw [if_pos (decide_eq_true c)]
      exact .ok (by omega)
    · rw [if_neg (by rw [decide_eq_true_eq]; exact c)]
      exact .ok (by omega)
  obtain ⟨_, n1, d1⟩ := fracs_b (t := u) s2
  have hn : (Rat.divInt u b).num.natAbs < 10 ^ 60 := by omega
  have hd : (Rat.divInt u b).den < 10 ^ 60 := by omega
  rw [qMk_okB (by omega), Res.okb, str_ok hn hd, Res.okb, text_ok s2 s3 hu, Res.okb, decide_eq_true rfl, if_neg (by decide), back_ok hn hd, Res.okb, decide_eq_true rfl, if_neg (by decide), cell_eq ns 3 (by decide), Res.okb, dv 4 (by decide) (by decide), Res.okb]
  refine (numeral_ok _ _).bind fun x hx => ?_
  have lsl : (cl ("/" : Str)).length = 1 := by rw [sl_lit]; rfl
  have lmi : (cl ("-" : Str)).length = 1 := by rw [show cl ("-" : Str) = [45] by kernel_rfl]; rfl
  rw [dv 160 (by decide) (by decide), Res.okb, modI_pos (by decide), Res.okb]
  refine Ok.bind (P := fun y : Str => (cl y).length ≤ 410) ?_ fun y hy => ?_
  · by_cases c : ch0 / 160 % 3 > 0
    · rw [if_pos (decide_eq_true c), add_ok (by omega), Res.okb, cell_eq ns 4 (by decide), Res.okb, dv 480 (by decide) (by decide), Res.okb]
      refine (numeral_ok _ _).bind fun z hz => ?_
      have : (cl (x ++ ("/" : Str))).length = (cl x).length + 1 := by rw [cl_app, List.length_append, lsl]
      rw [add_ok (by omega)]
      exact .ok (by rw [cl_app, List.length_append]; omega)
    · rw [if_neg (by rw [decide_eq_true_eq]; exact c)]
      exact .ok (by omega)
  rw [dv 19200 (by decide) (by decide), Res.okb, modI_pos (by decide), Res.okb]
  refine Ok.bind (P := fun y : Str => (cl y).length ≤ 420) ?_ fun z hz => ?_
  · by_cases c : ch0 / 19200 % 3 = 1
    · rw [if_pos (decide_eq_true c), add_ok (by omega)]
      exact .ok (by rw [cl_app, List.length_append]; omega)
    · rw [if_neg (by rw [decide_eq_true_eq]; exact c)]
      exact .ok (by omega)
  rw [lawread_ok (by omega), Res.okb, if_pos rfl, cell_eq ns 5 (by decide), Res.okb]
  refine (spoiled_ok _ (by omega)).bind fun w hw => ?_
  rw [lawread_ok hw, Res.okb, if_pos rfl, lawread_ok (show (cl ("" : Str)).length ≤ 600 by rw [show cl ("" : Str) = [] by kernel_rfl]; decide)]
  exact .ok rfl
end L2.Tr

namespace L2.Tr
open PySem PySem.Spec PyProof.Rows He
theorem txt_of {P : Program} {w : World} {K : PySem.W.Frag} {mg : Str → Option Value} {h : Heap} (KX : K.In h) (G : h.Ns mainGlobals mg) (ht : P.given.tree = none) (c : SaysZ fs fnl tbs w K) : Txt P w K mg where
  g_law_cell := glo_of KX G (c.fact 0)
  k_law_cell := (c.fact 1)
  n_int := free_of KX G (c.fact 2)
  g_Fraction := glo_of KX G (c.fact 3)
  mk_Fraction := mkr_of (c.fact 4)
  om_Fraction_str := omet_of (c.fact 5)
  n_str := free_of KX G (c.fact 6)
  g_law_text := glo_of KX G (c.fact 7)
  k_law_text := (c.fact 8)
  g_read_fraction := glo_of KX G (c.fact 9)
  k_read_fraction := (c.fact 10)
  o_Fraction := ocl_of (c.fact 11)
  na_Fraction_top := noat_of (c.fact 12)
  na_Fraction_bottom := noat_of (c.fact 13)
  g_law_numeral := glo_of KX G (c.fact 14)
  k_law_numeral := (c.fact 15)
  g_law_read := glo_of KX G (c.fact 16)
  k_law_read := (c.fact 17)
  g_law_spoiled := glo_of KX G (c.fact 18)
  k_law_spoiled := (c.fact 19)
  n_len := free_of KX G (c.fact 20)
  F_law_cell := c.def_ 0
  n_abs := free_of KX G (c.fact 21)
  F_common_divisor := c.def_ 1
  F_Fraction_str := c.def_ 2
  g_law_divisor := glo_of KX G (c.fact 22)
  k_law_divisor := (c.fact 23)
  F_law_divisor := c.def_ 3
  F_law_text := c.def_ 4
  g_numeral_end := glo_of KX G (c.fact 24)
  k_numeral_end := (c.fact 25)
  gs_DIGITS := str_of KX G (c.fact 26)
  gi_MOST_DIGITS := int_of KX G (c.fact 27)
  F_BadText_init := c.def_ 5
  ev_BadText := excV_of KX G (c.fact 28)
  F_numeral_end := c.def_ 6
  F_read_fraction := c.def_ 7
  F_law_numeral := c.def_ 8
  g_law_column := glo_of KX G (c.fact 29)
  k_law_column := (c.fact 30)
  g_TracerError := glo_of KX G (c.fact 31)
  kt_BadText_TracerError := kit_of' (c.fact 32)
  xc_BadText := excC_of (c.fact 33)
  n_isinstance := free_of KX G (c.fact 34)
  xm_BadText_BadText := exm_of (c.fact 35)
  g_BadText := glo_of KX G (c.fact 36)
  kt_Fraction_Fraction := kit_of' (c.fact 37)
  n_range := free_of KX G (c.fact 38)
  F_law_column := c.def_ 9
  F_law_read := c.def_ 10
  g_law_char := glo_of KX G (c.fact 39)
  k_law_char := (c.fact 40)
  F_law_char := c.def_ 11
  F_law_spoiled := c.def_ 12
  F_law := c.def_ 13
  g_law := glo_of KX G (c.fact 41)
  F_Fraction_init := c.def_ 14
  seer := (c.fact 42)
  ex_BadFraction := exc_of KX G (c.fact 43)
  g_common_divisor := glo_of KX G (c.fact 44)
  k_common_divisor := (c.fact 45)
  tree := ht
theorem all_of {P : Program} {w : World} {K : PySem.W.Frag} {mg : Str → Option Value} {base : Heap} (T : Txt P w K mg) {fd : FuncData} (F : FunD K "law" "law" (defArgs s_law) (defBody s_law) (defScope s_law) [] [] (He.ga K "law") fd) : FnOk P w K mg base (L2N.CX P w) 40 (He.ga K "law") fd ["_law_script"] (spF K (aCons (rdL K (rp rInt)) aNil) (fun d => m_law d.1) (rp rBl)) := by
  have c_law_cell : C_law_cell P w K mg base := fn_law_cell T
  have c_common_divisor : C_common_divisor P w K mg base := FnR.nice (fn_common_divisor T) nice_common_divisor
  have c_Fraction_2 : C_Fraction_2 P w K mg base := fn_Fraction_2 T c_common_divisor
  have c_Fraction_str : C_Fraction_str P w K mg base := fn_Fraction_str T
  have c_law_divisor : C_law_divisor P w K mg base := fn_law_divisor T
  have c_law_text : C_law_text P w K mg base := fn_law_text T c_law_divisor
  have c_err_BadText : C_err_BadText P w K mg base := fn_err_BadText T
  have c_numeral_end_2_positive : C_numeral_end_2_positive P w K mg base := fn_numeral_end_2_positive T c_err_BadText
  have c_read_fraction : C_read_fraction P w K mg base := fn_read_fraction T c_numeral_end_2_positive c_err_BadText c_Fraction_2
  have c_law_numeral : C_law_numeral P w K mg base := fn_law_numeral T
  have c_law_column : C_law_column P w K mg base := fn_law_column T
  have c_read_fraction_0_text : C_read_fraction_0_text P w K mg base := fn_read_fraction_0_text T c_numeral_end_2_positive c_err_BadText c_Fraction_2
  have c_law_read : C_law_read P w K mg base := fn_law_read T c_law_column c_read_fraction_0_text c_law_divisor
  have c_law_char : C_law_char P w K mg base := fn_law_char T
  have c_law_spoiled : C_law_spoiled P w K mg base := fn_law_spoiled T c_law_char
  exact fn_law T c_law_cell c_Fraction_2 c_Fraction_str c_law_text c_read_fraction c_law_numeral c_law_read c_law_spoiled F
theorem law_end {P : Program} {w : World} {K : PySem.W.Frag} {mg : Str → Option Value} {h : Heap} {fa : Addr} (KX : K.In h) (hmg : mg ("law" : Str) = some (.ref fa)) (T : Txt P w K mg) :
    ∃ (K : PySem.W.Frag) (fd : FuncData) (sp : Sp), K.In h ∧ (∀ (s : Shared) (u : Value), BindsTo s fd ⟨[u], []⟩ [(("_law_script" : Str), u)]) ∧
        (∀ (H : Hp) (a : Addr) (ns : List Int), ns.length ≤ 63 → Only H → SqL K H a (ns.map V.int) → sp [.ref a] H (fun v _ => v = .bl true) fun _ _ _ => False) ∧
        ∀ base : Heap, K.In base → base.Ns mainGlobals mg → FnOk P w K mg base CX0 40 fa fd ["_law_script"] sp := by
  obtain ⟨fd, F⟩ := T.F_law
  have e := hmg.symm.trans T.g_law
  cases e
  have b := FunD.bindsA (ps := ["_law_script"]) F fun _ _ _ _ _ _ us hl => match us, hl with | [_], _ => rfl
  refine ⟨K, fd, (fun vs H Q _ => spF K (aCons (rdL K (rp rInt)) aNil) (fun d => m_law d.1) (rp rBl) vs H Q fun _ _ _ => False), KX, fun s u => b s [u] rfl, fun H a ns hl _ hS => ⟨fun _ => none, (ns, ()), (fun b o e => nomatch e), ⟨.ref a, [], rfl, ⟨a, ns.map V.int, rfl, hS, paired_ints _ _ ns⟩, rfl⟩, ?_⟩, fun base _ _ => FnOk.no (all_of T F)⟩
  show PostE K (m_law ns) _ _ _ _ _
  rw [law_ok ns hl]
  exact fun I' H' v _ r => r
end L2.Tr
open PySem PySem.W PySem.Calls PyProof.Rows
set_option maxHeartbeats 0 in
theorem PySem.Challenge.cw_tracerline_k04_fraction_texts_holds : PySem.Challenge.rw_tracerline_k04_fraction_texts.Holds := by
  w_on; o_law
  refine HandSHeadRun.head_any (r := OpenLaw.row PySem.Challenge.rw_tracerline_k04_fraction_texts) (q := view (OpenLaw.row PySem.Challenge.rw_tracerline_k04_fraction_texts).prog [21]) (H := L2.Tr.hk) (ob := L2.Tr.ob) (M := 20000) (loose := L2.Tr.names) (d := HandSHeadRun.topDef (OpenLaw.row PySem.Challenge.rw_tracerline_k04_fraction_texts).prog 21) (kwd := []) L2.Tr.ob_eq
    (by kernel_rfl) (fun s => by kernel_rfl) L2.Tr.run (by kernel_rfl) (by kernel_rfl) (by kernel_rfl) (by rfl) (by first | assumption | decide +kernel) (by decide +kernel) ⟨rfl, rfl, rfl, rfl, rfl, by decide +kernel⟩ ?hw ?hc
  case hw => w_witness2
  case hc =>
    refine L2.walk_ofE (l := PySem.Challenge.rw_tracerline_k04_fraction_texts) (n := 63) (k := 40) (x := "_law_script") (CX := L2.CX0) rfl (by decide) (by kernel_rfl) ⟨rfl, by decide, by decide⟩ ?F (fun _ _ _ _ z => z)
    intro w mg fa h Y G hmg0
    obtain ⟨K, KX, c⟩ := Y
    have hmg : mg ("law" : PySem.Str) = some (.ref fa) := by
      have e : (HandSHeadRun.topDef (OpenLaw.row PySem.Challenge.rw_tracerline_k04_fraction_texts).prog 21).name = ("law" : PySem.Str) := by kernel_rfl
      rw [← e]
      exact hmg0
    have T := L2.Tr.txt_of (P := (PySem.Challenge.rw_tracerline_k04_fraction_texts).prog) KX G (by kernel_rfl) c
    exact L2.Tr.law_end (P := (PySem.Challenge.rw_tracerline_k04_fraction_texts).prog) (w := w) KX hmg T

