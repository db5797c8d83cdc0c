import PyProof.Rows.All
import Wide.All
import OpenK.AllK
import Wide.FinOn
import HandS.ForMost
import HandS.ForExc
import HandS.More
import HandS.Wide
import HandS.Flow
import HandS.Defaults
import HandS.MakeKw
import HandS.CallSlots
import HandS.IsInst
import HandS.ExcIs
import HandS.OwnEq
import HandS.HeadHook1
import KE.KStateDown
import HandS.Head0
import HandS.Head1
import HandS.Head2
import HandS.HeadEnd
import HandS.HeadHook2
import HandS.MakeKwOnly
import OpenK.KOps
import PySem.Challenge.RW_tracerline_k02_arithmetic
set_option Elab.async false
set_option linter.all false
set_option maxRecDepth 100000
set_option maxHeartbeats 0
set_option exponentiation.threshold 100000
namespace L2.Tr
open PySem PySem.Spec PyProof.Rows

/-! ### wishes: what must hold ahead of a piece of code -/
def wE (X : Cx) (e : Expr) : TE := fun σ H Q => ∀ (pins : List (Addr × Obj)) (s : Shared), Inv X pins σ H s → wpAny (model X.prog X.w) X.A (eval e X.env) (EP X pins σ Q) X.xe s
def wT (X : Cx) (e : Expr) : TT := fun σ H Q => ∀ (pins : List (Addr × Obj)) (s : Shared), Inv X pins σ H s → wpAny (model X.prog X.w) X.A (isTrue e X.env (eval e X.env)) (TP X pins σ Q) X.xe s
def wW (X : Cx) (e : Expr) : TT := fun σ H Q => ∀ (whole : Sem Value) (pins : List (Addr × Obj)) (s : Shared), Inv X pins σ H s → wpAny (model X.prog X.w) X.A (isTrue e X.env whole) (TP X pins σ Q) X.xe s
def wA (X : Cx) (es : List Expr) : TA := fun σ H Q => ∀ (pos : Pos) (pins : List (Addr × Obj)) (s : Shared), Inv X pins σ H s → wpAny (model X.prog X.w) X.A (spliced (backTo pos (starEach es X.env))) (AP X pins σ Q) X.xe s
def wS (X : Cx) (st : Stmt) : TS := fun D σ H => ∀ (pins : List (Addr × Obj)) (s : Shared), Inv X pins σ H s → wpAny (model X.prog X.w) X.A (exec st X.env) (SP X pins D) X.xe s
def wB (X : Cx) (st : List Stmt) : TS := fun D σ H => ∀ (pins : List (Addr × Obj)) (s : Shared), Inv X pins σ H s → wpAny (model X.prog X.w) X.A (execs st X.env) (SP X pins D) X.xe s
def opW (X : Cx) (f : Value → Value → Sem Value) (σ : St) (x y : V) (H : Hp) (Q : VK) : Prop := ∀ (pins : List (Addr × Obj)) (s : Shared) (v u : Value), Inv X pins σ H s → RelV x v → RelV y u → wpAny (model X.prog X.w) X.A (f v u) (EP X pins σ Q) X.xe s
def unW (X : Cx) (f : Value → Sem Value) (σ : St) (x : V) (H : Hp) (Q : VK) : Prop := ∀ (pins : List (Addr × Obj)) (s : Shared) (v : Value), Inv X pins σ H s → RelV x v → wpAny (model X.prog X.w) X.A (f v) (EP X pins σ Q) X.xe s
def callW (X : Cx) (f : Value) (σ : St) (xs : List V) (H : Hp) (Q : VK) : Prop := ∀ (pins : List (Addr × Obj)) (s : Shared) (us : List Value), Inv X pins σ H s → Vals xs us → wpAny (model X.prog X.w) X.A (call f us) (EP X pins σ Q) X.xe s
def truW (X : Cx) (σ : St) (x : V) (H : Hp) (Q : Bool → Hp → Prop) : Prop := ∀ (pins : List (Addr × Obj)) (s : Shared) (v : Value), Inv X pins σ H s → RelV x v → wpAny (model X.prog X.w) X.A (truthy v) (TP X pins σ Q) X.xe s

section
variable {X : Cx} {e a b c o : Expr} {es : List Expr} {st : Stmt} {ss : List Stmt} {σ : St} {H : Hp} {Q : VK} {D : Ends} {x y v : V} {pos pos' : Pos} {n : Str}
theorem pe_W : PE X e (wE X e) := ⟨fun pins s _ _ _ I h => h pins s I⟩
theorem pt_W : PT X e (wT X e) := ⟨fun pins s _ _ _ I h => h pins s I⟩
theorem pw_W : PW X e (wW X e) := ⟨fun wh pins s _ _ _ I h => h wh pins s I⟩
theorem pa_W : PA X es (wA X es) := ⟨fun pos pins s _ _ _ I h => h pos pins s I⟩
theorem ps_W : PS X st (wS X st) := ⟨fun pins s _ _ _ I h => h pins s I⟩
theorem pss_W : PSs X ss (wB X ss) := ⟨fun pins s _ _ _ I h => h pins s I⟩
theorem PE.w {t : TE} (p : PE X e t) (h : t σ H Q) : wE X e σ H Q := fun pins s I => p.run pins s σ H Q I h
theorem PT.w {t : TT} {Q : Bool → Hp → Prop} (p : PT X e t) (h : t σ H Q) : wT X e σ H Q := fun pins s I => p.run pins s σ H Q I h
theorem PW.w {t : TT} {Q : Bool → Hp → Prop} (p : PW X e t) (h : t σ H Q) : wW X e σ H Q := fun wh pins s I => p.run wh pins s σ H Q I h
theorem PA.w {t : TA} {Q : List V → Hp → Prop} (p : PA X es t) (h : t σ H Q) : wA X es σ H Q := fun pos pins s I => p.run pos pins s σ H Q I h
theorem PS.w {t : TS} (p : PS X st t) (h : t D σ H) : wS X st D σ H := fun pins s I => p.run pins s σ H D I h
theorem PSs.w {t : TS} (p : PSs X ss t) (h : t D σ H) : wB X ss D σ H := fun pins s I => p.run pins s σ H D I h
theorem OpR.w {f : Value → Value → Sem Value} {r : R2} (o : OpR X f r) (h : r x y H Q) : opW X f σ x y H Q := fun pins s v u I rx ry => o pins s σ H x y v u Q I rx ry h
theorem UnR.w {f : Value → Sem Value} {r : V → Hp → VK → Prop} (o : UnR X f r) (h : r x H Q) : unW X f σ x H Q := fun pins s v I rx => o pins s σ H x v Q I rx h
theorem CallR.w {f : Value} {r : List V → Hp → VK → Prop} {xs : List V} (o : CallR X f r) (h : r xs H Q) : callW X f σ xs H Q := fun pins s us I rx => o pins s σ H xs us Q I rx h
theorem TruR.w {r : V → Hp → (Bool → Hp → Prop) → Prop} {Q : Bool → Hp → Prop} (o : TruR X r) (h : r x H Q) : truW X σ x H Q := fun pins s v I rx => o pins s σ H x v Q I rx h

/-! ### expressions -/
theorem w_var (i : Nat) (h : Q v H) (hs : σ[i]? = some (some v) := by rfl) (hN : X.N[i]? = some n := by rfl) (hv : Vis X.env.scope n := by first | exact Or.inl rfl | exact Or.inr (Or.inl rfl) | exact Or.inr (Or.inr rfl)) (hd : (n == ("__debug__" : Str)) = false := by decide)
    (hcd : (n == ("__classdict__" : Str)) = false := by decide) : wE X (.Name n pos) σ H Q := PE.w (pe_var hN hv hd hcd) ⟨v, hs, h⟩
theorem w_int {i : Int} {j} (h : Q (.int i) H) : wE X (.Constant (.int i) j pos) σ H Q := PE.w pe_int h
theorem w_bl {i : Bool} {j} (h : Q (.bl i) H) : wE X (.Constant (.bool i) j pos) σ H Q := PE.w pe_bl h
theorem w_str {i : Str} {j} (h : Q (.str i) H) : wE X (.Constant (.str i) j pos) σ H Q := PE.w pe_str h
theorem w_non {j} (h : Q .non H) : wE X (.Constant .none j pos) σ H Q := PE.w pe_non h
theorem w_bin {op : Operator} (h : wE X a σ H fun x H1 => wE X b σ H1 fun y H2 => opW X (binaryOp op) σ x y H2 Q) : wE X (.BinOp a op b pos) σ H Q := fun pins s I =>
  wpAny_BinOp (thn (h pins s I) fun v s1 ⟨x, H1, I1, r1, q1⟩ => thn (q1 pins s1 I1) fun u s2 ⟨y, H2, I2, r2, q2⟩ => q2 pins s2 v u I2 r1 r2)
theorem w_un {op : UnaryOp} (h : wE X a σ H fun x H1 => unW X (unaryOp op) σ x H1 Q) : wE X (.UnaryOp op a pos) σ H Q := fun pins s I =>
  UnaryOp_ (thn (h pins s I) fun v s1 ⟨x, H1, I1, r1, q1⟩ => q1 pins s1 v I1 r1)
theorem w_cmp {op : CmpOp} (h : wE X a σ H fun x H1 => wE X b σ H1 fun y H2 => opW X (compareOp op) σ x y H2 Q) (hm : behindInMarks op b = false := by first | exact nomark _ | rfl) : wE X (.Compare a [op] [b] pos) σ H Q := fun pins s I =>
  wpAny_Compare1 (thn (h pins s I) fun v s1 ⟨x, H1, I1, r1, q1⟩ => thn (q1 pins s1 I1) fun u s2 ⟨y, H2, I2, r2, q2⟩ => q2 pins s2 v u I2 r1 r2) hm
/-- a test that is a comparison -/
theorem w_tcmp {op : CmpOp} {Q : Bool → Hp → Prop} (h : wE X a σ H fun x H1 => wE X b σ H1 fun y H2 => opW X (compareOp op) σ x y H2 fun z H3 => truW X σ z H3 Q) (hm : behindInMarks op b = false := by first | exact nomark _ | rfl) : wT X (.Compare a [op] [b] pos) σ H Q := fun pins s I =>
  wpAny_isTrue_Compare1 (thn (h pins s I) fun v s1 ⟨x, H1, I1, r1, q1⟩ => thn (q1 pins s1 I1) fun u s2 ⟨y, H2, I2, r2, q2⟩ => thn (q2 pins s2 v u I2 r1 r2) fun c s3 ⟨z, H3, I3, r3, q3⟩ => q3 pins s3 c I3 r3) hm
/-- a test of a plain form -/
theorem w_t {Q : Bool → Hp → Prop} (h : wE X e σ H fun x H1 => truW X σ x H1 Q) (he : ∀ whole, isTrue e X.env whole = (do let v ← whole; standAt e.pos; holding [v] (truthy v)) := by intro _; rfl) : wT X e σ H Q := fun pins s I =>
  isTrue_plain (thn (h pins s I) fun v s1 ⟨x, H1, I1, r1, q1⟩ => q1 pins s1 v I1 r1) (he _)
theorem tru_bl {k : Bool} {Q : Bool → Hp → Prop} (h : Q k H) : truW X σ (.bl k) H Q := fun pins s v I r => by
  cases (show v = Value.bool k from r)
  exact wpAny_truthy_bool ⟨H, I, h⟩
theorem tru_int {i : Int} {Q : Bool → Hp → Prop} (h : Q (i != 0) H) : truW X σ (.int i) H Q := TruR.w tru_ok ⟨_, rfl, h⟩
theorem w_not {Q : Bool → Hp → Prop} (h : wT X a σ H fun k H1 => Q (!k) H1) : wT X (.UnaryOp .Not a pos) σ H Q := PT.w (pt_not pt_W) h
/-- not as a value -/
theorem w_notV (h : wE X a σ H fun x H1 => ∃ k, x = .bl k ∧ Q (.bl (!k)) H1) : wE X (.UnaryOp .Not a pos) σ H Q := PE.w (pe_not pe_W) h
/-! ### and, or as tests -/
theorem w_tbool {Q : Bool → Hp → Prop} {op} (h : wW X (.BoolOp op es pos) σ H Q) : wT X (.BoolOp op es pos) σ H Q := fun pins s I => h _ pins s I
theorem w_and1 {Q : Bool → Hp → Prop} (h : wT X a σ H Q) : wW X (.BoolOp .And [a] pos) σ H Q := PW.w (pw_and1 pt_W) h
theorem w_or1 {Q : Bool → Hp → Prop} (h : wT X a σ H Q) : wW X (.BoolOp .Or [a] pos) σ H Q := PW.w (pw_or1 pt_W) h
theorem w_and {bs : List Expr} {Q : Bool → Hp → Prop} (h : wT X a σ H fun k H1 => if k = true then wW X (.BoolOp .And (b :: bs) pos) σ H1 Q else Q false H1) : wW X (.BoolOp .And (a :: b :: bs) pos) σ H Q := PW.w (pw_and pt_W pw_W) h
theorem w_or {bs : List Expr} {Q : Bool → Hp → Prop} (h : wT X a σ H fun k H1 => if k = true then Q true H1 else wW X (.BoolOp .Or (b :: bs) pos) σ H1 Q) : wW X (.BoolOp .Or (a :: b :: bs) pos) σ H Q := PW.w (pw_or pt_W pw_W) h
/-! ### and, or as values (bools) -/
theorem w_oneV {op} (h : wE X a σ H Q) : wE X (.BoolOp op [a] pos) σ H Q := PE.w (pe_one pe_W) h
theorem w_andV {bs : List Expr} (h : wE X a σ H fun x H1 => ∃ k, x = .bl k ∧ if k = true then wE X (.BoolOp .And (b :: bs) pos) σ H1 Q else Q (.bl false) H1) : wE X (.BoolOp .And (a :: b :: bs) pos) σ H Q := PE.w (pe_and pe_W pe_W) h
theorem w_orV {bs : List Expr} (h : wE X a σ H fun x H1 => ∃ k, x = .bl k ∧ if k = true then Q (.bl true) H1 else wE X (.BoolOp .Or (b :: bs) pos) σ H1 Q) : wE X (.BoolOp .Or (a :: b :: bs) pos) σ H Q := PE.w (pe_or pe_W pe_W) h
theorem w_ifx (h : wT X c σ H fun k H1 => if k = true then wE X a σ H1 Q else wE X b σ H1 Q) : wE X (.IfExp c a b pos) σ H Q := PE.w (pe_ifExp pt_W pe_W pe_W) h

/-! ### arguments, displays, calls -/
theorem w_nil {Q : List V → Hp → Prop} (h : Q [] H) : wA X [] σ H Q := PA.w pa_nil h
theorem w_cons {Q : List V → Hp → Prop} (h : wE X e σ H fun x H1 => wA X es σ H1 fun xs H2 => Q (x :: xs) H2) (hs : starEach (e :: es) X.env = (false, eval e X.env) :: starEach es X.env := by rfl) : wA X (e :: es) σ H Q := PA.w (pa_cons pe_W pa_W hs) h
theorem w_lst (h : wA X es σ H fun xs H1 => xs.length ≤ sizeLine ∧ ∀ p, H1 p = none → Q (.ref p) (upd H1 p (.lst xs))) : wE X (.List es pos) σ H Q := PE.w (pe_lst pa_W) h
theorem w_tup {x1} (h : wA X es σ H fun xs H1 => xs.length ≤ sizeLine ∧ ∀ p, H1 p = none → Q (.ref p) (upd H1 p (.tup xs))) : wE X (.Tuple es x1 pos) σ H Q := PE.w (pe_tup pa_W) h
theorem w_callB {id : String} (h : wA X (e :: es) σ H fun vs H1 => callW X (.builtin id) σ vs H1 Q) (hm : X.mg n = none) (hv : bootBuiltins n = some (.builtin id)) (hg : Gl X n := by rfl) (hn : n ≠ "__name__" := by decide) (hdb : (n == ("__debug__" : Str)) = false := by decide)
    (he : starEach (e :: es) X.env = (false, eval e X.env) :: starEach es X.env := by rfl) (hpl : (backTo pos (starEach es X.env)).any (·.1) = false := by rfl) : wE X (.Call (.Name n pos') (e :: es) [] pos) σ H Q := fun pins s I =>
  wpAny_Call_Name_kw (ld_blt I hg hm hv (PyProof.Rows.callWith_builtin1 (thn (h pos pins s I) fun us s1 ⟨vs, H1, I1, r1, q1⟩ => q1 pins s1 us I1 r1) he hpl) hn hdb)
theorem w_callTy {T : String} (h : wA X (e :: es) σ H fun vs H1 => callW X (.type T) σ vs H1 Q) (hm : X.mg n = none) (hv : bootBuiltins n = some (.type T)) (hg : Gl X n := by rfl) (hn : n ≠ "__name__" := by decide) (hdb : (n == ("__debug__" : Str)) = false := by decide)
    (he : starEach (e :: es) X.env = (false, eval e X.env) :: starEach es X.env := by rfl) (hpl : (backTo pos (starEach es X.env)).any (·.1) = false := by rfl) : wE X (.Call (.Name n pos') (e :: es) [] pos) σ H Q := fun pins s I =>
  wpAny_Call_Name_kw (ld_blt I hg hm hv (PyProof.Rows.callWith_type1 (thn (h pos pins s I) fun us s1 ⟨vs, H1, I1, r1, q1⟩ => q1 pins s1 us I1 r1) he hpl) hn hdb)
theorem w_bltn {u : Value} (h : Q v H) (hm : X.mg n = none) (hv : bootBuiltins n = some u) (r : RelV v u) (hg : Gl X n := by rfl) (hn : n ≠ "__name__" := by decide) (hd : (n == ("__debug__" : Str)) = false := by decide) : wE X (.Name n pos) σ H Q := PE.w (pe_bltn hg hm hv r hn hd) h
theorem w_glob {u : Value} (h : Q v H) (hm : X.mg n = some u) (r : RelV v u) (hg : Gl X n := by rfl) (hd : (n == ("__debug__" : Str)) = false := by decide) : wE X (.Name n pos) σ H Q := PE.w (pe_glob hg hm r hd) h

/-- the callee runs (a def, a class, a method with its self), the wish at these slots -/
theorem run_W {k : Nat} {f : Addr} {sp : Sp} {W : WX} {vs : List V} (F : FnR X.prog X.w X.K X.mg X.base (L2.CX X.prog X.w) k f sp) (hr : Room k X.A) (tk : Takes X W) (h : sp vs H Q fun cls d H' => W cls d σ H') : callW X (.ref f) σ vs H Q := fun pins s us I r => by
  refine wpAny_call (codeAny_mono (F X.A X.stack s H us vs Q _ hr I.env0 r h) fun r s' hq => ?_)
  cases r with
  | error e => exact passAt tk σ pins H s e s' I hq
  | ok fl =>
    cases fl with
    | ret u => exact I.after hq
    | next => exact False.elim hq
    | brk => exact False.elim hq
    | cont => exact False.elim hq
/-- f(e, ..), C(e, ..) by a global name -/
theorem w_call {f : Addr} (h : wA X (e :: es) σ H fun vs H1 => callW X (.ref f) σ vs H1 Q) (hm : X.mg n = some (.ref f)) (hk : PySem.W.keepIn X.K (.ref f) = true) (hg : Gl X n := by rfl) (hdb : (n == ("__debug__" : Str)) = false := by decide)
    (he : starEach (e :: es) X.env = (false, eval e X.env) :: starEach es X.env := by rfl) (hpl : (backTo pos (starEach es X.env)).any (·.1) = false := by rfl) : wE X (.Call (.Name n pos') (e :: es) [] pos) σ H Q := fun pins s I =>
  wpAny_Call_Name_kw (ld_glob I hg hm (PySem.W.callWith_K (h₀ := X.base) I.ok.mod.kin hk (thn (h pos pins s I) fun us s1 ⟨vs, H1, I1, r, q⟩ => ⟨I1.kIn, q pins s1 us I1 r⟩) he hpl) hdb)
theorem w_call0 {f : Addr} (h : callW X (.ref f) σ [] H Q) (hm : X.mg n = some (.ref f)) (hk : PySem.W.keepIn X.K (.ref f) = true) (hg : Gl X n := by rfl) (hdb : (n == ("__debug__" : Str)) = false := by decide) : wE X (.Call (.Name n pos') [] [] pos) σ H Q := fun pins s I =>
  wpAny_Call_Name_kw (ld_glob I hg hm (PySem.W.callWith_K0 I.kIn hk (h pins s [] I .nil)) hdb)
/-- o.m(e, ..) -/
theorem w_meth {pl : Sem Bool} {m : Str} {C f : Addr} {apos : Pos} (h : wE X o σ H fun x H1 => ∃ a dx fs, x = .ref a ∧ H1 a = some (.ins C dx fs) ∧ fs.lookup m = none ∧ wA X (e :: es) σ H1 fun vs H2 => callW X (.ref f) σ (x :: vs) H2 Q) (c : Cls X.K C) (hm : Meth X.K C m f)
    (hst : starEach (e :: es) X.env = (false, eval e X.env) :: starEach es X.env := by rfl) (hpl : (backTo pos (starEach es X.env)).any (·.1) = false := by rfl)
    (ht : eval (.Call (.Attribute o m apos) (e :: es) [] pos) X.env = (do
      let ov ← eval o X.env
      standAt apos.atName
      let (f, first) ← holding [ov] (getMethod ov m pl)
      callWith pos f first (backTo pos (starEach (e :: es) X.env)) (backToKw pos (keywordEach [] X.env))) := by rfl) : wE X (.Call (.Attribute o m apos) (e :: es) [] pos) σ H Q := fun pins s I => by
  refine PySem.W.methodCall_KW (pl := pl) (thn (h pins s I) fun u s1 ⟨x, H1, I1, rx, a, dx, fs, ex, ea, l, q⟩ => ?_) ht
  subst ex
  obtain rfl : u = Value.ref a := rx
  refine getmeth_ok I1 ea c hm l ?_
  exact PySem.W.callWith_K (first := [.ref a]) (h₀ := X.base) I.ok.mod.kin hm.kp (thn (q pos pins s1 I1) fun us s2 ⟨vs, H2, I2, r, q2⟩ => ⟨I2.kIn, q2 pins s2 (.ref a :: us) I2 (.cons rfl r)⟩) hst hpl
theorem w_meth0 {pl : Sem Bool} {m : Str} {C f : Addr} {apos : Pos} (h : wE X o σ H fun x H1 => ∃ a dx fs, x = .ref a ∧ H1 a = some (.ins C dx fs) ∧ fs.lookup m = none ∧ callW X (.ref f) σ [x] H1 Q) (c : Cls X.K C) (hm : Meth X.K C m f)
    (ht : eval (.Call (.Attribute o m apos) [] [] pos) X.env = (do
      let ov ← eval o X.env
      standAt apos.atName
      let (f, first) ← holding [ov] (getMethod ov m pl)
      callWith pos f first (backTo pos (starEach [] X.env)) (backToKw pos (keywordEach [] X.env))) := by rfl) : wE X (.Call (.Attribute o m apos) [] [] pos) σ H Q := fun pins s I => by
  refine PySem.W.methodCall_KW (pl := pl) (thn (h pins s I) fun u s1 ⟨x, H1, I1, rx, a, dx, fs, ex, ea, l, q⟩ => ?_) ht
  subst ex
  obtain rfl : u = Value.ref a := rx
  refine getmeth_ok I1 ea c hm l ?_
  exact PySem.W.callWith_K0 (first := [.ref a]) I1.kIn hm.kp (q pins s1 [.ref a] I1 (.cons rfl .nil))
/-- o.f -/
theorem w_fld {f : Str} (h : wE X o σ H fun x H1 => ∃ a C dx fs v, x = .ref a ∧ H1 a = some (.ins C dx fs) ∧ Cls X.K C ∧ NoAttr X.K C f ∧ fs.lookup f = some v ∧ Q v H1) (hb : attributeBase o f X.env (eval o X.env) = eval o X.env := by rfl) : wE X (.Attribute o f pos) σ H Q := PE.w (pe_fld pe_W hb) h

/-! ### statements -/
theorem b_nil (h : D.nx σ H) : wB X [] D σ H := PSs.w pss_nil h
theorem b_cons (h : wS X st { D with nx := fun σ' H' => wB X ss D σ' H' } σ H) : wB X (st :: ss) D σ H := PSs.w (pss_cons ps_W pss_W) h
theorem s_ret (h : wE X e σ H D.rt) : wS X (.Return (some e) pos) D σ H := PS.w (ps_ret pe_W) h
theorem s_retN (h : D.rt .non H) : wS X (.Return none pos) D σ H := PS.w ps_retN h
theorem s_expr (h : wE X e σ H fun _ H1 => D.nx σ H1) (hs : swapsWith e none pos.line X.env = pure false := by rfl) : wS X (.Expr e pos) D σ H := PS.w (ps_expr pe_W hs) h
theorem s_if {s1 s2 : List Stmt} (h : wT X c σ H fun k H1 => if k = true then wB X s1 D σ H1 else wB X s2 D σ H1) : wS X (.If c s1 s2 pos) D σ H := PS.w (ps_if pt_W pss_W pss_W) h
theorem s_pass (h : D.nx σ H) : wS X (.Pass pos) D σ H := PS.w ps_pass h
theorem s_set (i : Nat) (h : wE X e σ H fun x H1 => D.nx (σ.set i (some x)) H1) (hN : X.N.Nodup) (hi : X.N[i]? = some n := by rfl) (hx : Loc X.env.scope n := by first | exact Or.inl rfl | exact Or.inr rfl) (hs : swapsWith e (some (.Name n pos')) pos.line X.env = pure false := by rfl) (hf : X.fn n = true ∨ X.env.scope.names.lookup n = some .local := by first | exact .inl rfl | exact .inr rfl | assumption) :
    wS X (.Assign [.Name n pos'] e pos) D σ H := PS.w (ps_set hN hi hx pe_W hs hf) h
/-- o.f = e -/
theorem s_fld {f : Str} (h : wE X e σ H fun y H1 => wE X o σ H1 fun x H2 => ∃ a C dx fs, x = .ref a ∧ H2 a = some (.ins C dx fs) ∧ Cls X.K C ∧ NoAttr X.K C f ∧ fs.length < 1000 ∧ D.nx σ (upd H2 a (.ins C dx (putF f y fs))))
    (hs : swapsWith e (some (.Attribute o f pos')) pos.line X.env = pure false := by rfl) : wS X (.Assign [.Attribute o f pos'] e pos) D σ H := PS.w (ps_fld pe_W pe_W hs) h
theorem s_raise {W : WX} {t : L2.St → Hp → XK → Prop} (hc : X.calm = true) (tk : Takes X W) (he : PMk X e t) (h : t σ H fun cls d H' => W cls d σ H') : wS X (.Raise (some e) none pos) D σ H := PS.w (ps_raise hc tk he) h
theorem b_mono {D' : Ends} (h : wB X ss D σ H) (h1 : ∀ σ' H', D.nx σ' H' → D'.nx σ' H') (h2 : ∀ v H', D.rt v H' → D'.rt v H') (h3 : ∀ σ' H', D.bk σ' H' → D'.bk σ' H') (h4 : ∀ σ' H', D.ct σ' H' → D'.ct σ' H') : wB X ss D' σ H := fun pins s I =>
  thn (h pins s I) fun f s' q => by
    cases f with
    | next => obtain ⟨a, b, c, d⟩ := q; exact ⟨a, b, c, h1 _ _ d⟩
    | brk => obtain ⟨a, b, c, d⟩ := q; exact ⟨a, b, c, h3 _ _ d⟩
    | cont => obtain ⟨a, b, c, d⟩ := q; exact ⟨a, b, c, h4 _ _ d⟩
    | ret u => obtain ⟨v, a, b, c, r, d⟩ := q; exact ⟨v, a, b, c, r, h2 _ _ d⟩
theorem e_mono {Q' : VK} (h : wE X e σ H Q) (h1 : ∀ v H', Q v H' → Q' v H') : wE X e σ H Q' := fun pins s I => thn (h pins s I) fun u s' ⟨v, H', I', r, q⟩ => ⟨v, H', I', r, h1 _ _ q⟩
end
end L2.Tr

/-! operators of own classes -/
namespace PySem.W
open PySem PySem.Calls PyProof.Rows
section
variable {prog : Program} {w : World} {A : Around} {E : Value → Shared → Prop} {s : Shared} {K : Frag} {x C dx L f : Addr} {h₀ : Heap} {m : Str → Option Value} {ox : Obj} {od : Option Obj} {nm : String}
/-- int's own slot declines an instance -/
theorem tr_decl {name : Str} {sl id : String} {g : Int → Int → Sem Fin} {i : Int} {t : Tok} {Q : Value → Shared → Prop} (slot : Slot "int" name id) (entry : entryFor table id = some (Builtin.Int.intBinary sl g)) (args : ∀ a b, argsOk id ⟨[a, b], []⟩)
    (I : s.heap.get? x = some (instObj C dx)) (h : Q .notImplemented s) : wpAny (model prog w) A (call (.builtin id) [.int i t, .ref x]) Q E s := by
  refine GQ.call_here slot (typeIs_int s i t) entry (args _ _) ?_
  unfold Builtin.Int.intBinary slotArgs Builtin.Int.intOfSelf
  simp only [List.isEmpty_nil, Bool.not_true, Bool.false_eq_true, if_false, List.length_cons, List.length_nil, bne_self_eq_false, pure_bind, asInt?, List.headD_cons]
  refine wpAny_bind (wpAny_bind (wpAny_load I (wpAny_pure ?_)))
  obtain ⟨hp, g, d, tk, os⟩ := s
  wp_walk
  exact h
/-- n op x, n an int, x an instance whose class has the reflected method -/
theorem tr_binR {op : Operator} {sl id : String} {g : Int → Int → Sem Fin} {i : Int} {t : Tok} {fo : Value} {Q : Value → Shared → Prop} (X : K.In s.heap) (I : InstAt s.heap x (instObj C dx) C od) (hc : selfFirst K C = true)
    (hs : findIn K (.ref C) (PySem.dunder op.info.2) = some (some (.ref f))) (hr : findIn K (.ref C) (dunderR op.info.2) = some (some (.ref L))) (hf : isFn K (.ref L) = true)
    (fills : fillsNumberSlot (.type "int") op.info.2 = pure true) (hsub : subIn K (.ref C) (.type "int") = some false)
    (slot : Slot "int" (PySem.dunder op.info.2) id) (entry : entryFor table id = some (Builtin.Int.intBinary sl g)) (args : ∀ a b, argsOk id ⟨[a, b], []⟩)
    (h : wpAny (model prog w) A (call (.ref L) [.ref x, .int i t]) (CmpBack Q) E s) : wpAny (model prog w) A (binaryOp op (.int i t) (.ref x)) Q E s := by
  obtain ⟨cd, rest, hcd, hm⟩ := ksp_first hc
  rcases hi : op.info with ⟨sym, nm'⟩
  rw [hi] at hs hr fills slot
  dsimp only at hs hr fills slot
  have two := ksp_try X I hr hf h
  have one : ∀ {Q : Option Value → Shared → Prop}, Q none s → wpAny (model prog w) A (tryMethod (.int i t) (PySem.dunder nm') (.ref x)) Q E s := fun q =>
    wpAny_tryMethod_declines (typeIs_int s i t) slot (tr_decl slot entry args I.at_ ⟨rfl, q⟩)
  obtain ⟨hh, g', d, tt, os⟩ := s
  have L1 : Looks (model prog w) hh (typeOf (.int i t)) (.type "int") := Looks.of_pure rfl
  have L2 : Looks (model prog w) hh (typeOf (.ref x)) (.ref C) := I.type
  have L3 : Looks (model prog w) hh (fillsNumberSlot (.type "int") nm') true := Looks.of_pure fills
  have L4 : Looks (model prog w) hh (fillsNumberSlot (.ref C) nm') true := fills_K X hcd hm hs
  have L5 : Looks (model prog w) hh (isSubtype (.ref C) (.type "int")) false := looks_subIn X hsub
  have L6 : Looks (model prog w) hh (numberSlotInPython (.type "int") nm') false := Looks.of_pure rfl
  have hne : (Value.type "int" == Value.ref C) = false := Bool.eq_false_iff.mpr fun q => by cases beq_iff_eq.mp q
  simp only [binaryOp, hi]
  refine wpAny_holding (wpAny_bind ?_)
  unfold binaryOp1
  refine wpAny_bind (L1.at (wpAny_bind (L2.at (wpAny_bind (L3.at ?_)))))
  simp only [hne, Bool.false_eq_true, if_false]
  ksp_lk
  refine one ?_
  ksp_lk
  refine wpAny_mono two (fun r s' hr' => ?_) fun _ _ e => e
  obtain ⟨v, rfl, hq⟩ := hr'
  ksp_lk
  exact hq
/-- n op x, a comparison -/
theorem tr_cmpR {op : CmpOp} {sl id : String} {g : Int → Int → Sem Fin} {i : Int} {t : Tok} {Q : Value → Shared → Prop} (hu : A.units < cLine) (X : K.In s.heap) (I : InstAt s.heap x (instObj C dx) C od)
    (hr : findIn K (.ref C) (cmpInfo op).2.2 = some (some (.ref f))) (hf : isFn K (.ref f) = true) (hsub : subIn K (.ref C) (.type "int") = some false)
    (slot : Slot "int" (cmpInfo op).2.1 id) (entry : entryFor table id = some (Builtin.Int.intBinary sl g)) (args : ∀ a b, argsOk id ⟨[a, b], []⟩)
    (h : wpAny (model prog w) A (call (.ref f) [.ref x, .int i t]) (CmpBack Q) E s) : wpAny (model prog w) A (richCompare op (.int i t) (.ref x)) Q E s := by
  have two : wpAny (model prog w) A (tryCompare (.ref x) (cmpInfo op).2.2 (.int i t)) (fun r s' => ∃ v, r = some v ∧ Q v s') E s := by
    unfold tryCompare
    refine wpAny_bind (ifBound_K X I hr hf (wpAny_mono h (fun v s' hv => ?_) fun _ _ e => e))
    cases v <;> first | exact hv.elim | exact wpAny_pure ⟨_, rfl, hv⟩
  rcases hi : cmpInfo op with ⟨sym, f', r'⟩
  rw [hi] at two slot
  dsimp only at two slot
  have hne : (Value.type "int" != Value.ref C) = true := by
    have : (Value.type "int" == Value.ref C) = false := Bool.eq_false_iff.mpr fun q => by cases beq_iff_eq.mp q
    simp only [bne, this, Bool.not_false]
  simp only [richCompare, hi, (typeIs_int s i t).oneThing_none]
  refine wpAny_holding (wpAny_bind (wpAny_cRoomFor hu ?_))
  refine wpAny_bind (wpAny_typeOf (typeIs_int s i t) (wpAny_bind (I.type.here ?_)))
  simp only [hne, if_true]
  refine wpAny_bind ((looks_subIn X hsub).here ?_)
  simp only [Bool.false_eq_true, if_false, Bool.not_false, if_true]
  refine wpAny_bind (m := tryCompare (.int i t) _ (.ref x)) (wpAny_tryCompare_declines (typeIs_int s i t) slot (tr_decl slot entry args I.at_ ⟨rfl, ?_⟩))
  refine wpAny_bind (m := tryCompare (.ref x) _ (.int i t)) (wpAny_mono two (fun r s' z => ?_) fun _ _ e => e)
  obtain ⟨v, rfl, hq⟩ := z
  exact wpAny_pure hq
/-- object.__ne__ of an instance whose class has its own __eq__ -/
theorem tr_objNe {b : Value} {Q : Value → Shared → Prop} (hu : A.in1.units < cLine) (X : K.In s.heap) (I : InstAt s.heap x ox C od) (hm : mroIn K C (.type "object") = some true) (hr : findIn K (.ref C) "__eq__" = some (some (.ref f))) (hf : isFn K (.ref f) = true)
    (h : wpAny (model prog w) A.in1 (call (.ref f) [.ref x, b]) (fun v s' => ∃ k, v = .bool k ∧ Q (.bool (!k)) s') E s) : wpAny (model prog w) A (call (.builtin "object.__ne__") [.ref x, b]) Q E s := by
  refine wpAny_call (codeAny_call_builtin F.cmp_object.ne.plain F.cmpEntry_ne (check_slot (i := "object.__ne__") (owner := "object") (n := "__ne__") F.cmpKind_ne F.cmpSplit_ne (I.type.andThen (looks_mroIn X hm)) (F.cmpArgs_ne _ _) ?_))
  unfold Builtin.«object.__ne__»
  refine wpAny_bind (m := slotArgs "__ne__" 1 _) (wpAny_pure ?_)
  refine wpAny_bind (m := cRoomFor _ _) (wpAny_cRoomFor hu ?_)
  refine wpAny_bind (m := callSpecialIfBound? (.ref x) (Str.ofString "__eq__") _) (ifBound_K X I hr hf (wpAny_mono h (fun r s' hq => ?_) fun _ _ y => y))
  obtain ⟨k, rfl, hq⟩ := hq
  refine wpAny_bind (m := truthy (.bool k)) (wpAny_truthy_bool ?_)
  exact wpAny_pure hq
theorem tr_tryNe {b : Value} {Q : Option Value → Shared → Prop} (hu : A.in1.units < cLine) (X : K.In s.heap) (I : InstAt s.heap x ox C od) (hm : mroIn K C (.type "object") = some true) (hn : findIn K (.ref C) "__ne__" = some (some (.builtin "object.__ne__"))) (hr : findIn K (.ref C) "__eq__" = some (some (.ref f))) (hf : isFn K (.ref f) = true)
    (h : wpAny (model prog w) A.in1 (call (.ref f) [.ref x, b]) (fun v s' => ∃ k, v = .bool k ∧ Q (some (.bool (!k))) s') E s) : wpAny (model prog w) A (tryCompare (.ref x) "__ne__" b) Q E s := by
  unfold tryCompare
  simp only [callSpecialIfBound?, bindSpecialIfBound?]
  refine wpAny_bind (wpAny_holding (wpAny_bind (wpAny_bind (wpAny_bind (I.type.here ((looks_findIn X hn).here ?_))))))
  refine wpAny_bind (wpAny_askSetting (wpAny_ite ?_))
  have fin : wpAny (model prog w) A (call (.builtin "object.__ne__") ([.ref x] ++ [b]) >>= fun v => pure (some v)) (fun a s' => wpAny (model prog w) A (match a with | some .notImplemented => pure none | none => pure none | some v => pure (some v)) Q E s') E s :=
    wpAny_bind (tr_objNe hu X I hm hr hf (wpAny_mono h (fun v s' ⟨k, e, q⟩ => ⟨k, e, wpAny_pure (wpAny_pure q)⟩) fun _ _ h' => h'))
  simp only [F.cmp_object.ne.bind]
  split
  · exact wpAny_bind (wpAny_pure (wpAny_pure (by exact fin)))
  · exact wpAny_tryCatch (wpAny_bind (wpAny_pure (wpAny_pure (by exact fin))))
/-- x != b -/
theorem tr_ne {b tb : Value} {Q : Value → Shared → Prop} (hu : A.in1.units < cLine) (hu0 : A.units < cLine) (X : K.In s.heap) (I : InstAt s.heap x ox C od) (hb : Looks (model prog w) s.heap (typeOf b) tb) (hnf : notFirst K C tb = true) (hm : mroIn K C (.type "object") = some true)
    (hn : findIn K (.ref C) "__ne__" = some (some (.builtin "object.__ne__"))) (hr : findIn K (.ref C) "__eq__" = some (some (.ref f))) (hf : isFn K (.ref f) = true)
    (h : wpAny (model prog w) A.in1 (call (.ref f) [.ref x, b]) (fun v s' => ∃ k, v = .bool k ∧ Q (.bool (!k)) s') E s) : wpAny (model prog w) A (richCompare .NotEq (.ref x) b) Q E s := by
  have one : wpAny (model prog w) A (tryCompare (.ref x) "__ne__" b) (fun r s' => ∃ v, r = some v ∧ Q v s') E s := tr_tryNe hu X I hm hn hr hf (wpAny_mono h (fun v s' ⟨k, e, q⟩ => ⟨k, e, _, rfl, q⟩) fun _ _ h' => h')
  unfold richCompare
  simp only [oneThing_ref]
  refine wpAny_holding (wpAny_bind (wpAny_cRoomFor hu0 ?_))
  refine wpAny_bind (I.type.here (wpAny_bind (hb.here ?_)))
  split
  · rename_i q
    have e : subIn K tb (.ref C) = some false := by
      rcases Bool.or_eq_true_iff.mp hnf with e | e
      · rw [beq_iff_eq.mp e] at q; simp at q
      · exact beq_iff_eq.mp e
    refine wpAny_bind ((looks_subIn X e).here ?_)
    simp only [Bool.false_eq_true, if_false]
    refine wpAny_bind (m := tryCompare (.ref x) _ b) (wpAny_mono one (fun r s' z => ?_) fun _ _ e => e)
    obtain ⟨v, rfl, hq⟩ := z
    exact wpAny_pure hq
  · refine wpAny_bind (wpAny_pure ?_)
    simp only [Bool.false_eq_true, if_false]
    refine wpAny_bind (m := tryCompare (.ref x) _ b) (wpAny_mono one (fun r s' z => ?_) fun _ _ e => e)
    obtain ⟨v, rfl, hq⟩ := z
    exact wpAny_pure hq
/-- n != x -/
theorem tr_neR {sl id : String} {g : Int → Int → Sem Fin} {i : Int} {t : Tok} {Q : Value → Shared → Prop} (hu1 : A.in1.units < cLine) (hu : A.units < cLine) (X : K.In s.heap) (I : InstAt s.heap x (instObj C dx) C od) (hm : mroIn K C (.type "object") = some true)
    (hn : findIn K (.ref C) "__ne__" = some (some (.builtin "object.__ne__"))) (hr : findIn K (.ref C) "__eq__" = some (some (.ref f))) (hf : isFn K (.ref f) = true) (hsub : subIn K (.ref C) (.type "int") = some false)
    (h : wpAny (model prog w) A.in1 (call (.ref f) [.ref x, .int i t]) (fun v s' => ∃ k, v = .bool k ∧ Q (.bool (!k)) s') E s) : wpAny (model prog w) A (richCompare .NotEq (.int i t) (.ref x)) Q E s := by
  have two : wpAny (model prog w) A (tryCompare (.ref x) "__ne__" (.int i t)) (fun r s' => ∃ v, r = some v ∧ Q v s') E s := tr_tryNe hu1 X I hm hn hr hf (wpAny_mono h (fun v s' ⟨k, e, q⟩ => ⟨k, e, _, rfl, q⟩) fun _ _ h' => h')
  have hne : (Value.type "int" != Value.ref C) = true := by
    have : (Value.type "int" == Value.ref C) = false := Bool.eq_false_iff.mpr fun q => by cases beq_iff_eq.mp q
    simp only [bne, this, Bool.not_false]
  simp only [richCompare, cmpInfo, (typeIs_int s i t).oneThing_none]
  refine wpAny_holding (wpAny_bind (wpAny_cRoomFor hu ?_))
  refine wpAny_bind (wpAny_typeOf (typeIs_int s i t) (wpAny_bind (I.type.here ?_)))
  simp only [hne, if_true]
  refine wpAny_bind ((looks_subIn X hsub).here ?_)
  simp only [Bool.false_eq_true, if_false, Bool.not_false, if_true]
  refine wpAny_bind (m := tryCompare (.int i t) _ (.ref x)) (wpAny_tryCompare_declines (typeIs_int s i t) F.slot_int_ne (tr_decl (sl := "__ne__") F.slot_int_ne F.entry_int_ne F.args_int_ne_2 I.at_ ⟨rfl, ?_⟩))
  refine wpAny_bind (m := tryCompare (.ref x) _ (.int i t)) (wpAny_mono two (fun r s' z => ?_) fun _ _ e => e)
  obtain ⟨v, rfl, hq⟩ := z
  exact wpAny_pure hq
end
end PySem.W

namespace L2.Tr
open PySem PySem.Spec PyProof.Rows

/-! ### results of mirrors -/
inductive Pay where
  | int (i : Int) | str (s : Str) | bl (b : Bool) | non | frac (q : Rat) | obj (n : Nat) (xs : List Rat)
structure Exn where
  cls : Str
  pay : List (Str × Pay)
inductive Res (α : Type) where
  | ok (a : α) | err (e : Exn) | stuck
namespace Res
variable {α β γ : Type}
def bind (m : Res α) (f : α → Res β) : Res β := match m with
  | .ok a => f a
  | .err e => .err e
  | .stuck => .stuck
@[simp] theorem ok_bind (a : α) (f : α → Res β) : (ok a).bind f = f a := rfl
@[simp] theorem err_bind (e : Exn) (f : α → Res β) : (err e : Res α).bind f = err e := rfl
@[simp] theorem stuck_bind (f : α → Res β) : (stuck : Res α).bind f = stuck := rfl
theorem bind_assoc (m : Res α) (f : α → Res β) (g : β → Res γ) : (m.bind f).bind g = m.bind fun a => (f a).bind g := by cases m <;> rfl
theorem bind_ok (m : Res α) : (m.bind fun a => ok a) = m := by cases m <;> rfl
def guard (p : Prop) [Decidable p] (m : Res α) : Res α := if p then m else stuck
theorem guard_pos {p : Prop} [Decidable p] (h : p) (m : Res α) : guard p m = m := if_pos h
end Res

/-! ### representations -/
/-- by the frozen heap I and the heap H -/
abbrev Ra (α : Type) := Hp → Hp → V → α → Prop
/-- by the frozen heap alone -/
abbrev Rp (α : Type) := Hp → V → α → Prop
abbrev rp {α : Type} (r : Rp α) : Ra α := fun I _ v x => r I v x
class Mo {α : Type} (r : Rp α) : Prop where
  up : ∀ {I I' : Hp} {v : V} {x : α}, Same I I' → r I v x → r I' v x
class MoA {α : Type} (r : Ra α) : Prop where
  up : ∀ {I H I' H' : Hp} {v : V} {x : α}, Same I I' → Same H H' → r I H v x → r I' H' v x
instance {α : Type} {r : Rp α} [m : Mo r] : MoA (rp r) := ⟨fun a _ h => m.up a h⟩
instance {α : Type} {r : Ra α} {H0 : Hp} [m : MoA r] : Mo (fun I v x => r I H0 v x) := ⟨fun a h => m.up a (Same.refl _) h⟩

def rInt : Rp Int := fun _ v x => v = .int x
def rBl : Rp Bool := fun _ v x => v = .bl x
def rStr : Rp Str := fun _ v x => v = .str x
def rNon : Rp Unit := fun _ v _ => v = .non
instance : Mo rInt := ⟨fun _ h => h⟩
instance : Mo rBl := ⟨fun _ h => h⟩
instance : Mo rStr := ⟨fun _ h => h⟩
instance : Mo rNon := ⟨fun _ h => h⟩
/-- a Fraction -/
def frF (q : Rat) : List (Str × V) := [("top", .int q.num), ("bottom", .int (q.den : Int))]
def rFrac (K : PySem.W.Frag) : Rp Rat := fun I v q => ∃ a dx, v = .ref a ∧ I a = some (.ins (He.ga K "Fraction") dx (frF q))
instance {K : PySem.W.Frag} : Mo (rFrac K) := ⟨fun s ⟨a, dx, e, h⟩ => ⟨a, dx, e, s _ _ h⟩⟩
/-- an int or a Fraction -/
inductive Num where
  | i (n : Int) | q (r : Rat)
def Num.val : Num → Rat
  | .i n => (n : Rat)
  | .q r => r
def rNum (K : PySem.W.Frag) : Rp Num := fun I v x => match x with
  | .i n => v = .int n
  | .q r => rFrac K I v r
instance {K : PySem.W.Frag} : Mo (rNum K) := ⟨fun {I I' v x} s h => by
  cases x with
  | i n => exact h
  | q r => exact Mo.up (r := rFrac K) s h⟩
theorem Paired.mapQ {α β : Type} {F G : α → β → Prop} {l₁ : List α} {l₂ : List β} (h : Paired F l₁ l₂) (f : ∀ a b, F a b → G a b) : Paired G l₁ l₂ := Paired.mapP h f
/-- a frozen list -/
def rL {α : Type} (r : Rp α) : Rp (List α) := fun I v xs => ∃ l vs, v = .ref l ∧ I l = some (.lst vs) ∧ Paired (r I) vs xs
instance {α : Type} {r : Rp α} [m : Mo r] : Mo (rL r) := ⟨fun s ⟨l, vs, e, h, p⟩ => ⟨l, vs, e, s _ _ h, Paired.mapP p fun _ _ q => m.up s q⟩⟩
/-- a frozen tuple (of one kind) -/
def rT {α : Type} (r : Rp α) : Rp (List α) := fun I v xs => ∃ l vs, v = .ref l ∧ I l = some (.tup vs) ∧ Paired (r I) vs xs
instance {α : Type} {r : Rp α} [m : Mo r] : Mo (rT r) := ⟨fun s ⟨l, vs, e, h, p⟩ => ⟨l, vs, e, s _ _ h, Paired.mapP p fun _ _ q => m.up s q⟩⟩
/-- a list that can be read (frozen or not), or the script -/
def rdL {α : Type} (K : PySem.W.Frag) (r : Ra α) : Ra (List α) := fun I H v xs => ∃ l vs, v = .ref l ∧ SqL K H l vs ∧ Paired (r I H) vs xs
instance {α : Type} {K : PySem.W.Frag} {r : Ra α} [m : MoA r] : MoA (rdL K r) := ⟨fun s t ⟨l, vs, e, h, p⟩ => ⟨l, vs, e, t.seq h, Paired.mapP p fun _ _ q => m.up s t q⟩⟩

/-! ### exceptions -/
def PayR (K : PySem.W.Frag) (I : Hp) (v : V) : Pay → Prop
  | .int i => v = .int i
  | .str s => v = .str s
  | .bl b => v = .bl b
  | .non => v = .non
  | .frac q => rFrac K I v q
  | .obj _ _ => True
def ExR (K : PySem.W.Frag) (I H : Hp) (e : Exn) (cls : Value) (d : Option Addr) : Prop := cls = .ref (He.ga K e.cls) ∧ (match d with
  | none => e.pay = []
  | some a => e.pay ≠ [] ∧ ∃ fs : List (Str × V), H a = some (.xd fs) ∧ I a = none ∧ Paired (fun (p : Str × V) (q : Str × Pay) => p.1 = q.1 ∧ PayR K I p.2 q.2) fs e.pay)

/-! ### frames -/
/-- from (I, H) to (I', H') nothing that stood has changed -/
structure Fm (I H I' H' : Hp) : Prop where
  i : Same I I'
  h : Same H H'
  ih : Same I' H'
  mu : ∀ l, I l = none → H l ≠ none → I' l = none
theorem Fm.refl {I H : Hp} (h : Same I H) : Fm I H I H := ⟨Same.refl _, Same.refl _, h, fun _ e _ => e⟩
theorem Fm.trans {I H I1 H1 I2 H2 : Hp} (a : Fm I H I1 H1) (b : Fm I1 H1 I2 H2) : Fm I H I2 H2 :=
  ⟨a.i.trans b.i, a.h.trans b.h, b.ih, fun l e n => b.mu l (a.mu l e n) fun q => by
    cases z : H l with
    | none => exact n z
    | some o => rw [a.h l o z] at q; cases q⟩
/-- a new frozen object -/
theorem Fm.new {I H : Hp} {p : Addr} {o : HO} (s : Same I H) (h : H p = none) : Fm I H (upd I p o) (upd H p o) :=
  ⟨fun b u e => by rw [upd_ne (ne_of_none (s _ _ e) h)]; exact e, fun b u e => by rw [upd_ne (ne_of_none e h)]; exact e, fun b u e => by
    by_cases hb : b = p
    · subst hb; rw [upd_same] at e ⊢; exact e
    · rw [upd_ne hb] at e ⊢; exact s _ _ e, fun l e n => by
    have : l ≠ p := fun q => n (q ▸ h)
    rw [upd_ne this]; exact e⟩
/-- a new object that may still be changed -/
theorem Fm.newM {I H : Hp} {p : Addr} {o : HO} (s : Same I H) (h : H p = none) : Fm I H I (upd H p o) :=
  ⟨Same.refl _, fun b u e => by rw [upd_ne (ne_of_none e h)]; exact e, fun b u e => by rw [upd_ne (ne_of_none (s _ _ e) h)]; exact s _ _ e, fun l e n => e⟩

/-- the error's own dict is new -/
def Fr (H : Hp) (d : Option Addr) : Prop := ∀ a, d = some a → H a = none
theorem Fr.back {H H' : Hp} {d : Option Addr} (f : Fr H' d) (s : Same H H') : Fr H d := fun a e => s.free (f a e)
def PostE {α : Type} (K : PySem.W.Frag) (m : Res α) (r : Ra α) (I H : Hp) (E : XK) (Q : VK) : Prop := match m with
  | .ok a => ∀ I' H' v, Fm I H I' H' → r I' H' v a → Q v H'
  | .err e => ∀ I' H' cls d, Fm I H I' H' → Fr H d ∧ ExR K I' H' e cls d → E cls d H'
  | .stuck => False
theorem PostE.up {α : Type} {K : PySem.W.Frag} {m : Res α} {r : Ra α} {I H I1 H1 : Hp} {E : XK} {Q : VK} (h : PostE K m r I H E Q) (f : Fm I H I1 H1) : PostE K m r I1 H1 E Q := by
  cases m with
  | ok a => exact fun I' H' v g => h I' H' v (f.trans g)
  | err e => exact fun I' H' c d g x => h I' H' c d (f.trans g) ⟨x.1.back f.h, x.2⟩
  | stuck => exact h
theorem PostE.imp {α : Type} {K : PySem.W.Frag} {m : Res α} {r : Ra α} {I H : Hp} {E : XK} {Q Q' : VK} (h : PostE K m r I H E Q) (g : ∀ v H', Q v H' → Q' v H') : PostE K m r I H E Q' := by
  cases m with
  | ok a => exact fun I' H' v f r => g _ _ (h I' H' v f r)
  | err e => exact h
  | stuck => exact h

/-! ### environments -/
structure SF where
  {α : Type}
  r : Rp α
  [mo : Mo r]
  x : α
/-- an object of the call's own that may still be changed -/
structure MF where
  l : Addr
  P : Hp → HO → Prop
  mo : ∀ {I I' : Hp} {o : HO}, Same I I' → P I o → P I' o
def MF.lst {α : Type} (l : Addr) (r : Rp α) [m : Mo r] (xs : List α) : MF := ⟨l, fun I o => ∃ vs, o = .lst vs ∧ Paired (r I) vs xs, fun s ⟨vs, e, p⟩ => ⟨vs, e, Paired.mapP p fun _ _ q => m.up s q⟩⟩
def FldR (I : Hp) : List (Str × V) → List (Str × SF) → Prop
  | [], [] => True
  | p :: fs, q :: gs => p.1 = q.1 ∧ q.2.r I p.2 q.2.x ∧ FldR I fs gs
  | _, _ => False
theorem FldR.up {I I' : Hp} (s : Same I I') : ∀ {fs : List (Str × V)} {gs : List (Str × SF)}, FldR I fs gs → FldR I' fs gs
  | [], [], h => h
  | _ :: _, q :: _, ⟨a, b, c⟩ => ⟨a, q.2.mo.up s b, FldR.up s c⟩
  | [], _ :: _, h => h
  | _ :: _, [], h => h
def MF.ins (l C dx : Addr) (gs : List (Str × SF)) : MF := ⟨l, fun I o => ∃ fs, o = .ins C dx fs ∧ FldR I fs gs, fun s ⟨fs, e, p⟩ => ⟨fs, e, FldR.up s p⟩⟩
structure Stt (I0 H0 : Hp) (ctx : List (Option SF)) (mem : List MF) (I H : Hp) (σ : St) : Prop where
  fm : Fm I0 H0 I H
  len : σ.length = ctx.length
  sl : ∀ (i : Nat) (sf : SF), ctx[i]? = some (some sf) → ∃ v, σ[i]? = some (some v) ∧ sf.r I v sf.x
  me : ∀ c : MF, c ∈ mem → H0 c.l = none ∧ I c.l = none ∧ ∃ o, H c.l = some o ∧ c.P I o
  nd : (mem.map (·.l)).Nodup
section
variable {I0 H0 I H I' H' : Hp} {ctx : List (Option SF)} {mem : List MF} {σ : St}
theorem Stt.same (s : Stt I0 H0 ctx mem I H σ) : Same I H := s.fm.ih
theorem Stt.step (s : Stt I0 H0 ctx mem I H σ) (f : Fm I H I' H') : Stt I0 H0 ctx mem I' H' σ := by
  refine ⟨s.fm.trans f, s.len, fun i sf e => ?_, fun c hc => ?_, s.nd⟩
  · obtain ⟨v, e1, h⟩ := s.sl i sf e
    exact ⟨v, e1, sf.mo.up f.i h⟩
  · obtain ⟨a, b, o, e, p⟩ := s.me c hc
    exact ⟨a, f.mu _ b (by rw [e]; intro z; cases z), o, f.h _ _ e, c.mo f.i p⟩
theorem Stt.set (s : Stt I0 H0 ctx mem I H σ) (i : Nat) {α : Type} {r : Rp α} [mo : Mo r] {x : α} {v : V} (h : r I v x) : Stt I0 H0 (ctx.set i (some ⟨r, x⟩)) mem I H (σ.set i (some v)) := by
  refine ⟨s.fm, by rw [List.length_set, List.length_set]; exact s.len, fun j sf e => ?_, s.me, s.nd⟩
  by_cases hj : j = i
  · subst hj
    rw [List.getElem?_set] at e
    by_cases hl : j < ctx.length
    · simp only [hl, if_true] at e
      cases e
      exact ⟨v, by rw [List.getElem?_set]; simp [s.len, hl], h⟩
    · simp only [hl, if_true, if_false] at e
      cases e
  · rw [List.getElem?_set_ne (Ne.symm hj)] at e
    obtain ⟨w, e1, q⟩ := s.sl j sf e
    exact ⟨w, by rw [List.getElem?_set_ne (Ne.symm hj)]; exact e1, q⟩
end
/-! ### expressions -/
section
variable {α β γ δ : Type}
def JE (X : Cx) (I0 H0 : Hp) (W : WX) (ctx : List (Option SF)) (mem : List MF) (e : Expr) (m : Res α) (r : Ra α) : Prop :=
  ∀ (I H : Hp) (σ : St) (Q : VK), Stt I0 H0 ctx mem I H σ → PostE X.K m r I H (fun cls d H' => W cls d σ H') Q → wE X e σ H Q
def JT (X : Cx) (I0 H0 : Hp) (W : WX) (ctx : List (Option SF)) (mem : List MF) (e : Expr) (m : Res Bool) : Prop :=
  ∀ (I H : Hp) (σ : St) (Q : Bool → Hp → Prop), Stt I0 H0 ctx mem I H σ → PostE X.K m (rp rBl) I H (fun cls d H' => W cls d σ H') (fun v H' => ∀ b, v = .bl b → Q b H') → wT X e σ H Q
def OpJ (X : Cx) (W : WX) (f : Value → Value → Sem Value) (ra : Ra α) (rb : Ra β) (g : α → β → Res γ) (rc : Ra γ) : Prop :=
  ∀ (I H : Hp) (σ : St) (Q : VK) (u v : V) (x : α) (y : β), Same I H → ra I H u x → rb I H v y → PostE X.K (g x y) rc I H (fun cls d H' => W cls d σ H') Q → opW X f σ u v H Q
def UnJ (X : Cx) (W : WX) (f : Value → Sem Value) (ra : Ra α) (g : α → Res γ) (rc : Ra γ) : Prop :=
  ∀ (I H : Hp) (σ : St) (Q : VK) (u : V) (x : α), Same I H → ra I H u x → PostE X.K (g x) rc I H (fun cls d H' => W cls d σ H') Q → unW X f σ u H Q
def CallJ (X : Cx) (W : WX) (f : Value) (R : Hp → Hp → List V → δ → Prop) (g : δ → Res γ) (rc : Ra γ) : Prop :=
  ∀ (I H : Hp) (σ : St) (Q : VK) (vs : List V) (x : δ), Same I H → R I H vs x → PostE X.K (g x) rc I H (fun cls d H' => W cls d σ H') Q → callW X f σ vs H Q
/-- argument lists -/
def JA (X : Cx) (I0 H0 : Hp) (W : WX) (ctx : List (Option SF)) (mem : List MF) (es : List Expr) (m : Res δ) (R : Hp → Hp → List V → δ → Prop) : Prop :=
  ∀ (I H : Hp) (σ : St) (Q : List V → Hp → Prop), Stt I0 H0 ctx mem I H σ → (match m with
    | .ok a => ∀ I' H' vs, Fm I H I' H' → R I' H' vs a → Q vs H'
    | .err e => ∀ I' H' cls d, Fm I H I' H' → Fr H d ∧ ExR X.K I' H' e cls d → W cls d σ H'
    | .stuck => False) → wA X es σ H Q
def aNil : Hp → Hp → List V → Unit → Prop := fun _ _ vs _ => vs = []
def aCons (r : Ra α) (R : Hp → Hp → List V → δ → Prop) : Hp → Hp → List V → α × δ → Prop := fun I H vs x => ∃ v ws, vs = v :: ws ∧ r I H v x.1 ∧ R I H ws x.2

variable {X : Cx} {I0 H0 : Hp} {W : WX} {ctx : List (Option SF)} {mem : List MF} {e a b c o : Expr} {es : List Expr} {pos pos' : Pos} {n : Str} {ra : Ra α} {rb : Ra β} {rc : Ra γ} {ma : Res α} {mb : Res β}

theorem JE.co {m : Res α} {r : Ra α} {r' : Ra α} (j : JE X I0 H0 W ctx mem e m r) (c : ∀ I H v x, Same I H → r I H v x → r' I H v x) : JE X I0 H0 W ctx mem e m r' := fun I H σ Q st p => j I H σ Q st (by
  cases m with
  | ok a => exact fun I' H' v f q => p I' H' v f (c _ _ _ _ f.ih q)
  | err e => exact p
  | stuck => exact p)
theorem JE.map {m : Res α} {r : Ra α} {r' : Ra β} {g : α → β} (j : JE X I0 H0 W ctx mem e m r) (c : ∀ I H v x, Same I H → r I H v x → r' I H v (g x)) : JE X I0 H0 W ctx mem e (m.bind fun x => .ok (g x)) r' := fun I H σ Q st p => j I H σ Q st (by
  cases m with
  | ok a => exact fun I' H' v f q => p I' H' v f (c _ _ _ _ f.ih q)
  | err e => exact p
  | stuck => exact p)
theorem JE.num {m : Res Int} {K : PySem.W.Frag} (j : JE X I0 H0 W ctx mem e m (rp rInt)) : JE X I0 H0 W ctx mem e (m.bind fun x => .ok (Num.i x)) (rp (rNum K)) := j.map fun _ _ _ _ _ h => h
theorem JE.numq {m : Res Rat} {K : PySem.W.Frag} (j : JE X I0 H0 W ctx mem e m (rp (rFrac K))) : JE X I0 H0 W ctx mem e (m.bind fun x => .ok (Num.q x)) (rp (rNum K)) := j.map fun _ _ _ _ _ h => h
/-- a name in slot i -/
theorem JE.var (i : Nat) {r : Rp α} {mo : Mo r} {x : α} (hc : ctx[i]? = some (some (@SF.mk α r mo x)) := by rfl) (hN : X.N[i]? = some n := by rfl) (hv : Vis X.env.scope n := by first | exact Or.inl rfl | exact Or.inr (Or.inl rfl) | exact Or.inr (Or.inr rfl)) (hd : (n == ("__debug__" : Str)) = false := by decide)
    (hcd : (n == ("__classdict__" : Str)) = false := by decide) : JE X I0 H0 W ctx mem (.Name n pos) (.ok x) (rp r) := fun I H σ Q st p => by
  obtain ⟨v, e, h⟩ := st.sl i _ hc
  exact w_var i (p I H v (Fm.refl st.same) h) e hN hv hd hcd
/-- .. a parameter whose worth may lean on the heap at the entry -/
theorem JE.varP (i : Nat) {r : Ra α} {mo : Mo (fun I v x => r I H0 v x)} {x : α} [m : MoA r] (hc : ctx[i]? = some (some (@SF.mk α (fun I v x => r I H0 v x) mo x)) := by rfl) (hN : X.N[i]? = some n := by rfl) (hv : Vis X.env.scope n := by first | exact Or.inl rfl | exact Or.inr (Or.inl rfl) | exact Or.inr (Or.inr rfl)) (hd : (n == ("__debug__" : Str)) = false := by decide)
    (hcd : (n == ("__classdict__" : Str)) = false := by decide) : JE X I0 H0 W ctx mem (.Name n pos) (.ok x) r := fun I H σ Q st p => by
  obtain ⟨v, e, h⟩ := st.sl i _ hc
  exact w_var i (p I H v (Fm.refl st.same) (m.up (Same.refl _) st.fm.h h)) e hN hv hd hcd
theorem JE.int {i : Int} {j} : JE X I0 H0 W ctx mem (.Constant (.int i) j pos) (.ok i) (rp rInt) := fun I H σ Q st p => w_int (p I H _ (Fm.refl st.same) rfl)
theorem JE.bl {i : Bool} {j} : JE X I0 H0 W ctx mem (.Constant (.bool i) j pos) (.ok i) (rp rBl) := fun I H σ Q st p => w_bl (p I H _ (Fm.refl st.same) rfl)
theorem JE.str {i : Str} {j} : JE X I0 H0 W ctx mem (.Constant (.str i) j pos) (.ok i) (rp rStr) := fun I H σ Q st p => w_str (p I H _ (Fm.refl st.same) rfl)
theorem JE.non {j} : JE X I0 H0 W ctx mem (.Constant .none j pos) (.ok ()) (rp rNon) := fun I H σ Q st p => w_non (p I H _ (Fm.refl st.same) rfl)
theorem JE.bin {op : Operator} {g : α → β → Res γ} [MoA ra] (ja : JE X I0 H0 W ctx mem a ma ra) (jb : JE X I0 H0 W ctx mem b mb rb) (o : OpJ X W (binaryOp op) ra rb g rc) : JE X I0 H0 W ctx mem (.BinOp a op b pos) (ma.bind fun x => mb.bind fun y => g x y) rc := fun I H σ Q st p => by
  refine w_bin (ja I H σ _ st ?_)
  cases ma with
  | ok x =>
    intro I1 H1 u f1 r1
    refine jb I1 H1 σ _ (st.step f1) ?_
    have p1 := PostE.up p f1
    cases mb with
    | ok y => exact fun I2 H2 v f2 r2 => o I2 H2 σ Q u v x y f2.ih (MoA.up f2.i f2.h r1) r2 (PostE.up p1 f2)
    | err e => exact p1
    | stuck => exact p1
  | err e => exact p
  | stuck => exact p
theorem JE.cmp {op : CmpOp} {g : α → β → Res γ} [MoA ra] (ja : JE X I0 H0 W ctx mem a ma ra) (jb : JE X I0 H0 W ctx mem b mb rb) (o : OpJ X W (compareOp op) ra rb g rc) (hm : behindInMarks op b = false := by first | exact nomark _ | rfl) : JE X I0 H0 W ctx mem (.Compare a [op] [b] pos) (ma.bind fun x => mb.bind fun y => g x y) rc := fun I H σ Q st p => by
  refine w_cmp (ja I H σ _ st ?_) hm
  cases ma with
  | ok x =>
    intro I1 H1 u f1 r1
    refine jb I1 H1 σ _ (st.step f1) ?_
    have p1 := PostE.up p f1
    cases mb with
    | ok y => exact fun I2 H2 v f2 r2 => o I2 H2 σ Q u v x y f2.ih (MoA.up f2.i f2.h r1) r2 (PostE.up p1 f2)
    | err e => exact p1
    | stuck => exact p1
  | err e => exact p
  | stuck => exact p
theorem JT.cmp {op : CmpOp} {g : α → β → Res Bool} [MoA ra] (ja : JE X I0 H0 W ctx mem a ma ra) (jb : JE X I0 H0 W ctx mem b mb rb) (o : OpJ X W (compareOp op) ra rb g (rp rBl)) (hm : behindInMarks op b = false := by first | exact nomark _ | rfl) : JT X I0 H0 W ctx mem (.Compare a [op] [b] pos) (ma.bind fun x => mb.bind fun y => g x y) := fun I H σ Q st p => by
  refine w_tcmp (ja I H σ _ st ?_) hm
  cases ma with
  | ok x =>
    intro I1 H1 u f1 r1
    refine jb I1 H1 σ _ (st.step f1) ?_
    have p1 := PostE.up p f1
    cases mb with
    | ok y =>
      intro I2 H2 v f2 r2
      refine o I2 H2 σ _ u v x y f2.ih (MoA.up f2.i f2.h r1) r2 ?_
      have p2 := PostE.up p1 f2
      revert p2
      show PostE X.K (g x y) _ _ _ _ _ → _
      generalize g x y = z
      intro p2
      cases z with
      | ok k => intro I3 H3 v3 f3 r3; cases r3; exact tru_bl (p2 I3 H3 _ f3 rfl k rfl)
      | err e => exact p2
      | stuck => exact p2
    | err e => exact p1
    | stuck => exact p1
  | err e => exact p
  | stuck => exact p
theorem JE.un {op : UnaryOp} {g : α → Res γ} (ja : JE X I0 H0 W ctx mem a ma ra) (o : UnJ X W (unaryOp op) ra g rc) : JE X I0 H0 W ctx mem (.UnaryOp op a pos) (ma.bind fun x => g x) rc := fun I H σ Q st p => by
  refine w_un (ja I H σ _ st ?_)
  cases ma with
  | ok x => exact fun I1 H1 u f1 r1 => o I1 H1 σ Q u x f1.ih r1 (PostE.up p f1)
  | err e => exact p
  | stuck => exact p
/-- a test of a plain form whose value is a bool -/
theorem JT.of {m : Res Bool} (j : JE X I0 H0 W ctx mem e m (rp rBl)) (he : ∀ whole, isTrue e X.env whole = (do let v ← whole; standAt e.pos; holding [v] (truthy v)) := by intro _; rfl) : JT X I0 H0 W ctx mem e m := fun I H σ Q st p => by
  refine w_t (j I H σ _ st ?_) he
  cases m with
  | ok k => intro I1 H1 v f1 r1; cases r1; exact tru_bl (p I1 H1 _ f1 rfl k rfl)
  | err e => exact p
  | stuck => exact p
theorem JT.not {m : Res Bool} (j : JT X I0 H0 W ctx mem e m) : JT X I0 H0 W ctx mem (.UnaryOp .Not e pos) (m.bind fun b => .ok (!b)) := fun I H σ Q st p => by
  refine w_not (j I H σ _ st ?_)
  cases m with
  | ok k => exact fun I1 H1 v f1 r1 b hb => by cases r1; cases hb; exact p I1 H1 _ f1 rfl _ rfl
  | err e => exact p
  | stuck => exact p
theorem JE.not {m : Res Bool} (j : JE X I0 H0 W ctx mem e m (rp rBl)) : JE X I0 H0 W ctx mem (.UnaryOp .Not e pos) (m.bind fun b => .ok (!b)) (rp rBl) := fun I H σ Q st p => by
  refine w_notV (j I H σ _ st ?_)
  cases m with
  | ok k => exact fun I1 H1 v f1 r1 => ⟨k, r1, p I1 H1 _ f1 rfl⟩
  | err e => exact p
  | stuck => exact p
end
end L2.Tr

namespace L2.Tr
open PySem PySem.Spec PyProof.Rows
section
variable {α β γ δ S : Type}
def JW (X : Cx) (I0 H0 : Hp) (W : WX) (ctx : List (Option SF)) (mem : List MF) (e : Expr) (m : Res Bool) : Prop :=
  ∀ (I H : Hp) (σ : St) (Q : Bool → Hp → Prop), Stt I0 H0 ctx mem I H σ → PostE X.K m (rp rBl) I H (fun cls d H' => W cls d σ H') (fun v H' => ∀ b, v = .bl b → Q b H') → wW X e σ H Q
variable {X : Cx} {I0 H0 : Hp} {W : WX} {ctx : List (Option SF)} {mem : List MF} {e a b c o : Expr} {es bs : List Expr} {pos pos' : Pos} {n : Str} {ra : Ra α} {rb : Ra β} {rc : Ra γ} {ma : Res α} {mb : Res β} {m1 m2 mc : Res Bool}
theorem JT.bool {op} (j : JW X I0 H0 W ctx mem (.BoolOp op es pos) m1) : JT X I0 H0 W ctx mem (.BoolOp op es pos) m1 := fun I H σ Q st p => w_tbool (j I H σ Q st p)
theorem JW.and1 (j : JT X I0 H0 W ctx mem a m1) : JW X I0 H0 W ctx mem (.BoolOp .And [a] pos) m1 := fun I H σ Q st p => w_and1 (j I H σ Q st p)
theorem JW.or1 (j : JT X I0 H0 W ctx mem a m1) : JW X I0 H0 W ctx mem (.BoolOp .Or [a] pos) m1 := fun I H σ Q st p => w_or1 (j I H σ Q st p)
theorem JW.and (j : JT X I0 H0 W ctx mem a m1) (k : JW X I0 H0 W ctx mem (.BoolOp .And (b :: bs) pos) m2) : JW X I0 H0 W ctx mem (.BoolOp .And (a :: b :: bs) pos) (m1.bind fun x => if x = true then m2 else .ok false) := fun I H σ Q st p => by
  refine w_and (j I H σ _ st ?_)
  cases m1 with
  | ok x =>
    intro I1 H1 v f r y hy
    cases r; cases hy
    have p1 := PostE.up p f
    cases x with
    | true => exact iteT (k I1 H1 σ Q (st.step f) p1)
    | false => exact iteF (p1 I1 H1 _ (Fm.refl f.ih) rfl _ rfl)
  | err e => exact p
  | stuck => exact p
theorem JW.or (j : JT X I0 H0 W ctx mem a m1) (k : JW X I0 H0 W ctx mem (.BoolOp .Or (b :: bs) pos) m2) : JW X I0 H0 W ctx mem (.BoolOp .Or (a :: b :: bs) pos) (m1.bind fun x => if x = true then .ok true else m2) := fun I H σ Q st p => by
  refine w_or (j I H σ _ st ?_)
  cases m1 with
  | ok x =>
    intro I1 H1 v f r y hy
    cases r; cases hy
    have p1 := PostE.up p f
    cases x with
    | true => exact iteT (p1 I1 H1 _ (Fm.refl f.ih) rfl _ rfl)
    | false => exact iteF (k I1 H1 σ Q (st.step f) p1)
  | err e => exact p
  | stuck => exact p
theorem JE.one {op} {m : Res Bool} (j : JE X I0 H0 W ctx mem a m (rp rBl)) : JE X I0 H0 W ctx mem (.BoolOp op [a] pos) m (rp rBl) := fun I H σ Q st p => w_oneV (j I H σ Q st p)
theorem JE.and (j : JE X I0 H0 W ctx mem a m1 (rp rBl)) (k : JE X I0 H0 W ctx mem (.BoolOp .And (b :: bs) pos) m2 (rp rBl)) : JE X I0 H0 W ctx mem (.BoolOp .And (a :: b :: bs) pos) (m1.bind fun x => if x = true then m2 else .ok false) (rp rBl) := fun I H σ Q st p => by
  refine w_andV (j I H σ _ st ?_)
  cases m1 with
  | ok x =>
    intro I1 H1 v f r
    have p1 := PostE.up p f
    refine ⟨x, r, ?_⟩
    cases x with
    | true => exact iteT (k I1 H1 σ Q (st.step f) p1)
    | false => exact iteF (p1 I1 H1 _ (Fm.refl f.ih) rfl)
  | err e => exact p
  | stuck => exact p
theorem JE.or (j : JE X I0 H0 W ctx mem a m1 (rp rBl)) (k : JE X I0 H0 W ctx mem (.BoolOp .Or (b :: bs) pos) m2 (rp rBl)) : JE X I0 H0 W ctx mem (.BoolOp .Or (a :: b :: bs) pos) (m1.bind fun x => if x = true then .ok true else m2) (rp rBl) := fun I H σ Q st p => by
  refine w_orV (j I H σ _ st ?_)
  cases m1 with
  | ok x =>
    intro I1 H1 v f r
    have p1 := PostE.up p f
    refine ⟨x, r, ?_⟩
    cases x with
    | true => exact iteT (p1 I1 H1 _ (Fm.refl f.ih) rfl)
    | false => exact iteF (k I1 H1 σ Q (st.step f) p1)
  | err e => exact p
  | stuck => exact p
theorem JE.ifx {m m' : Res α} {r : Ra α} (j : JT X I0 H0 W ctx mem c mc) (k1 : JE X I0 H0 W ctx mem a m r) (k2 : JE X I0 H0 W ctx mem b m' r) : JE X I0 H0 W ctx mem (.IfExp c a b pos) (mc.bind fun x => if x = true then m else m') r := fun I H σ Q st p => by
  refine w_ifx (j I H σ _ st ?_)
  cases mc with
  | ok x =>
    intro I1 H1 v f r y hy
    cases r; cases hy
    have p1 := PostE.up p f
    cases x with
    | true => exact iteT (k1 I1 H1 σ Q (st.step f) p1)
    | false => exact iteF (k2 I1 H1 σ Q (st.step f) p1)
  | err e => exact p
  | stuck => exact p
/-! ### arguments and calls -/
theorem JA.nil : JA X I0 H0 W ctx mem [] (.ok ()) aNil := fun I H σ Q st p => w_nil (p I H [] (Fm.refl st.same) rfl)
theorem JA.cons {R : Hp → Hp → List V → δ → Prop} {m : Res δ} [MoA ra] (j : JE X I0 H0 W ctx mem e ma ra) (k : JA X I0 H0 W ctx mem es m R) (hs : starEach (e :: es) X.env = (false, eval e X.env) :: starEach es X.env := by rfl) :
    JA X I0 H0 W ctx mem (e :: es) (ma.bind fun x => m.bind fun y => .ok (x, y)) (aCons ra R) := fun I H σ Q st p => by
  refine Tr.w_cons (j I H σ _ st ?_) hs
  cases ma with
  | ok x =>
    intro I1 H1 v f1 r1
    refine k I1 H1 σ _ (st.step f1) ?_
    cases m with
    | ok y => exact fun I2 H2 vs f2 r2 => p I2 H2 _ (f1.trans f2) ⟨v, vs, rfl, MoA.up f2.i f2.h r1, r2⟩
    | err e => exact fun I2 H2 c d f2 x => p I2 H2 c d (f1.trans f2) ⟨x.1.back f1.h, x.2⟩
    | stuck => exact p
  | err e => exact p
  | stuck => exact p
variable {R : Hp → Hp → List V → δ → Prop} {md : Res δ} {g : δ → Res γ}
theorem JA.call (k : JA X I0 H0 W ctx mem es md R) {f : Value} (cj : CallJ X W f R g rc) {I H : Hp} {σ : St} {Q : VK} (st : Stt I0 H0 ctx mem I H σ) (p : PostE X.K (md.bind g) rc I H (fun cls d H' => W cls d σ H') Q) : wA X es σ H fun vs H1 => callW X f σ vs H1 Q := by
  refine k I H σ _ st ?_
  cases md with
  | ok x => exact fun I1 H1 vs f1 r1 => cj I1 H1 σ Q vs x f1.ih r1 (PostE.up p f1)
  | err e => exact p
  | stuck => exact p
/-- f(..), C(..) by a global name -/
theorem JE.call {f : Addr} (k : JA X I0 H0 W ctx mem (e :: es) md R) (cj : CallJ X W (.ref f) R g rc) (hm : X.mg n = some (.ref f)) (hk : PySem.W.keepIn X.K (.ref f) = true) (hg : Gl X n := by rfl) (hdb : (n == ("__debug__" : Str)) = false := by decide)
    (he : starEach (e :: es) X.env = (false, eval e X.env) :: starEach es X.env := by rfl) (hpl : (backTo pos (starEach es X.env)).any (·.1) = false := by rfl) : JE X I0 H0 W ctx mem (.Call (.Name n pos') (e :: es) [] pos) (md.bind g) rc := fun I H σ Q st p =>
  w_call (k.call cj st p) hm hk hg hdb he hpl
theorem JE.call0 {f : Addr} {g : Unit → Res γ} (cj : CallJ X W (.ref f) aNil g rc) (hm : X.mg n = some (.ref f)) (hk : PySem.W.keepIn X.K (.ref f) = true) (hg : Gl X n := by rfl) (hdb : (n == ("__debug__" : Str)) = false := by decide) : JE X I0 H0 W ctx mem (.Call (.Name n pos') [] [] pos) (g ()) rc := fun I H σ Q st p =>
  w_call0 (cj I H σ Q [] () st.same rfl p) hm hk hg hdb
/-- a built-in by its name -/
theorem JE.callB {id : String} (k : JA X I0 H0 W ctx mem (e :: es) md R) (cj : CallJ X W (.builtin id) R g rc) (hm : X.mg n = none) (hv : bootBuiltins n = some (.builtin id)) (hg : Gl X n := by rfl) (hn : n ≠ "__name__" := by decide) (hdb : (n == ("__debug__" : Str)) = false := by decide)
    (he : starEach (e :: es) X.env = (false, eval e X.env) :: starEach es X.env := by rfl) (hpl : (backTo pos (starEach es X.env)).any (·.1) = false := by rfl) : JE X I0 H0 W ctx mem (.Call (.Name n pos') (e :: es) [] pos) (md.bind g) rc := fun I H σ Q st p =>
  w_callB (k.call cj st p) hm hv hg hn hdb he hpl
theorem JE.callTy {T : String} (k : JA X I0 H0 W ctx mem (e :: es) md R) (cj : CallJ X W (.type T) R g rc) (hm : X.mg n = none) (hv : bootBuiltins n = some (.type T)) (hg : Gl X n := by rfl) (hn : n ≠ "__name__" := by decide) (hdb : (n == ("__debug__" : Str)) = false := by decide)
    (he : starEach (e :: es) X.env = (false, eval e X.env) :: starEach es X.env := by rfl) (hpl : (backTo pos (starEach es X.env)).any (·.1) = false := by rfl) : JE X I0 H0 W ctx mem (.Call (.Name n pos') (e :: es) [] pos) (md.bind g) rc := fun I H σ Q st p =>
  w_callTy (k.call cj st p) hm hv hg hn hdb he hpl
/-- what an instance must be for its methods -/
def InsOf (C : Addr) (r : Ra α) (m : Str) : Prop := ∀ I H v x, Same I H → r I H v x → ∃ a dx fs, v = .ref a ∧ H a = some (.ins C dx fs) ∧ fs.lookup m = none
theorem JE.meth {pl : Sem Bool} {m : Str} {C f : Addr} {apos : Pos} {g : α × δ → Res γ} [MoA ra] (j : JE X I0 H0 W ctx mem o ma ra) (hi : InsOf C ra m) (k : JA X I0 H0 W ctx mem (e :: es) md R) (cj : CallJ X W (.ref f) (aCons ra R) g rc) (c : Cls X.K C) (hm : Meth X.K C m f)
    (hst : starEach (e :: es) X.env = (false, eval e X.env) :: starEach es X.env := by rfl) (hpl : (backTo pos (starEach es X.env)).any (·.1) = false := by rfl)
    (ht : eval (.Call (.Attribute o m apos) (e :: es) [] pos) X.env = (do
      let ov ← eval o X.env
      standAt apos.atName
      let (f, first) ← holding [ov] (getMethod ov m pl)
      callWith pos f first (backTo pos (starEach (e :: es) X.env)) (backToKw pos (keywordEach [] X.env))) := by rfl) : JE X I0 H0 W ctx mem (.Call (.Attribute o m apos) (e :: es) [] pos) (ma.bind fun x => md.bind fun y => g (x, y)) rc := fun I H σ Q st p => by
  refine w_meth (j I H σ _ st ?_) c hm hst hpl ht
  cases ma with
  | ok x =>
    intro I1 H1 v f1 r1
    obtain ⟨a, dx, fs, ev, ha, hl⟩ := hi I1 H1 v x f1.ih r1
    refine ⟨a, dx, fs, ev, ha, hl, k I1 H1 σ _ (st.step f1) ?_⟩
    have p1 := PostE.up p f1
    cases md with
    | ok y => exact fun I2 H2 vs f2 r2 => cj I2 H2 σ Q (v :: vs) (x, y) f2.ih ⟨v, vs, rfl, MoA.up f2.i f2.h r1, r2⟩ (PostE.up p1 f2)
    | err e => exact p1
    | stuck => exact p1
  | err e => exact p
  | stuck => exact p
theorem JE.meth0 {pl : Sem Bool} {m : Str} {C f : Addr} {apos : Pos} {g : α × Unit → Res γ} (j : JE X I0 H0 W ctx mem o ma ra) (hi : InsOf C ra m) (cj : CallJ X W (.ref f) (aCons ra aNil) g rc) (c : Cls X.K C) (hm : Meth X.K C m f)
    (ht : eval (.Call (.Attribute o m apos) [] [] pos) X.env = (do
      let ov ← eval o X.env
      standAt apos.atName
      let (f, first) ← holding [ov] (getMethod ov m pl)
      callWith pos f first (backTo pos (starEach [] X.env)) (backToKw pos (keywordEach [] X.env))) := by rfl) : JE X I0 H0 W ctx mem (.Call (.Attribute o m apos) [] [] pos) (ma.bind fun x => g (x, ())) rc := fun I H σ Q st p => by
  refine w_meth0 (j I H σ _ st ?_) c hm ht
  cases ma with
  | ok x =>
    intro I1 H1 v f1 r1
    obtain ⟨a, dx, fs, ev, ha, hl⟩ := hi I1 H1 v x f1.ih r1
    exact ⟨a, dx, fs, ev, ha, hl, cj I1 H1 σ Q [v] (x, ()) f1.ih ⟨v, [], rfl, r1, rfl⟩ (PostE.up p f1)⟩
  | err e => exact p
  | stuck => exact p
/-- what a field is worth -/
def FldOf (K : PySem.W.Frag) (C : Addr) (r : Ra α) (f : Str) (get : α → β) (rf : Ra β) : Prop := ∀ I H v x, Same I H → r I H v x → ∃ a dx fs w, v = .ref a ∧ H a = some (.ins C dx fs) ∧ fs.lookup f = some w ∧ rf I H w (get x)
theorem JE.fld {C : Addr} {f : Str} {get : α → β} (j : JE X I0 H0 W ctx mem o ma ra) (hf : FldOf X.K C ra f get rb) (c : Cls X.K C) (hn : NoAttr X.K C f) (hb : attributeBase o f X.env (eval o X.env) = eval o X.env := by rfl) :
    JE X I0 H0 W ctx mem (.Attribute o f pos) (ma.bind fun x => .ok (get x)) rb := fun I H σ Q st p => by
  refine w_fld (j I H σ _ st ?_) hb
  cases ma with
  | ok x =>
    intro I1 H1 v f1 r1
    obtain ⟨a, dx, fs, w, ev, ha, hl, hw⟩ := hf I1 H1 v x f1.ih r1
    exact ⟨a, C, dx, fs, w, ev, ha, c, hn, hl, p I1 H1 w f1 hw⟩
  | err e => exact p
  | stuck => exact p
end

/-! ### statements -/
section
variable {α β γ δ S : Type}
abbrev Knows := Hp → Hp → St → Prop
abbrev KnowsX := Hp → Hp → St → Option Addr → Prop
def PostB (X : Cx) (W : WX) (Kx : KnowsX) (I : Hp) (m : Res S) (G : S → Knows) (D : Ends) : Prop := match m with
  | .ok s => ∀ I' H' σ', Same I I' → G s I' H' σ' → D.nx σ' H'
  | .err e => ∀ I' H' σ' cls d, Kx I' H' σ' d → ExR X.K I' H' e cls d → W cls d σ' H'
  | .stuck => False
def PostR (X : Cx) (I0 H0 : Hp) (W : WX) (Kx : KnowsX) (m : Res γ) (r : Ra γ) (D : Ends) : Prop := match m with
  | .ok y => ∀ I' H' v, Fm I0 H0 I' H' → r I' H' v y → D.rt v H'
  | .err e => ∀ I' H' σ' cls d, Kx I' H' σ' d → ExR X.K I' H' e cls d → W cls d σ' H'
  | .stuck => False
theorem PostB.up {X : Cx} {W : WX} {Kx : KnowsX} {I I1 : Hp} {m : Res S} {G : S → Knows} {D : Ends} (p : PostB X W Kx I m G D) (s : Same I I1) : PostB X W Kx I1 m G D := by
  cases m with
  | ok a => exact fun I' H' σ' q => p I' H' σ' (s.trans q)
  | err e => exact p
  | stuck => exact p
/-- one statement that goes on -/
def J1 (X : Cx) (W : WX) (Kx : KnowsX) (G : Knows) (st : Stmt) (m : Res S) (G' : S → Knows) : Prop := ∀ (I H : Hp) (σ : St) (D : Ends), G I H σ → PostB X W Kx I m G' D → wS X st D σ H
/-- a block that goes on -/
def JN (X : Cx) (W : WX) (Kx : KnowsX) (G : Knows) (ss : List Stmt) (m : Res S) (G' : S → Knows) : Prop := ∀ (I H : Hp) (σ : St) (D : Ends), G I H σ → PostB X W Kx I m G' D → wB X ss D σ H
/-- a block that ends the def -/
def JR (X : Cx) (I0 H0 : Hp) (W : WX) (Kx : KnowsX) (G : Knows) (ss : List Stmt) (m : Res γ) (r : Ra γ) : Prop := ∀ (I H : Hp) (σ : St) (D : Ends), G I H σ → PostR X I0 H0 W Kx m r D → wB X ss D σ H
variable {X : Cx} {I0 H0 : Hp} {W : WX} {Kx : KnowsX} {G : Knows} {ctx : List (Option SF)} {mem : List MF} {e a b c o : Expr} {es bs : List Expr} {st : Stmt} {ss s1 s2 : List Stmt} {pos pos' : Pos} {n : Str} {ra : Ra α} {rr : Ra γ} {ma : Res α} {mc : Res Bool}
theorem JN.nil {s : S} {G' : S → Knows} (h : ∀ I H σ, G I H σ → G' s I H σ) : JN X W Kx G [] (.ok s) G' := fun I H σ D g p => b_nil (p I H σ (Same.refl _) (h _ _ _ g))
theorem JN.seq {T : Type} {m : Res S} {G1 : S → Knows} {f : S → Res T} {G2 : T → Knows} (j : J1 X W Kx G st m G1) (k : ∀ s, JN X W Kx (G1 s) ss (f s) G2) : JN X W Kx G (st :: ss) (m.bind f) G2 := fun I H σ D g p => by
  refine b_cons (j I H σ _ g ?_)
  cases m with
  | ok s => exact fun I' H' σ' si g' => k s I' H' σ' D g' (PostB.up p si)
  | err e => exact p
  | stuck => exact p
theorem JN.last {m : Res S} {G1 : S → Knows} (j : J1 X W Kx G st m G1) : JN X W Kx G [st] m G1 := fun I H σ D g p => by
  refine b_cons (j I H σ _ g ?_)
  cases m with
  | ok s => exact fun I' H' σ' si g' => b_nil (p I' H' σ' si g')
  | err e => exact p
  | stuck => exact p
theorem JR.seq {m : Res S} {G1 : S → Knows} {f : S → Res γ} (j : J1 X W Kx G st m G1) (k : ∀ s, JR X I0 H0 W Kx (G1 s) ss (f s) rr) : JR X I0 H0 W Kx G (st :: ss) (m.bind f) rr := fun I H σ D g p => by
  refine b_cons (j I H σ _ g ?_)
  cases m with
  | ok s => exact fun I' H' σ' _ g' => k s I' H' σ' D g' p
  | err e => exact p
  | stuck => exact p
theorem JR.ret {m : Res γ} (j : JE X I0 H0 W ctx mem e m rr) (hx : ∀ I H σ d, Stt I0 H0 ctx mem I H σ → Fr H0 d → Kx I H σ d) : JR X I0 H0 W Kx (Stt I0 H0 ctx mem) (.Return (some e) pos :: ss) m rr := fun I H σ D g p => by
  refine b_cons (s_ret (j I H σ _ g ?_))
  cases m with
  | ok y => exact fun I' H' v f r => p I' H' v (g.fm.trans f) r
  | err e => exact fun I' H' c d f x => p I' H' σ c d (hx _ _ _ _ (g.step f) (x.1.back g.fm.h)) x.2
  | stuck => exact p
theorem JR.retN : JR X I0 H0 W Kx (Stt I0 H0 ctx mem) (.Return none pos :: ss) (.ok ()) (rp rNon) := fun I H σ D g p => b_cons (s_retN (p I H _ g.fm rfl))
theorem JR.ifR {m1 m2 : Res γ} (j : JT X I0 H0 W ctx mem c mc) (k1 : JR X I0 H0 W Kx (Stt I0 H0 ctx mem) s1 m1 rr) (k2 : JR X I0 H0 W Kx (Stt I0 H0 ctx mem) ss m2 rr) (hx : ∀ I H σ d, Stt I0 H0 ctx mem I H σ → Fr H0 d → Kx I H σ d) :
    JR X I0 H0 W Kx (Stt I0 H0 ctx mem) (.If c s1 [] pos :: ss) (mc.bind fun x => if x = true then m1 else m2) rr := fun I H σ D g p => by
  refine b_cons (s_if (j I H σ _ g ?_))
  cases mc with
  | ok x =>
    intro I1 H1 v f r y hy
    cases r; cases hy
    cases x with
    | true =>
      refine iteT (b_mono (k1 I1 H1 σ { D with nx := fun _ _ => False } (g.step f) ?_) (fun _ _ z => z.elim) (fun _ _ z => z) (fun _ _ z => z) (fun _ _ z => z))
      exact p
    | false => exact iteF (b_nil (k2 I1 H1 σ D (g.step f) p))
  | err e => exact fun I' H' c d f x => p I' H' σ c d (hx _ _ _ _ (g.step f) (x.1.back g.fm.h)) x.2
  | stuck => exact p
theorem JR.if2 {m1 m2 : Res γ} (j : JT X I0 H0 W ctx mem c mc) (k1 : JR X I0 H0 W Kx (Stt I0 H0 ctx mem) s1 m1 rr) (k2 : JR X I0 H0 W Kx (Stt I0 H0 ctx mem) s2 m2 rr) (hx : ∀ I H σ d, Stt I0 H0 ctx mem I H σ → Fr H0 d → Kx I H σ d) :
    JR X I0 H0 W Kx (Stt I0 H0 ctx mem) (.If c s1 s2 pos :: ss) (mc.bind fun x => if x = true then m1 else m2) rr := fun I H σ D g p => by
  refine b_cons (s_if (j I H σ _ g ?_))
  cases mc with
  | ok x =>
    intro I1 H1 v f r y hy
    cases r; cases hy
    cases x with
    | true => exact iteT (b_mono (k1 I1 H1 σ { D with nx := fun _ _ => False } (g.step f) p) (fun _ _ z => z.elim) (fun _ _ z => z) (fun _ _ z => z) (fun _ _ z => z))
    | false => exact iteF (b_mono (k2 I1 H1 σ { D with nx := fun _ _ => False } (g.step f) p) (fun _ _ z => z.elim) (fun _ _ z => z) (fun _ _ z => z) (fun _ _ z => z))
  | err e => exact fun I' H' c d f x => p I' H' σ c d (hx _ _ _ _ (g.step f) (x.1.back g.fm.h)) x.2
  | stuck => exact p
theorem J1.if {m1 m2 : Res S} {G' : S → Knows} (j : JT X I0 H0 W ctx mem c mc) (k1 : JN X W Kx (Stt I0 H0 ctx mem) s1 m1 G') (k2 : JN X W Kx (Stt I0 H0 ctx mem) s2 m2 G') (hx : ∀ I H σ d, Stt I0 H0 ctx mem I H σ → Fr H0 d → Kx I H σ d) :
    J1 X W Kx (Stt I0 H0 ctx mem) (.If c s1 s2 pos) (mc.bind fun x => if x = true then m1 else m2) G' := fun I H σ D g p => by
  refine s_if (j I H σ _ g ?_)
  cases mc with
  | ok x =>
    intro I1 H1 v f r y hy
    cases r; cases hy
    cases x with
    | true => exact iteT (k1 I1 H1 σ D (g.step f) (PostB.up p f.i))
    | false => exact iteF (k2 I1 H1 σ D (g.step f) (PostB.up p f.i))
  | err e => exact fun I' H' c d f x => p I' H' σ c d (hx _ _ _ _ (g.step f) (x.1.back g.fm.h)) x.2
  | stuck => exact p
theorem J1.set (i : Nat) {r : Rp α} [Mo r] {m : Res α} (j : JE X I0 H0 W ctx mem e m (rp r)) (hx : ∀ I H σ d, Stt I0 H0 ctx mem I H σ → Fr H0 d → Kx I H σ d) (hN : X.N.Nodup) (hi : X.N[i]? = some n := by rfl) (hl : Loc X.env.scope n := by first | exact Or.inl rfl | exact Or.inr rfl) (hs : swapsWith e (some (.Name n pos')) pos.line X.env = pure false := by rfl)
    (hf : X.fn n = true ∨ X.env.scope.names.lookup n = some .local := by first | exact .inl rfl | exact .inr rfl | assumption) : J1 X W Kx (Stt I0 H0 ctx mem) (.Assign [.Name n pos'] e pos) m (fun x => Stt I0 H0 (ctx.set i (some ⟨r, x⟩)) mem) := fun I H σ D g p => by
  refine s_set i (j I H σ _ g ?_) hN hi hl hs hf
  cases m with
  | ok x => exact fun I' H' v f h => p I' H' _ f.i ((g.step f).set i h)
  | err e => exact fun I' H' c d f x => p I' H' σ c d (hx _ _ _ _ (g.step f) (x.1.back g.fm.h)) x.2
  | stuck => exact p
theorem J1.expr {m : Res α} (j : JE X I0 H0 W ctx mem e m ra) (hx : ∀ I H σ d, Stt I0 H0 ctx mem I H σ → Fr H0 d → Kx I H σ d) (hs : swapsWith e none pos.line X.env = pure false := by rfl) : J1 X W Kx (Stt I0 H0 ctx mem) (.Expr e pos) m (fun _ => Stt I0 H0 ctx mem) := fun I H σ D g p => by
  refine s_expr (j I H σ _ g ?_) hs
  cases m with
  | ok x => exact fun I' H' v f h => p I' H' σ f.i (g.step f)
  | err e => exact fun I' H' c d f x => p I' H' σ c d (hx _ _ _ _ (g.step f) (x.1.back g.fm.h)) x.2
  | stuck => exact p
/-- a block that ends by itself: the def hands back None -/
theorem JR.end {m : Res S} {G' : S → Knows} {f : S → Res γ} (j : JN X W Kx G ss m G') : True := trivial
end
end L2.Tr

namespace L2.Tr
open PySem PySem.Spec PyProof.Rows
section
variable {α β γ δ S : Type} {X : Cx} {W : WX}
/-! ### ints -/
def mulI (x y : Int) : Res Int := Res.guard (x.natAbs.log2 + y.natAbs.log2 < 1000000) (.ok (x * y))
def modI (x y : Int) : Res Int := Res.guard (y ≠ 0) (.ok (x.fmod y))
def fdivI (x y : Int) : Res Int := Res.guard (y ≠ 0 ∧ y.natAbs.log2 < 9000) (.ok (x.fdiv y))
def powI (x y : Int) : Res Int := Res.guard (0 ≤ y ∧ y ≤ 1000000 ∧ x.natAbs < 2 ^ 64) (.ok (x ^ y.toNat))
theorem post_guard {p : Prop} [Decidable p] {m : Res α} {K : PySem.W.Frag} {r : Ra α} {I H : Hp} {E : XK} {Q : VK} (h : PostE K (Res.guard p m) r I H E Q) : p ∧ PostE K m r I H E Q := by
  unfold Res.guard at h
  by_cases q : p
  · rw [if_pos q] at h; exact ⟨q, h⟩
  · rw [if_neg q] at h; exact False.elim h
theorem op_fdivV : OpR X (binaryOp .FloorDiv) (rI (fun _ j => j ≠ 0 ∧ j.natAbs.log2 < 9000) fun i j => .int (i.fdiv j)) := opI fun i j _ _ _ _ _ hc q => floordiv_int hc.1 q (.inl (PyProof.noPylong_of_log2 hc.2))
theorem opj_add : OpJ X W (binaryOp .Add) (rp rInt) (rp rInt) (fun x y => .ok (x + y)) (rp rInt) := fun I H σ Q u v x y s a b p => OpR.w op_add ⟨x, y, a, b, p I H _ (Fm.refl s) rfl⟩
theorem opj_sub : OpJ X W (binaryOp .Sub) (rp rInt) (rp rInt) (fun x y => .ok (x - y)) (rp rInt) := fun I H σ Q u v x y s a b p => OpR.w op_sub ⟨x, y, a, b, p I H _ (Fm.refl s) rfl⟩
theorem opj_mul : OpJ X W (binaryOp .Mult) (rp rInt) (rp rInt) (fun x y => mulI x y) (rp rInt) := fun I H σ Q u v x y s a b p => OpR.w op_mulW ⟨x, y, a, b, (post_guard p).1, (post_guard p).2 I H _ (Fm.refl s) rfl⟩
theorem opj_mod : OpJ X W (binaryOp .Mod) (rp rInt) (rp rInt) (fun x y => modI x y) (rp rInt) := fun I H σ Q u v x y s a b p => OpR.w op_modN ⟨x, y, a, b, (post_guard p).1, (post_guard p).2 I H _ (Fm.refl s) rfl⟩
theorem opj_fdiv : OpJ X W (binaryOp .FloorDiv) (rp rInt) (rp rInt) (fun x y => fdivI x y) (rp rInt) := fun I H σ Q u v x y s a b p => OpR.w op_fdivV ⟨x, y, a, b, (post_guard p).1, (post_guard p).2 I H _ (Fm.refl s) rfl⟩
theorem opj_pow : OpJ X W (binaryOp .Pow) (rp rInt) (rp rInt) (fun x y => powI x y) (rp rInt) := fun I H σ Q u v x y s a b p => OpR.w op_pow ⟨x, y, a, b, (post_guard p).1, (post_guard p).2 I H _ (Fm.refl s) rfl⟩
theorem opj_lt : OpJ X W (compareOp .Lt) (rp rInt) (rp rInt) (fun x y => .ok (decide (x < y))) (rp rBl) := fun I H σ Q u v x y s a b p => OpR.w op_lt ⟨x, y, a, b, p I H _ (Fm.refl s) rfl⟩
theorem opj_le : OpJ X W (compareOp .LtE) (rp rInt) (rp rInt) (fun x y => .ok (decide (x ≤ y))) (rp rBl) := fun I H σ Q u v x y s a b p => OpR.w op_le ⟨x, y, a, b, p I H _ (Fm.refl s) rfl⟩
theorem opj_gt : OpJ X W (compareOp .Gt) (rp rInt) (rp rInt) (fun x y => .ok (decide (y < x))) (rp rBl) := fun I H σ Q u v x y s a b p => OpR.w op_gt ⟨x, y, a, b, p I H _ (Fm.refl s) rfl⟩
theorem opj_ge : OpJ X W (compareOp .GtE) (rp rInt) (rp rInt) (fun x y => .ok (decide (y ≤ x))) (rp rBl) := fun I H σ Q u v x y s a b p => OpR.w op_ge ⟨x, y, a, b, p I H _ (Fm.refl s) rfl⟩
theorem decV {a b : Int} : decide (V.int a = V.int b) = decide (a = b) := by by_cases h : a = b <;> simp [h]
theorem decB {a b : Bool} : decide (V.bl a = V.bl b) = decide (a = b) := by by_cases h : a = b <;> simp [h]
theorem decS {a b : Str} : decide (V.str a = V.str b) = decide (a = b) := by by_cases h : a = b <;> simp [h]
theorem opj_eq : OpJ X W (compareOp .Eq) (rp rInt) (rp rInt) (fun x y => .ok (decide (x = y))) (rp rBl) := fun I H σ Q u v x y s a b p => by
  cases a; cases b
  exact OpR.w op_eq ⟨rfl, p I H _ (Fm.refl s) (by rw [decV]; rfl)⟩
theorem opj_ne : OpJ X W (compareOp .NotEq) (rp rInt) (rp rInt) (fun x y => .ok (!decide (x = y))) (rp rBl) := fun I H σ Q u v x y s a b p => by
  cases a; cases b
  exact OpR.w op_ne ⟨rfl, p I H _ (Fm.refl s) (by rw [decV]; rfl)⟩
theorem opj_eqB : OpJ X W (compareOp .Eq) (rp rBl) (rp rBl) (fun x y => .ok (decide (x = y))) (rp rBl) := fun I H σ Q u v x y s a b p => by
  cases a; cases b
  exact OpR.w op_eq ⟨rfl, p I H _ (Fm.refl s) (by rw [decB]; rfl)⟩
theorem opj_neB : OpJ X W (compareOp .NotEq) (rp rBl) (rp rBl) (fun x y => .ok (!decide (x = y))) (rp rBl) := fun I H σ Q u v x y s a b p => by
  cases a; cases b
  exact OpR.w op_ne ⟨rfl, p I H _ (Fm.refl s) (by rw [decB]; rfl)⟩
theorem opj_eqS : OpJ X W (compareOp .Eq) (rp rStr) (rp rStr) (fun x y => .ok (decide (x = y))) (rp rBl) := fun I H σ Q u v x y s a b p => by
  cases a; cases b
  exact OpR.w op_eq ⟨rfl, p I H _ (Fm.refl s) (by rw [decS]; rfl)⟩
theorem opj_neS : OpJ X W (compareOp .NotEq) (rp rStr) (rp rStr) (fun x y => .ok (!decide (x = y))) (rp rBl) := fun I H σ Q u v x y s a b p => by
  cases a; cases b
  exact OpR.w op_ne ⟨rfl, p I H _ (Fm.refl s) (by rw [decS]; rfl)⟩
theorem unj_neg : UnJ X W (unaryOp .USub) (rp rInt) (fun x => .ok (-x)) (rp rInt) := fun I H σ Q u x s a p => UnR.w un_neg ⟨x, a, p I H _ (Fm.refl s) rfl⟩
abbrev R1 (r : Ra α) := aCons r aNil
abbrev R2' (r : Ra α) (r' : Ra β) := aCons r (aCons r' aNil)
theorem cj_abs : CallJ X W (.builtin "abs") (R1 (rp rInt)) (fun d => .ok (if d.1 < 0 then -d.1 else d.1)) (rp rInt) := fun I H σ Q vs x s a p => by
  obtain ⟨v, ws, rfl, h, rfl⟩ := a
  exact CallR.w call_abs ⟨x.1, by rw [show v = _ from h], p I H _ (Fm.refl s) rfl⟩
theorem cj_int : CallJ X W (.type "int") (R1 (rp rInt)) (fun d => .ok d.1) (rp rInt) := fun I H σ Q vs x s a p => by
  obtain ⟨v, ws, rfl, h, rfl⟩ := a
  exact CallR.w call_int1 (.inl ⟨x.1, by rw [show v = _ from h], p I H _ (Fm.refl s) rfl⟩)
theorem cj_intB : CallJ X W (.type "int") (R1 (rp rBl)) (fun d => .ok (if d.1 = true then 1 else 0)) (rp rInt) := fun I H σ Q vs x s a p => by
  obtain ⟨v, ws, rfl, h, rfl⟩ := a
  exact CallR.w call_int1 (.inr ⟨x.1, by rw [show v = _ from h], p I H _ (Fm.refl s) rfl⟩)
theorem cj_bool : CallJ X W (.type "bool") (R1 (rp rBl)) (fun d => .ok d.1) (rp rBl) := fun I H σ Q vs x s a p => by
  obtain ⟨v, ws, rfl, h, rfl⟩ := a
  exact CallR.w call_bool1 (.inr ⟨x.1, by rw [show v = _ from h], p I H _ (Fm.refl s) rfl⟩)
theorem cj_max (hc : X.calm = true) : CallJ X W (.builtin "max") (R2' (rp rInt) (rp rInt)) (fun d => .ok (if d.2.1 > d.1 then d.2.1 else d.1)) (rp rInt) := fun I H σ Q vs x s a p => by
  obtain ⟨v, ws, rfl, h, v', ws', rfl, h', rfl⟩ := a
  exact CallR.w (call_max2 hc) ⟨x.1, x.2.1, by rw [show v = _ from h, show v' = _ from h'], p I H _ (Fm.refl s) rfl⟩
theorem cj_min (hc : X.calm = true) : CallJ X W (.builtin "min") (R2' (rp rInt) (rp rInt)) (fun d => .ok (if d.2.1 < d.1 then d.2.1 else d.1)) (rp rInt) := fun I H σ Q vs x s a p => by
  obtain ⟨v, ws, rfl, h, v', ws', rfl, h', rfl⟩ := a
  exact CallR.w (call_min2 hc) ⟨x.1, x.2.1, by rw [show v = _ from h, show v' = _ from h'], p I H _ (Fm.refl s) rfl⟩
theorem cj_len {r : Ra α} : CallJ X W (.builtin "len") (R1 (rdL X.K r)) (fun d => .ok (d.1.length : Int)) (rp rInt) := fun I H σ Q vs x s a p => by
  obtain ⟨v, ws, rfl, ⟨l, vs, rfl, hl, pr⟩, rfl⟩ := a
  exact CallR.w call_len ⟨_, vs.length, rfl, .inl ⟨vs, hl, rfl⟩, by rw [Paired.length pr]; exact p I H _ (Fm.refl s) rfl⟩

/-! ### lists -/
/-- a frozen list, a parameter's list: readable -/
theorem rL_rd {r : Rp α} {K : PySem.W.Frag} {I H : Hp} {v : V} {xs : List α} (s : Same I H) (h : rL r I v xs) : rdL K (rp r) I H v xs := by
  obtain ⟨l, vs, rfl, e, p⟩ := h
  exact ⟨l, vs, rfl, SqL.of (s _ _ e), p⟩
/-- the index i of a list, any sign -/
def atM (xs : List α) (i : Int) : Res α := match atI xs i with
  | some x => .ok x
  | none => .stuck
theorem paired_get {F : α → β → Prop} : ∀ {xs : List α} {ys : List β} {i : Nat} {y : β}, Paired F xs ys → ys[i]? = some y → ∃ x, xs[i]? = some x ∧ F x y
  | _, _, _, _, .nil, e => by simp at e
  | _, _, 0, _, .cons r _, e => by simp at e; subst e; exact ⟨_, rfl, r⟩
  | _, _, i + 1, y, .cons _ t, e => by
    obtain ⟨u, h1, h2⟩ := paired_get (i := i) (y := y) t (by simpa using e)
    exact ⟨u, by simpa using h1, h2⟩
end
end L2.Tr

namespace L2.Tr
open PySem PySem.Spec PyProof.Rows
section
variable {α β γ δ S : Type} {X : Cx} {I0 H0 : Hp} {W : WX} {ctx : List (Option SF)} {mem : List MF} {e a b c o : Expr} {es bs : List Expr} {pos pos' : Pos} {n : Str} {ra : Ra α} {rb : Ra β} {rc : Ra γ} {ma : Res α} {mb : Res β}
/-! ### subscripts, displays -/
theorem atI_pair {F : α → β → Prop} {xs : List α} {ys : List β} {i : Int} {y : β} (p : Paired F xs ys) (h : atI ys i = some y) : ∃ x, atI xs i = some x ∧ F x y := by
  unfold atI at h ⊢
  rw [Paired.length p]
  cases e : ixN ys.length i with
  | none => rw [e] at h; cases h
  | some j => rw [e] at h; exact paired_get p h
theorem JE.ix {r : Ra α} {m : Res (List α)} {mi : Res Int} [MoA r] (ja : JE X I0 H0 W ctx mem a m (rdL X.K r)) (jb : JE X I0 H0 W ctx mem b mi (rp rInt)) (hs : PlainIx b := by exact fun _ _ => rfl) :
    JE X I0 H0 W ctx mem (.Subscript a b pos) (m.bind fun xs => mi.bind fun i => atM xs i) r := fun I H σ Q st p => by
  refine PE.w (pe_ix ix_list pe_W pe_W hs) (ja I H σ _ st ?_)
  cases m with
  | ok xs =>
    intro I1 H1 u f1 r1
    refine jb I1 H1 σ _ (st.step f1) ?_
    have p1 := PostE.up p f1
    cases mi with
    | ok i =>
      intro I2 H2 v f2 r2
      obtain ⟨l, vs, rfl, hl, pr⟩ := MoA.up (r := rdL X.K r) f2.i f2.h r1
      have p2 : PostE X.K (atM xs i) r I2 H2 _ Q := PostE.up p1 f2
      unfold atM at p2
      cases e : atI xs i with
      | none => rw [e] at p2; exact p2.elim
      | some x =>
        rw [e] at p2
        obtain ⟨w, ew, hw⟩ := atI_pair pr e
        exact ⟨l, vs, i, w, rfl, r2, hl, ew, p2 I2 H2 w (Fm.refl f2.ih) hw⟩
    | err e => exact p1
    | stuck => exact p1
  | err e => exact p
  | stuck => exact p
def lR (n : Nat) (r : Ra α) : Hp → Hp → List V → List α → Prop := fun I H vs xs => vs.length = n ∧ Paired (r I H) vs xs
theorem JA.nilL {r : Ra α} : JA X I0 H0 W ctx mem [] (.ok []) (lR 0 r) := fun I H σ Q st p => w_nil (p I H [] (Fm.refl st.same) ⟨rfl, .nil⟩)
theorem JA.consL {k : Nat} {r : Ra α} {m : Res (List α)} [MoA r] (j : JE X I0 H0 W ctx mem e ma r) (jk : JA X I0 H0 W ctx mem es m (lR k r)) (hs : starEach (e :: es) X.env = (false, eval e X.env) :: starEach es X.env := by rfl) :
    JA X I0 H0 W ctx mem (e :: es) (ma.bind fun x => m.bind fun y => .ok (x :: y)) (lR (k + 1) r) := fun I H σ Q st p => by
  refine Tr.w_cons (j I H σ _ st ?_) hs
  cases ma with
  | ok x =>
    intro I1 H1 v f1 r1
    refine jk I1 H1 σ _ (st.step f1) ?_
    cases m with
    | ok y => exact fun I2 H2 vs f2 r2 => p I2 H2 _ (f1.trans f2) ⟨by rw [List.length_cons, r2.1], .cons (MoA.up f2.i f2.h r1) r2.2⟩
    | err e => exact fun I2 H2 c d f2 x => p I2 H2 c d (f1.trans f2) ⟨x.1.back f1.h, x.2⟩
    | stuck => exact p
  | err e => exact p
  | stuck => exact p
/-- [..], frozen at once -/
theorem JE.lst {k : Nat} {r : Rp α} {m : Res (List α)} [mo : Mo r] (j : JA X I0 H0 W ctx mem es m (lR k (rp r))) (hk : k ≤ sizeLine := by decide) : JE X I0 H0 W ctx mem (.List es pos) m (rp (rL r)) := fun I H σ Q st p => by
  refine w_lst (j I H σ _ st ?_)
  cases m with
  | ok xs => exact fun I1 H1 vs f1 r1 => ⟨by rw [r1.1]; exact hk, fun q hq => p _ _ _ (f1.trans (Fm.new f1.ih hq)) ⟨q, vs, rfl, upd_same, Paired.mapP r1.2 fun _ _ z => mo.up (Fm.new (o := .lst vs) f1.ih hq).i z⟩⟩
  | err e => exact p
  | stuck => exact p
theorem JE.tup {k : Nat} {r : Rp α} {m : Res (List α)} {x1} [mo : Mo r] (j : JA X I0 H0 W ctx mem es m (lR k (rp r))) (hk : k ≤ sizeLine := by decide) : JE X I0 H0 W ctx mem (.Tuple es x1 pos) m (rp (rT r)) := fun I H σ Q st p => by
  refine w_tup (j I H σ _ st ?_)
  cases m with
  | ok xs => exact fun I1 H1 vs f1 r1 => ⟨by rw [r1.1]; exact hk, fun q hq => p _ _ _ (f1.trans (Fm.new f1.ih hq)) ⟨q, vs, rfl, upd_same, Paired.mapP r1.2 fun _ _ z => mo.up (Fm.new (o := .tup vs) f1.ih hq).i z⟩⟩
  | err e => exact p
  | stuck => exact p
/-- a frozen list as a readable one -/
theorem JE.rd {r : Rp α} {m : Res (List α)} (j : JE X I0 H0 W ctx mem e m (rp (rL r))) : JE X I0 H0 W ctx mem e m (rdL X.K (rp r)) := j.co fun _ _ _ _ s h => rL_rd s h
/-! ### lists of ints compared -/
theorem eqvAll_ints : ∀ xs ys : List Int, PyData.eqvAll (xs.map .int) (ys.map .int) = decide (xs = ys)
  | [], [] => rfl
  | [], _ :: _ => rfl
  | _ :: _, [] => rfl
  | x :: xs, y :: ys => by
    show (PyData.eqv (.int x) (.int y) && PyData.eqvAll (xs.map .int) (ys.map .int)) = _
    rw [eqvAll_ints xs ys]
    show ((x == y) && _) = _
    by_cases h : x = y <;> by_cases h' : xs = ys <;> simp [h, h']
theorem dpAll_ints {K : PySem.W.Frag} {I H : Hp} : ∀ {vs : List V} {xs : List Int}, Paired (rp rInt I H) vs xs → DpAll K H vs (xs.map .int)
  | _, _, .nil => .nil
  | _, _, .cons h t => .cons (by rw [show _ = V.int _ from h]; exact .int _) (dpAll_ints t)
theorem shaped_ints (xs : List Int) : SeqAt.shaped (.list (xs.map .int)) = true := by
  have h1 : ∀ xs : List Int, PyData.canLayAll0 (xs.map .int) = true := fun xs => by
    induction xs with
    | nil => rfl
    | cons x xs ih => show (true && _) = true; rw [ih]; rfl
  have h2 : PyData.depth (.list (xs.map .int)) ≤ 64 := by
    have : ∀ xs : List Int, PyData.depthAll (xs.map .int) ≤ 1 := fun xs => by
      induction xs with
      | nil => exact Nat.zero_le _
      | cons x xs ih =>
        show max _ _ ≤ 1
        exact Nat.max_le.mpr ⟨by first | exact Nat.le_refl _ | exact Nat.zero_le _ | (simp [PyData.depth]), ih⟩
    have := this xs
    first | (show _ + 1 ≤ 64; omega) | (simp [PyData.depth]; omega)
  unfold SeqAt.shaped
  rw [decide_eq_true h2]
  show (PyData.canLayAll0 _ && true) = true
  rw [h1]; rfl
end
end L2.Tr

namespace L2.Tr
open PySem PySem.Spec PyProof.Rows
section
variable {α β γ δ S : Type} {X : Cx} {I0 H0 : Hp} {W : WX} {ctx : List (Option SF)} {mem : List MF} {e a b c o : Expr} {es bs : List Expr} {pos pos' : Pos} {n : Str} {ra : Ra α} {rb : Ra β} {rc : Ra γ} {ma : Res α} {mb : Res β}
theorem opj_eqL (hu : X.A.units + 64 < cLine) : OpJ X W (compareOp .Eq) (rdL X.K (rp rInt)) (rdL X.K (rp rInt)) (fun x y => .ok (decide (x = y))) (rp rBl) := fun I H σ Q u v x y s ⟨l, vs, e1, h1, p1⟩ ⟨l', vs', e2, h2, p2⟩ p => by
  subst e1; subst e2
  exact OpR.w (op_eqD hu) ⟨.list (x.map .int), .list (y.map .int), .lst h1 (dpAll_ints p1), .lst h2 (dpAll_ints p2), shaped_ints _, shaped_ints _, p I H _ (Fm.refl s) (by show V.bl (PyData.eqvAll _ _) = _; rw [eqvAll_ints])⟩
theorem opj_neL (hu : X.A.units + 64 < cLine) : OpJ X W (compareOp .NotEq) (rdL X.K (rp rInt)) (rdL X.K (rp rInt)) (fun x y => .ok (!decide (x = y))) (rp rBl) := fun I H σ Q u v x y s ⟨l, vs, e1, h1, p1⟩ ⟨l', vs', e2, h2, p2⟩ p => by
  subst e1; subst e2
  exact OpR.w (op_neD hu) ⟨.list (x.map .int), .list (y.map .int), .lst h1 (dpAll_ints p1), .lst h2 (dpAll_ints p2), shaped_ints _, shaped_ints _, p I H _ (Fm.refl s) (by show V.bl (!PyData.eqvAll _ _) = _; rw [eqvAll_ints])⟩

/-! ### own operators -/
/-- facts of an own class for its operators and isinstance -/
structure OCls (K : PySem.W.Frag) (C : Addr) : Prop where
  cl : Cls K C
  sf : PySem.W.selfFirst K C = true
  ca : PySem.W.findIn K (.ref C) "__class__" = some (some (.builtin "object.__class__"))
  cn : PySem.W.specialIn K (.builtin "object.__class__") "__get__" = some (some (.builtin "getset_descriptor.__get__"))
  ct : PySem.W.takesIn K (.builtin "object.__class__") = some true
  cm : PySem.W.mroIn K C (.type "object") = some true
  ni : PySem.W.subIn K (.ref C) (.type "int") = some false
  in_ : PySem.W.subIn K (.type "int") (.ref C) = some false
  ne : PySem.W.findIn K (.ref C) "__ne__" = some (some (.builtin "object.__ne__"))
structure OMet (K : PySem.W.Frag) (C : Addr) (m : Str) (f : Addr) : Prop where
  at_ : PySem.W.findIn K (.ref C) m = some (some (.ref f))
  fn : PySem.W.isFn K (.ref f) = true
def InsR (C : Addr) (r : Ra α) : Prop := ∀ I H v x, Same I H → r I H v x → ∃ a dx fs, v = .ref a ∧ H a = some (.ins C dx fs)
theorem insAt {pins : List (Addr × Obj)} {σ : St} {H : Hp} {s : Shared} {x C dx : Addr} {fs : List (Str × V)} (I : Inv X pins σ H s) (h : H x = some (.ins C dx fs)) : ∃ od, PySem.W.InstAt s.heap x (PySem.W.instObj C dx) C (some od) := by
  obtain ⟨mA, O, _⟩ := ins_get I.hok h
  obtain ⟨od, J, _⟩ := O.look
  exact ⟨od, J⟩
theorem cmpback' {v : V} {u : Value} {s : Shared} {Q : Value → Shared → Prop} (r : RelV v u) (h : Q u s) : PySem.W.CmpBack Q u s := by
  cases v with
  | non => cases (show u = Value.none from r); exact h
  | bl b => cases (show u = Value.bool b from r); exact h
  | int i => obtain ⟨t, e⟩ := (show ∃ t, u = Value.int i t from r); cases e; exact h
  | str x => obtain ⟨t, e⟩ := (show ∃ t, u = Value.str x t from r); cases e; exact h
  | byt b => obtain ⟨t, e⟩ := (show ∃ t, u = Value.bytes b t from r); cases e; exact h
  | flt b => obtain ⟨t, e⟩ := (show ∃ t, u = Value.float b t from r); cases e; exact h
  | ref a => cases (show u = Value.ref a from r); exact h
  | ty n => cases (show u = Value.type n from r); exact h
theorem back_W {f : Addr} {σ : St} {vs : List V} {H : Hp} {Q : VK} (h : callW X (.ref f) σ vs H Q) {pins : List (Addr × Obj)} {s : Shared} {us : List Value} (I : Inv X pins σ H s) (r : Vals vs us) :
    wpAny (model X.prog X.w) X.A (call (.ref f) us) (PySem.W.CmpBack (EP X pins σ Q)) X.xe s := thn (h pins s us I r) fun u s' ⟨v, H', I', rv, q⟩ => cmpback' rv ⟨v, H', I', rv, q⟩
/-- x op y, both of the class -/
theorem opj_own {op : Operator} {C f : Addr} {g : α × β × Unit → Res γ} (hc : OCls X.K C) (hm : OMet X.K C (PySem.dunder op.info.2) f) (ia : InsR C ra) (ib : InsR C rb) (cj : CallJ X W (.ref f) (R2' ra rb) g rc) :
    OpJ X W (binaryOp op) ra rb (fun x y => g (x, y, ())) rc := fun I H σ Q u v x y s a b p pins sh uu vv Iv ru rv => by
  obtain ⟨au, dx, fs, rfl, hu⟩ := ia I H u x s a
  obtain ⟨av, dy, gs, rfl, hv⟩ := ib I H v y s b
  cases (show uu = Value.ref au from ru)
  cases (show vv = Value.ref av from rv)
  obtain ⟨od, J⟩ := insAt Iv hu
  obtain ⟨od', J'⟩ := insAt Iv hv
  obtain ⟨m, hF⟩ := Iv.fr
  exact PySem.W.binop_K hF Iv.ok.mod.kin J J'.type hc.sf hm.at_ hm.fn (back_W (cj I H σ Q [.ref au, .ref av] (x, y, ()) s ⟨_, _, rfl, a, _, _, rfl, b, rfl⟩ p) Iv (.cons rfl (.cons rfl .nil)))
/-- x op n, n an int -/
theorem opj_ownI {op : Operator} {C f f' : Addr} {g : α × Int × Unit → Res γ} {fo ro : Option Value} (hc : OCls X.K C) (hm : OMet X.K C (PySem.dunder op.info.2) f) (hr : OMet X.K C (dunderR op.info.2) f') (h1 : PySem.W.findIn X.K (.type "int") (PySem.dunder op.info.2) = some fo) (h2 : PySem.W.findIn X.K (.type "int") (dunderR op.info.2) = some ro)
    (ia : InsR C ra) (cj : CallJ X W (.ref f) (R2' ra (rp rInt)) g rc) : OpJ X W (binaryOp op) ra (rp rInt) (fun x y => g (x, y, ())) rc := fun I H σ Q u v x y s a b p pins sh uu vv Iv ru rv => by
  obtain ⟨au, dx, fs, rfl, hu⟩ := ia I H u x s a
  cases (show uu = Value.ref au from ru)
  cases (show v = V.int y from b)
  obtain ⟨t, e⟩ := (show ∃ t, vv = Value.int y t from rv)
  cases e
  obtain ⟨od, J⟩ := insAt Iv hu
  obtain ⟨m, hF⟩ := Iv.fr
  exact PySem.W.ksp_binT (T := "int") hF Iv.ok.mod.kin J rfl hc.sf hm.at_ hm.fn hr.at_ (.inr ⟨_, rfl⟩) h1 h2 hc.in_ (back_W (cj I H σ Q [.ref au, .int y] (x, y, ()) s ⟨_, _, rfl, a, _, _, rfl, rfl, rfl⟩ p) Iv (.cons rfl (.cons ⟨_, rfl⟩ .nil)))
/-- n op x, n an int: the reflected method -/
theorem opj_ownR {op : Operator} {C f f' : Addr} {g : α × Int × Unit → Res γ} {sl id : String} {gi : Int → Int → Sem Fin} (hc : OCls X.K C) (hm : OMet X.K C (PySem.dunder op.info.2) f) (hr : OMet X.K C (dunderR op.info.2) f')
    (fills : fillsNumberSlot (.type "int") op.info.2 = pure true) (slot : Slot "int" (PySem.dunder op.info.2) id) (entry : entryFor table id = some (Builtin.Int.intBinary sl gi)) (args : ∀ a b, argsOk id ⟨[a, b], []⟩)
    (ia : InsR C ra) (cj : CallJ X W (.ref f') (R2' ra (rp rInt)) g rc) : OpJ X W (binaryOp op) (rp rInt) ra (fun x y => g (y, x, ())) rc := fun I H σ Q u v x y s a b p pins sh uu vv Iv ru rv => by
  obtain ⟨av, dx, fs, rfl, hv⟩ := ia I H v y s b
  cases (show vv = Value.ref av from rv)
  cases (show u = V.int x from a)
  obtain ⟨t, e⟩ := (show ∃ t, uu = Value.int x t from ru)
  cases e
  obtain ⟨od, J⟩ := insAt Iv hv
  exact PySem.W.tr_binR (fo := .none) Iv.kIn J hc.sf hm.at_ hr.at_ hr.fn fills hc.ni slot entry args (back_W (cj I H σ Q [.ref av, .int x] (y, x, ()) s ⟨_, _, rfl, b, _, _, rfl, rfl, rfl⟩ p) Iv (.cons rfl (.cons ⟨_, rfl⟩ .nil)))
theorem opj_addR {C f f' : Addr} {g : α × Int × Unit → Res γ} (hc : OCls X.K C) (hm : OMet X.K C "__add__" f) (hr : OMet X.K C "__radd__" f') (ia : InsR C ra) (cj : CallJ X W (.ref f') (R2' ra (rp rInt)) g rc) : OpJ X W (binaryOp .Add) (rp rInt) ra (fun x y => g (y, x, ())) rc :=
  opj_ownR (op := .Add) (sl := "__add__") hc hm hr F.fills_int_add F.slot_int_add F.entry_int_add F.args_int_add_2 ia cj
theorem opj_subR {C f f' : Addr} {g : α × Int × Unit → Res γ} (hc : OCls X.K C) (hm : OMet X.K C "__sub__" f) (hr : OMet X.K C "__rsub__" f') (ia : InsR C ra) (cj : CallJ X W (.ref f') (R2' ra (rp rInt)) g rc) : OpJ X W (binaryOp .Sub) (rp rInt) ra (fun x y => g (y, x, ())) rc :=
  opj_ownR (op := .Sub) (sl := "__sub__") hc hm hr F.fills_int_sub F.slot_int_sub F.entry_int_sub F.args_int_sub_2 ia cj
theorem opj_mulR {C f f' : Addr} {g : α × Int × Unit → Res γ} (hc : OCls X.K C) (hm : OMet X.K C "__mul__" f) (hr : OMet X.K C "__rmul__" f') (ia : InsR C ra) (cj : CallJ X W (.ref f') (R2' ra (rp rInt)) g rc) : OpJ X W (binaryOp .Mult) (rp rInt) ra (fun x y => g (y, x, ())) rc :=
  opj_ownR (op := .Mult) (sl := "__mul__") hc hm hr F.fills_int_mul F.slot_int_mul F.entry_int_mul F.args_int_mul_2 ia cj
/-! comparisons -/
theorem opj_cmp {op : CmpOp} {C f : Addr} {g : α × β × Unit → Res γ} (hop : ∀ a b, compareOp op a b = richCompare op a b) (hc : OCls X.K C) (hm : OMet X.K C (cmpInfo op).2.1 f) (hu : X.A.units < cLine) (hn : PySem.W.notFirst X.K C (.ref C) = true) (ia : InsR C ra) (ib : InsR C rb) (cj : CallJ X W (.ref f) (R2' ra rb) g rc) :
    OpJ X W (compareOp op) ra rb (fun x y => g (x, y, ())) rc := fun I H σ Q u v x y s a b p pins sh uu vv Iv ru rv => by
  obtain ⟨au, dx, fs, rfl, hu'⟩ := ia I H u x s a
  obtain ⟨av, dy, gs, rfl, hv⟩ := ib I H v y s b
  cases (show uu = Value.ref au from ru)
  cases (show vv = Value.ref av from rv)
  obtain ⟨od, J⟩ := insAt Iv hu'
  obtain ⟨od', J'⟩ := insAt Iv hv
  obtain ⟨m, hF⟩ := Iv.fr
  rw [hop]
  exact PySem.W.cmp_K hu hF Iv.ok.mod.kin J J'.type hn hm.at_ hm.fn (back_W (cj I H σ Q [.ref au, .ref av] (x, y, ()) s ⟨_, _, rfl, a, _, _, rfl, b, rfl⟩ p) Iv (.cons rfl (.cons rfl .nil)))
theorem opj_cmpI {op : CmpOp} {C f : Addr} {g : α × Int × Unit → Res γ} (hop : ∀ a b, compareOp op a b = richCompare op a b) (hc : OCls X.K C) (hm : OMet X.K C (cmpInfo op).2.1 f) (hu : X.A.units < cLine) (hn : PySem.W.notFirst X.K C (.type "int") = true) (ia : InsR C ra) (cj : CallJ X W (.ref f) (R2' ra (rp rInt)) g rc) :
    OpJ X W (compareOp op) ra (rp rInt) (fun x y => g (x, y, ())) rc := fun I H σ Q u v x y s a b p pins sh uu vv Iv ru rv => by
  obtain ⟨au, dx, fs, rfl, hu'⟩ := ia I H u x s a
  cases (show uu = Value.ref au from ru)
  cases (show v = V.int y from b)
  obtain ⟨t, e⟩ := (show ∃ t, vv = Value.int y t from rv)
  cases e
  obtain ⟨od, J⟩ := insAt Iv hu'
  obtain ⟨m, hF⟩ := Iv.fr
  rw [hop]
  exact PySem.W.cmp_K (tb := .type "int") hu hF Iv.ok.mod.kin J (PySem.W.Looks.of_pure rfl) hn hm.at_ hm.fn (back_W (cj I H σ Q [.ref au, .int y] (x, y, ()) s ⟨_, _, rfl, a, _, _, rfl, rfl, rfl⟩ p) Iv (.cons rfl (.cons ⟨_, rfl⟩ .nil)))
theorem opj_cmpR {op : CmpOp} {C f : Addr} {g : α × Int × Unit → Res γ} {sl id : String} {gi : Int → Int → Sem Fin} (hop : ∀ a b, compareOp op a b = richCompare op a b) (hc : OCls X.K C) (hr : OMet X.K C (cmpInfo op).2.2 f) (hu : X.A.units < cLine)
    (slot : Slot "int" (cmpInfo op).2.1 id) (entry : entryFor table id = some (Builtin.Int.intBinary sl gi)) (args : ∀ a b, argsOk id ⟨[a, b], []⟩) (ia : InsR C ra) (cj : CallJ X W (.ref f) (R2' ra (rp rInt)) g rc) :
    OpJ X W (compareOp op) (rp rInt) ra (fun x y => g (y, x, ())) rc := fun I H σ Q u v x y s a b p pins sh uu vv Iv ru rv => by
  obtain ⟨av, dx, fs, rfl, hv⟩ := ia I H v y s b
  cases (show vv = Value.ref av from rv)
  cases (show u = V.int x from a)
  obtain ⟨t, e⟩ := (show ∃ t, uu = Value.int x t from ru)
  cases e
  obtain ⟨od, J⟩ := insAt Iv hv
  rw [hop]
  exact PySem.W.tr_cmpR hu Iv.kIn J hr.at_ hr.fn hc.ni slot entry args (back_W (cj I H σ Q [.ref av, .int x] (y, x, ()) s ⟨_, _, rfl, b, _, _, rfl, rfl, rfl⟩ p) Iv (.cons rfl (.cons ⟨_, rfl⟩ .nil)))
/-- the callee at one level below -/
theorem run_W1 {k : Nat} {f : Addr} {sp : Sp} {vs : List V} {H : Hp} {σ : St} {Q : VK} (F : FnR X.prog X.w X.K X.mg X.base (L2.CX X.prog X.w) k f sp) (hr : Room (k + 1) X.A) (tk : Takes X W) (h : sp vs H Q fun cls d H' => W cls d σ H') {pins : List (Addr × Obj)} {s : Shared} {us : List Value} (I : Inv X pins σ H s) (r : Vals vs us) :
    wpAny (model X.prog X.w) X.A.in1 (call (.ref f) us) (EP X pins σ Q) X.xe s := by
  refine wpAny_call (codeAny_mono (F X.A.in1 X.stack s H us vs Q _ hr.in1 I.env0.in1 r h) fun r s' hq => ?_)
  cases r with
  | error e => exact passAt tk σ pins H s e s' I hq
  | ok fl =>
    cases fl with
    | ret u => exact I.after hq
    | next => exact False.elim hq
    | brk => exact False.elim hq
    | cont => exact False.elim hq
end
end L2.Tr

namespace L2.Tr
open PySem PySem.Spec PyProof.Rows
section
variable {α β γ δ S : Type} {X : Cx} {I0 H0 : Hp} {W : WX} {Kx : KnowsX} {G : Knows} {ctx : List (Option SF)} {mem : List MF} {e a b c o : Expr} {es bs : List Expr} {st : Stmt} {ss s1 s2 : List Stmt} {pos pos' : Pos} {n : Str} {ra : Ra α} {rb : Ra β} {rc : Ra γ} {ma : Res α} {mb : Res β}

/-! ### promises -/
def spF (K : PySem.W.Frag) (R : Hp → Hp → List V → δ → Prop) (m : δ → Res γ) (r : Ra γ) : Sp := fun vs H Q E => ∃ I d, Same I H ∧ R I H vs d ∧ PostE K (m d) r I H E Q
theorem cj_of {k : Nat} {f : Addr} {R : Hp → Hp → List V → δ → Prop} {m : δ → Res γ} (F : FnR X.prog X.w X.K X.mg X.base (L2.CX X.prog X.w) k f (spF X.K R m rc)) (hr : Room k X.A) (tk : Takes X W) : CallJ X W (.ref f) R m rc := fun I H σ Q vs d s h p => run_W F hr tk ⟨I, d, s, h, p⟩
/-- arguments by another reading -/
theorem CallJ.co {δ' : Type} {f : Value} {R : Hp → Hp → List V → δ → Prop} {R' : Hp → Hp → List V → δ' → Prop} {m : δ → Res γ} {h : δ' → δ} (cj : CallJ X W f R m rc) (c : ∀ I H vs x, Same I H → R' I H vs x → R I H vs (h x)) : CallJ X W f R' (fun x => m (h x)) rc := fun I H σ Q vs x s r p => cj I H σ Q vs (h x) s (c I H vs x s r) p

/-! ### x != y by an own __eq__ -/
theorem opj_neO {k : Nat} {C f : Addr} {g : α × β × Unit → Res Bool} (hc : OCls X.K C) (hm : OMet X.K C "__eq__" f) (hr : Room (k + 1) X.A) (tk : Takes X W) (hn : PySem.W.notFirst X.K C (.ref C) = true) (ia : InsR C ra) (ib : InsR C rb)
    (F : FnR X.prog X.w X.K X.mg X.base (L2.CX X.prog X.w) k f (spF X.K (R2' ra rb) g (rp rBl))) : OpJ X W (compareOp .NotEq) ra rb (fun x y => (g (x, y, ())).bind fun z => .ok (!z)) (rp rBl) := fun I H σ Q u v x y s a b p pins sh uu vv Iv ru rv => by
  obtain ⟨au, dx, fs, rfl, hu'⟩ := ia I H u x s a
  obtain ⟨av, dy, gs, rfl, hv⟩ := ib I H v y s b
  cases (show uu = Value.ref au from ru)
  cases (show vv = Value.ref av from rv)
  obtain ⟨od, J⟩ := insAt Iv hu'
  obtain ⟨od', J'⟩ := insAt Iv hv
  show wpAny _ _ (richCompare .NotEq _ _) _ _ _
  have hu1 : X.A.in1.units < cLine := by have := hr.un; show X.A.units + 1 < _; omega
  refine PySem.W.tr_ne hu1 hr.units0 Iv.kIn J J'.type hn hc.cm hc.ne hm.at_ hm.fn (thn (run_W1 (vs := [.ref au, .ref av]) (Q := fun z H' => ∃ k, z = .bl k ∧ Q (.bl (!k)) H') F hr tk ⟨I, (x, y, ()), s, ⟨_, _, rfl, a, _, _, rfl, b, rfl⟩, ?_⟩ Iv (.cons rfl (.cons rfl .nil))) fun w s' ⟨z, H', I', rz, k, ez, q⟩ => ?_)
  · show PostE _ (g (x, y, ())) _ _ _ _ _
    revert p
    show PostE _ ((g (x, y, ())).bind _) _ _ _ _ _ → _
    generalize g (x, y, ()) = z
    intro p
    cases z with
    | ok k => exact fun I' H' v f r => ⟨k, r, p I' H' _ f rfl⟩
    | err e => exact p
    | stuck => exact p
  · subst ez
    cases (show w = Value.bool k from rz)
    exact ⟨k, rfl, .bl (!k), H', I', rfl, q⟩
theorem opj_neI {k : Nat} {C f : Addr} {g : α × Int × Unit → Res Bool} (hc : OCls X.K C) (hm : OMet X.K C "__eq__" f) (hr : Room (k + 1) X.A) (tk : Takes X W) (hn : PySem.W.notFirst X.K C (.type "int") = true) (ia : InsR C ra)
    (F : FnR X.prog X.w X.K X.mg X.base (L2.CX X.prog X.w) k f (spF X.K (R2' ra (rp rInt)) g (rp rBl))) : OpJ X W (compareOp .NotEq) ra (rp rInt) (fun x y => (g (x, y, ())).bind fun z => .ok (!z)) (rp rBl) := fun I H σ Q u v x y s a b p pins sh uu vv Iv ru rv => by
  obtain ⟨au, dx, fs, rfl, hu'⟩ := ia I H u x s a
  cases (show uu = Value.ref au from ru)
  cases (show v = V.int y from b)
  obtain ⟨t, e⟩ := (show ∃ t, vv = Value.int y t from rv)
  cases e
  obtain ⟨od, J⟩ := insAt Iv hu'
  show wpAny _ _ (richCompare .NotEq _ _) _ _ _
  have hu1 : X.A.in1.units < cLine := by have := hr.un; show X.A.units + 1 < _; omega
  refine PySem.W.tr_ne (tb := .type "int") hu1 hr.units0 Iv.kIn J (PySem.W.Looks.of_pure rfl) hn hc.cm hc.ne hm.at_ hm.fn (thn (run_W1 (vs := [.ref au, .int y]) (Q := fun z H' => ∃ k, z = .bl k ∧ Q (.bl (!k)) H') F hr tk ⟨I, (x, y, ()), s, ⟨_, _, rfl, a, _, _, rfl, rfl, rfl⟩, ?_⟩ Iv (.cons rfl (.cons ⟨_, rfl⟩ .nil))) fun w s' ⟨z, H', I', rz, k, ez, q⟩ => ?_)
  · show PostE _ (g (x, y, ())) _ _ _ _ _
    revert p
    show PostE _ ((g (x, y, ())).bind _) _ _ _ _ _ → _
    generalize g (x, y, ()) = z
    intro p
    cases z with
    | ok k => exact fun I' H' v f r => ⟨k, r, p I' H' _ f rfl⟩
    | err e => exact p
    | stuck => exact p
  · subst ez
    cases (show w = Value.bool k from rz)
    exact ⟨k, rfl, .bl (!k), H', I', rfl, q⟩
theorem opj_neRI {k : Nat} {C f : Addr} {g : α × Int × Unit → Res Bool} (hc : OCls X.K C) (hm : OMet X.K C "__eq__" f) (hr : Room (k + 1) X.A) (tk : Takes X W) (ia : InsR C ra)
    (F : FnR X.prog X.w X.K X.mg X.base (L2.CX X.prog X.w) k f (spF X.K (R2' ra (rp rInt)) g (rp rBl))) : OpJ X W (compareOp .NotEq) (rp rInt) ra (fun x y => (g (y, x, ())).bind fun z => .ok (!z)) (rp rBl) := fun I H σ Q u v x y s a b p pins sh uu vv Iv ru rv => by
  obtain ⟨av, dx, fs, rfl, hv⟩ := ia I H v y s b
  cases (show vv = Value.ref av from rv)
  cases (show u = V.int x from a)
  obtain ⟨t, e⟩ := (show ∃ t, uu = Value.int x t from ru)
  cases e
  obtain ⟨od, J⟩ := insAt Iv hv
  show wpAny _ _ (richCompare .NotEq _ _) _ _ _
  have hu1 : X.A.in1.units < cLine := by have := hr.un; show X.A.units + 1 < _; omega
  refine PySem.W.tr_neR (sl := "") (id := "") (g := fun _ _ => pure default) hu1 hr.units0 Iv.kIn J hc.cm hc.ne hm.at_ hm.fn hc.ni (thn (run_W1 (vs := [.ref av, .int x]) (Q := fun z H' => ∃ k, z = .bl k ∧ Q (.bl (!k)) H') F hr tk ⟨I, (y, x, ()), s, ⟨_, _, rfl, b, _, _, rfl, rfl, rfl⟩, ?_⟩ Iv (.cons rfl (.cons ⟨_, rfl⟩ .nil))) fun w s' ⟨z, H', I', rz, k, ez, q⟩ => ?_)
  · show PostE _ (g (y, x, ())) _ _ _ _ _
    revert p
    show PostE _ ((g (y, x, ())).bind _) _ _ _ _ _ → _
    generalize g (y, x, ()) = z
    intro p
    cases z with
    | ok k => exact fun I' H' v f r => ⟨k, r, p I' H' _ f rfl⟩
    | err e => exact p
    | stuck => exact p
  · subst ez
    cases (show w = Value.bool k from rz)
    exact ⟨k, rfl, .bl (!k), H', I', rfl, q⟩
/-- -x -/
theorem unj_own {C f : Addr} {g : α × Unit → Res γ} (hm : OMet X.K C "__neg__" f) (ia : InsR C ra) (cj : CallJ X W (.ref f) (R1 ra) g rc) : UnJ X W (unaryOp .USub) ra (fun x => g (x, ())) rc := fun I H σ Q u x s a p pins sh uu Iv ru => by
  obtain ⟨au, dx, fs, rfl, hu'⟩ := ia I H u x s a
  cases (show uu = Value.ref au from ru)
  obtain ⟨od, J⟩ := insAt Iv hu'
  obtain ⟨m, hF⟩ := Iv.fr
  exact PySem.W.ksp_neg hF Iv.ok.mod.kin J hm.at_ hm.fn (cj I H σ Q [.ref au] (x, ()) s ⟨_, _, rfl, a, rfl⟩ p pins sh _ Iv (.cons rfl .nil))
/-- isinstance(x, T) -/
def TyR (K : PySem.W.Frag) (r : Ra α) (u : Value) (g : α → Bool) : Prop := ∀ I H v x, Same I H → r I H v x → ∃ t, TyX K H v t ∧ PySem.W.kitOne K t u = some (g x)
theorem JE.isi {u : Value} {cv : V} {g : α → Bool} [MoA ra] (j : JE X I0 H0 W ctx mem a ma ra) (jc : ∀ σ H Q, Q cv H → wE X b σ H Q) (hc : ClsV cv u) (ty : TyR X.K ra u g) (hm : X.mg "isinstance" = none) (hg : Gl X "isinstance" := by rfl)
    (hs : starEach [a, b] X.env = (false, eval a X.env) :: starEach [b] X.env := by rfl) (hs2 : starEach [b] X.env = (false, eval b X.env) :: starEach [] X.env := by rfl) (hpl : (backTo pos (starEach [b] X.env)).any (·.1) = false := by rfl) :
    JE X I0 H0 W ctx mem (.Call (.Name "isinstance" pos') [a, b] [] pos) (ma.bind fun x => .ok (g x)) (rp rBl) := fun I H σ Q st p => by
  refine w_callB (id := "isinstance") (Tr.w_cons (j I H σ _ st ?_) hs) hm (by decide +kernel) hg (by decide) (by decide) hs hpl
  cases ma with
  | ok x =>
    intro I1 H1 v f1 r1
    refine Tr.w_cons (jc σ H1 _ (w_nil ?_)) hs2
    obtain ⟨t, ty1, k⟩ := ty I1 H1 v x f1.ih r1
    exact CallR.w call_isi ⟨v, cv, t, u, g x, rfl, hc, ty1, k, p I1 H1 _ f1 rfl⟩
  | err e => exact p
  | stuck => exact p
/-- raise X('..'), an own class without __init__ over ValueError -/
structure ExcP (K : PySem.W.Frag) (mg : Str → Option Value) (x : Str) : Prop where
  ex : PySem.W.excIn K (He.ga K x) He.veBase "ValueError.__new__" = true
  kp : PySem.W.keepIn K (.ref (He.ga K x)) = true
  bs : PySem.W.subIn K (.ref (He.ga K x)) (.type "BaseException") = some true
  ty : PySem.W.typeIn K (.ref (He.ga K x)) = some (.type "type")
  gl : mg x = some (.ref (He.ga K x))
theorem JR.raiseP {x m : Str} {j : Nat} {p1 p2 p3 : Pos} (hc : X.calm = true) (tk : Takes X W) (ep : ExcP X.K X.mg x) (hx : ∀ I H σ d, Stt I0 H0 ctx mem I H σ → Fr H0 d → Kx I H σ d) (hg : Gl X x := by rfl) (hdb : (x == ("__debug__" : Str)) = false := by decide) :
    JR X I0 H0 W Kx (Stt I0 H0 ctx mem) (.Raise (some (.Call (.Name x p1) [.Constant (.str m) j p2] [] p3)) none pos :: ss) (.err ⟨x, []⟩ : Res γ) rc := fun I H σ D g p => by
  refine b_cons (s_raise hc tk (pmk_own PySem.F.excBase_ValueError ep.ex ep.gl ep.kp (raises_own ep.bs ep.ty) hg hdb) ?_)
  exact p I H σ _ none (hx _ _ _ _ g fun _ z => nomatch z) ⟨rfl, rfl⟩
/-! ### while -/
def whileM (c : S → Res Bool) (f : S → Res S) : Nat → S → Res S
  | 0, _ => .stuck
  | n + 1, s => (c s).bind fun b => if b = true then (f s).bind fun s' => whileM c f n s' else .ok s
theorem J1.while {fuel : Nat} {s0 : S} {cx : S → List (Option SF)} {me : S → List MF} {mc : S → Res Bool} {mf : S → Res S} (hp : PassesOwn (model X.prog X.w) X.A X.env X.xe) (jc : ∀ s, JT X I0 H0 W (cx s) (me s) c (mc s)) (jb : ∀ s, JN X W Kx (Stt I0 H0 (cx s) (me s)) ss (mf s) fun s' => Stt I0 H0 (cx s') (me s'))
    (hx : ∀ s I H σ d, Stt I0 H0 (cx s) (me s) I H σ → Fr H0 d → Kx I H σ d) : J1 X W Kx (Stt I0 H0 (cx s0) (me s0)) (.While c ss [] pos) (whileM mc mf fuel s0) (fun s => Stt I0 H0 (cx s) (me s)) := fun I H σ D g p => by
  refine PS.w (ps_while hp pt_W pss_W) ⟨fun k σ' H' => ∃ I' s, Stt I0 H0 (cx s) (me s) I' H' σ' ∧ PostB X W Kx I' (whileM mc mf k s) (fun s => Stt I0 H0 (cx s) (me s)) D, ⟨fuel, I, s0, g, p⟩, ?_⟩
  rintro k σ' H' ⟨I', s, g', p'⟩
  cases k with
  | zero => exact p'.elim
  | succ k =>
    refine jc s I' H' σ' _ g' ?_
    have p2 : PostB X W Kx I' ((mc s).bind fun b => if b = true then (mf s).bind fun s' => whileM mc mf k s' else .ok s) _ D := p'
    revert p2
    generalize mc s = z
    intro p2
    cases z with
    | ok x =>
      intro I1 H1 v f r y hy
      cases r; cases hy
      cases x with
      | true =>
        refine iteT ⟨fun σ2 H2 => ∃ I2 s', Stt I0 H0 (cx s') (me s') I2 H2 σ2 ∧ PostB X W Kx I2 (whileM mc mf k s') (fun s => Stt I0 H0 (cx s) (me s)) D, fun σ2 H2 h => ⟨k, Nat.lt_succ_self _, h⟩, ?_⟩
        refine jb s I1 H1 σ' _ (g'.step f) ?_
        have p3 : PostB X W Kx I1 ((mf s).bind fun s' => whileM mc mf k s') _ D := PostB.up p2 f.i
        revert p3
        generalize mf s = z
        intro p3
        cases z with
        | ok s' => exact fun I2 H2 σ2 si g2 => ⟨I2, s', g2, PostB.up p3 si⟩
        | err e => exact p3
        | stuck => exact p3
      | false => exact iteF (p2 I1 H1 σ' f.i (g'.step f))
    | err e => exact fun I' H' c d f x => p2 I' H' σ' c d (hx _ _ _ _ _ (g'.step f) (x.1.back g'.fm.h)) x.2
    | stuck => exact p2.elim
/-- a, b = e1, e2 -/
theorem J1.par (i j : Nat) {x y : Str} {r1 : Rp α} {r2 : Rp β} [Mo r1] [mo : Mo r2] {px py pt : Pos} {kt k2 pt2} (ja : JE X I0 H0 W ctx mem a ma (rp r1)) (jb : JE X I0 H0 W ctx mem b mb (rp r2)) (hx : ∀ I H σ d, Stt I0 H0 ctx mem I H σ → Fr H0 d → Kx I H σ d)
    (hN : X.N.Nodup) (hc : X.calm = true := by rfl) (hi : X.N[i]? = some x := by rfl) (hj : X.N[j]? = some y := by rfl) (hij : i ≠ j := by decide) (hlx : X.env.scope.names.lookup x = some .local := by rfl) (hly : X.env.scope.names.lookup y = some .local := by rfl)
    (hw : swappedStores [.Tuple [.Name x px, .Name y py] kt pt] (.Tuple [a, b] k2 pt2) X.env = pure (some [x, y]) := by rfl)
    (hs : swapsWithSole [.Tuple [.Name x px, .Name y py] kt pt] (.Tuple [a, b] k2 pt2) pos.line X.env = pure false := by rfl)
    (e1 : starEach [a, b] X.env = (false, eval a X.env) :: starEach [b] X.env := by rfl) (e2 : starEach [b] X.env = (false, eval b X.env) :: starEach [] X.env := by rfl) :
    J1 X W Kx (Stt I0 H0 ctx mem) (.Assign [.Tuple [.Name x px, .Name y py] kt pt] (.Tuple [a, b] k2 pt2) pos) (ma.bind fun u => mb.bind fun v => .ok (u, v)) (fun s => Stt I0 H0 ((ctx.set i (some ⟨r1, s.1⟩)).set j (some ⟨r2, s.2⟩)) mem) := fun I H σ D g p => by
  refine PS.w (ps_par hc hN hi hj hij hlx hly pa_W hw hs) (Tr.w_cons (ja I H σ _ g ?_) e1)
  cases ma with
  | ok u =>
    intro I1 H1 v1 f1 h1
    refine Tr.w_cons (jb I1 H1 σ _ (g.step f1) ?_) e2
    cases mb with
    | ok v => exact fun I2 H2 v2 f2 h2 => w_nil ⟨v1, v2, rfl, p I2 H2 _ (f1.i.trans f2.i) ((((g.step f1).step f2).set i (Mo.up f2.i h1)).set j h2)⟩
    | err e => exact fun I' H' c d f x => p I' H' σ c d (hx _ _ _ _ ((g.step f1).step f) (x.1.back (g.step f1).fm.h)) x.2
    | stuck => exact p.elim
  | err e => exact fun I' H' c d f x => p I' H' σ c d (hx _ _ _ _ (g.step f) (x.1.back g.fm.h)) x.2
  | stuck => exact p.elim
end
/-! ### defs -/
section
variable {γ δ : Type} {P : Program} {w : World} {K : PySem.W.Frag} {mg : Str → Option Value} {base : Heap} {x qual : Str} {params : Arguments} {body : List Stmt} {scope : Scope} {dvs : List V} {kws : List (Str × V)} {f : Addr} {fd : FuncData} {N ps : List Str} {k : Nat} {R : Hp → Hp → List V → δ → Prop} {m : δ → Res γ} {r : Ra γ}
abbrev bx (P : Program) (w : World) (K : PySem.W.Frag) (mg : Str → Option Value) (base : Heap) (N : List Str) (qual : Str) (scope : Scope) (f : Addr) (cdv : Value) (A : Around) (outer : List Env) (s : Shared) (H : Hp) (E : XK) : Cx := cxOf (L2.CX P w) P w K mg base N qual scope f cdv A outer s H E
abbrev bW (E : XK) : WX := fun cls d _ H => E cls d H
abbrev bK (I0 H0 : Hp) : KnowsX := fun I H _ d => Fm I0 H0 I H ∧ Fr H0 d
theorem FunD.fn (F : FunD K x qual params body scope dvs kws f fd) (S : FnScope N ps scope) (len : ∀ I H vs d, R I H vs d → vs.length = ps.length)
    (hb : ∀ (cdv : Value) (A : Around) (outer : List Env) (s : Shared) (I0 H0 : Hp) (E : XK) (vs : List V) (d : δ), Room k (A.deeper (envOfC qual scope s.heap.objs.size f cdv)) → Same I0 H0 → R I0 H0 vs d →
      ∃ G : Knows, G I0 H0 (start N vs) ∧ JR (bx P w K mg base N qual scope f cdv A outer s H0 E) I0 H0 (bW E) (bK I0 H0) G body (m d) r) : FnOk P w K mg base (L2.CX P w) (k + 1) f fd ps (spF K R m r) := by
  refine F.ok S (fun vs H Q E ⟨I, d, _, h, _⟩ => len I H vs d h) fun cdv A outer s H vs Q E hr ⟨I, d, sm, h, p⟩ => ⟨_, pss_W, ?_⟩
  obtain ⟨G, g, j⟩ := hb cdv A outer s I H E vs d hr sm h
  refine j I H _ _ g ?_
  revert p
  show PostE K (m d) r I H E Q → PostR _ _ _ _ _ (m d) _ _
  generalize m d = z
  intro p
  cases z with
  | ok y => exact p
  | err e => exact fun I' H' _ c d f x => p I' H' c d f.1 ⟨f.2, x⟩
  | stuck => exact p
end
end L2.Tr

namespace L2.Tr
open PySem PySem.Spec PyProof.Rows
section
variable {α β γ δ S : Type} {X : Cx} {I0 H0 : Hp} {W : WX} {Kx : KnowsX} {G : Knows} {ctx : List (Option SF)} {mem : List MF} {e a b c o : Expr} {es bs : List Expr} {st : Stmt} {ss s1 s2 : List Stmt} {pos pos' : Pos} {n : Str} {ra : Ra α} {rb : Ra β} {rc : Ra γ} {ma : Res α} {mb : Res β}
def rRef (x : Addr) : Rp Unit := fun _ v _ => v = .ref x
instance {x : Addr} : Mo (rRef x) := ⟨fun _ h => h⟩
def putG (f : Str) (s : SF) : List (Str × SF) → List (Str × SF)
  | [] => [(f, s)]
  | q :: gs => if q.1 = f then (f, s) :: gs else q :: putG f s gs
theorem FldR.put {I : Hp} {f : Str} {v : V} {s : SF} (h : s.r I v s.x) : ∀ {fs : List (Str × V)} {gs : List (Str × SF)}, FldR I fs gs → FldR I (putF f v fs) (putG f s gs)
  | [], [], _ => ⟨rfl, h, True.intro⟩
  | p :: fs, q :: gs, ⟨a, b, c⟩ => by
    show FldR I (if p.1 = f then _ else _) (if q.1 = f then _ else _)
    rw [← a]
    by_cases e : p.1 = f
    · rw [if_pos e, if_pos e]; exact ⟨e, h, c⟩
    · rw [if_neg e, if_neg e]; exact ⟨a, b, FldR.put h c⟩
  | [], _ :: _, h => h.elim
  | _ :: _, [], h => h.elim
theorem FldR.length {I : Hp} : ∀ {fs : List (Str × V)} {gs : List (Str × SF)}, FldR I fs gs → fs.length = gs.length
  | [], [], _ => rfl
  | _ :: _, _ :: _, ⟨_, _, c⟩ => congrArg Nat.succ (FldR.length c)
  | [], _ :: _, h => h.elim
  | _ :: _, [], h => h.elim
/-- the cell at the head of mem is changed -/
theorem Stt.cell {I0 H0 I H : Hp} {c c' : MF} {o : HO} {σ : St} (s : Stt I0 H0 ctx (c :: mem) I H σ) (hl : c'.l = c.l) (h : c'.P I o) : Stt I0 H0 ctx (c' :: mem) I (upd H c.l o) σ := by
  obtain ⟨z0, zI, oo, zH, zP⟩ := s.me c List.mem_cons_self
  refine ⟨⟨s.fm.i, fun b u e => ?_, fun b u e => ?_, s.fm.mu⟩, s.len, s.sl, fun d hd => ?_, by rw [List.map_cons, hl]; exact s.nd⟩
  · have : b ≠ c.l := fun q => by rw [q, z0] at e; cases e
    rw [upd_ne this]; exact s.fm.h _ _ e
  · have : b ≠ c.l := fun q => by rw [q, zI] at e; cases e
    rw [upd_ne this]; exact s.fm.ih _ _ e
  · rcases List.mem_cons.mp hd with rfl | hd
    · rw [hl]; exact ⟨z0, zI, o, upd_same, h⟩
    · obtain ⟨a, b, od, e, p⟩ := s.me d (List.mem_cons_of_mem _ hd)
      have nn := s.nd
      rw [List.map_cons, List.nodup_cons] at nn
      have : d.l ≠ c.l := fun q => nn.1 (q ▸ List.mem_map_of_mem hd)
      exact ⟨a, b, od, by rw [upd_ne this]; exact e, p⟩
/-- self.f = e within __init__ -/
theorem J1.sfld (i : Nat) {x C dx : Addr} {f sn : Str} {p1 : Pos} {gs : List (Str × SF)} {r : Rp α} [mo : Mo r] {m : Res α} (j : JE X I0 H0 W ctx (.ins x C dx gs :: mem) e m (rp r)) (cl : Cls X.K C) (hn : NoAttr X.K C f) (hg : gs.length < 1000) (hx : ∀ I H σ d, Stt I0 H0 ctx (.ins x C dx gs :: mem) I H σ → Fr H0 d → Kx I H σ d)
    (hc : ctx[i]? = some (some (SF.mk (rRef x) ())) := by rfl) (hN : X.N[i]? = some sn := by rfl) (hv : Vis X.env.scope sn := by first | exact Or.inl rfl | exact Or.inr (Or.inl rfl) | exact Or.inr (Or.inr rfl)) (hd : (sn == ("__debug__" : Str)) = false := by decide)
    (hcd : (sn == ("__classdict__" : Str)) = false := by decide) (hs : swapsWith e (some (.Attribute (.Name sn p1) f pos')) pos.line X.env = pure false := by rfl) :
    J1 X W Kx (Stt I0 H0 ctx (.ins x C dx gs :: mem)) (.Assign [.Attribute (.Name sn p1) f pos'] e pos) m (fun y => Stt I0 H0 ctx (.ins x C dx (putG f ⟨r, y⟩ gs) :: mem)) := fun I H σ D g p => by
  refine s_fld (j I H σ _ g ?_) hs
  cases m with
  | ok y =>
    intro I1 H1 v f1 h1
    have g1 := g.step f1
    obtain ⟨u, eu, hu⟩ := g1.sl i _ hc
    cases (show u = V.ref x from hu)
    obtain ⟨_, _, oo, zH, fs, eo, hf⟩ := g1.me _ List.mem_cons_self
    subst eo
    refine w_var i ⟨x, C, dx, fs, rfl, zH, cl, hn, ?_, ?_⟩ eu hN hv hd hcd
    · rw [hf.length]; exact hg
    · exact p I1 _ σ f1.i (g1.cell (c' := .ins x C dx (putG f ⟨r, y⟩ gs)) rfl ⟨_, rfl, hf.put h1⟩)
  | err e => exact fun I' H' c d f x => p I' H' σ c d (hx _ _ _ _ (g.step f) (x.1.back g.fm.h)) x.2
  | stuck => exact p
/-- the object at the head of mem is frozen -/
theorem Stt.freeze {I0 H0 I H : Hp} {c : MF} {σ : St} (s : Stt I0 H0 ctx (c :: mem) I H σ) : ∃ o, H c.l = some o ∧ c.P I o ∧ Stt I0 H0 ctx mem (upd I c.l o) H σ ∧ Same I (upd I c.l o) := by
  obtain ⟨z0, zI, oo, zH, zP⟩ := s.me c List.mem_cons_self
  have sm : Same I (upd I c.l oo) := fun b u e => by
    have : b ≠ c.l := fun q => by rw [q, zI] at e; cases e
    rw [upd_ne this]; exact e
  refine ⟨oo, zH, zP, ⟨⟨s.fm.i.trans sm, s.fm.h, fun b u e => ?_, fun l e nn => ?_⟩, s.len, fun i sf e => ?_, fun d hd => ?_, (List.nodup_cons.mp s.nd).2⟩, sm⟩
  · by_cases hb : b = c.l
    · subst hb; rw [upd_same] at e; cases e; exact zH
    · rw [upd_ne hb] at e; exact s.fm.ih _ _ e
  · have : l ≠ c.l := fun q => nn (q ▸ z0)
    rw [upd_ne this]; exact s.fm.mu l e nn
  · obtain ⟨v, e1, q⟩ := s.sl i sf e
    exact ⟨v, e1, sf.mo.up sm q⟩
  · obtain ⟨a, b, od, e, p⟩ := s.me d (List.mem_cons_of_mem _ hd)
    have nn := s.nd
    rw [List.map_cons, List.nodup_cons] at nn
    have : d.l ≠ c.l := fun q => nn.1 (q ▸ List.mem_map_of_mem hd)
    exact ⟨a, by rw [upd_ne this]; exact b, od, e, d.mo sm p⟩

/-! ### C(..) -/
def spI (K : PySem.W.Frag) (C : Addr) (R : Hp → Hp → List V → δ → Prop) (m : δ → Res γ) (r : Ra γ) : Sp := fun vs H Q E => ∃ x dx ws H0 I d, vs = .ref x :: ws ∧ H0 x = none ∧ H0 dx = none ∧ dx ≠ x ∧ H = upd (upd H0 dx (.own x)) x (.ins C dx []) ∧ Same I H0 ∧ R I H0 ws d ∧
  PostE K (m d) r I H0 E (fun u H2 => u = .ref x → Q .non H2)
theorem cj_make {k : Nat} {C f : Addr} {fd : FuncData} {ps : List Str} {ds : List Value} {dvs : List V} {R R' : Hp → Hp → List V → δ → Prop} {m : δ → Res γ} (M : Mk X.K C f) (F : FnOk X.prog X.w X.K X.mg X.base (L2.CX X.prog X.w) k f fd ps (spI X.K C R m rc)) (hr : Room (k + 1) X.A) (hb : Binds X.K fd ps ds) (hd : Vals dvs ds) (tk : Takes X W)
    (hR : ∀ I H vs d, R' I H vs d → R I H (vs ++ dvs) d) : CallJ X W (.ref C) R' m rc := fun I H σ Q vs d sm h p pins s us Iv r => by
  have n1 := Iv.hok.fresh (Nat.le_succ s.heap.objs.size)
  have n2 := Iv.hok.fresh (Nat.le_refl s.heap.objs.size)
  have n3 := Nat.ne_of_lt (Nat.lt_succ_self s.heap.objs.size)
  have hq : spI X.K C R m rc (.ref (s.heap.objs.size + 1) :: (vs ++ dvs)) (upd (upd H s.heap.objs.size (.own (s.heap.objs.size + 1))) (s.heap.objs.size + 1) (.ins C s.heap.objs.size [])) (fun v H2 => v = .non ∧ Q (.ref (s.heap.objs.size + 1)) H2) (fun cls d H' => W cls d σ H') :=
    ⟨s.heap.objs.size + 1, s.heap.objs.size, vs ++ dvs, H, I, d, rfl, n1, n2, n3, rfl, sm, hR _ _ _ _ h, p.imp fun v H' q e => ⟨rfl, e ▸ q⟩⟩
  have I2 := Inv.made (C := C) Iv
  have r2 : Vals (V.ref (s.heap.objs.size + 1) :: (vs ++ dvs)) (Value.ref (s.heap.objs.size + 1) :: (us ++ ds)) := .cons rfl (r.append hd)
  have hl : (Value.ref (s.heap.objs.size + 1) :: us ++ ds).length = ps.length := by
    have e := r2.length
    rw [F.len _ _ _ _ hq] at e
    exact e.symm
  refine wpAny_call (make_map (f := f) Iv.kIn M.makes M.init (beq_iff_eq.mp M.fn) (codeAny_mono (F.run _ X.stack _ _ ⟨Value.ref (s.heap.objs.size + 1) :: us, []⟩ (Value.ref (s.heap.objs.size + 1) :: (us ++ ds)) _ _ _ (hr.make C us [])
    (I2.env0.make C us []) (hb _ (Value.ref (s.heap.objs.size + 1) :: us) I2.kIn hl) r2 hq) fun r s' hq' => ?_))
  cases r with
  | error e => exact passAt tk σ pins _ _ e s' I2 hq'
  | ok fl =>
    cases fl with
    | ret u =>
      obtain ⟨v, H', I3, rv, ev, q3⟩ := I2.after hq'
      subst ev
      exact ⟨rv, ⟨V.ref (s.heap.objs.size + 1), H', I3, rfl, q3⟩⟩
    | next => exact False.elim hq'
    | brk => exact False.elim hq'
    | cont => exact False.elim hq'
end
section
variable {γ δ : Type} {P : Program} {w : World} {K : PySem.W.Frag} {mg : Str → Option Value} {base : Heap} {x qual : Str} {params : Arguments} {body : List Stmt} {scope : Scope} {dvs : List V} {kws : List (Str × V)} {f C : Addr} {fd : FuncData} {N ps : List Str} {k : Nat} {R : Hp → Hp → List V → δ → Prop} {m : δ → Res γ} {r : Ra γ}
/-- the cell of a new instance -/
theorem Stt.fresh {I0 H0 : Hp} {y dx : Addr} {σ : St} {ctx : List (Option SF)} (sm : Same I0 H0) (n1 : H0 y = none) (n2 : H0 dx = none) (n3 : dx ≠ y) (hl : σ.length = ctx.length) (hs : ∀ (i : Nat) (sf : SF), ctx[i]? = some (some sf) → ∃ v, σ[i]? = some (some v) ∧ sf.r I0 v sf.x) :
    Stt I0 H0 ctx [.ins y C dx []] I0 (upd (upd H0 dx (.own y)) y (.ins C dx [])) σ := by
  have e1 : Same H0 (upd (upd H0 dx (.own y)) y (.ins C dx [])) := fun b u e => by rw [upd_ne (ne_of_none e n1), upd_ne (ne_of_none e n2)]; exact e
  exact ⟨⟨Same.refl _, e1, sm.trans e1, fun _ e _ => e⟩, hl, hs, fun c hc => by
    cases List.mem_singleton.mp hc
    exact ⟨n1, sm.free n1, _, upd_same, [], rfl, True.intro⟩, by simp⟩
/-- an __init__ that makes its object whole -/
theorem FunD.init {S : Type} (F : FunD K x qual params body scope dvs kws f fd) (Sc : FnScope N ps scope) (len : ∀ I H vs d, R I H vs d → vs.length + 1 = ps.length)
    (hb : ∀ (cdv : Value) (A : Around) (outer : List Env) (s : Shared) (I0 H0 H1 : Hp) (E : XK) (vs : List V) (d : δ) (y dx : Addr), Room k (A.deeper (envOfC qual scope s.heap.objs.size f cdv)) → Same I0 H0 → R I0 H0 vs d → H0 y = none → H0 dx = none → dx ≠ y → H1 = upd (upd H0 dx (.own y)) y (.ins C dx []) →
      ∃ (G : Knows) (S : Type) (mm : Res S) (G' : S → Knows), G I0 H1 (start N (.ref y :: vs)) ∧ JN (bx P w K mg base N qual scope f cdv A outer s H1 E) (bW E) (bK I0 H0) G body mm G' ∧
        (match mm with
         | .ok s => ∃ z, m d = .ok z ∧ ∀ I' H' σ', G' s I' H' σ' → ∃ I'', Fm I0 H0 I'' H' ∧ r I'' H' (.ref y) z
         | .err e => m d = .err e
         | .stuck => m d = .stuck)) : FnOk P w K mg base (L2.CX P w) (k + 1) f fd ps (spI K C R m r) := by
  refine F.ok Sc (fun vs H Q E ⟨y, dx, ws, H0, I, d, e, _, _, _, _, _, h, _⟩ => by rw [e, List.length_cons]; exact len I H0 ws d h) fun cdv A outer s H vs Q E hr ⟨y, dx, ws, H0, I, d, e, n1, n2, n3, eH, sm, h, p⟩ => ⟨_, pss_W, ?_⟩
  subst e
  obtain ⟨G, S, mm, G', g, j, fin⟩ := hb cdv A outer s I H0 H E ws d y dx hr sm h n1 n2 n3 eH
  refine j I H _ _ g ?_
  cases mm with
  | ok z =>
    obtain ⟨y', e1, h1⟩ := fin
    intro I' H' σ' _ g'
    obtain ⟨I'', f1, r1⟩ := h1 I' H' σ' g'
    rw [e1] at p
    exact p I'' H' _ f1 r1 rfl
  | err e =>
    rw [show m d = _ from fin] at p
    exact fun I' H' _ c d f x => p I' H' c d f.1 ⟨f.2, x⟩
  | stuck =>
    rw [show m d = _ from fin] at p
    exact p
end
end L2.Tr

namespace L2.Tr
open PySem PySem.Spec PyProof.Rows He
/-! ### the head's facts -/
abbrev FB := PySem.W.Frag → Bool
abbrev AlX : Type := Bool × List FnW
def obsX (fs : List FB) (fn : List DefD) (K : PySem.W.Frag) : AlX := ((fs.all fun f => f K) && fn.all fun d => d.ok K, fn.map fun d => fnW K d.at_)
def valX (fn : List DefD) : AlX := (true, fn.map DefD.val)
def SaysX (fs : List FB) (fn : List DefD) (K : PySem.W.Frag) : Prop := obsX fs fn K = valX fn
def obsXG (n : Nat) (fs : List FB) (fn : List DefD) (g : Addr → Option Obj) : AlX := obsX fs fn (frG g (asD g n))
def hookX (n : Nat) (fs : List FB) (fn : List DefD) : PySem.W.Hook where
  α := AlX
  obs := fun s => obsXG n fs fn s.heap.get?
  val := fun _ => valX fn
  says := fun _ h => ∃ K : PySem.W.Frag, K.In h ∧ SaysX fs fn K
  of := fun _ _ e => ⟨_, frG_in, e⟩
  keeps := fun _ _ _ ⟨K, hK, c⟩ k => ⟨K, PySem.W.Frag.In.keeps hK k, c⟩
theorem obsXG_eq {n : Nat} {fs : List FB} {fn : List DefD} {g : Addr → Option Obj} {s : Shared} (h : ∀ a, g a = s.heap.get? a) : obsXG n fs fn g = (hookX n fs fn).obs s := by
  have e : g = s.heap.get? := funext h
  rw [e] <;> rfl
section
variable {fs : List FB} {fn : List DefD} {K : PySem.W.Frag} {mg : Str → Option Value} {h : Heap}
theorem SaysX.fact (c : SaysX fs fn K) (i : Nat) {f : FB} (h : fs[i]? = some f := by rfl) : f K = true := by
  have c1 := (ba (show ((fs.all fun f => f K) && fn.all fun d => d.ok K) = true from congrArg (fun z : AlX => z.1) c)).1
  exact List.all_eq_true.mp c1 f (List.mem_of_getElem? h)
theorem SaysX.def_ (c : SaysX fs fn K) (i : Nat) {d : DefD} (h : fn[i]? = some d := by rfl) : ∃ fd, FunD K d.name d.qual d.params d.body d.scope (d.dvs K) (d.kws K) (fAd K d.at_) fd := by
  have c2 := (ba (show ((fs.all fun f => f K) && fn.all fun d => d.ok K) = true from congrArg (fun z : AlX => z.1) c)).2
  have e : fn.map (fun d => fnW K d.at_) = fn.map DefD.val := congrArg (fun z : AlX => z.2) c
  have e2 : (fn.map fun d => fnW K d.at_)[i]? = (fn.map DefD.val)[i]? := by rw [e]
  rw [List.getElem?_map, List.getElem?_map, h] at e2
  exact DefD.funD (Option.some.inj e2) (List.all_eq_true.mp c2 d (List.mem_of_getElem? h))
def fGlo (x : Str) : FB := fun K => (Fa.glo x).ok K
def fFree (x : Str) : FB := fun K => (Fa.free x).ok K
def fKeep (x : Str) : FB := fun K => PySem.W.keepIn K (.ref (ga K x))
def fCls (x : Str) : FB := fun K => (Fa.cls x).ok K
def fNoat (x f : Str) : FB := fun K => (Fa.noat x f).ok K
def fMeth (x m : Str) : FB := fun K => (Fa.meth x m).ok K
def fMkr (x : Str) : FB := fun K => (Fa.mkr x).ok K
def fExc (x : Str) : FB := fun K => (Fa.exc x).ok K && (Fa.glo x).ok K
def fOcl (x : Str) : FB := fun K => (Fa.cls x).ok K && (PySem.W.selfFirst K (ga K x) && (eqO (PySem.W.findIn K (.ref (ga K x)) "__class__") (some (some (.builtin "object.__class__"))) && (eqO (PySem.W.specialIn K (.builtin "object.__class__") "__get__") (some (some (.builtin "getset_descriptor.__get__"))) &&
  (decide (PySem.W.takesIn K (.builtin "object.__class__") = some true) && (decide (PySem.W.mroIn K (ga K x) (.type "object") = some true) && (decide (PySem.W.subIn K (.ref (ga K x)) (.type "int") = some false) && (decide (PySem.W.subIn K (.type "int") (.ref (ga K x)) = some false) &&
  eqO (PySem.W.findIn K (.ref (ga K x)) "__ne__") (some (some (.builtin "object.__ne__"))))))))))
def fOMet (x m : Str) : FB := fun K => eqO (PySem.W.findIn K (.ref (ga K x)) m) (some (some (.ref (ma K (ga K x) m)))) && PySem.W.isFn K (.ref (ma K (ga K x) m))
def fNf (x : Str) : FB := fun K => PySem.W.notFirst K (ga K x) (.ref (ga K x)) && PySem.W.notFirst K (ga K x) (.type "int")
def fIntM (m : Str) : FB := fun K => (PySem.W.findIn K (.type "int") m).isSome
def fKit (x y : Str) (b : Bool) : FB := fun K => decide (PySem.W.kitOne K (.ref (ga K x)) (.ref (ga K y)) = some b)
def fKitT (x : Str) (t : String) (b : Bool) : FB := fun K => decide (PySem.W.kitOne K (.ref (ga K x)) (.type t) = some b)
def fKitI (t : String) (x : Str) (b : Bool) : FB := fun K => decide (PySem.W.kitOne K (.type t) (.ref (ga K x)) = some b)
theorem glo_of (X : K.In h) (G : h.Ns mainGlobals mg) {x : Str} (c : fGlo x K = true) : mg x = some (.ref (ga K x)) := glo_ok X G c
theorem free_of (X : K.In h) (G : h.Ns mainGlobals mg) {x : Str} (c : fFree x K = true) : mg x = none := free_ok X G c
theorem cls_of {x : Str} (c : fCls x K = true) : Cls K (ga K x) := cls_ok c
theorem noat_of {x f : Str} (c : fNoat x f K = true) : NoAttr K (ga K x) f := noat_ok c
theorem meth_of {x m : Str} (c : fMeth x m K = true) : Meth K (ga K x) m (ma K (ga K x) m) := meth_ok c
theorem mkr_of {x : Str} (c : fMkr x K = true) : Mk K (ga K x) (ma K (ga K x) "__init__") := mkr_ok c
theorem exc_of (X : K.In h) (G : h.Ns mainGlobals mg) {x : Str} (c : fExc x K = true) : ExcP K mg x := by
  obtain ⟨c1, c2⟩ := ba c
  obtain ⟨a, b, d, e⟩ := exc_ok c1
  exact ⟨a, b, d, e, glo_ok X G c2⟩
theorem ocl_of {x : Str} (c : fOcl x K = true) : OCls K (ga K x) := by
  obtain ⟨c0, c⟩ := ba c
  obtain ⟨c1, c⟩ := ba c
  obtain ⟨c2, c⟩ := ba c
  obtain ⟨c3, c⟩ := ba c
  obtain ⟨c4, c⟩ := ba c
  obtain ⟨c5, c⟩ := ba c
  obtain ⟨c6, c⟩ := ba c
  obtain ⟨c7, c8⟩ := ba c
  exact ⟨cls_ok c0, c1, eqO_ok c2, eqO_ok c3, of_decide_eq_true c4, of_decide_eq_true c5, of_decide_eq_true c6, of_decide_eq_true c7, eqO_ok c8⟩
theorem omet_of {x m : Str} (c : fOMet x m K = true) : OMet K (ga K x) m (ma K (ga K x) m) := by
  obtain ⟨a, b⟩ := ba c
  exact ⟨eqO_ok a, b⟩
theorem nf_of {x : Str} (c : fNf x K = true) : PySem.W.notFirst K (ga K x) (.ref (ga K x)) = true ∧ PySem.W.notFirst K (ga K x) (.type "int") = true := ba c
theorem intM_of {m : Str} (c : fIntM m K = true) : ∃ fo, PySem.W.findIn K (.type "int") m = some fo := Option.isSome_iff_exists.mp c
theorem kit_of' {x y : Str} {b : Bool} (c : fKit x y b K = true) : PySem.W.kitOne K (.ref (ga K x)) (.ref (ga K y)) = some b := of_decide_eq_true c
theorem kitT_of {x : Str} {t : String} {b : Bool} (c : fKitT x t b K = true) : PySem.W.kitOne K (.ref (ga K x)) (.type t) = some b := of_decide_eq_true c
theorem kitI_of {x : Str} {t : String} {b : Bool} (c : fKitI t x b K = true) : PySem.W.kitOne K (.type t) (.ref (ga K x)) = some b := of_decide_eq_true c
end
end L2.Tr

namespace L2.Tr
open PySem PySem.Spec PyProof.Rows
section
variable {α β γ δ S : Type} {X : Cx} {I0 H0 : Hp} {W : WX} {Kx : KnowsX} {G : Knows} {ctx cw : List (Option SF)} {mem : List MF} {e a b c o : Expr} {es bs : List Expr} {st b₀ : Stmt} {ss s1 s2 body suite : List Stmt} {pos pos' np : Pos} {n x : Str} {ra : Ra α} {rb : Ra β} {rr : Ra γ} {ma : Res α} {mb : Res β}
/-- what is known of fewer slots -/
def weakC : List (Option SF) → List (Option SF) → Prop
  | [], [] => True
  | _ :: c, none :: d => weakC c d
  | a :: c, some b :: d => a = some b ∧ weakC c d
  | _, _ => False
theorem weakC.len : ∀ {c d : List (Option SF)}, weakC c d → c.length = d.length
  | [], [], _ => rfl
  | _ :: _, none :: _, h => congrArg Nat.succ (weakC.len (c := _) h)
  | _ :: _, some _ :: _, h => congrArg Nat.succ (weakC.len (c := _) h.2)
  | [], _ :: _, h => h.elim
  | _ :: _, [], h => h.elim
theorem weakC.get : ∀ {c d : List (Option SF)} {i : Nat} {sf : SF}, weakC c d → d[i]? = some (some sf) → c[i]? = some (some sf)
  | [], [], _, _, _, e => by simp at e
  | _ :: _, none :: _, 0, _, _, e => by simp at e
  | _ :: c, none :: d, i + 1, sf, h, e => by
    have e' : d[i]? = some (some sf) := by simpa using e
    have := weakC.get (c := c) h e'
    simpa using this
  | _ :: _, some _ :: _, 0, _, h, e => by
    have e' : some _ = some (some _) := e
    rw [h.1]; simpa using e
  | _ :: c, some _ :: d, i + 1, sf, h, e => by
    have e' : d[i]? = some (some sf) := by simpa using e
    have := weakC.get (c := c) h.2 e'
    simpa using this
  | [], _ :: _, _, _, h, _ => h.elim
  | _ :: _, [], _, _, h, _ => h.elim
theorem Stt.weak {I H : Hp} {σ : St} (s : Stt I0 H0 ctx mem I H σ) (h : weakC ctx cw) : Stt I0 H0 cw mem I H σ := ⟨s.fm, by rw [s.len, h.len], fun i sf e => s.sl i sf (h.get e), s.me, s.nd⟩
/-- the slots that a reading leaves out -/
theorem Stt.weakM {I H : Hp} {σ : St} {me : List MF} (s : Stt I0 H0 ctx (me ++ mem) I H σ) : Stt I0 H0 ctx mem I H σ := ⟨s.fm, s.len, s.sl, fun c hc => s.me c (List.mem_append_right _ hc), by
  have := s.nd
  rw [List.map_append] at this
  exact (List.nodup_append.mp this).2.1⟩
theorem Stt.unset {I H : Hp} {σ : St} (s : Stt I0 H0 ctx mem I H σ) (i : Nat) {u : Option V} : Stt I0 H0 (ctx.set i none) mem I H (σ.set i u) := by
  refine ⟨s.fm, by rw [List.length_set, List.length_set]; exact s.len, fun j sf e => ?_, s.me, s.nd⟩
  by_cases hj : j = i
  · subst hj
    rw [List.getElem?_set] at e
    by_cases hl : j < ctx.length
    · simp [hl] at e
    · simp [hl] at e
  · rw [List.getElem?_set_ne (Ne.symm hj)] at e
    obtain ⟨w, e1, q⟩ := s.sl j sf e
    exact ⟨w, by rw [List.getElem?_set_ne (Ne.symm hj)]; exact e1, q⟩

/-! ### try -/
def tryM (m : Res S) (L : List (Str × Bool)) (h : Exn → Res γ) (f : S → Res γ) : Res γ := match m with
  | .ok s => f s
  | .err e => (match L.lookup e.cls with
    | some true => (match h e with
      | .ok y => .ok y
      | _ => .stuck)
    | some false => .err e
    | none => .stuck)
  | .stuck => .stuck
theorem lookup_mem {L : List (Str × Bool)} {x : Str} {b : Bool} (h : L.lookup x = some b) : (x, b) ∈ L := by
  induction L with
  | nil => cases h
  | cons p L ih =>
    obtain ⟨y, c⟩ := p
    have h' : (match x == y with | true => some c | false => L.lookup x) = some b := h
    cases q : (x == y) with
    | true =>
      rw [q] at h'
      cases h'
      rw [beq_iff_eq.mp q]; exact List.mem_cons_self
    | false => rw [q] at h'; exact List.mem_cons_of_mem _ (ih h')
def rExc (a : Addr) : Rp Unit := fun _ v _ => v = .ref a
instance {a : Addr} : Mo (rExc a) := ⟨fun _ h => h⟩
def MF.xd (K : PySem.W.Frag) (l : Addr) (ps : List (Str × Pay)) : MF := ⟨l, fun I o => ∃ fs, o = .xd fs ∧ Paired (fun (p : Str × V) (q : Str × Pay) => p.1 = q.1 ∧ PayR K I p.2 q.2) fs ps, fun s ⟨fs, e, p⟩ => ⟨fs, e, Paired.mapP p fun _ q h => ⟨h.1, by
  obtain ⟨h1, h2⟩ := h
  cases hq : q.2 with
  | int i => rw [hq] at h2; exact h2
  | str i => rw [hq] at h2; exact h2
  | bl i => rw [hq] at h2; exact h2
  | non => rw [hq] at h2; exact h2
  | frac i => rw [hq] at h2; exact Mo.up (r := rFrac K) s h2
  | obj i j => exact True.intro⟩⟩⟩
def exm (K : PySem.W.Frag) (d : Option Addr) (e : Exn) : List MF := match d with
  | none => []
  | some a => [.xd K a e.pay]
theorem Stt.exm {K : PySem.W.Frag} {I H : Hp} {σ : St} {ee : Exn} {cls : Value} {d : Option Addr} (s : Stt I0 H0 ctx mem I H σ) (f : Fr H0 d) (x : ExR K I H ee cls d) (hm : ∀ c ∈ mem, ∀ I o fs, c.P I o → o ≠ .xd fs) : Stt I0 H0 ctx (Tr.exm K d ee ++ mem) I H σ := by
  cases d with
  | none => exact s
  | some a =>
    obtain ⟨_, _, fs, e1, e2, pr⟩ := x
    refine ⟨s.fm, s.len, s.sl, fun c hc => ?_, ?_⟩
    · rcases List.mem_cons.mp hc with rfl | hc
      · exact ⟨f a rfl, e2, _, e1, fs, rfl, pr⟩
      · exact s.me c hc
    · show (a :: mem.map (·.l)).Nodup
      refine List.nodup_cons.mpr ⟨fun hh => ?_, s.nd⟩
      obtain ⟨c, hc, e3⟩ := List.mem_map.mp hh
      obtain ⟨_, _, o, e4, p4⟩ := s.me c hc
      rw [e3, e1] at e4
      cases e4
      exact hm c hc I _ fs p4 rfl
/-- try: body except x as n: suite; the suite ends the def -/
theorem JR.tryAs (i : Nat) {cv : Value} {L : List (Str × Bool)} {mb : Res S} {G' : S → Knows} {f : S → Res γ} {mh : Exn → Res γ} (tk : Takes X W)
    (jb : ∀ (W' : WX) (pn : List (Addr × Obj)) (xe : Value → Shared → Prop), Takes (X.tr pn xe) W' → PassesOwn (model X.prog X.w) X.A X.env xe → JN (X.tr pn xe) W' (fun I H σ d => Stt I0 H0 cw mem I H σ ∧ Fr H0 d) (Stt I0 H0 ctx mem) body mb G')
    (js : ∀ (a : Addr) (oe : Obj) (ee : Exn) (d : Option Addr) (pn : List (Addr × Obj)), Zc (.ref (He.ga X.K ee.cls)) d oe → (∃ vs, oe.data = .fields vs) → (ee.cls, true) ∈ L → (d = none → ee.pay = []) → (∀ q, d = some q → ee.pay ≠ []) → JR (X.suite a ((a, oe) :: pn)) I0 H0 (fun _ _ _ _ => False) (fun _ _ _ _ => True) (Stt I0 H0 (cw.set i (some ⟨rExc a, ()⟩)) (exm X.K d ee ++ mem)) (b₀ :: suite) (mh ee) rr)
    (k : ∀ s, JR X I0 H0 W Kx (G' s) ss (f s) rr) (hL : ∀ y b, (y, b) ∈ L → PySem.W.exmOne X.K (.ref (He.ga X.K y)) cv = some b) (hc : Names X x cv) (hx : ∀ I H σ d, Stt I0 H0 cw mem I H σ → Fr H0 d → Kx I H σ d) (hN : X.N.Nodup)
    (hs : X.stack = X.env :: X.outer := by rfl) (hf : X.env.frame = some X.env.locals := by rfl) (hi : X.N[i]? = some n := by rfl) (hln : X.env.kindOf n = some .local := by rfl) (hmx : ∀ c ∈ mem, ∀ I o fs, c.P I o → o ≠ .xd fs := by intro c hc; cases hc) :
    JR X I0 H0 W Kx (Stt I0 H0 ctx mem) (.Try body [.ExceptHandler (some (.Name x np)) (some n) (b₀ :: suite) pos'] [] [] pos :: ss) (tryM mb L mh f) rr := fun I H σ D g p => by
  refine b_cons (PS.w (ps_try_as (i := i) (tb := fun W' D σ H => ∀ pn xe, Takes (X.tr pn xe) W' → PassesOwn (model X.prog X.w) X.A X.env xe → wB (X.tr pn xe) body D σ H) (ts := fun a cls d D σ H => ∀ oe pn, Zc cls d oe → (∃ vs, oe.data = .fields vs) → wB (X.suite a ((a, oe) :: pn)) (b₀ :: suite) D σ H) hs hf hN hi hln hc tk
    (fun W' pn xe t1 t2 => ⟨fun pins s σ H D Iv h => h pn xe t1 t2 pins s Iv⟩) (fun a oe cls d pn hz hf => ⟨fun pins s σ H D Iv h => h oe pn hz hf pins s Iv⟩)) ?_)
  intro pn xe t1 t2
  refine jb _ pn xe t1 t2 I H σ _ g ?_
  cases mb with
  | ok s => exact fun I' H' σ' _ g' => k s I' H' σ' D g' p
  | stuck => exact p.elim
  | err ee =>
    intro I' H' σ' cls d hk hxr
    obtain ⟨g1, fr⟩ := hk
    obtain ⟨ec, hxr2⟩ := id hxr
    have p1 : PostR X I0 H0 W Kx (match L.lookup ee.cls with
      | some true => (match mh ee with
        | .ok y => .ok y
        | _ => .stuck)
      | some false => .err ee
      | none => .stuck) rr D := p
    cases hl : L.lookup ee.cls with
    | none => rw [hl] at p1; exact p1.elim
    | some bb =>
      rw [hl] at p1
      refine ⟨bb, by rw [ec]; exact hL _ _ (lookup_mem hl), fun hb a ha oe pn' hz hf' => ?_, fun hb => ?_⟩
      · subst hb
        rw [ec] at hz
        refine b_mono (js a oe ee d pn' hz hf' (lookup_mem hl) (fun z => by subst z; exact hxr2) (fun q z => by subst z; exact hxr2.1) I' H' _ { nx := fun _ _ => False, rt := D.rt } ((g1.set i (r := rExc a) (x := ()) rfl).exm fr hxr hmx) ?_) (fun _ _ z => z.elim) (fun _ _ z => z) (fun _ _ z => z.elim) (fun _ _ z => z.elim)
        have p2 : PostR X I0 H0 W Kx (match mh ee with
          | .ok y => .ok y
          | _ => .stuck) rr D := p1
        revert p2
        generalize mh ee = z
        intro p2
        cases z with
        | ok y => exact p2
        | err _ => exact p2.elim
        | stuck => exact p2.elim
      · subst hb
        exact p1 I' H' σ' cls d (hx _ _ _ _ g1 fr) hxr
theorem JR.tryOnly {cv : Value} {L : List (Str × Bool)} {mb : Res S} {G' : S → Knows} {f : S → Res γ} {mh : Exn → Res γ} (tk : Takes X W)
    (jb : ∀ (W' : WX) (pn : List (Addr × Obj)) (xe : Value → Shared → Prop), Takes (X.tr pn xe) W' → PassesOwn (model X.prog X.w) X.A X.env xe → JN (X.tr pn xe) W' (fun I H σ d => Stt I0 H0 cw mem I H σ ∧ Fr H0 d) (Stt I0 H0 ctx mem) body mb G')
    (js : ∀ (a : Addr) (oe : Obj) (ee : Exn) (d : Option Addr) (pn : List (Addr × Obj)), Zc (.ref (He.ga X.K ee.cls)) d oe → (∃ vs, oe.data = .fields vs) → (ee.cls, true) ∈ L → (d = none → ee.pay = []) → (∀ q, d = some q → ee.pay ≠ []) → JR (X.suite a ((a, oe) :: pn)) I0 H0 (fun _ _ _ _ => False) (fun _ _ _ _ => True) (Stt I0 H0 cw (exm X.K d ee ++ mem)) (b₀ :: suite) (mh ee) rr)
    (k : ∀ s, JR X I0 H0 W Kx (G' s) ss (f s) rr) (hL : ∀ y b, (y, b) ∈ L → PySem.W.exmOne X.K (.ref (He.ga X.K y)) cv = some b) (hc : Names X x cv) (hx : ∀ I H σ d, Stt I0 H0 cw mem I H σ → Fr H0 d → Kx I H σ d)
    (hs : X.stack = X.env :: X.outer := by rfl) (hf : X.env.frame = some X.env.locals := by rfl) (hmx : ∀ c ∈ mem, ∀ I o fs, c.P I o → o ≠ .xd fs := by intro c hc; cases hc) :
    JR X I0 H0 W Kx (Stt I0 H0 ctx mem) (.Try body [.ExceptHandler (some (.Name x np)) none (b₀ :: suite) pos'] [] [] pos :: ss) (tryM mb L mh f) rr := fun I H σ D g p => by
  refine b_cons (PS.w (ps_try_only (tb := fun W' D σ H => ∀ pn xe, Takes (X.tr pn xe) W' → PassesOwn (model X.prog X.w) X.A X.env xe → wB (X.tr pn xe) body D σ H) (ts := fun a cls d D σ H => ∀ oe pn, Zc cls d oe → (∃ vs, oe.data = .fields vs) → wB (X.suite a ((a, oe) :: pn)) (b₀ :: suite) D σ H) hs hf hc tk
    (fun W' pn xe t1 t2 => ⟨fun pins s σ H D Iv h => h pn xe t1 t2 pins s Iv⟩) (fun a oe cls d pn hz hf => ⟨fun pins s σ H D Iv h => h oe pn hz hf pins s Iv⟩)) ?_)
  intro pn xe t1 t2
  refine jb _ pn xe t1 t2 I H σ _ g ?_
  cases mb with
  | ok s => exact fun I' H' σ' _ g' => k s I' H' σ' D g' p
  | stuck => exact p.elim
  | err ee =>
    intro I' H' σ' cls d hk hxr
    obtain ⟨g1, fr⟩ := hk
    obtain ⟨ec, hxr2⟩ := id hxr
    have p1 : PostR X I0 H0 W Kx (match L.lookup ee.cls with
      | some true => (match mh ee with
        | .ok y => .ok y
        | _ => .stuck)
      | some false => .err ee
      | none => .stuck) rr D := p
    cases hl : L.lookup ee.cls with
    | none => rw [hl] at p1; exact p1.elim
    | some bb =>
      rw [hl] at p1
      refine ⟨bb, by rw [ec]; exact hL _ _ (lookup_mem hl), fun hb a ha oe pn' hz hf' => ?_, fun hb => ?_⟩
      · subst hb
        rw [ec] at hz
        refine b_mono (js a oe ee d pn' hz hf' (lookup_mem hl) (fun z => by subst z; exact hxr2) (fun q z => by subst z; exact hxr2.1) I' H' _ { nx := fun _ _ => False, rt := D.rt } (g1.exm fr hxr hmx) ?_) (fun _ _ z => z.elim) (fun _ _ z => z) (fun _ _ z => z.elim) (fun _ _ z => z.elim)
        have p2 : PostR X I0 H0 W Kx (match mh ee with
          | .ok y => .ok y
          | _ => .stuck) rr D := p1
        revert p2
        generalize mh ee = z
        intro p2
        cases z with
        | ok y => exact p2
        | err _ => exact p2.elim
        | stuck => exact p2.elim
      · subst hb
        exact p1 I' H' σ' cls d (hx _ _ _ _ g1 fr) hxr
/-- .. where the errors have no fields -/
theorem JR.tryAsP (i : Nat) {cv : Value} {L : List (Str × Bool)} {mb : Res S} {G' : S → Knows} {f : S → Res γ} {mh : Str → Res γ} (tk : Takes X W)
    (jb : ∀ (W' : WX) (pn : List (Addr × Obj)) (xe : Value → Shared → Prop), Takes (X.tr pn xe) W' → PassesOwn (model X.prog X.w) X.A X.env xe → JN (X.tr pn xe) W' (fun I H σ d => Stt I0 H0 cw mem I H σ ∧ Fr H0 d) (Stt I0 H0 ctx mem) body mb G')
    (js : ∀ cls, (cls, true) ∈ L → ∀ (a : Addr) (oe : Obj) (pn : List (Addr × Obj)), Zc (.ref (He.ga X.K cls)) none oe → (∃ vs, oe.data = .fields vs) → JR (X.suite a ((a, oe) :: pn)) I0 H0 (fun _ _ _ _ => False) (fun _ _ _ _ => True) (Stt I0 H0 (cw.set i (some ⟨rExc a, ()⟩)) mem) (b₀ :: suite) (mh cls) rr)
    (k : ∀ s, JR X I0 H0 W Kx (G' s) ss (f s) rr) (hL : ∀ y b, (y, b) ∈ L → PySem.W.exmOne X.K (.ref (He.ga X.K y)) cv = some b) (hc : Names X x cv) (hx : ∀ I H σ d, Stt I0 H0 cw mem I H σ → Fr H0 d → Kx I H σ d) (hN : X.N.Nodup)
    (hs : X.stack = X.env :: X.outer := by rfl) (hf : X.env.frame = some X.env.locals := by rfl) (hi : X.N[i]? = some n := by rfl) (hln : X.env.kindOf n = some .local := by rfl) (hmx : ∀ c ∈ mem, ∀ I o fs, c.P I o → o ≠ .xd fs := by intro c hc; cases hc) :
    JR X I0 H0 W Kx (Stt I0 H0 ctx mem) (.Try body [.ExceptHandler (some (.Name x np)) (some n) (b₀ :: suite) pos'] [] [] pos :: ss) (tryM mb L (fun ee => if ee.pay.isEmpty = true then mh ee.cls else .stuck) f) rr :=
  JR.tryAs i tk jb (fun a oe ee d pn hz hf hm h0 h1 => by
    cases d with
    | none =>
      have e : ee.pay.isEmpty = true := by rw [h0 rfl]; rfl
      rw [if_pos e]
      exact js ee.cls hm a oe pn hz hf
    | some q =>
      have e : ¬ ee.pay.isEmpty = true := fun z => h1 q rfl (List.isEmpty_iff.mp z)
      rw [if_neg e]
      exact fun _ _ _ _ _ p => p.elim) k hL hc hx hN hs hf hi hln hmx
theorem JR.tryOnlyP {cv : Value} {L : List (Str × Bool)} {mb : Res S} {G' : S → Knows} {f : S → Res γ} {mh : Str → Res γ} (tk : Takes X W)
    (jb : ∀ (W' : WX) (pn : List (Addr × Obj)) (xe : Value → Shared → Prop), Takes (X.tr pn xe) W' → PassesOwn (model X.prog X.w) X.A X.env xe → JN (X.tr pn xe) W' (fun I H σ d => Stt I0 H0 cw mem I H σ ∧ Fr H0 d) (Stt I0 H0 ctx mem) body mb G')
    (js : ∀ cls, (cls, true) ∈ L → ∀ (a : Addr) (oe : Obj) (pn : List (Addr × Obj)), Zc (.ref (He.ga X.K cls)) none oe → (∃ vs, oe.data = .fields vs) → JR (X.suite a ((a, oe) :: pn)) I0 H0 (fun _ _ _ _ => False) (fun _ _ _ _ => True) (Stt I0 H0 cw mem) (b₀ :: suite) (mh cls) rr)
    (k : ∀ s, JR X I0 H0 W Kx (G' s) ss (f s) rr) (hL : ∀ y b, (y, b) ∈ L → PySem.W.exmOne X.K (.ref (He.ga X.K y)) cv = some b) (hc : Names X x cv) (hx : ∀ I H σ d, Stt I0 H0 cw mem I H σ → Fr H0 d → Kx I H σ d)
    (hs : X.stack = X.env :: X.outer := by rfl) (hf : X.env.frame = some X.env.locals := by rfl) (hmx : ∀ c ∈ mem, ∀ I o fs, c.P I o → o ≠ .xd fs := by intro c hc; cases hc) :
    JR X I0 H0 W Kx (Stt I0 H0 ctx mem) (.Try body [.ExceptHandler (some (.Name x np)) none (b₀ :: suite) pos'] [] [] pos :: ss) (tryM mb L (fun ee => if ee.pay.isEmpty = true then mh ee.cls else .stuck) f) rr :=
  JR.tryOnly tk jb (fun a oe ee d pn hz hf hm h0 h1 => by
    cases d with
    | none =>
      have e : ee.pay.isEmpty = true := by rw [h0 rfl]; rfl
      rw [if_pos e]
      exact js ee.cls hm a oe pn hz hf
    | some q =>
      have e : ¬ ee.pay.isEmpty = true := fun z => h1 q rfl (List.isEmpty_iff.mp z)
      rw [if_neg e]
      exact fun _ _ _ _ _ p => p.elim) k hL hc hx hs hf hmx
end
end L2.Tr

namespace L2.Tr
open PySem PySem.Spec PyProof.Rows
section
variable {α β γ δ S : Type} {X : Cx} {I0 H0 : Hp} {W : WX} {Kx : KnowsX} {G : Knows} {ctx cw : List (Option SF)} {mem : List MF} {e a b c o : Expr} {es bs : List Expr} {pos pos' np : Pos} {n x : Str} {ra : Ra α} {rb : Ra β} {rc : Ra γ} {ma : Res α} {mb : Res β}
/-! ### the start of a def -/
def IniR (I : Hp) : List V → List (Option SF) → Prop
  | [], c => ∀ (i : Nat) (sf : SF), c[i]? ≠ some (some sf)
  | v :: vs, some sf :: c => sf.r I v sf.x ∧ IniR I vs c
  | _ :: _, _ => False
theorem IniR.get {I : Hp} : ∀ {vs : List V} {c : List (Option SF)} {n : Nat}, IniR I vs c → ∀ (i : Nat) (sf : SF), c[i]? = some (some sf) → ∃ v, (vs.map some ++ List.replicate n none)[i]? = some (some v) ∧ sf.r I v sf.x
  | [], c, n, h, i, sf, e => (h i sf e).elim
  | v :: vs, some sf' :: c, n, ⟨a, b⟩, 0, sf, e => by
    have e' : sf' = sf := by simpa using e
    subst e'
    exact ⟨v, by simp, a⟩
  | v :: vs, some sf' :: c, n, ⟨a, b⟩, i + 1, sf, e => by
    have e' : c[i]? = some (some sf) := by simpa using e
    obtain ⟨u, h1, h2⟩ := IniR.get (n := n) b i sf e'
    exact ⟨u, by simpa using h1, h2⟩
  | _ :: _, none :: _, _, h, _, _, _ => h.elim
  | _ :: _, [], _, h, _, _, _ => h.elim
theorem Stt.start {N : List Str} {vs : List V} (sm : Same I0 H0) (h : IniR I0 vs ctx) (hl : ctx.length = N.length) (hv : vs.length ≤ N.length) : Stt I0 H0 ctx [] I0 H0 (L2.start N vs) := by
  refine ⟨Fm.refl sm, ?_, fun i sf e => IniR.get h i sf e, fun _ z => (nomatch z), List.nodup_nil⟩
  unfold L2.start
  rw [List.length_append, List.length_map, List.length_replicate, hl]
  omega
theorem ini_nil {I : Hp} {c : List (Option SF)} (h : c.all (·.isNone) = true) : IniR I [] c := fun i sf e => by
  have := List.all_eq_true.mp h _ (List.mem_of_getElem? e)
  cases this
/-! ### promises, once more -/
theorem FnR.nice {P : Program} {w : World} {K : PySem.W.Frag} {mg : Str → Option Value} {base : Heap} {k : Nat} {f : Addr} {R : Hp → Hp → List V → δ → Prop} {m m' : δ → Res γ} (F : FnR P w K mg base (L2.CX P w) k f (spF K R m rc)) (h : ∀ d, m' d = .stuck ∨ m' d = m d) :
    FnR P w K mg base (L2.CX P w) k f (spF K R m' rc) := F.imp fun vs H Q E ⟨I, d, s, r, p⟩ => ⟨I, d, s, r, by
  rcases h d with e | e
  · rw [show m' d = _ from e] at p; exact p.elim
  · rw [← e]; exact p⟩
theorem FnOk.fr {P : Program} {w : World} {K : PySem.W.Frag} {mg : Str → Option Value} {base : Heap} {k : Nat} {f : Addr} {fd : FuncData} {ps : List Str} {ds : List Value} {dvs : List V} {δ' : Type} {R : Hp → Hp → List V → δ → Prop} {R' : Hp → Hp → List V → δ' → Prop} {m : δ → Res γ} {h : δ' → δ} (F : FnOk P w K mg base (L2.CX P w) k f fd ps (spF K R m rc)) (hb : Binds K fd ps ds) (hd : Vals dvs ds)
    (hR : ∀ I H vs d, R' I H vs d → R I H (vs ++ dvs) (h d)) : FnR P w K mg base (L2.CX P w) k f (spF K R' (fun d => m (h d)) rc) := (FnOk.raw F hb hd).imp fun vs H Q E ⟨I, d, s, r, p⟩ => ⟨I, h d, s, hR _ _ _ _ r, p⟩
theorem FnOk.fr0 {P : Program} {w : World} {K : PySem.W.Frag} {mg : Str → Option Value} {base : Heap} {k : Nat} {f : Addr} {fd : FuncData} {ps : List Str} {R : Hp → Hp → List V → δ → Prop} {m : δ → Res γ} (F : FnOk P w K mg base (L2.CX P w) k f fd ps (spF K R m rc)) (hb : Binds K fd ps []) :
    FnR P w K mg base (L2.CX P w) k f (spF K R m rc) := (FnOk.raw F hb .nil).imp fun vs H Q E h => by rw [List.append_nil]; exact h
/-! ### the types of things -/
theorem tyr_int {K : PySem.W.Frag} {t : String} {g : Bool} (h : kitB "int" t = some g) : TyR K (rp rInt) (.type t) (fun _ => g) := fun I H v x _ e => ⟨.type "int", by rw [show v = _ from e]; exact .base (.int _), kit_ty h⟩
theorem tyr_intC {K : PySem.W.Frag} {C : Addr} {g : Bool} (h : PySem.W.kitOne K (.type "int") (.ref C) = some g) : TyR K (rp rInt) (.ref C) (fun _ => g) := fun I H v x _ e => ⟨.type "int", by rw [show v = _ from e]; exact .base (.int _), h⟩
theorem tyr_ins {K : PySem.W.Frag} {C : Addr} {u : Value} {g : Bool} (hc : OCls K C) (ia : InsR C ra) (h : PySem.W.kitOne K (.ref C) u = some g) : TyR K ra u (fun _ => g) := fun I H v x s e => by
  obtain ⟨a, dx, fs, rfl, ha⟩ := ia I H v x s e
  exact ⟨.ref C, .base (.ins ha hc.cl hc.ca hc.cn hc.ct hc.cm), h⟩
theorem insF {K : PySem.W.Frag} : InsR (He.ga K "Fraction") (rp (rFrac K)) := fun I H v x s ⟨a, dx, e, h⟩ => ⟨a, dx, _, e, s _ _ h⟩
theorem tyr_num {K : PySem.W.Frag} {u : Value} {g1 g2 : Bool} (h1 : TyR K (rp rInt) u fun _ => g1) (h2 : TyR K (rp (rFrac K)) u fun _ => g2) : TyR K (rp (rNum K)) u (fun x => match x with | .i _ => g1 | .q _ => g2) := fun I H v x s e => by
  cases x with
  | i n => exact h1 I H v n s e
  | q r => exact h2 I H v r s e
theorem w_glob_at {C : Addr} (hm : X.mg n = some (.ref C)) (hg : Gl X n) (hd : (n == ("__debug__" : Str)) = false) (σ : St) (H : Hp) (Q : VK) (h : Q (.ref C) H) : wE X (.Name n pos) σ H Q := w_glob h hm rfl hg hd
theorem w_type_at {t : String} (hm : X.mg n = none) (hv : bootBuiltins n = some (.type t)) (hg : Gl X n) (hn : n ≠ "__name__") (hd : (n == ("__debug__" : Str)) = false) (σ : St) (H : Hp) (Q : VK) (h : Q (.ty t) H) : wE X (.Name n pos) σ H Q := w_bltn h hm hv rfl hg hn hd
/-! ### fields of a Fraction -/
theorem fld_top {K : PySem.W.Frag} : FldOf K (He.ga K "Fraction") (rp (rFrac K)) "top" (fun q => q.num) (rp rInt) := fun I H v x s ⟨a, dx, e, h⟩ => ⟨a, dx, _, .int x.num, e, s _ _ h, rfl, rfl⟩
theorem fld_bottom {K : PySem.W.Frag} : FldOf K (He.ga K "Fraction") (rp (rFrac K)) "bottom" (fun q => (q.den : Int)) (rp rInt) := fun I H v x s ⟨a, dx, e, h⟩ => ⟨a, dx, _, .int (x.den : Int), e, s _ _ h, rfl, rfl⟩
theorem insOfF {K : PySem.W.Frag} {m : Str} (h1 : (m == ("top" : Str)) = false := by decide +kernel) (h2 : (m == ("bottom" : Str)) = false := by decide +kernel) : InsOf (He.ga K "Fraction") (rp (rFrac K)) m := fun I H v x s ⟨a, dx, e, h⟩ => ⟨a, dx, _, e, s _ _ h, by
  show (match m == ("top" : Str) with | true => _ | false => (match m == ("bottom" : Str) with | true => _ | false => none)) = none
  rw [h1, h2]⟩
/-! ### operators of Fractions, ints and both -/
variable {f f' : Addr} {k k' : Nat} {g : Rat × Num × Unit → Res γ} {g' : Rat × Int × Unit → Res γ}
theorem opj_qq {op : Operator} (hc : OCls X.K (He.ga X.K "Fraction")) (hm : OMet X.K (He.ga X.K "Fraction") (PySem.dunder op.info.2) f) (F : FnR X.prog X.w X.K X.mg X.base (L2.CX X.prog X.w) k f (spF X.K (R2' (rp (rFrac X.K)) (rp (rNum X.K))) g rc)) (hr : Room k X.A) (tk : Takes X W) :
    OpJ X W (binaryOp op) (rp (rFrac X.K)) (rp (rFrac X.K)) (fun x y => g (x, .q y, ())) rc := opj_own (g := fun d => g (d.1, .q d.2.1, ())) hc hm insF insF ((cj_of F hr tk).co fun I H vs d _ h => h)
theorem opj_qi {op : Operator} {fo ro : Option Value} (hc : OCls X.K (He.ga X.K "Fraction")) (hm : OMet X.K (He.ga X.K "Fraction") (PySem.dunder op.info.2) f) (hm' : OMet X.K (He.ga X.K "Fraction") (dunderR op.info.2) f') (h1 : PySem.W.findIn X.K (.type "int") (PySem.dunder op.info.2) = some fo) (h2 : PySem.W.findIn X.K (.type "int") (dunderR op.info.2) = some ro)
    (F : FnR X.prog X.w X.K X.mg X.base (L2.CX X.prog X.w) k f (spF X.K (R2' (rp (rFrac X.K)) (rp (rNum X.K))) g rc)) (hr : Room k X.A) (tk : Takes X W) :
    OpJ X W (binaryOp op) (rp (rFrac X.K)) (rp rInt) (fun x y => g (x, .i y, ())) rc := opj_ownI (g := fun d => g (d.1, .i d.2.1, ())) hc hm hm' h1 h2 insF ((cj_of F hr tk).co fun I H vs d _ h => h)
theorem opj_qn {f : Value → Value → Sem Value} {g : Rat × Num × Unit → Res γ} (h1 : OpJ X W f (rp (rFrac X.K)) (rp (rFrac X.K)) (fun x y => g (x, .q y, ())) rc) (h2 : OpJ X W f (rp (rFrac X.K)) (rp rInt) (fun x y => g (x, .i y, ())) rc) :
    OpJ X W f (rp (rFrac X.K)) (rp (rNum X.K)) (fun x y => g (x, y, ())) rc := fun I H σ Q u v x y s a b p => by
  cases y with
  | i n => exact h2 I H σ Q u v x n s a b p
  | q r => exact h1 I H σ Q u v x r s a b p
theorem opj_cqq {op : CmpOp} (hop : ∀ a b, compareOp op a b = richCompare op a b) (hc : OCls X.K (He.ga X.K "Fraction")) (hm : OMet X.K (He.ga X.K "Fraction") (cmpInfo op).2.1 f) (hn : PySem.W.notFirst X.K (He.ga X.K "Fraction") (.ref (He.ga X.K "Fraction")) = true) (F : FnR X.prog X.w X.K X.mg X.base (L2.CX X.prog X.w) k f (spF X.K (R2' (rp (rFrac X.K)) (rp (rNum X.K))) g rc)) (hr : Room k X.A) (tk : Takes X W) :
    OpJ X W (compareOp op) (rp (rFrac X.K)) (rp (rFrac X.K)) (fun x y => g (x, .q y, ())) rc := opj_cmp (g := fun d => g (d.1, .q d.2.1, ())) hop hc hm hr.units0 hn insF insF ((cj_of F hr tk).co fun I H vs d _ h => h)
theorem opj_cqi {op : CmpOp} (hop : ∀ a b, compareOp op a b = richCompare op a b) (hc : OCls X.K (He.ga X.K "Fraction")) (hm : OMet X.K (He.ga X.K "Fraction") (cmpInfo op).2.1 f) (hn : PySem.W.notFirst X.K (He.ga X.K "Fraction") (.type "int") = true) (F : FnR X.prog X.w X.K X.mg X.base (L2.CX X.prog X.w) k f (spF X.K (R2' (rp (rFrac X.K)) (rp (rNum X.K))) g rc)) (hr : Room k X.A) (tk : Takes X W) :
    OpJ X W (compareOp op) (rp (rFrac X.K)) (rp rInt) (fun x y => g (x, .i y, ())) rc := opj_cmpI (g := fun d => g (d.1, .i d.2.1, ())) hop hc hm hr.units0 hn insF ((cj_of F hr tk).co fun I H vs d _ h => h)
theorem opj_ciq {op : CmpOp} {sl id : String} {gi : Int → Int → Sem Fin} (hop : ∀ a b, compareOp op a b = richCompare op a b) (hc : OCls X.K (He.ga X.K "Fraction")) (hm : OMet X.K (He.ga X.K "Fraction") (cmpInfo op).2.2 f) (slot : Slot "int" (cmpInfo op).2.1 id) (entry : entryFor table id = some (Builtin.Int.intBinary sl gi)) (args : ∀ a b, argsOk id ⟨[a, b], []⟩)
    (F : FnR X.prog X.w X.K X.mg X.base (L2.CX X.prog X.w) k f (spF X.K (R2' (rp (rFrac X.K)) (rp (rNum X.K))) g rc)) (hr : Room k X.A) (tk : Takes X W) :
    OpJ X W (compareOp op) (rp rInt) (rp (rFrac X.K)) (fun x y => g (y, .i x, ())) rc := opj_cmpR (g := fun d => g (d.1, .i d.2.1, ())) hop hc hm hr.units0 slot entry args insF ((cj_of F hr tk).co fun I H vs d _ h => h)
variable {gb : Rat × Num × Unit → Res Bool}
theorem opj_neqq (hc : OCls X.K (He.ga X.K "Fraction")) (hm : OMet X.K (He.ga X.K "Fraction") "__eq__" f) (hn : PySem.W.notFirst X.K (He.ga X.K "Fraction") (.ref (He.ga X.K "Fraction")) = true) (F : FnR X.prog X.w X.K X.mg X.base (L2.CX X.prog X.w) k f (spF X.K (R2' (rp (rFrac X.K)) (rp (rNum X.K))) gb (rp rBl))) (hr : Room (k + 1) X.A) (tk : Takes X W) :
    OpJ X W (compareOp .NotEq) (rp (rFrac X.K)) (rp (rFrac X.K)) (fun x y => (gb (x, .q y, ())).bind fun z => .ok (!z)) (rp rBl) := opj_neO (g := fun d => gb (d.1, .q d.2.1, ())) hc hm hr tk hn insF insF (F.imp fun vs H Q E ⟨I, d, s, r, p⟩ => ⟨I, (d.1, .q d.2.1, ()), s, r, p⟩)
theorem opj_neqi (hc : OCls X.K (He.ga X.K "Fraction")) (hm : OMet X.K (He.ga X.K "Fraction") "__eq__" f) (hn : PySem.W.notFirst X.K (He.ga X.K "Fraction") (.type "int") = true) (F : FnR X.prog X.w X.K X.mg X.base (L2.CX X.prog X.w) k f (spF X.K (R2' (rp (rFrac X.K)) (rp (rNum X.K))) gb (rp rBl))) (hr : Room (k + 1) X.A) (tk : Takes X W) :
    OpJ X W (compareOp .NotEq) (rp (rFrac X.K)) (rp rInt) (fun x y => (gb (x, .i y, ())).bind fun z => .ok (!z)) (rp rBl) := opj_neI (g := fun d => gb (d.1, .i d.2.1, ())) hc hm hr tk hn insF (F.imp fun vs H Q E ⟨I, d, s, r, p⟩ => ⟨I, (d.1, .i d.2.1, ()), s, r, p⟩)
theorem opj_neiq (hc : OCls X.K (He.ga X.K "Fraction")) (hm : OMet X.K (He.ga X.K "Fraction") "__eq__" f) (F : FnR X.prog X.w X.K X.mg X.base (L2.CX X.prog X.w) k f (spF X.K (R2' (rp (rFrac X.K)) (rp (rNum X.K))) gb (rp rBl))) (hr : Room (k + 1) X.A) (tk : Takes X W) :
    OpJ X W (compareOp .NotEq) (rp rInt) (rp (rFrac X.K)) (fun x y => (gb (y, .i x, ())).bind fun z => .ok (!z)) (rp rBl) := opj_neRI (g := fun d => gb (d.1, .i d.2.1, ())) hc hm hr tk insF (F.imp fun vs H Q E ⟨I, d, s, r, p⟩ => ⟨I, (d.1, .i d.2.1, ()), s, r, p⟩)
/-! ### isinstance of a caught error without fields, within the suite -/
theorem JE.isE {ad : Addr} {oe : Obj} {pn : List (Addr × Obj)} {D : Addr} {u : Value} {cv : V} {bb : Bool} (hz : Zc (.ref D) none oe) (hf : ∃ vs, oe.data = .fields vs) (C : ExcC X.K D) (hk : PySem.W.kitOne X.K (.ref D) u = some bb) (j : JE (X.suite ad ((ad, oe) :: pn)) I0 H0 W ctx mem a (.ok ()) (rp (rExc ad))) (jc : ∀ σ H Q, Q cv H → wE (X.suite ad ((ad, oe) :: pn)) b σ H Q) (hc : ClsV cv u) (hm : X.mg "isinstance" = none) (hg : Gl (X.suite ad ((ad, oe) :: pn)) "isinstance" := by rfl)
    (hs : starEach [a, b] X.env = (false, eval a X.env) :: starEach [b] X.env := by rfl) (hs2 : starEach [b] X.env = (false, eval b X.env) :: starEach [] X.env := by rfl) (hpl : (backTo pos (starEach [b] X.env)).any (·.1) = false := by rfl) :
    JE (X.suite ad ((ad, oe) :: pn)) I0 H0 W ctx mem (.Call (.Name "isinstance" pos') [a, b] [] pos) (.ok bb) (rp rBl) := fun I H σ Q st p => by
  refine w_callB (id := "isinstance") (Tr.w_cons (j I H σ _ st ?_) hs) hm (by decide +kernel) hg (by decide) (by decide) hs hpl
  intro I1 H1 v f1 r1
  cases (show v = V.ref ad from r1)
  refine Tr.w_cons (jc σ H1 _ (w_nil ?_)) hs2
  exact CallR.w (call_isE C hz hf) ⟨cv, u, bb, rfl, fun w hw => hc.eq hw, hk, p I1 H1 _ f1 rfl⟩
end
/-! ### C(..) as a promise -/
def MkR {γ δ : Type} (P : Program) (w : World) (K : PySem.W.Frag) (mg : Str → Option Value) (base : Heap) (k : Nat) (C : Addr) (R : Hp → Hp → List V → δ → Prop) (m : δ → Res γ) (r : Ra γ) : Prop :=
  ∀ (X : Cx) (W : WX), X.prog = P → X.w = w → X.K = K → X.mg = mg → X.base = base → Room k X.A → Takes X W → CallJ X W (.ref C) R m r
theorem MkR.nice {γ δ : Type} {P : Program} {w : World} {K : PySem.W.Frag} {mg : Str → Option Value} {base : Heap} {k : Nat} {C : Addr} {R : Hp → Hp → List V → δ → Prop} {m m' : δ → Res γ} {r : Ra γ} (F : MkR P w K mg base k C R m r) (h : ∀ d, m' d = .stuck ∨ m' d = m d) : MkR P w K mg base k C R m' r := fun X W e1 e2 e3 e4 e5 hr tk I H σ Q vs d s a p => by
  refine F X W e1 e2 e3 e4 e5 hr tk I H σ Q vs d s a ?_
  rcases h d with e | e
  · rw [show m' d = _ from e] at p; exact p.elim
  · rw [← e]; exact p
theorem MkR.mono {γ δ : Type} {P : Program} {w : World} {K : PySem.W.Frag} {mg : Str → Option Value} {base : Heap} {j k : Nat} {C : Addr} {R : Hp → Hp → List V → δ → Prop} {m : δ → Res γ} {r : Ra γ} (F : MkR P w K mg base j C R m r) (h : j ≤ k) : MkR P w K mg base k C R m r := fun X W e1 e2 e3 e4 e5 hr tk => F X W e1 e2 e3 e4 e5 (hr.mono h) tk
theorem mkR_of {γ δ δ' : Type} {P : Program} {w : World} {K : PySem.W.Frag} {mg : Str → Option Value} {base : Heap} {k : Nat} {C f : Addr} {fd : FuncData} {ps : List Str} {ds : List Value} {dvs : List V} {R : Hp → Hp → List V → δ → Prop} {R' : Hp → Hp → List V → δ' → Prop} {m : δ → Res γ} {h : δ' → δ} {r : Ra γ} (M : Mk K C f) (F : FnOk P w K mg base (L2.CX P w) k f fd ps (spI K C R m r)) (hb : Binds K fd ps ds) (hd : Vals dvs ds)
    (hR : ∀ I H vs d, R' I H vs d → R I H (vs ++ dvs) (h d)) : MkR P w K mg base (k + 1) C R' (fun d => m (h d)) r := fun X W e1 e2 e3 e4 e5 hr tk => by
  subst e1; subst e2; subst e3; subst e4; subst e5
  exact cj_make (R' := R') (m := fun d => m (h d)) (R := fun I H vs d => R I H vs (h d)) M (F.imp fun vs H Q E ⟨x, dx, ws, H0, I, d, a1, a2, a3, a4, a5, a6, a7, a8⟩ => ⟨x, dx, ws, H0, I, h d, a1, a2, a3, a4, a5, a6, a7, a8⟩) hr hb hd tk hR
def fExm (x y : Str) (b : Bool) : FB := fun K => (He.Fa.exm x y b).ok K
theorem exm_of {K : PySem.W.Frag} {x y : Str} {b : Bool} (c : fExm x y b K = true) : PySem.W.exmOne K (.ref (He.ga K x)) (.ref (He.ga K y)) = some b := He.exm_ok c
def fExcC (x : Str) : FB := fun K => He.eqO (PySem.W.findIn K (.ref (He.ga K x)) "__getattribute__") (some (some (.builtin "BaseException.__getattribute__"))) && (He.eqO (PySem.W.findIn K (.ref (He.ga K x)) "__getattr__") (some none) && (decide (PySem.W.subIn K (.ref (He.ga K x)) (.type "BaseException") = some true) && (PySem.W.hasDictIn K (He.ga K x) &&
  (He.eqO (PySem.W.findIn K (.ref (He.ga K x)) "__class__") (some (some (.builtin "object.__class__"))) && (He.eqO (PySem.W.specialIn K (.builtin "object.__class__") "__get__") (some (some (.builtin "getset_descriptor.__get__"))) && (decide (PySem.W.takesIn K (.builtin "object.__class__") = some true) && decide (PySem.W.mroIn K (He.ga K x) (.type "object") = some true)))))))
theorem excC_of {K : PySem.W.Frag} {x : Str} (c : fExcC x K = true) : ExcC K (He.ga K x) := by
  obtain ⟨c1, c⟩ := He.ba c
  obtain ⟨c2, c⟩ := He.ba c
  obtain ⟨c3, c⟩ := He.ba c
  obtain ⟨c4, c⟩ := He.ba c
  obtain ⟨c5, c⟩ := He.ba c
  obtain ⟨c6, c⟩ := He.ba c
  obtain ⟨c7, c8⟩ := He.ba c
  exact ⟨He.eqO_ok c1, He.eqO_ok c2, of_decide_eq_true c3, c4, He.eqO_ok c5, He.eqO_ok c6, of_decide_eq_true c7, of_decide_eq_true c8⟩
section
variable {S γ : Type} {X : Cx} {I0 H0 : Hp} {W : WX} {Kx : KnowsX} {ctx : List (Option SF)} {mem : List MF} {pos : Pos}
theorem J1.raiseP {x m : Str} {j : Nat} {p1 p2 p3 : Pos} {G' : S → Knows} (hc : X.calm = true) (tk : Takes X W) (ep : ExcP X.K X.mg x) (hx : ∀ I H σ d, Stt I0 H0 ctx mem I H σ → Fr H0 d → Kx I H σ d) (hg : Gl X x := by rfl) (hdb : (x == ("__debug__" : Str)) = false := by decide) :
    J1 X W Kx (Stt I0 H0 ctx mem) (.Raise (some (.Call (.Name x p1) [.Constant (.str m) j p2] [] p3)) none pos) (.err ⟨x, []⟩ : Res S) G' := fun I H σ D g p => by
  refine s_raise hc tk (pmk_own PySem.F.excBase_ValueError ep.ex ep.gl ep.kp (raises_own ep.bs ep.ty) hg hdb) ?_
  exact p I H σ _ none (hx _ _ _ _ g fun _ z => nomatch z) ⟨rfl, rfl⟩
end
end L2.Tr

namespace L2.Tr
open PySem PySem.Spec PyProof.Rows
section
variable {α β γ δ ε : Type} {X : Cx} {I0 H0 : Hp} {W : WX} {ctx : List (Option SF)} {mem : List MF} {e a b c o : Expr} {es bs : List Expr} {kws : List Keyword} {pos pos' kpos : Pos} {n x : Str} {nm : Option Str} {ra : Ra α} {rb : Ra β} {rc : Ra γ} {ma : Res α} {mb : Res β}
/-! ### keywords -/
def JK (X : Cx) (I0 H0 : Hp) (W : WX) (ctx : List (Option SF)) (mem : List MF) (kws : List Keyword) (m : Res δ) (R : Hp → Hp → List V → δ → Prop) : Prop :=
  ∀ (pos : Pos) (I H : Hp) (σ : St) (Q : List V → Hp → Prop), Stt I0 H0 ctx mem I H σ → (match m with
    | .ok a => ∀ I' H' vs, Fm I H I' H' → R I' H' vs a → Q vs H'
    | .err e => ∀ I' H' cls d, Fm I H I' H' → Fr H d ∧ ExR X.K I' H' e cls d → W cls d σ H'
    | .stuck => False) → ∀ (pins : List (Addr × Obj)) (s : Shared), Inv X pins σ H s → wpAny (model X.prog X.w) X.A (evalAll ((backToKw pos (keywordEach kws X.env)).map (·.2))) (AP X pins σ Q) X.xe s
theorem JK.nil : JK X I0 H0 W ctx mem [] (.ok ()) aNil := fun pos I H σ Q st p pins s Iv => wpAny_evalAll_nil ⟨[], H, Iv, .nil, p I H [] (Fm.refl st.same) rfl⟩
theorem JK.cons {R : Hp → Hp → List V → δ → Prop} {m : Res δ} [MoA ra] (j : JE X I0 H0 W ctx mem e ma ra) (k : JK X I0 H0 W ctx mem kws m R) : JK X I0 H0 W ctx mem (⟨nm, e, kpos⟩ :: kws) (ma.bind fun x => m.bind fun y => .ok (x, y)) (aCons ra R) := fun pos I H σ Q st p pins s Iv => by
  show wpAny _ _ (evalAll ((do let v ← eval e X.env; standAt pos; pure v) :: (backToKw pos (keywordEach kws X.env)).map (·.2))) _ _ s
  refine wpAny_evalAll_cons (wpAny_bind (thn (j I H σ (fun v H1 => ∀ pins s1 u, Inv X pins σ H1 s1 → RelV v u → wpAny (model X.prog X.w) X.A (evalAll ((backToKw pos (keywordEach kws X.env)).map (·.2))) (fun us s2 => AP X pins σ Q (u :: us) s2) X.xe s1) st ?_ pins s Iv) fun u s1 ⟨v, H1, I1, r1, q1⟩ => wpAny_bind (wpAny_standAt (wpAny_pure (q1 pins s1 u I1 r1)))))
  cases ma with
  | ok x =>
    intro I1 H1 v f1 r1 pins s1 u Iv1 ru
    refine thn (k pos I1 H1 σ (fun vs H2 => Q (v :: vs) H2) (st.step f1) ?_ pins s1 Iv1) fun us s2 ⟨vs, H2, I2, r2, q2⟩ => ⟨v :: vs, H2, I2, .cons ru r2, q2⟩
    cases m with
    | ok y => exact fun I2 H2 vs f2 r2 => p I2 H2 _ (f1.trans f2) ⟨v, vs, rfl, MoA.up f2.i f2.h r1, r2⟩
    | err e => exact fun I2 H2 c d f2 x => p I2 H2 c d (f1.trans f2) ⟨x.1.back f1.h, x.2⟩
    | stuck => exact p
  | err e => exact p
  | stuck => exact p
def callKW (X : Cx) (f : Value) (ks : List Str) (σ : St) (xs zs : List V) (H : Hp) (Q : VK) : Prop := ∀ (pins : List (Addr × Obj)) (s : Shared) (us ws : List Value), Inv X pins σ H s → Vals xs us → Vals zs ws → wpAny (model X.prog X.w) X.A (call f us (ks.zip ws)) (EP X pins σ Q) X.xe s
def CallKJ (X : Cx) (W : WX) (f : Value) (ks : List Str) (R : Hp → Hp → List V → δ → Prop) (R' : Hp → Hp → List V → ε → Prop) (g : δ → ε → Res γ) (rc : Ra γ) : Prop :=
  ∀ (I H : Hp) (σ : St) (Q : VK) (vs zs : List V) (x : δ) (y : ε), Same I H → R I H vs x → R' I H zs y → PostE X.K (g x y) rc I H (fun cls d H' => W cls d σ H') Q → callKW X f ks σ vs zs H Q
class MoR {δ : Type} (R : Hp → Hp → List V → δ → Prop) : Prop where
  up : ∀ {I H I' H' : Hp} {vs : List V} {x : δ}, Same I I' → Same H H' → R I H vs x → R I' H' vs x
instance : MoR aNil := ⟨fun _ _ h => h⟩
instance {r : Ra α} {R : Hp → Hp → List V → δ → Prop} [m : MoA r] [m' : MoR R] : MoR (aCons r R) := ⟨fun a b ⟨v, ws, e, h, h'⟩ => ⟨v, ws, e, m.up a b h, m'.up a b h'⟩⟩
variable {R : Hp → Hp → List V → δ → Prop} {R' : Hp → Hp → List V → ε → Prop} {md : Res δ} {me : Res ε} {g : δ → ε → Res γ} {ks : List Str}
theorem JE.callK {f : Addr} [MoR R] (ja : JA X I0 H0 W ctx mem (e :: es) md R) (jk : JK X I0 H0 W ctx mem kws me R') (cj : CallKJ X W (.ref f) ks R R' g rc) (hm : X.mg n = some (.ref f)) (hk : PySem.W.keepIn X.K (.ref f) = true) (hg : Gl X n := by rfl) (hdb : (n == ("__debug__" : Str)) = false := by decide)
    (hall : (backToKw pos (keywordEach kws X.env)).all (·.1.isSome) = true := by rfl) (hks : (backToKw pos (keywordEach kws X.env)).filterMap (·.1) = ks := by rfl) (he : starEach (e :: es) X.env = (false, eval e X.env) :: starEach es X.env := by rfl)
    (hpl : ((backTo pos (starEach (e :: es) X.env)).any (·.1) || (backToKw pos (keywordEach kws X.env)).any (·.1.isNone)) = false := by rfl) : JE X I0 H0 W ctx mem (.Call (.Name n pos') (e :: es) kws pos) (md.bind fun x => me.bind fun y => g x y) rc := fun I H σ Q st p pins s Iv => by
  refine wpAny_Call_Name_kw (ld_glob Iv hg hm ?_ hdb)
  refine PySem.W.callWith_KW (h₀ := X.base) Iv.ok.mod.kin hk hall (thn (ja I H σ (fun vs H1 => ∀ pins s1 us, Inv X pins σ H1 s1 → Vals vs us → wpAny (model X.prog X.w) X.A (evalAll ((backToKw pos (keywordEach kws X.env)).map (·.2))) (fun ws s2 => X.K.In s2.heap ∧ wpAny (model X.prog X.w) X.A (PySem.call (.ref f) us (ks.zip ws)) (EP X pins σ Q) X.xe s2) X.xe s1) st ?_ pos pins s Iv) fun us s1 ⟨vs, H1, I1, r1, q1⟩ => ?_) hpl he
  · cases md with
    | ok x =>
      intro I1 H1 vs f1 r1 pins s1 us Iv1 ru
      have p1 := PostE.up p f1
      refine thn (jk pos I1 H1 σ (fun zs H2 => callKW X (.ref f) ks σ vs zs H2 Q) (st.step f1) ?_ pins s1 Iv1) fun ws s2 ⟨zs, H2, I2, r2, q2⟩ => ⟨I2.kIn, q2 pins s2 us ws I2 ru r2⟩
      cases me with
      | ok y => exact fun I2 H2 zs f2 r2 => cj I2 H2 σ Q vs zs x y f2.ih (MoR.up f2.i f2.h r1) r2 (PostE.up p1 f2)
      | err e => exact p1
      | stuck => exact p1
    | err e => exact p
    | stuck => exact p
  · refine thn (q1 pins s1 us I1 r1) fun ws s2 h => ?_
    rw [hks]
    exact h
theorem JE.callK0 {f : Addr} {g : Unit → ε → Res γ} (jk : JK X I0 H0 W ctx mem kws me R') (cj : CallKJ X W (.ref f) ks aNil R' g rc) (hm : X.mg n = some (.ref f)) (hk : PySem.W.keepIn X.K (.ref f) = true) (hg : Gl X n := by rfl) (hdb : (n == ("__debug__" : Str)) = false := by decide)
    (hall : (backToKw pos (keywordEach kws X.env)).all (·.1.isSome) = true := by rfl) (hks : (backToKw pos (keywordEach kws X.env)).filterMap (·.1) = ks := by rfl)
    (hpl : ((backTo pos (starEach [] X.env)).any (·.1) || (backToKw pos (keywordEach kws X.env)).any (·.1.isNone)) = false := by rfl) : JE X I0 H0 W ctx mem (.Call (.Name n pos') [] kws pos) (me.bind fun y => g () y) rc := fun I H σ Q st p pins s Iv => by
  refine wpAny_Call_Name_kw (ld_glob Iv hg hm ?_ hdb)
  refine PySem.W.callWith_KW0 (h₀ := X.base) Iv.ok.mod.kin hk hall ?_ hpl
  rw [hks]
  refine thn (jk pos I H σ (fun zs H2 => callKW X (.ref f) ks σ [] zs H2 Q) st ?_ pins s Iv) fun ws s2 ⟨zs, H2, I2, r2, q2⟩ => ⟨I2.kIn, q2 pins s2 [] ws I2 .nil r2⟩
  cases me with
  | ok y => exact fun I2 H2 zs f2 r2 => cj I2 H2 σ Q [] zs () y f2.ih rfl r2 (PostE.up p f2)
  | err e => exact p
  | stuck => exact p
/-- C(.., k = v): how it binds gives the promise of __init__ -/
theorem cjk_make {k n : Nat} {C f : Addr} {fd : FuncData} {ps : List Str} {gg : List Value → List Value → List Value} {gV : List V → List V → List V} {η : Type} {Ri : Hp → Hp → List V → η → Prop} {m : η → Res γ} {h : δ → ε → η} (M : Mk X.K C f) (F : FnOk X.prog X.w X.K X.mg X.base (L2.CX X.prog X.w) k f fd ps (spI X.K C Ri m rc)) (hr : Room (k + 1) X.A)
    (hb : KBn X.K fd ps (n + 1) ks gg gV) (tk : Takes X W) (hR : ∀ I H vs zs x y, R I H vs x → R' I H zs y → vs.length = n ∧ zs.length = ks.length ∧ ∀ v, ∃ ws, gV (v :: vs) zs = v :: ws ∧ Ri I H ws (h x y)) : CallKJ X W (.ref C) ks R R' (fun x y => m (h x y)) rc := fun I H σ Q vs zs x y sm r r' p pins s us ws Iv rv rz => by
  obtain ⟨l1, l2, hw⟩ := hR I H vs zs x y r r'
  have n1 := Iv.hok.fresh (Nat.le_succ s.heap.objs.size)
  have n2 := Iv.hok.fresh (Nat.le_refl s.heap.objs.size)
  have n3 := Nat.ne_of_lt (Nat.lt_succ_self s.heap.objs.size)
  obtain ⟨wv, ew, hRi⟩ := hw (.ref (s.heap.objs.size + 1))
  have hq : spI X.K C Ri m rc (gV (.ref (s.heap.objs.size + 1) :: vs) zs) (upd (upd H s.heap.objs.size (.own (s.heap.objs.size + 1))) (s.heap.objs.size + 1) (.ins C s.heap.objs.size [])) (fun v H2 => v = .non ∧ Q (.ref (s.heap.objs.size + 1)) H2) (fun cls d H' => W cls d σ H') :=
    ⟨s.heap.objs.size + 1, s.heap.objs.size, wv, H, I, h x y, ew, n1, n2, n3, rfl, sm, hRi, p.imp fun v H' q e => ⟨rfl, e ▸ q⟩⟩
  have I2 := Inv.made (C := C) Iv
  have r1 : Vals (V.ref (s.heap.objs.size + 1) :: vs) (Value.ref (s.heap.objs.size + 1) :: us) := .cons rfl rv
  have r2 := hb.rel r1 rz
  have nl : (Value.ref (s.heap.objs.size + 1) :: us).length = n + 1 := by rw [List.length_cons, ← rv.length, l1]
  refine wpAny_call (make_map (f := f) Iv.kIn M.makes M.init (beq_iff_eq.mp M.fn) (codeAny_mono (F.run _ X.stack _ _ ⟨Value.ref (s.heap.objs.size + 1) :: us, ks.zip ws⟩ (gg (Value.ref (s.heap.objs.size + 1) :: us) ws) _ _ _ (hr.make C us (ks.zip ws))
    (I2.env0.make C us (ks.zip ws)) (hb.to _ (Value.ref (s.heap.objs.size + 1) :: us) ws I2.kIn nl (rz.length.symm.trans l2)) r2 hq) fun r s' hq' => ?_))
  cases r with
  | error e => exact passAt tk σ pins _ _ e s' I2 hq'
  | ok fl =>
    cases fl with
    | ret u =>
      obtain ⟨v, H', I3, rv, ev, q3⟩ := I2.after hq'
      subst ev
      exact ⟨rv, ⟨V.ref (s.heap.objs.size + 1), H', I3, rfl, q3⟩⟩
    | next => exact False.elim hq'
    | brk => exact False.elim hq'
    | cont => exact False.elim hq'
theorem cx_false {P : Program} {w : World} {l : List Env} {H : Hp} {s : Shared} {e : Value} {s' : Shared} (h : L2.CX P w l H s (fun _ _ _ => False) e s') : False := by
  obtain ⟨_, _, _, _, _, _, _, _, _, _, _, _, z⟩ := h
  exact z.elim
end
def MkK {γ δ ε : Type} (P : Program) (w : World) (K : PySem.W.Frag) (mg : Str → Option Value) (base : Heap) (k : Nat) (C : Addr) (ks : List Str) (R : Hp → Hp → List V → δ → Prop) (R' : Hp → Hp → List V → ε → Prop) (m : δ → ε → Res γ) (r : Ra γ) : Prop :=
  ∀ (X : Cx) (W : WX), X.prog = P → X.w = w → X.K = K → X.mg = mg → X.base = base → Room k X.A → Takes X W → CallKJ X W (.ref C) ks R R' m r
theorem MkK.nice {γ δ ε : Type} {P : Program} {w : World} {K : PySem.W.Frag} {mg : Str → Option Value} {base : Heap} {k : Nat} {C : Addr} {ks : List Str} {R : Hp → Hp → List V → δ → Prop} {R' : Hp → Hp → List V → ε → Prop} {m m' : δ → ε → Res γ} {r : Ra γ} (F : MkK P w K mg base k C ks R R' m r) (h : ∀ d e, m' d e = .stuck ∨ m' d e = m d e) : MkK P w K mg base k C ks R R' m' r := fun X W e1 e2 e3 e4 e5 hr tk I H σ Q vs zs d ee s a b p => by
  refine F X W e1 e2 e3 e4 e5 hr tk I H σ Q vs zs d ee s a b ?_
  rcases h d ee with e | e
  · rw [show m' d ee = _ from e] at p; exact p.elim
  · rw [← e]; exact p
end L2.Tr

namespace L2.Tr
open PySem PySem.Spec PyProof.Rows
/-! ### the greatest common divisor -/
abbrev absI (x : Int) : Int := if x < 0 then -x else x
theorem absI_eq (x : Int) : absI x = (x.natAbs : Int) := by unfold absI; split <;> omega
theorem modI_ok {x y : Int} (h : y ≠ 0) : modI x y = .ok (x.fmod y) := Res.guard_pos h _
theorem cd_loop {c : Int × Int → Res Bool} {f : Int × Int → Res (Int × Int)} (hc : ∀ s, c s = .ok (!decide (s.2 = 0))) (hf : ∀ s, s.2 ≠ 0 → f s = .ok (s.2, s.1.fmod s.2)) : ∀ (k : Nat) (a b : Nat), b < k → whileM c f k ((a : Int), (b : Int)) = .ok ((Nat.gcd b a : Int), 0)
  | 0, _, _, h => by omega
  | k + 1, a, b, h => by
    show (c _).bind _ = _
    rw [hc]
    by_cases hb : b = 0
    · subst hb
      simp
    · have hb' : ¬ ((b : Int) = 0) := by omega
      simp only [Res.ok_bind, decide_eq_false hb', Bool.not_false, if_true]
      rw [hf _ hb', Int.fmod_eq_emod_of_nonneg _ (by omega)]
      show whileM c f k (((b : Nat) : Int), (((a % b : Nat)) : Int)) = _
      rw [cd_loop hc hf k b (a % b) (by have := Nat.mod_lt a (Nat.pos_of_ne_zero hb); omega)]
      rw [Nat.gcd_rec b a]
/-! ### Fraction(t, b) -/
def eBF : Exn := ⟨"BadFraction", []⟩
def qRaw (t b : Int) : Res Rat := if b = 0 then .err eBF else Res.guard ((Int.gcd t b).log2 < 9000) (.ok (Rat.divInt t b))
def qMk (t b : Int) : Res Rat := if b = 0 then .err eBF else Res.guard (b.natAbs.log2 < 9000) (.ok (Rat.divInt t b))
theorem log2_mono {a b : Nat} (h : a ≤ b) : a.log2 ≤ b.log2 := by
  by_cases ha : a = 0
  · subst ha; simp
  · have hb : b ≠ 0 := by omega
    exact (Nat.le_log2 hb).mpr (Nat.le_trans (Nat.log2_self_le ha) h)
theorem qMk_raw (t b : Int) : qMk t b = .stuck ∨ qMk t b = qRaw t b := by
  unfold qMk qRaw
  by_cases hb : b = 0
  · simp [hb]
  · rw [if_neg hb, if_neg hb]
    by_cases h : b.natAbs.log2 < 9000
    · right
      have : (Int.gcd t b).log2 ≤ b.natAbs.log2 := log2_mono (Int.gcd_le_natAbs_right t hb)
      rw [Res.guard_pos h, Res.guard_pos (by omega)]
    · left; unfold Res.guard; rw [if_neg h]
theorem div_num {t b : Int} (hb : b ≠ 0) (dv : Int) (hd : dv = if b < 0 then -(Int.gcd t b : Int) else (Int.gcd t b : Int)) : t.fdiv dv = (Rat.divInt t b).num ∧ b.fdiv dv = ((Rat.divInt t b).den : Int) := by
  have hg : (Int.gcd t b : Int) ≠ 0 := by
    intro h
    have := Int.gcd_eq_zero_iff.mp (by exact_mod_cast h : Int.gcd t b = 0)
    exact hb this.2
  obtain ⟨x, hx⟩ : (Int.gcd t b : Int) ∣ t := Int.gcd_dvd_left t b
  obtain ⟨y, hy⟩ : (Int.gcd t b : Int) ∣ b := Int.gcd_dvd_right t b
  have hgp : (0 : Int) < (Int.gcd t b : Int) := by omega
  rw [Rat.num_divInt, Rat.den_divInt, if_neg hb, Int.gcd_comm b t]
  generalize hG : (Int.gcd t b) = G at *
  have e1 : ∀ z : Int, ((G : Int) * z).fdiv G = z := fun z => by rw [Int.mul_comm]; exact Int.mul_fdiv_cancel z hg
  have e2 : ∀ z : Int, ((G : Int) * z).fdiv (-G) = -z := fun z => by
    have : (G : Int) * z = (-z) * (-(G : Int)) := by rw [Int.neg_mul_neg, Int.mul_comm]
    rw [this]; exact Int.mul_fdiv_cancel _ (by omega)
  have e3 : ∀ z : Int, ((G : Int) * z) / G = z := fun z => Int.mul_ediv_cancel_left z hg
  by_cases h : b < 0
  · rw [if_pos h] at hd
    subst hd
    have sg : b.sign = -1 := Int.sign_eq_neg_one_of_neg h
    refine ⟨?_, ?_⟩
    · rw [sg, hx, e2, show (-1 : Int) * ((G : Int) * x) = (G : Int) * (-x) from by rw [Int.mul_neg, Int.neg_mul, Int.one_mul], e3]
    · have e4 : ((b.natAbs / G : Nat) : Int) = -y := by
        rw [Int.natCast_ediv, show (b.natAbs : Int) = (G : Int) * (-y) from by rw [Int.mul_neg, ← hy]; omega, e3]
      rw [e4]
      conv => lhs; rw [hy]
      exact e2 y
  · rw [if_neg h] at hd
    subst hd
    have sg : b.sign = 1 := Int.sign_eq_one_of_pos (by omega)
    refine ⟨?_, ?_⟩
    · rw [sg, Int.one_mul]
      conv => lhs; rw [hx]
      conv => rhs; rw [hx]
      rw [e1, e3]
    · have e4 : ((b.natAbs / G : Nat) : Int) = y := by
        rw [Int.natCast_ediv, show (b.natAbs : Int) = (G : Int) * y from by rw [← hy]; omega, e3]
      rw [e4]
      conv => lhs; rw [hy]
      exact e1 y
theorem frF_of {I : Hp} {fs : List (Str × V)} {q : Rat} {n d : Int} (hn : n = q.num) (hd : d = q.den) (h : FldR I fs [("top", ⟨rInt, n⟩), ("bottom", ⟨rInt, d⟩)]) : fs = frF q := by
  subst hn; subst hd
  match fs, h with
  | [(a, u), (b, v)], ⟨e1, e2, e3, e4, _⟩ =>
    cases (show a = _ from e1); cases (show u = _ from e2); cases (show b = _ from e3); cases (show v = _ from e4)
    rfl
/-! ### the defs of exact.py -/
def n_cd (a b : Int) : Res Int := .ok (Int.gcd a b : Int)
def qInt (n : Int) : Res Rat := .ok (n : Rat)
theorem qInt_raw (n : Int) : qInt n = .stuck ∨ qInt n = qRaw n 1 := by
  right
  unfold qInt qRaw
  rw [if_neg (by decide), Res.guard_pos (by rw [Int.gcd_one]; decide)]
  congr 1
  exact Rat.ext (by rw [Rat.num_divInt]; simp) (by rw [Rat.den_divInt]; simp)
theorem vals_rev : ∀ {vs : List V} {us : List Value}, Vals vs us → Vals vs.reverse us.reverse
  | _, _, .nil => .nil
  | _, _, .cons a b => by
    rw [List.reverse_cons, List.reverse_cons]
    exact (vals_rev b).append (.cons a .nil)
theorem weak_refl : ∀ c : List (Option SF), weakC c c
  | [] => True.intro
  | none :: c => weak_refl c
  | some _ :: c => ⟨rfl, weak_refl c⟩
theorem weak_nil : weakC [] [] := True.intro
theorem weak_some {a : SF} {c d : List (Option SF)} (h : weakC c d) : weakC (some a :: c) (some a :: d) := ⟨rfl, h⟩
theorem weak_none {a : Option SF} {c d : List (Option SF)} (h : weakC c d) : weakC (a :: c) (none :: d) := h
theorem Stt.recast {I0 H0 I H : Hp} {ctx : List (Option SF)} {mem : List MF} {σ : L2.St} (s : Stt I0 H0 ctx mem I H σ) (i : Nat) {a b : SF} (hc : ctx[i]? = some (some a)) (h : ∀ v, a.r I v a.x → b.r I v b.x) : Stt I0 H0 (ctx.set i (some b)) mem I H σ := by
  refine ⟨s.fm, by rw [List.length_set]; exact s.len, fun j sf e => ?_, s.me, s.nd⟩
  by_cases hj : j = i
  · subst hj
    rw [List.getElem?_set] at e
    have hl : j < ctx.length := (List.getElem?_eq_some_iff.mp hc).1
    simp only [hl, if_true] at e
    cases e
    obtain ⟨v, e1, q⟩ := s.sl j a hc
    exact ⟨v, e1, h v q⟩
  · rw [List.getElem?_set_ne (Ne.symm hj)] at e
    exact s.sl j sf e
theorem JR.num {γ : Type} {X : Cx} {I0 H0 : Hp} {W : WX} {Kx : KnowsX} {ctx : List (Option SF)} {mem : List MF} {ss : List Stmt} {rr : Ra γ} {K : PySem.W.Frag} (i : Nat) {x : Num} {f1 : Int → Res γ} {f2 : Rat → Res γ} (k1 : ∀ n, JR X I0 H0 W Kx (Stt I0 H0 (ctx.set i (some ⟨rInt, n⟩)) mem) ss (f1 n) rr) (k2 : ∀ r, JR X I0 H0 W Kx (Stt I0 H0 (ctx.set i (some ⟨rFrac K, r⟩)) mem) ss (f2 r) rr)
    (hc : ctx[i]? = some (some ⟨rNum K, x⟩) := by rfl) : JR X I0 H0 W Kx (Stt I0 H0 ctx mem) ss (match x with | .i n => f1 n | .q r => f2 r) rr := fun I H σ D g p => by
  cases x with
  | i n => exact k1 n I H σ D (g.recast i (b := ⟨rInt, n⟩) hc fun v h => h) p
  | q r => exact k2 r I H σ D (g.recast i (b := ⟨rFrac K, r⟩) hc fun v h => h) p
theorem JR.dead {γ : Type} {X : Cx} {I0 H0 : Hp} {W : WX} {Kx : KnowsX} {G : Knows} {ss : List Stmt} {rr : Ra γ} : JR X I0 H0 W Kx G ss (.stuck : Res γ) rr := fun _ _ _ _ _ p => p.elim
theorem JN.dead {S : Type} {X : Cx} {W : WX} {Kx : KnowsX} {G : Knows} {ss : List Stmt} {G' : S → Knows} : JN X W Kx G ss (.stuck : Res S) G' := fun _ _ _ _ _ p => p.elim
theorem paired_ints (I H : Hp) : ∀ ns : List Int, Paired (rp rInt I H) (ns.map V.int) ns
  | [] => .nil
  | _ :: ns => .cons rfl (paired_ints I H ns)
/-! ### a law's cell -/
def cellAt (ns : List Int) (k : Nat) : Int := ns.getD k 0
theorem atM_nat {α : Type} {xs : List α} {k : Nat} {x : α} (h : xs[k]? = some x) : atM xs (k : Int) = .ok x := by unfold atM; rw [atI_nat h]
theorem powI_ok {x : Int} {y : Nat} (h1 : y ≤ 1000000) (h2 : x.natAbs < 2 ^ 64) : powI x (y : Int) = .ok (x ^ y) := by
  unfold powI; rw [Res.guard_pos ⟨by omega, by omega, h2⟩]; rfl
theorem mulI_ok {x y : Int} (h : x.natAbs.log2 + y.natAbs.log2 < 1000000) : mulI x y = .ok (x * y) := Res.guard_pos h _
theorem fdivI_ok {x y : Int} (h0 : y ≠ 0) (h : y.natAbs.log2 < 9000) : fdivI x y = .ok (x.fdiv y) := Res.guard_pos ⟨h0, h⟩ _
theorem log2_lt {x n : Nat} (h : x < 2 ^ (n + 1)) : x.log2 < n + 1 := by
  by_cases hx : x = 0
  · subst hx; simp
  · exact (Nat.log2_lt hx).mpr h
theorem FnOk.no {P : Program} {w : World} {K : PySem.W.Frag} {mg : Str → Option Value} {base : Heap} {k : Nat} {f : Addr} {fd : FuncData} {ps : List Str} {sp : Sp} (F : FnOk P w K mg base (L2.CX P w) k f fd ps sp) : FnOk P w K mg base CX0 k f fd ps (fun vs H Q _ => sp vs H Q fun _ _ _ => False) :=
  ⟨fun vs H Q _ h => F.len vs H Q _ h, fun A outer s H args us vs Q E hr e0 hb hv h => codeAny_mono (F.run A outer s H args us vs Q _ hr e0 hb hv h) fun r s' hq => by
    cases r with
    | error e => exact cx_false hq
    | ok fl => cases fl <;> exact hq⟩
end L2.Tr

namespace L2.Tr
open PySem PySem.Spec PyProof.Rows
/-! ### what is walked -/
/-- J walks the values vs while ok holds of the heap -/
def ItR (J : It) (vs : List V) (ok : Hp → Prop) : Prop := ∀ (i : Nat) (H : Hp), ok H → (i < vs.length → J.go i H ∧ ∀ x H', J.yld i H x H' → H' = H ∧ vs[i]? = some x) ∧ (vs.length ≤ i → J.stop i H)
theorem itr_list {K : PySem.W.Frag} {l : Addr} {vs : List V} : ItR (Itl K l) vs (fun H => SqL K H l vs) := fun i H q => ⟨fun h => ⟨⟨vs, vs[i], q, by simp [h]⟩, fun x H' y => ⟨y.1, y.2 vs q⟩⟩, fun h => ⟨vs, q, h⟩⟩
theorem itr_tup {K : PySem.W.Frag} {l : Addr} {vs : List V} : ItR (Itt K l) vs (fun H => SqT K H l vs) := fun i H q => ⟨fun h => ⟨⟨vs, vs[i], q, by simp [h]⟩, fun x H' y => ⟨y.1, y.2 vs q⟩⟩, fun h => ⟨vs, q, h⟩⟩
def rngV (lo : Int) (n : Nat) : List V := (List.range n).map fun (i : Nat) => .int (lo + (i : Int))
def rngI (lo : Int) (n : Nat) : List Int := (List.range n).map fun (i : Nat) => lo + (i : Int)
theorem itr_rng {lo : Int} {n : Nat} : ItR (Itr lo n) (rngV lo n) (fun _ => True) := fun i H _ => by
  have e : (rngV lo n).length = n := by simp [rngV]
  rw [e]
  exact ⟨fun h => ⟨h, fun x H' y => ⟨y.1, by rw [y.2]; simp [rngV, h]⟩⟩, fun h => h⟩
theorem rng_pair {I : Hp} {lo : Int} {n : Nat} : Paired (rInt I) (rngV lo n) (rngI lo n) := by
  unfold rngV rngI
  generalize List.range n = l
  induction l with
  | nil => exact .nil
  | cons a l ih => exact .cons rfl ih
def rngCV (lo c : Int) (n : Nat) : List V := (List.range n).map fun (i : Nat) => .int (lo + (i : Int) * c)
def rngCI (lo c : Int) (n : Nat) : List Int := (List.range n).map fun (i : Nat) => lo + (i : Int) * c
theorem itr_rngC {lo c : Int} {n : Nat} : ItR (Itc lo c n) (rngCV lo c n) (fun _ => True) := fun i H _ => by
  have e : (rngCV lo c n).length = n := by simp [rngCV]
  rw [e]
  exact ⟨fun h => ⟨h, fun x H' y => ⟨y.1, by rw [y.2]; simp [rngCV, h]⟩⟩, fun h => h⟩
theorem rngC_pair {I : Hp} {lo c : Int} {n : Nat} : Paired (rInt I) (rngCV lo c n) (rngCI lo c n) := by
  unfold rngCV rngCI
  generalize List.range n = l
  induction l with
  | nil => exact .nil
  | cons a l ih => exact .cons rfl ih
section
variable {α β γ δ S : Type} {X : Cx} {I0 H0 : Hp} {W : WX} {Kx : KnowsX} {G : Knows} {ctx cw : List (Option SF)} {mem : List MF} {e a b c o tg iter : Expr} {es bs : List Expr} {ss body : List Stmt} {pos pos' : Pos} {n : Str} {ra : Ra α} {rr : Ra γ} {ma : Res α}
def wI (X : Cx) (tg iter : Expr) : TI := fun σ H R => ∀ (pins : List (Addr × Obj)) (s : Shared), Inv X pins σ H s → wpAny (model X.prog X.w) X.A (eval iter X.env) (fun v s1 => wpAny (model X.prog X.w) X.A (pyIter v) (PIE X pins σ tg R) X.xe s1) X.xe s
theorem pi_W : PI X tg iter (wI X tg iter) := ⟨fun pins s _ _ _ I h => h pins s I⟩
theorem PI.w {t : TI} {σ : St} {H : Hp} {R : It → Hp → Prop} (p : PI X tg iter t) (h : t σ H R) : wI X tg iter σ H R := fun pins s I => p.run pins s σ H R I h
/-- what an iterable is worth: its items -/
def JI (X : Cx) (I0 H0 : Hp) (W : WX) (ctx : List (Option SF)) (mem : List MF) (tg iter : Expr) (m : Res (List β)) (r : Rp β) : Prop :=
  ∀ (I H : Hp) (σ : St) (R : It → Hp → Prop), Stt I0 H0 ctx mem I H σ → (match m with
    | .ok xs => ∀ I' H' J vs (okp : Hp → Prop), Fm I H I' H' → ItR J vs okp → (∀ I'' H'', Same I' I'' → Same I'' H'' → Same H0 H'' → okp H'') → Paired (r I') vs xs → R J H'
    | .err e => ∀ I' H' cls d, Fm I H I' H' → Fr H d ∧ ExR X.K I' H' e cls d → W cls d σ H'
    | .stuck => False) → wI X tg iter σ H R
theorem JI.list {r : Rp β} {m : Res (List β)} (j : JE X I0 H0 W ctx mem iter m (rp (rL r))) : JI X I0 H0 W ctx mem tg iter m r := fun I H σ R st p => by
  refine PI.w (pi_list pe_W) (j I H σ _ st ?_)
  cases m with
  | ok xs =>
    rintro I1 H1 v f1 ⟨l, vs, rfl, hl, pr⟩
    exact ⟨l, rfl, ⟨vs, SqL.of (f1.ih _ _ hl)⟩, p I1 H1 _ vs _ f1 itr_list (fun I2 H2 s1 s2 _ => SqL.of (s2 _ _ (s1 _ _ hl))) pr⟩
  | err e => exact p
  | stuck => exact p
theorem JI.tup {r : Rp β} {m : Res (List β)} (j : JE X I0 H0 W ctx mem iter m (rp (rT r))) : JI X I0 H0 W ctx mem tg iter m r := fun I H σ R st p => by
  refine PI.w (pi_tup pe_W) (j I H σ _ st ?_)
  cases m with
  | ok xs =>
    rintro I1 H1 v f1 ⟨l, vs, rfl, hl, pr⟩
    exact ⟨l, rfl, ⟨vs, SqT.of (f1.ih _ _ hl)⟩, p I1 H1 _ vs _ f1 itr_tup (fun I2 H2 s1 s2 _ => SqT.of (s2 _ _ (s1 _ _ hl))) pr⟩
  | err e => exact p
  | stuck => exact p
/-- a parameter's list -/
theorem JI.par (i : Nat) {r : Rp β} {mo : Mo (fun I v x => rdL X.K (rp r) I H0 v x)} {x : List β} [m : Mo r] (hc : ctx[i]? = some (some (@SF.mk (List β) (fun I v x => rdL X.K (rp r) I H0 v x) mo x)) := by rfl) (hN : X.N[i]? = some n := by rfl) (hv : Vis X.env.scope n := by first | exact Or.inl rfl | exact Or.inr (Or.inl rfl) | exact Or.inr (Or.inr rfl)) (hd : (n == ("__debug__" : Str)) = false := by decide)
    (hcd : (n == ("__classdict__" : Str)) = false := by decide) : JI X I0 H0 W ctx mem tg (.Name n pos) (.ok x) r := fun I H σ R st p => by
  obtain ⟨v, e, l, vs, ev, hl, pr⟩ := st.sl i _ hc
  subst ev
  refine PI.w (pi_list pe_W) (w_var i ⟨l, rfl, ⟨vs, st.fm.h.seq hl⟩, ?_⟩ e hN hv hd hcd)
  exact p I H _ vs _ (Fm.refl st.same) itr_list (fun I2 H2 s1 s2 s3 => s3.seq hl) pr
def rangeM (lo hi : Int) : Res (List Int) := Res.guard (-(2 ^ 62) ≤ lo ∧ lo < 2 ^ 62 ∧ -(2 ^ 62) ≤ hi ∧ hi < 2 ^ 62) (.ok (rngI lo (hi - lo).toNat))
def rangeM1 (hi : Int) : Res (List Int) := Res.guard (-(2 ^ 62) ≤ hi ∧ hi < 2 ^ 62) (.ok (rngI 0 hi.toNat))
theorem JI.range1 {m : Res Int} (j : JE X I0 H0 W ctx mem a m (rp rInt)) (hm : X.mg "range" = none) (hg : Gl X "range" := by rfl) (hs : starEach [a] X.env = (false, eval a X.env) :: starEach [] X.env := by rfl) : JI X I0 H0 W ctx mem tg (.Call (.Name "range" pos') [a] [] pos) (m.bind fun x => rangeM1 x) rInt := fun I H σ R st p => by
  refine PI.w (pi_range1 hg hm (pa_cons pe_W pa_nil hs) hs) (j I H σ _ st ?_)
  cases m with
  | ok x =>
    intro I1 H1 v f1 r1
    cases (show v = V.int x from r1)
    by_cases hh : -(2 ^ 62) ≤ x ∧ x < 2 ^ 62
    · have e : ((Res.ok x).bind fun x => rangeM1 x) = .ok (rngI 0 x.toNat) := Res.guard_pos hh _
      rw [e] at p
      exact ⟨x, rfl, hh.1, hh.2, p I1 H1 _ _ _ f1 itr_rng (fun _ _ _ _ _ => True.intro) rng_pair⟩
    · have e : ((Res.ok x).bind fun x => rangeM1 x) = .stuck := if_neg hh
      rw [e] at p
      exact p.elim
  | err e => exact p
  | stuck => exact p
theorem JI.range2 {m m' : Res Int} (j : JE X I0 H0 W ctx mem a m (rp rInt)) (j' : JE X I0 H0 W ctx mem b m' (rp rInt)) (hm : X.mg "range" = none) (hg : Gl X "range" := by rfl) (hs : starEach [a, b] X.env = (false, eval a X.env) :: starEach [b] X.env := by rfl) (hs2 : starEach [b] X.env = (false, eval b X.env) :: starEach [] X.env := by rfl) :
    JI X I0 H0 W ctx mem tg (.Call (.Name "range" pos') [a, b] [] pos) (m.bind fun x => m'.bind fun y => rangeM x y) rInt := fun I H σ R st p => by
  refine PI.w (pi_range2 hg hm (pa_cons pe_W (pa_cons pe_W pa_nil hs2) hs) (by rw [hs, hs2]; rfl) (by rw [hs2]; rfl)) (j I H σ _ st ?_)
  cases m with
  | ok x =>
    intro I1 H1 v f1 r1
    refine j' I1 H1 σ _ (st.step f1) ?_
    cases m' with
    | ok y =>
      intro I2 H2 v2 f2 r2
      cases (show v = V.int x from r1)
      cases (show v2 = V.int y from r2)
      by_cases hh : -(2 ^ 62) ≤ x ∧ x < 2 ^ 62 ∧ -(2 ^ 62) ≤ y ∧ y < 2 ^ 62
      · have e : ((Res.ok x).bind fun x => (Res.ok y).bind fun y => rangeM x y) = .ok (rngI x (y - x).toNat) := Res.guard_pos hh _
        rw [e] at p
        exact ⟨x, y, rfl, hh, p I2 H2 _ _ _ (f1.trans f2) itr_rng (fun _ _ _ _ _ => True.intro) rng_pair⟩
      · have e : ((Res.ok x).bind fun x => (Res.ok y).bind fun y => rangeM x y) = .stuck := if_neg hh
        rw [e] at p
        exact p.elim
    | err e => exact fun I2 H2 c d f2 x => p I2 H2 c d (f1.trans f2) ⟨x.1.back f1.h, x.2⟩
    | stuck => exact p
  | err e => exact p
  | stuck => exact p

/-! ### for: a body that goes on -/
def forS (f : β → S → Res S) : List β → S → Res S
  | [], s => .ok s
  | x :: xs, s => (f x s).bind fun s' => forS f xs s'
theorem paired_drop {F : α → β → Prop} {xs : List α} {ys : List β} (p : Paired F xs ys) (i : Nat) {x : α} (h : xs[i]? = some x) : ∃ y, ys[i]? = some y ∧ F x y := by
  have hl := Paired.length p
  have hi : i < ys.length := by rw [← hl]; exact (List.getElem?_eq_some_iff.mp h).1
  obtain ⟨x', e1, e2⟩ := paired_get p (List.getElem?_eq_getElem hi)
  rw [h] at e1
  cases e1
  exact ⟨_, List.getElem?_eq_getElem hi, e2⟩
theorem forS_drop {f : β → S → Res S} {xs : List β} {i : Nat} {x : β} (h : xs[i]? = some x) (s : S) : forS f (xs.drop i) s = (f x s).bind fun s' => forS f (xs.drop (i + 1)) s' := by
  have hi := (List.getElem?_eq_some_iff.mp h).1
  rw [List.drop_eq_getElem_cons hi]
  have : xs[i] = x := (List.getElem?_eq_some_iff.mp h).2
  rw [this]
  rfl
theorem J1.forS (j : Nat) {r : Rp β} [mo : Mo r] {m : Res (List β)} {cx : S → List (Option SF)} {me : S → List MF} {f : β → S → Res S} {s0 : S} (hp : PassesOwn (model X.prog X.w) X.A X.env X.xe) (ji : JI X I0 H0 W ctx (me s0) (.Name n pos') iter m r)
    (jb : ∀ x s, JN X W Kx (Stt I0 H0 ((cx s).set j (some ⟨r, x⟩)) (me s)) body (f x s) fun s' => Stt I0 H0 (cx s') (me s')) (hx : ∀ I H σ d, Stt I0 H0 ctx (me s0) I H σ → Fr H0 d → Kx I H σ d) (hw : weakC ctx (cx s0)) (hN : X.N.Nodup) (hc : X.calm = true := by rfl)
    (hj : X.N[j]? = some n := by rfl) (hl : Loc X.env.scope n := by first | exact Or.inl rfl | exact Or.inr rfl) (hf : X.fn n = true ∨ X.env.scope.names.lookup n = some .local := by first | exact .inl rfl | exact .inr rfl | assumption) (hs : ∀ x, foldedSetIterable iter X.env x = pure x := by intro _; rfl) :
    J1 X W Kx (Stt I0 H0 ctx (me s0)) (.For (.Name n pos') iter body [] pos) (m.bind fun xs => Tr.forS f xs s0) (fun s => Stt I0 H0 (cx s) (me s)) := fun I H σ D g p => by
  refine PS.w (ps_for hp hc pi_W (pg_name (i := j) hN hj hl hf) pss_W hs) (ji I H σ _ g ?_)
  cases m with
  | ok xs =>
    intro I1 H1 J vs okp f1 itr stay pr
    have p0 : PostB X W Kx I1 (Tr.forS f xs s0) (fun s => Stt I0 H0 (cx s) (me s)) D := PostB.up p f1.i
    have hlen := Paired.length pr
    refine ⟨fun i k σ' H' => k + i = vs.length ∧ ∃ I' s, Same I1 I' ∧ Stt I0 H0 (cx s) (me s) I' H' σ' ∧ PostB X W Kx I' (Tr.forS f (xs.drop i) s) (fun s => Stt I0 H0 (cx s) (me s)) D, ⟨vs.length, rfl, I1, s0, Same.refl _, (g.step f1).weak hw, p0⟩, ?_⟩
    rintro i k σ' H' ⟨hk, I', s, si, g', p'⟩
    have hok := stay I' H' si g'.same g'.fm.h
    by_cases hi : i < vs.length
    · obtain ⟨go, yl⟩ := (itr i H' hok).1 hi
      refine .inr ⟨go, fun σ2 H2 => ∃ I2 s2, Same I1 I2 ∧ Stt I0 H0 (cx s2) (me s2) I2 H2 σ2 ∧ PostB X W Kx I2 (Tr.forS f (xs.drop (i + 1)) s2) (fun s => Stt I0 H0 (cx s) (me s)) D, fun σ2 H2 h => ⟨k - 1, by omega, by omega, h⟩, fun v H2 hy => ?_⟩
      obtain ⟨rfl, ev⟩ := yl v H2 hy
      obtain ⟨x, ex, hr⟩ := paired_drop pr i ev
      rw [forS_drop ex] at p'
      have key := jb x s I' H2 (σ'.set j (some v)) { D with nx := fun σ2 H2 => ∃ I2 s2, Same I' I2 ∧ Stt I0 H0 (cx s2) (me s2) I2 H2 σ2 ∧ PostB X W Kx I2 (Tr.forS f (xs.drop (i + 1)) s2) (fun s => Stt I0 H0 (cx s) (me s)) D, ct := fun _ _ => False, bk := fun _ _ => False } (g'.set j (mo.up si hr)) ?_
      · refine b_mono key (fun σ2 H2 ⟨I2, s2, q1, q2, q3⟩ => ⟨I2, s2, si.trans q1, q2, q3⟩) (fun _ _ z => z) (fun _ _ z => z.elim) (fun _ _ z => z.elim)
      · revert p'
        generalize f x s = z
        intro p'
        cases z with
        | ok s2 => exact fun I2 H2 σ2 q1 q2 => ⟨I2, s2, q1, q2, PostB.up p' q1⟩
        | err e => exact p'
        | stuck => exact p'.elim
    · refine .inl ⟨(itr i H' hok).2 (by omega), ?_⟩
      have : xs.drop i = [] := List.drop_eq_nil_of_le (by omega)
      rw [this] at p'
      exact p' I' H' σ' (Same.refl _) g'
  | err e => exact fun I' H' c d f x => p I' H' σ c d (hx _ _ _ _ (g.step f) (x.1.back g.fm.h)) x.2
  | stuck => exact p.elim
end
end L2.Tr

namespace L2.Tr
open PySem PySem.Spec PyProof.Rows
/-! ### general flow: a block may go on, return, break or continue -/
inductive Fl (S L γ : Type)
  | nx (s : S)
  | rt (y : γ)
  | bk (l : L)
  | ct (l : L)
section
variable {α β γ δ S T L L' : Type}
def Fl.then (f : S → Res (Fl T L γ)) : Fl S L γ → Res (Fl T L γ)
  | .nx s => f s
  | .rt y => .ok (.rt y)
  | .bk l => .ok (.bk l)
  | .ct l => .ok (.ct l)
def Fl.out (f : S → Res γ) : Fl S L γ → Res γ
  | .nx s => f s
  | .rt y => .ok y
  | .bk _ => .stuck
  | .ct _ => .stuck
@[simp] theorem Fl.then_nx (f : S → Res (Fl T L γ)) (s : S) : Fl.then f (.nx s) = f s := rfl
@[simp] theorem Fl.then_rt (f : S → Res (Fl T L γ)) (y : γ) : Fl.then f (.rt y) = .ok (.rt y) := rfl
@[simp] theorem Fl.then_bk (f : S → Res (Fl T L γ)) (y : L) : Fl.then f (.bk y) = .ok (.bk y) := rfl
@[simp] theorem Fl.then_ct (f : S → Res (Fl T L γ)) (y : L) : Fl.then f (.ct y) = .ok (.ct y) := rfl
@[simp] theorem Fl.out_nx (f : S → Res γ) (s : S) : Fl.out (L := L) f (.nx s) = f s := rfl
@[simp] theorem Fl.out_rt (f : S → Res γ) (y : γ) : Fl.out (L := L) f (.rt y) = .ok y := rfl
def forG (f : β → S → Res (Fl S S γ)) : List β → S → Res (Fl S L γ)
  | [], s => .ok (.nx s)
  | x :: xs, s => (f x s).bind fun
    | .nx s' => forG f xs s'
    | .ct s' => forG f xs s'
    | .bk s' => .ok (.nx s')
    | .rt y => .ok (.rt y)
def whileG (c : S → Res Bool) (f : S → Res (Fl S S γ)) : Nat → S → Res (Fl S L γ)
  | 0, _ => .stuck
  | n + 1, s => (c s).bind fun b => if b = true then (f s).bind fun
    | .nx s' => whileG c f n s'
    | .ct s' => whileG c f n s'
    | .bk s' => .ok (.nx s')
    | .rt y => .ok (.rt y) else .ok (.nx s)
def PostG (X : Cx) (I0 H0 : Hp) (W : WX) (Kx : KnowsX) (I : Hp) (m : Res (Fl S L γ)) (G : S → Knows) (GL : L → Knows) (r : Ra γ) (D : Ends) : Prop := match m with
  | .ok (.nx s) => ∀ I' H' σ', Same I I' → G s I' H' σ' → D.nx σ' H'
  | .ok (.bk s) => ∀ I' H' σ', Same I I' → GL s I' H' σ' → D.bk σ' H'
  | .ok (.ct s) => ∀ I' H' σ', Same I I' → GL s I' H' σ' → D.ct σ' H'
  | .ok (.rt y) => ∀ I' H' v, Fm I0 H0 I' H' → r I' H' v y → D.rt v H'
  | .err e => ∀ I' H' σ' cls d, Kx I' H' σ' d → ExR X.K I' H' e cls d → W cls d σ' H'
  | .stuck => False
theorem PostG.up {X : Cx} {I0 H0 : Hp} {W : WX} {Kx : KnowsX} {I I1 : Hp} {m : Res (Fl S L γ)} {G : S → Knows} {GL : L → Knows} {r : Ra γ} {D : Ends} (p : PostG X I0 H0 W Kx I m G GL r D) (s : Same I I1) : PostG X I0 H0 W Kx I1 m G GL r D := by
  cases m with
  | ok a => cases a with
    | nx s => exact fun I' H' σ' q => p I' H' σ' (Same.trans ‹Same I I1› q)
    | bk s => exact fun I' H' σ' q => p I' H' σ' (Same.trans ‹Same I I1› q)
    | ct s => exact fun I' H' σ' q => p I' H' σ' (Same.trans ‹Same I I1› q)
    | rt y => exact p
  | err e => exact p
  | stuck => exact p
def J1G (X : Cx) (I0 H0 : Hp) (W : WX) (Kx : KnowsX) (G : Knows) (st : Stmt) (m : Res (Fl S L γ)) (G' : S → Knows) (GL : L → Knows) (r : Ra γ) : Prop := ∀ (I H : Hp) (σ : St) (D : Ends), G I H σ → PostG X I0 H0 W Kx I m G' GL r D → wS X st D σ H
def JG (X : Cx) (I0 H0 : Hp) (W : WX) (Kx : KnowsX) (G : Knows) (ss : List Stmt) (m : Res (Fl S L γ)) (G' : S → Knows) (GL : L → Knows) (r : Ra γ) : Prop := ∀ (I H : Hp) (σ : St) (D : Ends), G I H σ → PostG X I0 H0 W Kx I m G' GL r D → wB X ss D σ H
variable {X : Cx} {I0 H0 : Hp} {W : WX} {Kx : KnowsX} {G : Knows} {ctx : List (Option SF)} {mem : List MF} {e a b c o iter : Expr} {es bs : List Expr} {st : Stmt} {ss s1 s2 body : List Stmt} {pos pos' : Pos} {n : Str} {ra : Ra α} {rr : Ra γ} {ma : Res α} {mc : Res Bool} {GL : L → Knows}
theorem JG.nil {s : S} {G' : S → Knows} (h : ∀ I H σ, G I H σ → G' s I H σ) : JG X I0 H0 W Kx G [] (.ok (.nx s)) G' GL rr := fun I H σ D g p => b_nil (p I H σ (Same.refl _) (h _ _ _ g))
theorem JG.seq {m : Res S} {G1 : S → Knows} {f : S → Res (Fl T L γ)} {G2 : T → Knows} (j : J1 X W Kx G st m G1) (k : ∀ s, JG X I0 H0 W Kx (G1 s) ss (f s) G2 GL rr) : JG X I0 H0 W Kx G (st :: ss) (m.bind f) G2 GL rr := fun I H σ D g p => by
  refine b_cons (j I H σ _ g ?_)
  cases m with
  | ok s => exact fun I' H' σ' si g' => k s I' H' σ' D g' (PostG.up p si)
  | err e => exact p
  | stuck => exact p
theorem JG.seqG {m : Res (Fl S L γ)} {G1 : S → Knows} {f : S → Res (Fl T L γ)} {G2 : T → Knows} (j : J1G X I0 H0 W Kx G st m G1 GL rr) (k : ∀ s, JG X I0 H0 W Kx (G1 s) ss (f s) G2 GL rr) : JG X I0 H0 W Kx G (st :: ss) (m.bind (Fl.then f)) G2 GL rr := fun I H σ D g p => by
  refine b_cons (j I H σ _ g ?_)
  cases m with
  | ok a => cases a with
    | nx s => exact fun I' H' σ' si g' => k s I' H' σ' D g' (PostG.up p si)
    | bk s => exact p
    | ct s => exact p
    | rt s => exact p
  | err e => exact p
  | stuck => exact p
theorem JR.seqG {m : Res (Fl S L γ)} {G1 : S → Knows} {f : S → Res γ} (j : J1G X I0 H0 W Kx G st m G1 GL rr) (k : ∀ s, JR X I0 H0 W Kx (G1 s) ss (f s) rr) : JR X I0 H0 W Kx G (st :: ss) (m.bind (Fl.out f)) rr := fun I H σ D g p => by
  refine b_cons (j I H σ _ g ?_)
  cases m with
  | ok a => cases a with
    | nx s => exact fun I' H' σ' si g' => k s I' H' σ' D g' p
    | bk s => exact p.elim
    | ct s => exact p.elim
    | rt s => exact p
  | err e => exact p
  | stuck => exact p
theorem JG.rt {m : Res γ} {G' : S → Knows} (j : JR X I0 H0 W Kx G ss m rr) : JG X I0 H0 W Kx G ss (m.bind fun y => .ok (.rt y)) G' GL rr := fun I H σ D g p => by
  refine j I H σ D g ?_
  cases m with
  | ok y => exact p
  | err e => exact p
  | stuck => exact p
theorem J1G.of {m : Res S} {G' : S → Knows} (j : J1 X W Kx G st m G') : J1G X I0 H0 W Kx G st (m.bind fun s => .ok (.nx s)) G' GL rr := fun I H σ D g p => by
  refine j I H σ D g ?_
  cases m with
  | ok y => exact p
  | err e => exact p
  | stuck => exact p
theorem JG.ifT {m1 m2 : Res (Fl S L γ)} {G' : S → Knows} (j : JT X I0 H0 W ctx mem c mc) (k1 : JG X I0 H0 W Kx (Stt I0 H0 ctx mem) s1 m1 (fun _ _ _ _ => False) GL rr) (k2 : JG X I0 H0 W Kx (Stt I0 H0 ctx mem) ss m2 G' GL rr) (hx : ∀ I H σ d, Stt I0 H0 ctx mem I H σ → Fr H0 d → Kx I H σ d) :
    JG X I0 H0 W Kx (Stt I0 H0 ctx mem) (.If c s1 [] pos :: ss) (mc.bind fun x => if x = true then m1 else m2) G' GL rr := fun I H σ D g p => by
  refine b_cons (s_if (j I H σ _ g ?_))
  cases mc with
  | ok x =>
    intro I1 H1 v f r y hy
    cases r; cases hy
    cases x with
    | true =>
      refine iteT (b_mono (k1 I1 H1 σ { D with nx := fun _ _ => False } (g.step f) ?_) (fun _ _ z => z.elim) (fun _ _ z => z) (fun _ _ z => z) (fun _ _ z => z))
      have p1 : PostG X I0 H0 W Kx I1 m1 _ _ _ _ := PostG.up p f.i
      cases m1 with
      | ok a => cases a with
        | nx s => exact fun _ _ _ _ z => z
        | bk s => exact p1
        | ct s => exact p1
        | rt s => exact p1
      | err e => exact p1
      | stuck => exact p1
    | false => exact iteF (b_nil (k2 I1 H1 σ D (g.step f) (PostG.up p f.i)))
  | err e => exact fun I' H' c d f x => p I' H' σ c d (hx _ _ _ _ (g.step f) (x.1.back g.fm.h)) x.2
  | stuck => exact p
theorem J1G.if {m1 m2 : Res (Fl S L γ)} {G' : S → Knows} (j : JT X I0 H0 W ctx mem c mc) (k1 : JG X I0 H0 W Kx (Stt I0 H0 ctx mem) s1 m1 G' GL rr) (k2 : JG X I0 H0 W Kx (Stt I0 H0 ctx mem) s2 m2 G' GL rr) (hx : ∀ I H σ d, Stt I0 H0 ctx mem I H σ → Fr H0 d → Kx I H σ d) :
    J1G X I0 H0 W Kx (Stt I0 H0 ctx mem) (.If c s1 s2 pos) (mc.bind fun x => if x = true then m1 else m2) G' GL rr := fun I H σ D g p => by
  refine s_if (j I H σ _ g ?_)
  cases mc with
  | ok x =>
    intro I1 H1 v f r y hy
    cases r; cases hy
    cases x with
    | true => exact iteT (k1 I1 H1 σ D (g.step f) (PostG.up p f.i))
    | false => exact iteF (k2 I1 H1 σ D (g.step f) (PostG.up p f.i))
  | err e => exact fun I' H' c d f x => p I' H' σ c d (hx _ _ _ _ (g.step f) (x.1.back g.fm.h)) x.2
  | stuck => exact p
theorem JG.bk {l : L} {G' : S → Knows} (h : ∀ I H σ, G I H σ → GL l I H σ) : JG X I0 H0 W Kx G (.Break pos :: ss) (.ok (.bk l)) G' GL rr := fun I H σ D g p => b_cons (PS.w ps_break (p I H σ (Same.refl _) (h _ _ _ g)))
theorem JG.ct {l : L} {G' : S → Knows} (h : ∀ I H σ, G I H σ → GL l I H σ) : JG X I0 H0 W Kx G (.Continue pos :: ss) (.ok (.ct l)) G' GL rr := fun I H σ D g p => b_cons (PS.w ps_continue (p I H σ (Same.refl _) (h _ _ _ g)))
theorem JG.pre {G1 : Knows} {m : Res (Fl S L γ)} {G' : S → Knows} (h : ∀ I H σ, G I H σ → G1 I H σ) (j : JG X I0 H0 W Kx G1 ss m G' GL rr) : JG X I0 H0 W Kx G ss m G' GL rr := fun I H σ D g p => j I H σ D (h _ _ _ g) p
theorem JR.pre {G1 : Knows} {m : Res γ} (h : ∀ I H σ, G I H σ → G1 I H σ) (j : JR X I0 H0 W Kx G1 ss m rr) : JR X I0 H0 W Kx G ss m rr := fun I H σ D g p => j I H σ D (h _ _ _ g) p
theorem forG_drop {f : β → S → Res (Fl S S γ)} {xs : List β} {i : Nat} {x : β} (h : xs[i]? = some x) (s : S) : (forG f (xs.drop i) s : Res (Fl S L γ)) = (f x s).bind fun
    | .nx s' => forG f (xs.drop (i + 1)) s'
    | .ct s' => forG f (xs.drop (i + 1)) s'
    | .bk s' => .ok (.nx s')
    | .rt y => .ok (.rt y) := by
  have hi := (List.getElem?_eq_some_iff.mp h).1
  rw [List.drop_eq_getElem_cons hi]
  have : xs[i] = x := (List.getElem?_eq_some_iff.mp h).2
  rw [this]
  rfl
theorem J1G.forG (j : Nat) {r : Rp β} [mo : Mo r] {m : Res (List β)} {cx : S → List (Option SF)} {me : S → List MF} {f : β → S → Res (Fl S S γ)} {s0 : S} (hp : PassesOwn (model X.prog X.w) X.A X.env X.xe) (ji : JI X I0 H0 W ctx (me s0) (.Name n pos') iter m r)
    (jb : ∀ x s, JG X I0 H0 W Kx (Stt I0 H0 ((cx s).set j (some ⟨r, x⟩)) (me s)) body (f x s) (fun s' => Stt I0 H0 (cx s') (me s')) (fun s' => Stt I0 H0 (cx s') (me s')) rr) (hx : ∀ I H σ d, Stt I0 H0 ctx (me s0) I H σ → Fr H0 d → Kx I H σ d) (hw : weakC ctx (cx s0)) (hN : X.N.Nodup) (hc : X.calm = true := by rfl)
    (hj : X.N[j]? = some n := by rfl) (hl : Loc X.env.scope n := by first | exact Or.inl rfl | exact Or.inr rfl) (hf : X.fn n = true ∨ X.env.scope.names.lookup n = some .local := by first | exact .inl rfl | exact .inr rfl | assumption) (hs : ∀ x, foldedSetIterable iter X.env x = pure x := by intro _; rfl) :
    J1G X I0 H0 W Kx (Stt I0 H0 ctx (me s0)) (.For (.Name n pos') iter body [] pos) (m.bind fun xs => (Tr.forG f xs s0 : Res (Fl S L γ))) (fun s => Stt I0 H0 (cx s) (me s)) GL rr := fun I H σ D g p => by
  refine PS.w (ps_for hp hc pi_W (pg_name (i := j) hN hj hl hf) pss_W hs) (ji I H σ _ g ?_)
  cases m with
  | ok xs =>
    intro I1 H1 J vs okp f1 itr stay pr
    have p0 : PostG X I0 H0 W Kx I1 (Tr.forG f xs s0) (fun s => Stt I0 H0 (cx s) (me s)) GL rr D := PostG.up p f1.i
    have hlen := Paired.length pr
    refine ⟨fun i k σ' H' => k + i = vs.length ∧ ∃ I' s, Same I1 I' ∧ Stt I0 H0 (cx s) (me s) I' H' σ' ∧ PostG X I0 H0 W Kx I' (Tr.forG f (xs.drop i) s) (fun s => Stt I0 H0 (cx s) (me s)) GL rr D, ⟨vs.length, rfl, I1, s0, Same.refl _, (g.step f1).weak hw, p0⟩, ?_⟩
    rintro i k σ' H' ⟨hk, I', s, si, g', p'⟩
    have hok := stay I' H' si g'.same g'.fm.h
    by_cases hi : i < vs.length
    · obtain ⟨go, yl⟩ := (itr i H' hok).1 hi
      refine .inr ⟨go, fun σ2 H2 => ∃ I2 s2, Same I1 I2 ∧ Stt I0 H0 (cx s2) (me s2) I2 H2 σ2 ∧ PostG X I0 H0 W Kx I2 (Tr.forG f (xs.drop (i + 1)) s2) (fun s => Stt I0 H0 (cx s) (me s)) GL rr D, fun σ2 H2 h => ⟨k - 1, by omega, by omega, h⟩, fun v H2 hy => ?_⟩
      obtain ⟨rfl, ev⟩ := yl v H2 hy
      obtain ⟨x, ex, hr⟩ := paired_drop pr i ev
      rw [forG_drop ex] at p'
      refine jb x s I' H2 (σ'.set j (some v)) _ (g'.set j (mo.up si hr)) ?_
      revert p'
      generalize f x s = z
      intro p'
      cases z with
      | ok a => cases a with
        | nx s2 => exact fun I2 H2 σ2 q1 q2 => ⟨I2, s2, si.trans q1, q2, PostG.up p' q1⟩
        | ct s2 => exact fun I2 H2 σ2 q1 q2 => ⟨I2, s2, si.trans q1, q2, PostG.up p' q1⟩
        | bk s2 => exact p'
        | rt y => exact p'
      | err e => exact p'
      | stuck => exact p'.elim
    · refine .inl ⟨(itr i H' hok).2 (by omega), ?_⟩
      have : xs.drop i = [] := List.drop_eq_nil_of_le (by omega)
      rw [this] at p'
      exact p' I' H' σ' (Same.refl _) g'
  | err e => exact fun I' H' c d f x => p I' H' σ c d (hx _ _ _ _ (g.step f) (x.1.back g.fm.h)) x.2
  | stuck => exact p.elim
theorem J1G.whileG {fuel : Nat} {s0 : S} {cx : S → List (Option SF)} {me : S → List MF} {mc : S → Res Bool} {mf : S → Res (Fl S S γ)} (hp : PassesOwn (model X.prog X.w) X.A X.env X.xe) (jc : ∀ s, JT X I0 H0 W (cx s) (me s) c (mc s)) (jb : ∀ s, JG X I0 H0 W Kx (Stt I0 H0 (cx s) (me s)) ss (mf s) (fun s' => Stt I0 H0 (cx s') (me s')) (fun s' => Stt I0 H0 (cx s') (me s')) rr)
    (hx : ∀ s I H σ d, Stt I0 H0 (cx s) (me s) I H σ → Fr H0 d → Kx I H σ d) : J1G X I0 H0 W Kx (Stt I0 H0 (cx s0) (me s0)) (.While c ss [] pos) (Tr.whileG mc mf fuel s0 : Res (Fl S L γ)) (fun s => Stt I0 H0 (cx s) (me s)) GL rr := fun I H σ D g p => by
  refine PS.w (ps_while hp pt_W pss_W) ⟨fun k σ' H' => ∃ I' s, Stt I0 H0 (cx s) (me s) I' H' σ' ∧ PostG X I0 H0 W Kx I' (Tr.whileG mc mf k s) (fun s => Stt I0 H0 (cx s) (me s)) GL rr D, ⟨fuel, I, s0, g, p⟩, ?_⟩
  rintro k σ' H' ⟨I', s, g', p'⟩
  cases k with
  | zero => exact p'.elim
  | succ k =>
    refine jc s I' H' σ' _ g' ?_
    have p2 : PostG X I0 H0 W Kx I' ((mc s).bind fun b => if b = true then (mf s).bind fun
      | .nx s' => Tr.whileG mc mf k s'
      | .ct s' => Tr.whileG mc mf k s'
      | .bk s' => .ok (.nx s')
      | .rt y => .ok (.rt y) else .ok (.nx s)) _ GL rr D := p'
    revert p2
    generalize mc s = z
    intro p2
    cases z with
    | ok x =>
      intro I1 H1 v f r y hy
      cases r; cases hy
      cases x with
      | true =>
        refine iteT ⟨fun σ2 H2 => ∃ I2 s', Stt I0 H0 (cx s') (me s') I2 H2 σ2 ∧ PostG X I0 H0 W Kx I2 (Tr.whileG mc mf k s') (fun s => Stt I0 H0 (cx s) (me s)) GL rr D, fun σ2 H2 h => ⟨k, Nat.lt_succ_self _, h⟩, ?_⟩
        refine jb s I1 H1 σ' _ (g'.step f) ?_
        have p3 : PostG X I0 H0 W Kx I1 ((mf s).bind fun
          | .nx s' => Tr.whileG mc mf k s'
          | .ct s' => Tr.whileG mc mf k s'
          | .bk s' => .ok (.nx s')
          | .rt y => .ok (.rt y)) _ GL rr D := PostG.up p2 f.i
        revert p3
        generalize mf s = z
        intro p3
        cases z with
        | ok a => cases a with
          | nx s' => exact fun I2 H2 σ2 si g2 => ⟨I2, s', g2, PostG.up p3 si⟩
          | ct s' => exact fun I2 H2 σ2 si g2 => ⟨I2, s', g2, PostG.up p3 si⟩
          | bk s' => exact p3
          | rt y => exact p3
        | err e => exact p3
        | stuck => exact p3
      | false => exact iteF (p2 I1 H1 σ' f.i (g'.step f))
    | err e => exact fun I' H' c d f x => p2 I' H' σ' c d (hx _ _ _ _ _ (g'.step f) (x.1.back g'.fm.h)) x.2
    | stuck => exact p2.elim
end
end L2.Tr
namespace L2.Tr
open PySem PySem.Spec PyProof.Rows
def Fl.get {S L γ : Type} : Fl S L γ → Res S
  | .nx s => .ok s
  | _ => .stuck
theorem J1.ofG {S L γ : Type} {X : Cx} {I0 H0 : Hp} {W : WX} {Kx : KnowsX} {G : Knows} {st : Stmt} {m : Res (Fl S L γ)} {G' : S → Knows} {rr : Ra γ} (j : J1G X I0 H0 W Kx G st m G' (fun _ _ _ _ => False) rr) : J1 X W Kx G st (m.bind Fl.get) G' := fun I H σ D g p => by
  refine j I H σ D g ?_
  cases m with
  | ok a => cases a with
    | nx s => exact p
    | bk s => exact p.elim
    | ct s => exact p.elim
    | rt s => exact p.elim
  | err e => exact p
  | stuck => exact p
theorem tyr_bool {K : PySem.W.Frag} {t : String} {g : Bool} (h : kitB "bool" t = some g) : TyR K (rp rBl) (.type t) (fun _ => g) := fun I H v x _ e => ⟨.type "bool", by rw [show v = _ from e]; exact .base (.bl _), kit_ty h⟩
end L2.Tr

namespace L2.Tr
open PySem PySem.Spec PyProof.Rows
/-! ### fractions in plain Lean -/
abbrev big : Nat := 2 ^ 4000
def fitI (n : Int) : Prop := n.natAbs ≤ big
def fits (q : Rat) : Prop := q.num.natAbs ≤ big ∧ q.den ≤ big
instance (n : Int) : Decidable (fitI n) := inferInstanceAs (Decidable (_ ≤ _))
instance (q : Rat) : Decidable (fits q) := inferInstanceAs (Decidable (_ ∧ _))
theorem log_big {n : Nat} (h : n ≤ big) : n.log2 ≤ 4000 := by
  have := log2_mono h
  have e : big.log2 = 4000 := Nat.log2_two_pow
  omega
theorem big_mul {a b : Nat} (ha : a ≤ big) (hb : b ≤ big) : (a * b).log2 < 9000 := by
  have h1 : a * b ≤ 2 ^ 8000 := by
    have := Nat.mul_le_mul ha hb
    rwa [show big * big = 2 ^ 8000 from by rw [← Nat.pow_add]] at this
  have := log2_mono h1
  rw [Nat.log2_two_pow] at this
  omega
theorem mul_fit {a b : Int} (ha : a.natAbs ≤ big) (hb : b.natAbs ≤ big) : mulI a b = .ok (a * b) := mulI_ok (by have := log_big ha; have := log_big hb; omega)
theorem fits_int {n : Int} : fits (n : Rat) ↔ fitI n := by
  unfold fits fitI
  rw [Rat.num_intCast, Rat.den_intCast]
  exact ⟨fun h => h.1, fun h => ⟨h, Nat.one_le_two_pow⟩⟩
theorem den_nz (x : Rat) : (x.den : Int) ≠ 0 := by have := x.den_nz; omega
theorem qMk_ok {t b : Int} (hb : b ≠ 0) (hl : b.natAbs.log2 < 9000) : qMk t b = .ok (Rat.divInt t b) := by unfold qMk; rw [if_neg hb, Res.guard_pos hl]
def gQ (x : Rat) (y : Num) (r : Rat) : Res Rat := Res.guard (fits x ∧ fits y.val) (.ok r)
def gB (x : Rat) (y : Num) (r : Bool) : Res Bool := Res.guard (fits x ∧ fits y.val) (.ok r)
def qAdd (x : Rat) (y : Num) : Res Rat := gQ x y (x + y.val)
def qSub (x : Rat) (y : Num) : Res Rat := gQ x y (x - y.val)
def qMul (x : Rat) (y : Num) : Res Rat := gQ x y (x * y.val)
def qRadd (x : Rat) (y : Int) : Res Rat := gQ x (.i y) ((y : Rat) + x)
def qRsub (x : Rat) (y : Int) : Res Rat := gQ x (.i y) ((y : Rat) - x)
def qRmul (x : Rat) (y : Int) : Res Rat := gQ x (.i y) ((y : Rat) * x)
def qNeg (x : Rat) : Res Rat := Res.guard (fits x) (.ok (-x))
def qAbs (x : Rat) : Res Rat := Res.guard (fits x) (.ok (if x < 0 then -x else x))
def qBool (x : Rat) : Res Bool := .ok (!decide (x = 0))
def qEq (x : Rat) (y : Num) : Res Bool := .ok (decide (x = y.val))
def qLt (x : Rat) (y : Num) : Res Bool := gB x y (decide (x < y.val))
def qLe (x : Rat) (y : Num) : Res Bool := gB x y (decide (x ≤ y.val))
def qGt (x : Rat) (y : Num) : Res Bool := gB x y (decide (y.val < x))
def qGe (x : Rat) (y : Num) : Res Bool := gB x y (decide (y.val ≤ x))
def qAs (y : Num) : Res Rat := .ok y.val
def qOver (x : Rat) (y : Num) : Res Rat := Res.guard (fits x ∧ fits y.val) (if y.val = 0 then .err eBF else .ok (x / y.val))
theorem stuck_or {α : Type} {p : Prop} [Decidable p] {m r : Res α} (h : p → m = r) : Res.guard p m = .stuck ∨ Res.guard p m = r := by
  by_cases hp : p
  · exact .inr (by rw [Res.guard_pos hp, h hp])
  · exact .inl (if_neg hp)
theorem fd {x : Rat} (h : fits x) : ((x.den : Int)).natAbs ≤ big := by rw [Int.natAbs_natCast]; exact h.2
theorem qMk_dd {x y : Rat} (hx : fits x) (hy : fits y) (t : Int) : qMk t ((x.den : Int) * (y.den : Int)) = .ok (Rat.divInt t ((x.den : Int) * (y.den : Int))) :=
  qMk_ok (Int.mul_ne_zero (den_nz x) (den_nz y)) (by rw [Int.natAbs_mul, Int.natAbs_natCast, Int.natAbs_natCast]; exact big_mul hx.2 hy.2)
theorem qMk_d {x : Rat} (hx : fits x) (t : Int) : qMk t (x.den : Int) = .ok (Rat.divInt t (x.den : Int)) :=
  qMk_ok (den_nz x) (by rw [Int.natAbs_natCast]; have := log_big hx.2; omega)
theorem add_divs (x y : Rat) : Rat.divInt (x.num * (y.den : Int) + y.num * (x.den : Int)) ((x.den : Int) * (y.den : Int)) = x + y := by
  conv => rhs; rw [← Rat.num_divInt_den x, ← Rat.num_divInt_den y, Rat.divInt_add_divInt _ _ (den_nz x) (den_nz y)]
theorem sub_divs (x y : Rat) : Rat.divInt (x.num * (y.den : Int) - y.num * (x.den : Int)) ((x.den : Int) * (y.den : Int)) = x - y := by
  conv => rhs; rw [← Rat.num_divInt_den x, ← Rat.num_divInt_den y, Rat.divInt_sub_divInt _ _ (den_nz x) (den_nz y)]
theorem mul_divs (x y : Rat) : Rat.divInt (x.num * y.num) ((x.den : Int) * (y.den : Int)) = x * y := by
  conv => rhs; rw [← Rat.num_divInt_den x, ← Rat.num_divInt_den y, Rat.divInt_mul_divInt _ _]
theorem add_div1 (x : Rat) (n : Int) : Rat.divInt (x.num + n * (x.den : Int)) (x.den : Int) = x + (n : Rat) := by
  have := add_divs x (n : Rat)
  rw [Rat.num_intCast, Rat.den_intCast] at this
  simpa using this
theorem sub_div1 (x : Rat) (n : Int) : Rat.divInt (x.num - n * (x.den : Int)) (x.den : Int) = x - (n : Rat) := by
  have := sub_divs x (n : Rat)
  rw [Rat.num_intCast, Rat.den_intCast] at this
  simpa using this
theorem mul_div1 (x : Rat) (n : Int) : Rat.divInt (x.num * n) (x.den : Int) = x * (n : Rat) := by
  have := mul_divs x (n : Rat)
  rw [Rat.num_intCast, Rat.den_intCast] at this
  simpa using this
theorem neg_div1 (x : Rat) : Rat.divInt (-x.num) (x.den : Int) = -x := by
  conv => rhs; rw [← Rat.num_divInt_den x, Rat.neg_divInt]
theorem eq_dec (x y : Rat) : (if decide (x.num = y.num) = true then Res.ok (decide ((x.den : Int) = (y.den : Int))) else .ok false) = .ok (decide (x = y)) := by
  by_cases h : x = y
  · subst h; simp
  · rw [decide_eq_false h]
    by_cases h1 : x.num = y.num
    · rw [decide_eq_true h1, if_pos rfl, decide_eq_false]
      intro h2
      exact h (Rat.ext h1 (by exact_mod_cast h2))
    · rw [decide_eq_false h1, if_neg (by decide)]
theorem eq_dec1 (x : Rat) (n : Int) : (if decide ((x.den : Int) = 1) = true then Res.ok (decide (x.num = n)) else .ok false) = .ok (decide (x = (n : Rat))) := by
  have h := eq_dec x (n : Rat)
  rw [Rat.num_intCast, Rat.den_intCast] at h
  rw [← h]
  by_cases h1 : (x.den : Int) = 1 <;> by_cases h2 : x.num = n <;> simp [h1, h2]
theorem lt_int (x : Rat) (n : Int) : x < (n : Rat) ↔ x.num < n * (x.den : Int) := by
  rw [Rat.lt_iff, Rat.num_intCast, Rat.den_intCast]; simp
theorem le_int (x : Rat) (n : Int) : x ≤ (n : Rat) ↔ x.num ≤ n * (x.den : Int) := by
  rw [Rat.le_iff, Rat.num_intCast, Rat.den_intCast]; simp
theorem gt_int (x : Rat) (n : Int) : (n : Rat) < x ↔ n * (x.den : Int) < x.num := by
  rw [Rat.lt_iff, Rat.num_intCast, Rat.den_intCast]; simp
theorem ge_int (x : Rat) (n : Int) : (n : Rat) ≤ x ↔ n * (x.den : Int) ≤ x.num := by
  rw [Rat.le_iff, Rat.num_intCast, Rat.den_intCast]; simp
/-! ### sizes -/
def Sz (s : Nat) (q : Rat) : Prop := q.num.natAbs ≤ 2 ^ s ∧ q.den ≤ 2 ^ s
theorem Sz.fits {s : Nat} {q : Rat} (h : Sz s q) (hs : s ≤ 4000 := by decide) : fits q := ⟨Nat.le_trans h.1 (Nat.pow_le_pow_right (by decide) hs), Nat.le_trans h.2 (Nat.pow_le_pow_right (by decide) hs)⟩
theorem Sz.mono {s t : Nat} {q : Rat} (h : Sz s q) (hs : s ≤ t) : Sz t q := ⟨Nat.le_trans h.1 (Nat.pow_le_pow_right (by decide) hs), Nat.le_trans h.2 (Nat.pow_le_pow_right (by decide) hs)⟩
theorem sz_divInt {t b : Int} {s : Nat} (h1 : t.natAbs ≤ 2 ^ s) (h2 : b.natAbs ≤ 2 ^ s) : Sz s (Rat.divInt t b) := by
  by_cases hb : b = 0
  · subst hb
    rw [Rat.divInt_zero]
    exact ⟨by simp, Nat.one_le_two_pow⟩
  · refine ⟨?_, ?_⟩
    · obtain ⟨m, m0, e1, _⟩ := Rat.divInt_num_den hb (show Rat.divInt t b = ⟨(Rat.divInt t b).num, (Rat.divInt t b).den, (Rat.divInt t b).den_nz, (Rat.divInt t b).reduced⟩ from rfl)
      have h3 : t.natAbs = (Rat.divInt t b).num.natAbs * m.natAbs := by rw [← Int.natAbs_mul, ← e1]
      refine Nat.le_trans ?_ h1
      rw [h3]
      exact Nat.le_mul_of_pos_right _ (by omega)
    · rw [Rat.den_divInt, if_neg hb]
      exact Nat.le_trans (Nat.div_le_self _ _) h2
theorem sz_int {n : Int} {s : Nat} (h : n.natAbs ≤ 2 ^ s) : Sz s (n : Rat) := by
  unfold Sz
  rw [Rat.num_intCast, Rat.den_intCast]
  exact ⟨h, Nat.one_le_two_pow⟩
theorem pow2_mul {a b s t : Nat} (ha : a ≤ 2 ^ s) (hb : b ≤ 2 ^ t) : a * b ≤ 2 ^ (s + t) := by
  rw [Nat.pow_add]; exact Nat.mul_le_mul ha hb
theorem Sz.mul {s t : Nat} {x y : Rat} (hx : Sz s x) (hy : Sz t y) : Sz (s + t) (x * y) := by
  rw [← mul_divs]
  refine sz_divInt ?_ ?_
  · rw [Int.natAbs_mul]; exact pow2_mul hx.1 hy.1
  · rw [Int.natAbs_mul, Int.natAbs_natCast, Int.natAbs_natCast]; exact pow2_mul hx.2 hy.2
theorem Sz.add {s t : Nat} {x y : Rat} (hx : Sz s x) (hy : Sz t y) : Sz (s + t + 1) (x + y) := by
  rw [← add_divs]
  have a1 := pow2_mul hx.1 hy.2
  have a2 := pow2_mul hx.2 hy.1
  have a3 := pow2_mul hx.2 hy.2
  have e : 2 ^ (s + t + 1) = 2 ^ (s + t) + 2 ^ (s + t) := by rw [Nat.pow_succ]; omega
  refine sz_divInt ?_ ?_
  · refine Nat.le_trans (Int.natAbs_add_le _ _) ?_
    rw [Int.natAbs_mul, Int.natAbs_mul, Int.natAbs_natCast, Int.natAbs_natCast, Nat.mul_comm y.num.natAbs]
    omega
  · rw [Int.natAbs_mul, Int.natAbs_natCast, Int.natAbs_natCast]; omega
theorem Sz.neg {s : Nat} {x : Rat} (hx : Sz s x) : Sz s (-x) := by
  refine ⟨?_, ?_⟩
  · show (-x.num).natAbs ≤ _; rw [Int.natAbs_neg]; exact hx.1
  · exact hx.2
theorem Sz.sub {s t : Nat} {x y : Rat} (hx : Sz s x) (hy : Sz t y) : Sz (s + t + 1) (x - y) := by
  rw [Rat.sub_eq_add_neg]; exact hx.add hy.neg
theorem Sz.inv {s : Nat} {x : Rat} (hx : Sz s x) : Sz s x⁻¹ := by
  rw [Rat.inv_def]
  exact sz_divInt (by rw [Int.natAbs_natCast]; exact hx.2) hx.1
theorem Sz.div {s t : Nat} {x y : Rat} (hx : Sz s x) (hy : Sz t y) : Sz (s + t) (x / y) := by
  rw [Rat.div_def]; exact hx.mul hy.inv
theorem div_divs (x y : Rat) (h : y ≠ 0) : Rat.divInt (x.num * (y.den : Int)) ((x.den : Int) * y.num) = x / y := by
  rw [Rat.div_def, Rat.inv_def]
  conv => rhs; rw [← Rat.num_divInt_den x, Rat.divInt_mul_divInt]
theorem num_zero {y : Rat} : y.num = 0 ↔ y = 0 := Rat.num_eq_zero
theorem qMk_dn {x y : Rat} (hx : fits x) (hy : fits y) (h : y ≠ 0) (t : Int) : qMk t ((x.den : Int) * y.num) = .ok (Rat.divInt t ((x.den : Int) * y.num)) :=
  qMk_ok (Int.mul_ne_zero (den_nz x) (fun e => h (num_zero.mp e))) (by rw [Int.natAbs_mul, Int.natAbs_natCast]; exact big_mul hx.2 hy.1)
/-- m answers something that P holds of, and so the rest answers r -/
theorem bind_to {α β : Type} {m : Res α} {f : α → Res β} {r : Res β} (P : α → Prop) (h : ∃ v, m = .ok v ∧ P v) (k : ∀ v, P v → f v = r) : m.bind f = r := by
  obtain ⟨v, rfl, p⟩ := h
  exact k v p
theorem divs_lt {a b c d : Int} (hb : 0 < b) (hd : 0 < d) : Rat.divInt a b < Rat.divInt c d ↔ a * d - c * b < 0 := by
  rw [← Rat.not_le, Rat.le_iff_sub_nonneg, Rat.divInt_sub_divInt _ _ (by omega) (by omega), Rat.divInt_nonneg_iff_of_pos_right (Int.mul_pos hb hd)]
  omega
theorem int_divs {b : Int} (n : Int) (hb : b ≠ 0) : (n : Rat) = Rat.divInt (n * b) b := by
  have := Rat.divInt_mul_right (n := n) (d := 1) (a := b) hb
  rw [Int.one_mul] at this
  rw [this]
  exact Rat.ext (by rw [Rat.num_divInt]; simp) (by rw [Rat.den_divInt]; simp)
theorem divs_lt_int {a b n : Int} (hb : 0 < b) : Rat.divInt a b < (n : Rat) ↔ a - n * b < 0 := by
  have e : (n : Rat) = Rat.divInt n 1 := by have := int_divs (b := 1) n (by decide); rwa [Int.mul_one] at this
  rw [e, divs_lt hb (by decide), Int.mul_one]
theorem int_lt_divs {a b n : Int} (hb : 0 < b) : (n : Rat) < Rat.divInt a b ↔ n * b - a < 0 := by
  have e : (n : Rat) = Rat.divInt n 1 := by have := int_divs (b := 1) n (by decide); rwa [Int.mul_one] at this
  rw [e, divs_lt (by decide) hb, Int.mul_one]
theorem absN (v : Int) : (if v < 0 then -v else v) = (v.natAbs : Int) := by split <;> omega
/-! ### the guards, passed -/
theorem qAdd_ok {x : Rat} {y : Num} (hx : fits x) (hy : fits y.val) : qAdd x y = .ok (x + y.val) := Res.guard_pos ⟨hx, hy⟩ _
theorem qSub_ok {x : Rat} {y : Num} (hx : fits x) (hy : fits y.val) : qSub x y = .ok (x - y.val) := Res.guard_pos ⟨hx, hy⟩ _
theorem qMul_ok {x : Rat} {y : Num} (hx : fits x) (hy : fits y.val) : qMul x y = .ok (x * y.val) := Res.guard_pos ⟨hx, hy⟩ _
theorem qRadd_ok {x : Rat} {y : Int} (hx : fits x) (hy : fits (y : Rat)) : qRadd x y = .ok ((y : Rat) + x) := Res.guard_pos ⟨hx, hy⟩ _
theorem qRsub_ok {x : Rat} {y : Int} (hx : fits x) (hy : fits (y : Rat)) : qRsub x y = .ok ((y : Rat) - x) := Res.guard_pos ⟨hx, hy⟩ _
theorem qRmul_ok {x : Rat} {y : Int} (hx : fits x) (hy : fits (y : Rat)) : qRmul x y = .ok ((y : Rat) * x) := Res.guard_pos ⟨hx, hy⟩ _
theorem qNeg_ok {x : Rat} (hx : fits x) : qNeg x = .ok (-x) := Res.guard_pos hx _
theorem qAbs_ok {x : Rat} (hx : fits x) : qAbs x = .ok (if x < 0 then -x else x) := Res.guard_pos hx _
theorem qLt_ok {x : Rat} {y : Num} (hx : fits x) (hy : fits y.val) : qLt x y = .ok (decide (x < y.val)) := Res.guard_pos ⟨hx, hy⟩ _
theorem qLe_ok {x : Rat} {y : Num} (hx : fits x) (hy : fits y.val) : qLe x y = .ok (decide (x ≤ y.val)) := Res.guard_pos ⟨hx, hy⟩ _
theorem qGt_ok {x : Rat} {y : Num} (hx : fits x) (hy : fits y.val) : qGt x y = .ok (decide (y.val < x)) := Res.guard_pos ⟨hx, hy⟩ _
theorem qGe_ok {x : Rat} {y : Num} (hx : fits x) (hy : fits y.val) : qGe x y = .ok (decide (y.val ≤ x)) := Res.guard_pos ⟨hx, hy⟩ _
theorem qOver_ok {x : Rat} {y : Num} (hx : fits x) (hy : fits y.val) (h : y.val ≠ 0) : qOver x y = .ok (x / y.val) := by unfold qOver; rw [Res.guard_pos ⟨hx, hy⟩, if_neg h]
theorem qOver_err {x : Rat} {y : Num} (hx : fits x) (hy : fits y.val) (h : y.val = 0) : qOver x y = .err eBF := by unfold qOver; rw [Res.guard_pos ⟨hx, hy⟩, if_pos h]
end L2.Tr

/-! in-place operators of an own class without in-place methods; abs and bool of an own class -/
namespace PySem.W
open PySem PySem.Calls PyProof.Rows
section
variable {prog : Program} {w : World} {A : Around} {E : Value → Shared → Prop} {s : Shared} {K : Frag} {x C dx L f : Addr} {h₀ : Heap} {m : Str → Option Value} {ox : Obj} {od : Option Obj} {nm : String}
def noIpl (K : Frag) (C : Addr) (nm : String) : Bool := match clsIn K C with
  | some cd => cd.mro.all fun c => He.eqO (findIn K c (dunderI nm)) (some none)
  | none => false
theorem tr_fillsNo {add : Bool} (X : K.In s.heap) (h : noIpl K C nm = true) : Looks (model prog w) s.heap (fillsInplaceSlot (.ref C) nm add) false := by
  unfold noIpl at h
  split at h
  · rename_i cd hc
    intro A Q E s' k q
    have Lm : Looks (model prog w) s.heap (mroOf (.ref C)) cd.mro := (looks_clsIn X hc).andThen (f := fun cd => pure cd.mro) .now
    unfold fillsInplaceSlot
    refine wpAny_bind ((Lm.keeps k).at ?_)
    have X' := X.keeps k
    generalize cd.mro = l at h
    clear Lm
    induction l with
    | nil => exact wpAny_pure q
    | cons c l ih =>
      rw [List.all_cons] at h
      obtain ⟨h1, h2⟩ := (Bool.and_eq_true _ _ ▸ h : _ ∧ _)
      rw [List.anyM_cons]
      refine wpAny_bind (wpAny_bind ((looks_findIn X' (He.eqO_ok h1)).at ?_))
      dsimp only
      refine wpAny_pure ?_
      simp only [Bool.false_eq_true, if_false]
      exact ih h2
  · cases h
theorem tr_bin1K {b : Value} {nm : String} {Q : Value → Shared → Prop} (X : K.In s.heap) (I : InstAt s.heap x ox C od) (hb : Looks (model prog w) s.heap (typeOf b) (.ref C)) (hc : selfFirst K C = true)
    (hs : findIn K (.ref C) (PySem.dunder nm) = some (some (.ref f))) (hf : isFn K (.ref f) = true)
    (h : wpAny (model prog w) A (call (.ref f) [.ref x, b]) (CmpBack Q) E s) : wpAny (model prog w) A (binaryOp1 nm (.ref x) b) (fun r s' => ∃ v, r = some v ∧ Q v s') E s := by
  obtain ⟨cd, rest, hcd, hm⟩ := ksp_first hc
  unfold binaryOp1
  refine wpAny_bind (I.type.here (wpAny_bind (hb.here (wpAny_bind ((fills_K X hcd hm hs).here ?_)))))
  simp only [beq_self_eq_true, if_true]
  refine wpAny_bind (wpAny_pure ?_)
  simp only [Bool.and_false, Bool.false_eq_true, if_false, Bool.false_and]
  refine wpAny_bind (wpAny_pure ?_)
  simp only [Bool.false_eq_true, if_false]
  refine wpAny_bind (m := tryMethod (.ref x) _ b) ?_
  unfold tryMethod
  refine wpAny_bind (special_fn X I hs (beq_iff_eq.mp hf) (wpAny_mono h (fun v s' hv => ?_) fun _ _ e => e))
  cases v <;> first | exact hv.elim | exact wpAny_pure (wpAny_pure ⟨_, rfl, hv⟩)
theorem tr_bin1T {T : String} {nm' : String} {b : Value} {fo ro rc : Option Value} {Q : Value → Shared → Prop} (X : K.In s.heap) (I : InstAt s.heap x ox C od) (hb : typeOf b = pure (.type T)) (hc : selfFirst K C = true)
    (hs : findIn K (.ref C) (PySem.dunder nm') = some (some (.ref f))) (hf : isFn K (.ref f) = true) (hr : findIn K (.ref C) (dunderR nm') = some rc) (hp : rc = none ∨ ∃ g : Addr, rc = some (.ref g))
    (h1 : findIn K (.type T) (PySem.dunder nm') = some fo) (h2 : findIn K (.type T) (dunderR nm') = some ro) (hsub : subIn K (.type T) (.ref C) = some false)
    (h : wpAny (model prog w) A (call (.ref f) [.ref x, b]) (CmpBack Q) E s) : wpAny (model prog w) A (binaryOp1 nm' (.ref x) b) (fun r s' => ∃ v, r = some v ∧ Q v s') E s := by
  obtain ⟨cd, rest, hcd, hm⟩ := ksp_first hc
  have one := ksp_try X I hs hf h
  obtain ⟨hh, g, d, tt, os⟩ := s
  have L1 : Looks (model prog w) hh (typeOf (.ref x)) (.ref C) := I.type
  have L2 : Looks (model prog w) hh (typeOf b) (.type T) := Looks.of_pure hb
  have L3 : Looks (model prog w) hh (fillsNumberSlot (.ref C) nm') true := fills_K X hcd hm hs
  have L4 : Looks (model prog w) hh (fillsNumberSlot (.type T) nm') ((fo.isSome && !isSeqSlot fo) || (ro.isSome && !isSeqSlot ro)) := ksp_fillsT X h1 h2
  have L5 : Looks (model prog w) hh (isSubtype (.type T) (.ref C)) false := looks_subIn X hsub
  have L6 : Looks (model prog w) hh (numberSlotInPython (.ref C) nm') true := ksp_inPy X hs hr hp
  have L7 : Looks (model prog w) hh (numberSlotInPython (.type T) nm') false := Looks.of_pure rfl
  have L8 : Looks (model prog w) hh (typeLookup (.type T) (dunderR nm')) ro := looks_findIn X h2
  generalize ((fo.isSome && !isSeqSlot fo) || (ro.isSome && !isSeqSlot ro)) = right at L4
  have hne : (Value.ref C == Value.type T) = false := Bool.eq_false_iff.mpr fun q => by cases beq_iff_eq.mp q
  unfold binaryOp1
  refine wpAny_bind (L1.at (wpAny_bind (L2.at (wpAny_bind (L3.at ?_)))))
  simp only [hne, Bool.false_eq_true, if_false]
  cases right with
  | false =>
    ksp_lk
    refine wpAny_mono one (fun r s' hr' => ?_) fun _ _ e => e
    obtain ⟨v, rfl, hq⟩ := hr'
    ksp_lk
    exact ⟨_, rfl, hq⟩
  | true =>
    ksp_lk
    refine wpAny_mono one (fun r s' hr' => ?_) fun _ _ e => e
    obtain ⟨v, rfl, hq⟩ := hr'
    ksp_lk
    exact ⟨_, rfl, hq⟩
theorem tr_ipl {op : Operator} {b : Value} {Q : Value → Shared → Prop} (X : K.In s.heap) (I : InstAt s.heap x ox C od) (hn : noIpl K C op.info.2 = true)
    (h : wpAny (model prog w) A (binaryOp1 op.info.2 (.ref x) b) (fun r s' => ∃ v, r = some v ∧ Q v s') E s) : wpAny (model prog w) A (inplaceOp op (.ref x) b) Q E s := by
  have L2 : Looks (model prog w) s.heap (fillsInplaceSlot (.ref C) op.info.2 (op == .Add)) false := tr_fillsNo X hn
  unfold inplaceOp
  refine wpAny_holding (wpAny_bind (I.type.here (wpAny_bind (L2.here ?_))))
  simp only [Bool.false_eq_true, if_false]
  refine wpAny_bind (m := binaryOp1 _ _ _) (wpAny_mono h (fun r s' z => ?_) fun _ _ e => e)
  obtain ⟨v, rfl, hq⟩ := z
  exact wpAny_pure hq
theorem tr_abs {Q : Value → Shared → Prop} (X : K.In s.heap) (I : InstAt s.heap x ox C od) (hs : findIn K (.ref C) "__abs__" = some (some (.ref f))) (hf : isFn K (.ref f) = true)
    (h : wpAny (model prog w) A.in1 (call (.ref f) [.ref x]) Q E s) : wpAny (model prog w) A (call (.builtin "abs") [.ref x]) Q E s := by
  refine call_function_entry kind_abs plain_abs entry_abs (args_abs _) ?_
  unfold Builtin.«abs»
  refine wpAny_bind (m := oneArg "abs" _) (wpAny_pure ?_)
  refine wpAny_bind (m := callSpecial? (.ref x) (Str.ofString "__abs__")) (special_fn X I hs (beq_iff_eq.mp hf) (wpAny_mono h (fun r s' hr => ?_) fun _ _ y => y))
  exact wpAny_pure ⟨_, rfl, hr⟩
theorem meets_bool_own (prog : Program) (w : World) (x : Addr) : MeetsIn prog w (Builtin.«bool.__new__» ⟨[.type "bool", .ref x], []⟩) (fun A R s => wpAny (model prog w) A.in1 (truthy (.ref x)) (fun b s' => R (.ok (.ret (.bool b))) s') (fun e s' => R (.error e) s') s) := fun A R s hs => by
  unfold Builtin.«bool.__new__»
  dsimp only
  refine wpAny_bind (m := isType (.type "bool")) (wpAny_pure ?_)
  simp only [Bool.not_true, Bool.false_eq_true, if_false]
  rw [F.conv_sub_bool]
  refine wpAny_bind (wpAny_pure ?_)
  simp only [Bool.not_true, Bool.false_eq_true, if_false]
  refine wpAny_bind (m := someArgs "bool" 0 1 _) (wpAny_pure ?_)
  refine wpAny_bind (m := truthy (.ref x)) (wpAny_mono hs (fun b s' h => wpAny_pure h) fun _ _ h => h)
theorem tr_bool {Q : Value → Shared → Prop} (X : K.In s.heap) (I : InstAt s.heap x ox C od) (hs : findIn K (.ref C) "__bool__" = some (some (.ref f))) (hf : isFn K (.ref f) = true)
    (h : wpAny (model prog w) A.in1.in1 (call (.ref f) [.ref x]) (fun r s' => ∃ b, r = .bool b ∧ Q (.bool b) s') E s) : wpAny (model prog w) A (call (.type "bool") [.ref x]) Q E s := by
  refine callType_newIn PySem.F.called_bool PySem.F.newNe_bool (PySem.F.typeCall_bool_1 _) (PySem.F.newCall_bool_1 _) (fun obj => PySem.F.args_object_init_2 obj _) PySem.F.entry_bool_new (meets_bool_own prog w x) ?_
  unfold truthy
  refine wpAny_bind (m := callSpecial? (.ref x) (Str.ofString "__bool__")) (special_fn X I hs (beq_iff_eq.mp hf) (wpAny_mono h (fun r s' hr => ?_) fun _ _ y => y))
  obtain ⟨b, rfl, q⟩ := hr
  exact wpAny_pure ⟨rfl, q⟩
theorem tr_truthy {Q : Bool → Shared → Prop} (X : K.In s.heap) (I : InstAt s.heap x ox C od) (hs : findIn K (.ref C) "__bool__" = some (some (.ref f))) (hf : isFn K (.ref f) = true)
    (h : wpAny (model prog w) A (call (.ref f) [.ref x]) (fun r s' => ∃ b, r = .bool b ∧ Q b s') E s) : wpAny (model prog w) A (truthy (.ref x)) Q E s := by
  unfold truthy
  refine wpAny_bind (m := callSpecial? (.ref x) (Str.ofString "__bool__")) (special_fn X I hs (beq_iff_eq.mp hf) (wpAny_mono h (fun r s' hr => ?_) fun _ _ y => y))
  obtain ⟨b, rfl, q⟩ := hr
  exact wpAny_pure q
end
end PySem.W
namespace L2.Tr
open PySem PySem.Spec PyProof.Rows He
section
variable {α β γ δ S : Type} {X : Cx} {I0 H0 : Hp} {W : WX} {Kx : KnowsX} {ctx : List (Option SF)} {mem : List MF} {e a b c o : Expr} {es bs : List Expr} {pos pos' : Pos} {n : Str} {ra : Ra α} {rb : Ra β} {rc : Ra γ} {ma : Res α} {mb : Res β}
def fNoIpl (x : Str) (nm : String) : FB := fun K => PySem.W.noIpl K (ga K x) nm
theorem noIpl_of {K : PySem.W.Frag} {x : Str} {nm : String} (c : fNoIpl x nm K = true) : PySem.W.noIpl K (ga K x) nm = true := c
/-- x op= y, both of the class -/
theorem opi_own {op : Operator} {C f : Addr} {g : α × β × Unit → Res γ} (hc : OCls X.K C) (hn : PySem.W.noIpl X.K C op.info.2 = true) (hm : OMet X.K C (PySem.dunder op.info.2) f) (ia : InsR C ra) (ib : InsR C rb) (cj : CallJ X W (.ref f) (R2' ra rb) g rc) :
    OpJ X W (inplaceOp op) ra rb (fun x y => g (x, y, ())) rc := fun I H σ Q u v x y s a b p pins sh uu vv Iv ru rv => by
  obtain ⟨au, dx, fs, rfl, hu⟩ := ia I H u x s a
  obtain ⟨av, dy, gs, rfl, hv⟩ := ib I H v y s b
  cases (show uu = Value.ref au from ru)
  cases (show vv = Value.ref av from rv)
  obtain ⟨od, J⟩ := insAt Iv hu
  obtain ⟨od', J'⟩ := insAt Iv hv
  exact PySem.W.tr_ipl Iv.kIn J hn (PySem.W.tr_bin1K Iv.kIn J J'.type hc.sf hm.at_ hm.fn (back_W (cj I H σ Q [.ref au, .ref av] (x, y, ()) s ⟨_, _, rfl, a, _, _, rfl, b, rfl⟩ p) Iv (.cons rfl (.cons rfl .nil))))
theorem opi_ownI {op : Operator} {C f f' : Addr} {g : α × Int × Unit → Res γ} {fo ro : Option Value} (hc : OCls X.K C) (hn : PySem.W.noIpl X.K C op.info.2 = true) (hm : OMet X.K C (PySem.dunder op.info.2) f) (hr : OMet X.K C (dunderR op.info.2) f') (h1 : PySem.W.findIn X.K (.type "int") (PySem.dunder op.info.2) = some fo) (h2 : PySem.W.findIn X.K (.type "int") (dunderR op.info.2) = some ro)
    (ia : InsR C ra) (cj : CallJ X W (.ref f) (R2' ra (rp rInt)) g rc) : OpJ X W (inplaceOp op) ra (rp rInt) (fun x y => g (x, y, ())) rc := fun I H σ Q u v x y s a b p pins sh uu vv Iv ru rv => by
  obtain ⟨au, dx, fs, rfl, hu⟩ := ia I H u x s a
  cases (show uu = Value.ref au from ru)
  cases (show v = V.int y from b)
  obtain ⟨t, e⟩ := (show ∃ t, vv = Value.int y t from rv)
  cases e
  obtain ⟨od, J⟩ := insAt Iv hu
  exact PySem.W.tr_ipl Iv.kIn J hn (PySem.W.tr_bin1T (T := "int") Iv.kIn J rfl hc.sf hm.at_ hm.fn hr.at_ (.inr ⟨_, rfl⟩) h1 h2 hc.in_ (back_W (cj I H σ Q [.ref au, .int y] (x, y, ()) s ⟨_, _, rfl, a, _, _, rfl, rfl, rfl⟩ p) Iv (.cons rfl (.cons ⟨_, rfl⟩ .nil))))
variable {f f' : Addr} {k k' : Nat} {g : Rat × Num × Unit → Res γ} {g' : Rat × Int × Unit → Res γ}
theorem opi_qq {op : Operator} (hn : PySem.W.noIpl X.K (He.ga X.K "Fraction") op.info.2 = true) (hc : OCls X.K (He.ga X.K "Fraction")) (hm : OMet X.K (He.ga X.K "Fraction") (PySem.dunder op.info.2) f) (F : FnR X.prog X.w X.K X.mg X.base (L2.CX X.prog X.w) k f (spF X.K (R2' (rp (rFrac X.K)) (rp (rNum X.K))) g rc)) (hr : Room k X.A) (tk : Takes X W) :
    OpJ X W (inplaceOp op) (rp (rFrac X.K)) (rp (rFrac X.K)) (fun x y => g (x, .q y, ())) rc := opi_own (g := fun d => g (d.1, .q d.2.1, ())) hc hn hm insF insF ((cj_of F hr tk).co fun I H vs d _ h => h)
theorem opi_qi {op : Operator} {fo ro : Option Value} (hn : PySem.W.noIpl X.K (He.ga X.K "Fraction") op.info.2 = true) (hc : OCls X.K (He.ga X.K "Fraction")) (hm : OMet X.K (He.ga X.K "Fraction") (PySem.dunder op.info.2) f) (hm' : OMet X.K (He.ga X.K "Fraction") (dunderR op.info.2) f') (h1 : PySem.W.findIn X.K (.type "int") (PySem.dunder op.info.2) = some fo) (h2 : PySem.W.findIn X.K (.type "int") (dunderR op.info.2) = some ro)
    (F : FnR X.prog X.w X.K X.mg X.base (L2.CX X.prog X.w) k f (spF X.K (R2' (rp (rFrac X.K)) (rp (rNum X.K))) g rc)) (hr : Room k X.A) (tk : Takes X W) :
    OpJ X W (inplaceOp op) (rp (rFrac X.K)) (rp rInt) (fun x y => g (x, .i y, ())) rc := opi_ownI (g := fun d => g (d.1, .i d.2.1, ())) hc hn hm hm' h1 h2 insF ((cj_of F hr tk).co fun I H vs d _ h => h)
theorem opi_add : OpJ X W (inplaceOp .Add) (rp rInt) (rp rInt) (fun x y => .ok (x + y)) (rp rInt) := fun I H σ Q u v x y s a b p => OpR.w iop_add ⟨x, y, a, b, p I H _ (Fm.refl s) rfl⟩
theorem opi_sub : OpJ X W (inplaceOp .Sub) (rp rInt) (rp rInt) (fun x y => .ok (x - y)) (rp rInt) := fun I H σ Q u v x y s a b p => OpR.w iop_sub ⟨x, y, a, b, p I H _ (Fm.refl s) rfl⟩
/-- x op= e, x a local name -/
theorem J1.aug (i : Nat) {op : Operator} {r1 : Rp α} {r2 : Rp β} {r3 : Rp γ} [mo1 : Mo r1] [Mo r3] {mo : Mo r1} {m : Res β} {x : α} {h : α → β → Res γ} (j : JE X I0 H0 W ctx mem e m (rp r2)) (op_ : OpJ X W (inplaceOp op) (rp r1) (rp r2) h (rp r3)) (hx : ∀ I H σ d, Stt I0 H0 ctx mem I H σ → Fr H0 d → Kx I H σ d) (hN : X.N.Nodup)
    (hc : ctx[i]? = some (some (@SF.mk α r1 mo x)) := by rfl) (hi : X.N[i]? = some n := by rfl) (hl : Loc X.env.scope n := by first | exact Or.inl rfl | exact Or.inr rfl)
    (hf : X.fn n = true ∨ X.env.scope.names.lookup n = some .local := by first | exact .inl rfl | exact .inr rfl | assumption) : J1 X W Kx (Stt I0 H0 ctx mem) (.AugAssign (.Name n pos') op e pos) (m.bind fun y => h x y) (fun z => Stt I0 H0 (ctx.set i (some ⟨r3, z⟩)) mem) := fun I H σ D g p => by
  obtain ⟨v, e1, rv⟩ := g.sl i _ hc
  intro pins sh Iv
  obtain ⟨m', hn, hl'⟩ := Iv.loc
  have vis : Vis X.env.scope n := by rcases hl with k | k; exact .inl k; exact .inr (.inl k)
  obtain ⟨u, r, l⟩ := hl' i n v hi e1 vis
  refine wpAny_AugAssign_Name ?_
  have go : wpAny (model X.prog X.w) X.A (eval e X.env) (fun w s₂ => wpAny (model X.prog X.w) X.A (inplaceOp op u w) (fun r s₃ => wpAny (model X.prog X.w) X.A (storeName X.env n r) (fun _ => SP X pins D .next) X.xe s₃) X.xe s₂) X.xe sh := by
    refine thn (j I H σ (fun y H1 => opW X (inplaceOp op) σ v y H1 fun z H2 => D.nx (σ.set i (some z)) H2) g ?_ pins sh Iv) fun w s1 ⟨y, H1, I1, r1, q1⟩ => ?_
    · cases m with
      | ok y =>
        intro I1 H1 vy f1 ry
        refine op_ I1 H1 σ _ v vy x y f1.ih (mo1.up f1.i rv) ry ?_
        revert p
        show PostB X W Kx I (h x y) _ D → _
        generalize h x y = z
        intro p
        cases z with
        | ok z => exact fun I2 H2 vz f2 rz => p I2 H2 _ (f1.i.trans f2.i) (((g.step f1).step f2).set i rz)
        | err e => exact fun I' H' c d f x => p I' H' σ c d (hx _ _ _ _ ((g.step f1).step f) (x.1.back (g.step f1).fm.h)) x.2
        | stuck => exact p
      | err e => exact fun I' H' c d f x => p I' H' σ c d (hx _ _ _ _ (g.step f) (x.1.back g.fm.h)) x.2
      | stuck => exact p
    refine thn (q1 pins s1 u w I1 r r1) fun z s2 ⟨zv, H2, I2, r2, q2⟩ => ?_
    exact store_ok I2 hN hi hl r2 (fun s3 I3 => ⟨_, H2, I3, q2⟩) hf
  rcases l with ⟨hk, hm⟩ | ⟨hk, c, hc', hcell⟩
  · exact wpAny_loadName_local Iv.ok.kind hk hn hm go
  · rcases hk with hk | hk
    · exact wpAny_loadName_cell Iv.ok.kind hk hc' hcell go
    · rcases hl with k | k
      · have : X.env.scope.names.lookup n = some .free := hk
        rw [k] at this; cases this
      · have : X.env.scope.names.lookup n = some .free := hk
        rw [k] at this; cases this
/-- abs(x), x of an own class -/
theorem cj_absO {k : Nat} {C f : Addr} {g : α × Unit → Res γ} (hm : OMet X.K C "__abs__" f) (ia : InsR C ra) (hr : Room (k + 1) X.A) (tk : Takes X W) (F : FnR X.prog X.w X.K X.mg X.base (L2.CX X.prog X.w) k f (spF X.K (R1 ra) g rc)) : CallJ X W (.builtin "abs") (R1 ra) g rc := fun I H σ Q vs x s h p pins sh us Iv r => by
  obtain ⟨v, ws, rfl, h1, rfl⟩ := h
  obtain ⟨au, dx, fs, rfl, hu⟩ := ia I H v x.1 s h1
  obtain rfl := Vals.ref1 r
  obtain ⟨od, J⟩ := insAt Iv hu
  exact PySem.W.tr_abs Iv.kIn J hm.at_ hm.fn (run_W1 (vs := [.ref au]) F hr tk ⟨I, x, s, ⟨_, _, rfl, h1, rfl⟩, p⟩ Iv r)
theorem run_W2 {k : Nat} {f : Addr} {sp : Sp} {vs : List V} {H : Hp} {σ : St} {Q : VK} (F : FnR X.prog X.w X.K X.mg X.base (L2.CX X.prog X.w) k f sp) (hr : Room (k + 2) X.A) (tk : Takes X W) (h : sp vs H Q fun cls d H' => W cls d σ H') {pins : List (Addr × Obj)} {s : Shared} {us : List Value} (I : Inv X pins σ H s) (r : Vals vs us) :
    wpAny (model X.prog X.w) X.A.in1.in1 (call (.ref f) us) (EP X pins σ Q) X.xe s := by
  refine wpAny_call (codeAny_mono (F X.A.in1.in1 X.stack s H us vs Q _ (Room.in1 (k := k) (Room.in1 (k := k + 1) hr)) I.env0.in1.in1 r h) fun r s' hq => ?_)
  cases r with
  | error e => exact passAt tk σ pins H s e s' I hq
  | ok fl =>
    cases fl with
    | ret u => exact I.after hq
    | next => exact False.elim hq
    | brk => exact False.elim hq
    | cont => exact False.elim hq
theorem cj_boolO {k : Nat} {C f : Addr} {g : α × Unit → Res Bool} (hm : OMet X.K C "__bool__" f) (ia : InsR C ra) (hr : Room (k + 2) X.A) (tk : Takes X W) (F : FnR X.prog X.w X.K X.mg X.base (L2.CX X.prog X.w) k f (spF X.K (R1 ra) g (rp rBl))) : CallJ X W (.type "bool") (R1 ra) g (rp rBl) := fun I H σ Q vs x s h p pins sh us Iv r => by
  obtain ⟨v, ws, rfl, h1, rfl⟩ := h
  obtain ⟨au, dx, fs, rfl, hu⟩ := ia I H v x.1 s h1
  obtain rfl := Vals.ref1 r
  obtain ⟨od, J⟩ := insAt Iv hu
  refine PySem.W.tr_bool Iv.kIn J hm.at_ hm.fn (thn (run_W2 (vs := [.ref au]) (Q := fun z H' => (∃ b, z = .bl b) ∧ Q z H') F hr tk ⟨I, x, s, ⟨_, _, rfl, h1, rfl⟩, ?_⟩ Iv r) fun w s' ⟨z, H', I', rz, ⟨b, ez⟩, q⟩ => ?_)
  · revert p
    generalize g x = z
    intro p
    cases z with
    | ok y => exact fun I' H' v f r => ⟨⟨y, r⟩, p I' H' v f r⟩
    | err e => exact p
    | stuck => exact p
  · subst ez
    cases (show w = Value.bool b from rz)
    exact ⟨b, rfl, .bl b, H', I', rfl, q⟩
/-- if x:, x of an own class with __bool__ -/
theorem unused_ : True := trivial
end
end L2.Tr

namespace L2.Tr
open PySem PySem.Spec PyProof.Rows
section
variable {K : PySem.W.Frag} {x qual : Str} {params : Arguments} {body : List Stmt} {scope : Scope} {kws : List (Str × V)} {f : Addr} {fd : FuncData} {ps : List Str}
/-- keywords at a def without defaults -/
theorem kbindsN (F : FunD K x qual params body scope [] kws f fd) (n : Nat) (ks : List Str) (g : {α : Type} → List α → List α → List α) (hrel : ∀ {vs zs : List V} {us ws : List Value}, Vals vs us → Vals zs ws → Vals (g vs zs) (g us ws))
    (h : ∀ (kV doc pm : Value) (an : Option Addr) (cdv ct : Value) (us ws : List Value), us.length = n → ws.length = ks.length → bindArgs (PySem.W.fnOf x qual params body scope .none kV doc pm an cdv ct) ⟨us, ks.zip ws⟩ = pure (ps.zip (g us ws))) : KBn K fd ps n ks g g := by
  obtain ⟨oc, od, dV, kV, doc, pm, an, cdv, ct, osl, rfl, lk, hcd, hD, hK⟩ := F.ex
  rcases hD with ⟨_, rfl⟩ | ⟨e, _⟩
  · exact ⟨fun s us ws _ l1 l2 => .of_eq (h kV doc pm an cdv ct us ws l1 l2), hrel⟩
  · exact absurd rfl e
end
section
variable {α β γ δ ε : Type} {X : Cx} {I0 H0 : Hp} {W : WX} {ctx : List (Option SF)} {mem : List MF} {e a b c o : Expr} {es bs : List Expr} {kws : List Keyword} {pos pos' kpos : Pos} {n x : Str} {nm : Option Str} {ra : Ra α} {rb : Ra β} {rc : Ra γ} {ma : Res α} {mb : Res β}
variable {R : Hp → Hp → List V → δ → Prop} {R' : Hp → Hp → List V → ε → Prop} {md : Res δ} {me : Res ε} {g : δ → ε → Res γ} {ks : List Str}
theorem cjk_fn {k n : Nat} {f : Addr} {fd : FuncData} {ps : List Str} {gg : List Value → List Value → List Value} {gV : List V → List V → List V} {η : Type} {Ri : Hp → Hp → List V → η → Prop} {m : η → Res γ} {h : δ → ε → η} (F : FnOk X.prog X.w X.K X.mg X.base (L2.CX X.prog X.w) k f fd ps (spF X.K Ri m rc)) (hr : Room k X.A)
    (hb : KBn X.K fd ps n ks gg gV) (tk : Takes X W) (hR : ∀ I H vs zs x y, R I H vs x → R' I H zs y → vs.length = n ∧ zs.length = ks.length ∧ Ri I H (gV vs zs) (h x y)) : CallKJ X W (.ref f) ks R R' (fun x y => m (h x y)) rc := fun I H σ Q vs zs x y sm r r' p pins s us ws Iv rv rz => by
  obtain ⟨l1, l2, hRi⟩ := hR I H vs zs x y r r'
  refine wpAny_call (codeAny_mono (F.run X.A X.stack s H ⟨us, ks.zip ws⟩ (gg us ws) (gV vs zs) Q _ hr Iv.env0 (hb.to s us ws Iv.kIn (rv.length.symm.trans l1) (rz.length.symm.trans l2)) (hb.rel rv rz) ⟨I, h x y, sm, hRi, p⟩) fun r s' hq => ?_)
  cases r with
  | error e => exact passAt tk σ pins H s e s' Iv hq
  | ok fl =>
    cases fl with
    | ret u => exact Iv.after hq
    | next => exact False.elim hq
    | brk => exact False.elim hq
    | cont => exact False.elim hq
/-- o.m(k = v, ..) -/
theorem JE.methK0 {pl : Sem Bool} {m : Str} {C f : Addr} {apos : Pos} {g : α × Unit → ε → Res γ} [MoA ra] (j : JE X I0 H0 W ctx mem o ma ra) (hi : InsOf C ra m) (jk : JK X I0 H0 W ctx mem kws me R') (cj : CallKJ X W (.ref f) ks (aCons ra aNil) R' g rc) (c : Cls X.K C) (hm : Meth X.K C m f)
    (hall : (backToKw pos (keywordEach kws X.env)).all (·.1.isSome) = true := by rfl) (hks : (backToKw pos (keywordEach kws X.env)).filterMap (·.1) = ks := by rfl)
    (hpl : ((backTo pos (starEach [] X.env)).any (·.1) || (backToKw pos (keywordEach kws X.env)).any (·.1.isNone)) = false := by rfl)
    (ht : eval (.Call (.Attribute o m apos) [] kws pos) X.env = (do
      let ov ← eval o X.env
      standAt apos.atName
      let (f, first) ← holding [ov] (getMethod ov m pl)
      callWith pos f first (backTo pos (starEach [] X.env)) (backToKw pos (keywordEach kws X.env))) := by rfl) : JE X I0 H0 W ctx mem (.Call (.Attribute o m apos) [] kws pos) (ma.bind fun x => me.bind fun y => g (x, ()) y) rc := fun I H σ Q st p pins s Iv => by
  refine PySem.W.methodCall_KW (pl := pl) (thn (j I H σ (fun v H1 => ∃ a dx fs, v = .ref a ∧ H1 a = some (.ins C dx fs) ∧ fs.lookup m = none ∧ ∀ pins s1, Inv X pins σ H1 s1 → wpAny (model X.prog X.w) X.A (evalAll ((backToKw pos (keywordEach kws X.env)).map (·.2))) (fun ws s2 => X.K.In s2.heap ∧ wpAny (model X.prog X.w) X.A (PySem.call (.ref f) ([.ref a] ++ []) (ks.zip ws)) (EP X pins σ Q) X.xe s2) X.xe s1) st ?_ pins s Iv) fun u s1 ⟨v, H1, I1, rx, a, dx, fs, ex, ea, l, q⟩ => ?_) ht
  · cases ma with
    | ok x =>
      intro I1 H1 v f1 r1
      obtain ⟨a, dx, fs, ev, ha, hl⟩ := hi I1 H1 v x f1.ih r1
      have p1 := PostE.up p f1
      refine ⟨a, dx, fs, ev, ha, hl, fun pins s1 Iv1 => ?_⟩
      refine thn (jk pos I1 H1 σ (fun zs H2 => callKW X (.ref f) ks σ [v] zs H2 Q) (st.step f1) ?_ pins s1 Iv1) fun ws s2 ⟨zs, H2, I2, r2, q2⟩ => ⟨I2.kIn, q2 pins s2 [.ref a] ws I2 (by rw [ev]; exact .cons rfl .nil) r2⟩
      cases me with
      | ok y => exact fun I2 H2 zs f2 r2 => cj I2 H2 σ Q [v] zs (x, ()) y f2.ih ⟨v, [], rfl, MoA.up f2.i f2.h r1, rfl⟩ r2 (PostE.up p1 f2)
      | err e => exact p1
      | stuck => exact p1
    | err e => exact p
    | stuck => exact p
  · subst ex
    obtain rfl : u = Value.ref a := rx
    refine getmeth_ok I1 ea c hm l ?_
    refine PySem.W.callWith_KW0 (h₀ := X.base) (first := [.ref a]) I1.ok.mod.kin hm.kp hall ?_ hpl
    rw [hks]
    exact q pins s1 I1
end
end L2.Tr
namespace L2.Tr
open PySem PySem.Spec PyProof.Rows
/-! ### contexts written out -/
section
variable {γ S L : Type} {X : Cx} {I0 H0 : Hp} {W : WX} {Kx : KnowsX} {G : Knows} {st : Stmt} {ss : List Stmt} {mem : List MF} {rr : Ra γ}
theorem J1.cx {m : Res S} {c c' : S → List (Option SF)} {me : S → List MF} (j : J1 X W Kx G st m (fun s => Stt I0 H0 (c s) (me s))) (h : ∀ s, c s = c' s := by intro _; rfl) : J1 X W Kx G st m (fun s => Stt I0 H0 (c' s) (me s)) := by
  have e : c = c' := funext h
  rw [← e]; exact j
theorem JN.at {m : Res S} {G' : S → Knows} {c c' : List (Option SF)} (j : JN X W Kx (Stt I0 H0 c' mem) ss m G') (h : c = c' := by rfl) : JN X W Kx (Stt I0 H0 c mem) ss m G' := by
  rw [h]; exact j
theorem JG.at {m : Res (Fl S L γ)} {G' : S → Knows} {GL : L → Knows} {c c' : List (Option SF)} (j : JG X I0 H0 W Kx (Stt I0 H0 c' mem) ss m G' GL rr) (h : c = c' := by rfl) : JG X I0 H0 W Kx (Stt I0 H0 c mem) ss m G' GL rr := by
  rw [h]; exact j
theorem JR.at {m : Res γ} {c c' : List (Option SF)} (j : JR X I0 H0 W Kx (Stt I0 H0 c' mem) ss m rr) (h : c = c' := by rfl) : JR X I0 H0 W Kx (Stt I0 H0 c mem) ss m rr := by
  rw [h]; exact j
end
end L2.Tr

namespace L2.Tr
open PySem PySem.Spec PyProof.Rows
/-! ### sizes by instances -/
class Bd (x : Int) (s : outParam Nat) : Prop where
  le : x.natAbs ≤ 2 ^ s
class NZ (x : Int) : Prop where
  ne : x ≠ 0
class SzC (q : Rat) (s : outParam Nat) : Prop where
  sz : Sz s q
instance {x y : Int} {s t : Nat} [h : Bd x s] [k : Bd y t] : Bd (x * y) (s + t) := ⟨by rw [Int.natAbs_mul]; exact pow2_mul h.le k.le⟩
theorem pow_add1 (s t : Nat) : 2 ^ s + 2 ^ t ≤ 2 ^ (s + t + 1) := by
  have a := Nat.pow_le_pow_right (show 0 < 2 by decide) (show s ≤ s + t by omega)
  have b := Nat.pow_le_pow_right (show 0 < 2 by decide) (show t ≤ s + t by omega)
  rw [Nat.pow_succ]; omega
instance {x y : Int} {s t : Nat} [h : Bd x s] [k : Bd y t] : Bd (x + y) (s + t + 1) := ⟨by
  have := Int.natAbs_add_le x y; have := h.le; have := k.le; have := pow_add1 s t; omega⟩
instance {x y : Int} {s t : Nat} [h : Bd x s] [k : Bd y t] : Bd (x - y) (s + t + 1) := ⟨by
  have := Int.natAbs_sub_le x y; have := h.le; have := k.le; have := pow_add1 s t; omega⟩
instance {x : Int} {s : Nat} [h : Bd x s] : Bd (-x) s := ⟨by rw [Int.natAbs_neg]; exact h.le⟩
instance {x : Int} {s : Nat} [h : Bd x s] : Bd (x.natAbs : Int) s := ⟨by rw [Int.natAbs_natCast]; exact h.le⟩
instance : Bd 0 0 := ⟨by decide⟩
instance : Bd 1 0 := ⟨by decide⟩
instance {x y : Int} [h : NZ x] [k : NZ y] : NZ (x * y) := ⟨Int.mul_ne_zero h.ne k.ne⟩
instance {x : Int} [h : NZ x] : NZ (-x) := ⟨Int.neg_ne_zero.mpr h.ne⟩
instance {x y : Rat} {s t : Nat} [h : SzC x s] [k : SzC y t] : SzC (x + y) (s + t + 1) := ⟨h.sz.add k.sz⟩
instance {x y : Rat} {s t : Nat} [h : SzC x s] [k : SzC y t] : SzC (x - y) (s + t + 1) := ⟨h.sz.sub k.sz⟩
instance {x y : Rat} {s t : Nat} [h : SzC x s] [k : SzC y t] : SzC (x * y) (s + t) := ⟨h.sz.mul k.sz⟩
instance {x y : Rat} {s t : Nat} [h : SzC x s] [k : SzC y t] : SzC (x / y) (s + t) := ⟨h.sz.div k.sz⟩
instance {x : Rat} {s : Nat} [h : SzC x s] : SzC (-x) s := ⟨h.sz.neg⟩
instance {n : Int} {s : Nat} [h : Bd n s] : SzC (n : Rat) s := ⟨sz_int h.le⟩
instance {n : Int} {m : Int} {s t : Nat} [h : Bd n s] [k : Bd m t] : SzC (Rat.divInt n m) (s + t) := ⟨sz_divInt (Nat.le_trans h.le (Nat.pow_le_pow_right (by decide) (by omega))) (Nat.le_trans k.le (Nat.pow_le_pow_right (by decide) (by omega)))⟩
instance : SzC 0 0 := ⟨⟨by decide, by decide⟩⟩
instance : SzC 1 0 := ⟨⟨by decide, by decide⟩⟩
theorem Bd.big {x : Int} {s : Nat} (b : Bd x s) (h : s ≤ 4000) : x.natAbs ≤ big := Nat.le_trans b.le (Nat.pow_le_pow_right (by decide) h)
theorem mulI_bd {x y : Int} {s t : Nat} [h : Bd x s] [k : Bd y t] (hs : s ≤ 4000) (ht : t ≤ 4000) : mulI x y = .ok (x * y) := mul_fit (h.big hs) (k.big ht)
theorem qMk_bd {x y : Int} {t : Nat} [k : Bd y t] [z : NZ y] (ht : t ≤ 4000) : qMk x y = .ok (Rat.divInt x y) := qMk_ok z.ne (by have := log_big (k.big ht); omega)
theorem fdivI_bd {x y : Int} {t : Nat} [k : Bd y t] [z : NZ y] (ht : t ≤ 4000) : fdivI x y = .ok (x.fdiv y) := fdivI_ok z.ne (by have := log_big (k.big ht); omega)
section
variable {x y : Rat} {n : Int} {s t : Nat} [h : SzC x s]
theorem qAdd_q [k : SzC y t] (hs : s ≤ 4000) (ht : t ≤ 4000) : qAdd x (.q y) = .ok (x + y) := qAdd_ok (h.sz.fits hs) (show fits y from k.sz.fits ht)
theorem qAdd_i [k : Bd n t] (hs : s ≤ 4000) (ht : t ≤ 4000) : qAdd x (.i n) = .ok (x + (n : Rat)) := qAdd_ok (h.sz.fits hs) (show fits (n : Rat) from (sz_int k.le).fits ht)
theorem qSub_q [k : SzC y t] (hs : s ≤ 4000) (ht : t ≤ 4000) : qSub x (.q y) = .ok (x - y) := qSub_ok (h.sz.fits hs) (show fits y from k.sz.fits ht)
theorem qSub_i [k : Bd n t] (hs : s ≤ 4000) (ht : t ≤ 4000) : qSub x (.i n) = .ok (x - (n : Rat)) := qSub_ok (h.sz.fits hs) (show fits (n : Rat) from (sz_int k.le).fits ht)
theorem qMul_q [k : SzC y t] (hs : s ≤ 4000) (ht : t ≤ 4000) : qMul x (.q y) = .ok (x * y) := qMul_ok (h.sz.fits hs) (show fits y from k.sz.fits ht)
theorem qMul_i [k : Bd n t] (hs : s ≤ 4000) (ht : t ≤ 4000) : qMul x (.i n) = .ok (x * (n : Rat)) := qMul_ok (h.sz.fits hs) (show fits (n : Rat) from (sz_int k.le).fits ht)
theorem qRadd_b [k : Bd n t] (hs : s ≤ 4000) (ht : t ≤ 4000) : qRadd x n = .ok ((n : Rat) + x) := qRadd_ok (h.sz.fits hs) ((sz_int k.le).fits ht)
theorem qRsub_b [k : Bd n t] (hs : s ≤ 4000) (ht : t ≤ 4000) : qRsub x n = .ok ((n : Rat) - x) := qRsub_ok (h.sz.fits hs) ((sz_int k.le).fits ht)
theorem qRmul_b [k : Bd n t] (hs : s ≤ 4000) (ht : t ≤ 4000) : qRmul x n = .ok ((n : Rat) * x) := qRmul_ok (h.sz.fits hs) ((sz_int k.le).fits ht)
theorem qNeg_b (hs : s ≤ 4000) : qNeg x = .ok (-x) := qNeg_ok (h.sz.fits hs)
theorem qAbs_b (hs : s ≤ 4000) : qAbs x = .ok (if x < 0 then -x else x) := qAbs_ok (h.sz.fits hs)
end
theorem divInt_neg2 (t b : Int) : Rat.divInt (-t) (-b) = Rat.divInt t b := Rat.neg_divInt_neg t b
/-! ### divInt as a quotient -/
theorem nz_cast {b : Int} (h : b ≠ 0) : (b : Rat) ≠ 0 := fun e => h (Rat.intCast_eq_zero_iff.mp e)
end L2.Tr

namespace L2.Tr
open PySem PySem.Spec PyProof.Rows
def top (i : Nat) : Stmt := PySem.Challenge.pw_tracerline_k02_arithmetic.main.body.getD i (.Pass ⟨0, 0, 0, 0⟩)
abbrev s_law_cell : Stmt := top 8
abbrev s_law_number : Stmt := top 9
abbrev s_common_divisor : Stmt := top 4
abbrev s_Fraction_init : Stmt := inClass (top 5) 0
abbrev s_Fraction_add : Stmt := inClass (top 5) 1
abbrev s_law_lower : Stmt := top 10
abbrev s_Fraction_eq : Stmt := inClass (top 5) 10
abbrev s_law_is : Stmt := top 11
abbrev s_Fraction_sub : Stmt := inClass (top 5) 3
abbrev s_Fraction_mul : Stmt := inClass (top 5) 5
abbrev s_Fraction_neg : Stmt := inClass (top 5) 7
abbrev s_Fraction_abs : Stmt := inClass (top 5) 8
abbrev s_Fraction_radd : Stmt := inClass (top 5) 2
abbrev s_Fraction_rsub : Stmt := inClass (top 5) 4
abbrev s_Fraction_rmul : Stmt := inClass (top 5) 6
abbrev s_Fraction_bool : Stmt := inClass (top 5) 9
abbrev s_as_fraction : Stmt := top 6
abbrev s_Fraction_over : Stmt := inClass (top 5) 16
abbrev s_law_over : Stmt := top 12
abbrev s_law_in_place : Stmt := top 13
abbrev s_law : Stmt := top 14
structure Txt (K : PySem.W.Frag) (mg : Str → Option Value) : Prop where
  g_law_cell : mg "_law_cell" = some (.ref (He.ga K "_law_cell"))
  k_law_cell : PySem.W.keepIn K (.ref (He.ga K "_law_cell")) = true
  n_int : mg "int" = none
  g_law_number : mg "_law_number" = some (.ref (He.ga K "_law_number"))
  k_law_number : PySem.W.keepIn K (.ref (He.ga K "_law_number")) = true
  n_abs : mg "abs" = none
  g_Fraction : mg "Fraction" = some (.ref (He.ga K "Fraction"))
  mk_Fraction : Mk K (He.ga K "Fraction") (He.ma K (He.ga K "Fraction") "__init__")
  o_Fraction : OCls K (He.ga K "Fraction")
  om_Fraction_add : OMet K (He.ga K "Fraction") "__add__" (He.ma K (He.ga K "Fraction") "__add__")
  g_law_is : mg "_law_is" = some (.ref (He.ga K "_law_is"))
  k_law_is : PySem.W.keepIn K (.ref (He.ga K "_law_is")) = true
  om_Fraction_sub : OMet K (He.ga K "Fraction") "__sub__" (He.ma K (He.ga K "Fraction") "__sub__")
  om_Fraction_mul : OMet K (He.ga K "Fraction") "__mul__" (He.ma K (He.ga K "Fraction") "__mul__")
  om_Fraction_neg : OMet K (He.ga K "Fraction") "__neg__" (He.ma K (He.ga K "Fraction") "__neg__")
  om_Fraction_abs : OMet K (He.ga K "Fraction") "__abs__" (He.ma K (He.ga K "Fraction") "__abs__")
  om_Fraction_radd : OMet K (He.ga K "Fraction") "__radd__" (He.ma K (He.ga K "Fraction") "__radd__")
  im_add : ∃ fo, PySem.W.findIn K (.type "int") "__add__" = some fo
  im_radd : ∃ fo, PySem.W.findIn K (.type "int") "__radd__" = some fo
  om_Fraction_rsub : OMet K (He.ga K "Fraction") "__rsub__" (He.ma K (He.ga K "Fraction") "__rsub__")
  im_sub : ∃ fo, PySem.W.findIn K (.type "int") "__sub__" = some fo
  im_rsub : ∃ fo, PySem.W.findIn K (.type "int") "__rsub__" = some fo
  om_Fraction_rmul : OMet K (He.ga K "Fraction") "__rmul__" (He.ma K (He.ga K "Fraction") "__rmul__")
  im_mul : ∃ fo, PySem.W.findIn K (.type "int") "__mul__" = some fo
  im_rmul : ∃ fo, PySem.W.findIn K (.type "int") "__rmul__" = some fo
  om_Fraction_bool : OMet K (He.ga K "Fraction") "__bool__" (He.ma K (He.ga K "Fraction") "__bool__")
  n_bool : mg "bool" = none
  g_law_over : mg "_law_over" = some (.ref (He.ga K "_law_over"))
  k_law_over : PySem.W.keepIn K (.ref (He.ga K "_law_over")) = true
  g_law_in_place : mg "_law_in_place" = some (.ref (He.ga K "_law_in_place"))
  k_law_in_place : PySem.W.keepIn K (.ref (He.ga K "_law_in_place")) = true
  n_len : mg "len" = none
  F_law_cell : ∃ fd, FunD K "_law_cell" "_law_cell" (defArgs s_law_cell) (defBody s_law_cell) (defScope s_law_cell) [] [] (He.ga K "_law_cell") fd
  F_law_number : ∃ fd, FunD K "_law_number" "_law_number" (defArgs s_law_number) (defBody s_law_number) (defScope s_law_number) [] [] (He.ga K "_law_number") fd
  F_common_divisor : ∃ fd, FunD K "common_divisor" "common_divisor" (defArgs s_common_divisor) (defBody s_common_divisor) (defScope s_common_divisor) [] [] (He.ga K "common_divisor") fd
  n_isinstance : mg "isinstance" = none
  na_Fraction_top : NoAttr K (He.ga K "Fraction") "top"
  na_Fraction_bottom : NoAttr K (He.ga K "Fraction") "bottom"
  kT_Fraction_int : PySem.W.kitOne K (.ref (He.ga K "Fraction")) (.type "int") = some false
  kt_Fraction_Fraction : PySem.W.kitOne K (.ref (He.ga K "Fraction")) (.ref (He.ga K "Fraction")) = some true
  F_Fraction_add : ∃ fd, FunD K "__add__" "Fraction.__add__" (defArgs s_Fraction_add) (defBody s_Fraction_add) (defScope s_Fraction_add) [] [] (He.ma K (He.ga K "Fraction") "__add__") fd
  g_law_lower : mg "_law_lower" = some (.ref (He.ga K "_law_lower"))
  k_law_lower : PySem.W.keepIn K (.ref (He.ga K "_law_lower")) = true
  om_Fraction_eq : OMet K (He.ga K "Fraction") "__eq__" (He.ma K (He.ga K "Fraction") "__eq__")
  nf_Fraction : PySem.W.notFirst K (He.ga K "Fraction") (.ref (He.ga K "Fraction")) = true ∧ PySem.W.notFirst K (He.ga K "Fraction") (.type "int") = true
  F_law_lower : ∃ fd, FunD K "_law_lower" "_law_lower" (defArgs s_law_lower) (defBody s_law_lower) (defScope s_law_lower) [] [] (He.ga K "_law_lower") fd
  F_Fraction_eq : ∃ fd, FunD K "__eq__" "Fraction.__eq__" (defArgs s_Fraction_eq) (defBody s_Fraction_eq) (defScope s_Fraction_eq) [] [] (He.ma K (He.ga K "Fraction") "__eq__") fd
  F_law_is : ∃ fd, FunD K "_law_is" "_law_is" (defArgs s_law_is) (defBody s_law_is) (defScope s_law_is) [] [] (He.ga K "_law_is") fd
  F_Fraction_sub : ∃ fd, FunD K "__sub__" "Fraction.__sub__" (defArgs s_Fraction_sub) (defBody s_Fraction_sub) (defScope s_Fraction_sub) [] [] (He.ma K (He.ga K "Fraction") "__sub__") fd
  F_Fraction_mul : ∃ fd, FunD K "__mul__" "Fraction.__mul__" (defArgs s_Fraction_mul) (defBody s_Fraction_mul) (defScope s_Fraction_mul) [] [] (He.ma K (He.ga K "Fraction") "__mul__") fd
  F_Fraction_neg : ∃ fd, FunD K "__neg__" "Fraction.__neg__" (defArgs s_Fraction_neg) (defBody s_Fraction_neg) (defScope s_Fraction_neg) [] [] (He.ma K (He.ga K "Fraction") "__neg__") fd
  F_Fraction_abs : ∃ fd, FunD K "__abs__" "Fraction.__abs__" (defArgs s_Fraction_abs) (defBody s_Fraction_abs) (defScope s_Fraction_abs) [] [] (He.ma K (He.ga K "Fraction") "__abs__") fd
  F_Fraction_radd : ∃ fd, FunD K "__radd__" "Fraction.__radd__" (defArgs s_Fraction_radd) (defBody s_Fraction_radd) (defScope s_Fraction_radd) [] [] (He.ma K (He.ga K "Fraction") "__radd__") fd
  F_Fraction_rsub : ∃ fd, FunD K "__rsub__" "Fraction.__rsub__" (defArgs s_Fraction_rsub) (defBody s_Fraction_rsub) (defScope s_Fraction_rsub) [] [] (He.ma K (He.ga K "Fraction") "__rsub__") fd
  F_Fraction_rmul : ∃ fd, FunD K "__rmul__" "Fraction.__rmul__" (defArgs s_Fraction_rmul) (defBody s_Fraction_rmul) (defScope s_Fraction_rmul) [] [] (He.ma K (He.ga K "Fraction") "__rmul__") fd
  F_Fraction_bool : ∃ fd, FunD K "__bool__" "Fraction.__bool__" (defArgs s_Fraction_bool) (defBody s_Fraction_bool) (defScope s_Fraction_bool) [] [] (He.ma K (He.ga K "Fraction") "__bool__") fd
  me_Fraction_over : Meth K (He.ga K "Fraction") "over" (He.ma K (He.ga K "Fraction") "over")
  xm_BadFraction_BadFraction : PySem.W.exmOne K (.ref (He.ga K "BadFraction")) (.ref (He.ga K "BadFraction")) = some true
  g_BadFraction : mg "BadFraction" = some (.ref (He.ga K "BadFraction"))
  g_as_fraction : mg "as_fraction" = some (.ref (He.ga K "as_fraction"))
  k_as_fraction : PySem.W.keepIn K (.ref (He.ga K "as_fraction")) = true
  ex_BadFraction : ExcP K mg "BadFraction"
  kI_int_Fraction : PySem.W.kitOne K (.type "int") (.ref (He.ga K "Fraction")) = some false
  F_as_fraction : ∃ fd, FunD K "as_fraction" "as_fraction" (defArgs s_as_fraction) (defBody s_as_fraction) (defScope s_as_fraction) [] [] (He.ga K "as_fraction") fd
  F_Fraction_over : ∃ fd, FunD K "over" "Fraction.over" (defArgs s_Fraction_over) (defBody s_Fraction_over) (defScope s_Fraction_over) [] [] (He.ma K (He.ga K "Fraction") "over") fd
  F_law_over : ∃ fd, FunD K "_law_over" "_law_over" (defArgs s_law_over) (defBody s_law_over) (defScope s_law_over) [] [] (He.ga K "_law_over") fd
  ni_Fraction_add : PySem.W.noIpl K (He.ga K "Fraction") "add" = true
  ni_Fraction_sub : PySem.W.noIpl K (He.ga K "Fraction") "sub" = true
  ni_Fraction_mul : PySem.W.noIpl K (He.ga K "Fraction") "mul" = true
  F_law_in_place : ∃ fd, FunD K "_law_in_place" "_law_in_place" (defArgs s_law_in_place) (defBody s_law_in_place) (defScope s_law_in_place) [] [] (He.ga K "_law_in_place") fd
  F_law : ∃ fd, FunD K "law" "law" (defArgs s_law) (defBody s_law) (defScope s_law) [] [] (He.ga K "law") fd
  g_law : mg "law" = some (.ref (He.ga K "law"))
  F_Fraction_init : ∃ fd, FunD K "__init__" "Fraction.__init__" (defArgs s_Fraction_init) (defBody s_Fraction_init) (defScope s_Fraction_init) [.int 1] [] (He.ma K (He.ga K "Fraction") "__init__") fd
  g_common_divisor : mg "common_divisor" = some (.ref (He.ga K "common_divisor"))
  k_common_divisor : PySem.W.keepIn K (.ref (He.ga K "common_divisor")) = true
theorem sc_law_cell : FnScope ["_law_script", "_law_k"] ["_law_script", "_law_k"] (defScope s_law_cell) := ⟨rfl, rfl, rfl, by decide +kernel, rfl, by decide +kernel, by decide +kernel⟩
def m_law_cell (p_law_script : (List Int)) (p_law_k : Int) : Res Int :=
  (((Res.ok p_law_k).bind fun a325 => (((Res.ok p_law_script).bind fun a323 => (Res.ok ()).bind fun b324 => .ok (a323, b324)).bind (fun d => .ok (d.1.length : Int))).bind fun b326 => .ok (decide (a325 < b326))).bind fun x327 => if x327 = true then ((Res.ok p_law_script).bind fun a328 => (Res.ok p_law_k).bind fun b329 => atM a328 b329) else (Res.ok (0 : Int)))
abbrev C_law_cell (P : Program) (w : World) (K : PySem.W.Frag) (mg : Str → Option Value) (base : Heap) : Prop := FnR P w K mg base (L2.CX P w) 1 (He.ga K "_law_cell") (spF K (aCons (rdL K (rp rInt)) (aCons (rp rInt) aNil)) (fun d => m_law_cell d.1 d.2.1) (rp rInt))
theorem ok_law_cell {P : Program} {w : World} {K : PySem.W.Frag} {mg : Str → Option Value} {base : Heap} (T : Txt K mg) {fd : FuncData} (F : FunD K "_law_cell" "_law_cell" (defArgs s_law_cell) (defBody s_law_cell) (defScope s_law_cell) [] [] (He.ga K "_law_cell") fd) : FnOk P w K mg base (L2.CX P w) 1 (He.ga K "_law_cell") fd ["_law_script", "_law_k"] (spF K (aCons (rdL K (rp rInt)) (aCons (rp rInt) aNil)) (fun d => m_law_cell d.1 d.2.1) (rp rInt)) := by
  refine FunD.fn (k := 0) (N := ["_law_script", "_law_k"]) (ps := ["_law_script", "_law_k"]) F sc_law_cell (fun I H vs d h => ?_) (fun cdv A outer s I0 H0 E vs d hr sm h => ?_)
  · obtain ⟨v0, _, rfl, h0, v1, _, rfl, h1, rfl⟩ := h; rfl
  obtain ⟨v0, _, rfl, h0, v1, _, rfl, h1, rfl⟩ := h
  have hx : ∀ {ctx : List (Option SF)} {mem : List MF} (I H : Hp) (σ : St) (d : Option Addr), Stt I0 H0 ctx mem I H σ → Fr H0 d → bK I0 H0 I H σ d := fun _ _ _ _ s f => ⟨s.fm, f⟩
  have tk : Takes (bx P w K mg base ["_law_script", "_law_k"] "_law_cell" (defScope s_law_cell) (He.ga K "_law_cell") cdv A outer s H0 E) (bW E) := takes_of rfl rfl rfl rfl
  obtain ⟨p_law_script, p_law_k, _⟩ := d
  exact ⟨Stt I0 H0 [some (SF.mk (fun I v x => (rdL K (rp rInt)) I H0 v x) p_law_script), some (SF.mk rInt p_law_k)] [], Stt.start sm ⟨h0, h1, ini_nil rfl⟩ rfl (by simp), (JR.ifR (JT.cmp (JE.var 1) (JE.callB (JA.cons (JE.varP 0 (r := (rdL K (rp rInt)))) JA.nil) cj_len T.n_len boot_len) opj_lt) (JR.ret (JE.ix (JE.varP 0 (r := (rdL K (rp rInt)))) (JE.var 1)) hx) (JR.ret JE.int hx) hx)⟩
theorem fn_law_cell {P : Program} {w : World} {K : PySem.W.Frag} {mg : Str → Option Value} {base : Heap} (T : Txt K mg) : FnR P w K mg base (L2.CX P w) 1 (He.ga K "_law_cell") (spF K (aCons (rdL K (rp rInt)) (aCons (rp rInt) aNil)) (fun d => m_law_cell d.1 d.2.1) (rp rInt)) := by
  obtain ⟨fd, F⟩ := T.F_law_cell
  exact FnOk.fr0 (ok_law_cell T F) (F.bindsN fun _ _ _ _ _ _ us hl => match us, hl with | [_, _], _ => rfl)
theorem sc_law_number : FnScope ["_law_cell_here", "_law_choice", "_law_number_here"] ["_law_cell_here", "_law_choice"] (defScope s_law_number) := ⟨rfl, rfl, rfl, by decide +kernel, rfl, by decide +kernel, by decide +kernel⟩
def m_law_number (p_law_cell_here : Int) (p_law_choice : Int) : Res Int :=
  (((((Res.ok p_law_cell_here).bind fun a330 => (Res.ok ()).bind fun b331 => .ok (a330, b331)).bind (fun d => .ok d.1)).bind fun a344 => (((Res.ok (12 : Int)).bind fun a338 => ((Res.ok (1000 : Int)).bind fun a336 => (((Res.ok (10 : Int)).bind fun a332 => (Res.ok (40 : Int)).bind fun b333 => powI a332 b333).bind fun a334 => (Res.ok []).bind fun b335 => .ok (a334 :: b335)).bind fun b337 => .ok (a336 :: b337)).bind fun b339 => .ok (a338 :: b339)).bind fun a342 => ((Res.ok p_law_choice).bind fun a340 => (Res.ok (3 : Int)).bind fun b341 => modI a340 b341).bind fun b343 => atM a342 b343).bind fun b345 => modI a344 b345).bind fun v_law_number_here_346 => (((((Res.ok p_law_choice).bind fun a347 => (Res.ok (3 : Int)).bind fun b348 => fdivI a347 b348).bind fun a349 => (Res.ok (2 : Int)).bind fun b350 => modI a349 b350).bind fun a351 => (Res.ok (1 : Int)).bind fun b352 => .ok (decide (a351 = b352))).bind fun x353 => if x353 = true then ((Res.ok v_law_number_here_346).bind fun a354 => .ok (-a354)) else (Res.ok v_law_number_here_346)))
abbrev C_law_number (P : Program) (w : World) (K : PySem.W.Frag) (mg : Str → Option Value) (base : Heap) : Prop := FnR P w K mg base (L2.CX P w) 1 (He.ga K "_law_number") (spF K (aCons (rp rInt) (aCons (rp rInt) aNil)) (fun d => m_law_number d.1 d.2.1) (rp rInt))
theorem ok_law_number {P : Program} {w : World} {K : PySem.W.Frag} {mg : Str → Option Value} {base : Heap} (T : Txt K mg) {fd : FuncData} (F : FunD K "_law_number" "_law_number" (defArgs s_law_number) (defBody s_law_number) (defScope s_law_number) [] [] (He.ga K "_law_number") fd) : FnOk P w K mg base (L2.CX P w) 1 (He.ga K "_law_number") fd ["_law_cell_here", "_law_choice"] (spF K (aCons (rp rInt) (aCons (rp rInt) aNil)) (fun d => m_law_number d.1 d.2.1) (rp rInt)) := by
  refine FunD.fn (k := 0) (N := ["_law_cell_here", "_law_choice", "_law_number_here"]) (ps := ["_law_cell_here", "_law_choice"]) F sc_law_number (fun I H vs d h => ?_) (fun cdv A outer s I0 H0 E vs d hr sm h => ?_)
  · obtain ⟨v0, _, rfl, h0, v1, _, rfl, h1, rfl⟩ := h; rfl
  obtain ⟨v0, _, rfl, h0, v1, _, rfl, h1, rfl⟩ := h
  have hx : ∀ {ctx : List (Option SF)} {mem : List MF} (I H : Hp) (σ : St) (d : Option Addr), Stt I0 H0 ctx mem I H σ → Fr H0 d → bK I0 H0 I H σ d := fun _ _ _ _ s f => ⟨s.fm, f⟩
  have tk : Takes (bx P w K mg base ["_law_cell_here", "_law_choice", "_law_number_here"] "_law_number" (defScope s_law_number) (He.ga K "_law_number") cdv A outer s H0 E) (bW E) := takes_of rfl rfl rfl rfl
  obtain ⟨p_law_cell_here, p_law_choice, _⟩ := d
  exact ⟨Stt I0 H0 [some (SF.mk rInt p_law_cell_here), some (SF.mk rInt p_law_choice), none] [], Stt.start sm ⟨h0, h1, ini_nil rfl⟩ rfl (by simp), (JR.seq (J1.cx (c' := fun v_law_number_here_346 => [some (SF.mk rInt p_law_cell_here), some (SF.mk rInt p_law_choice), some (SF.mk rInt v_law_number_here_346)]) (J1.set 2 (JE.bin (JE.callTy (JA.cons (JE.var 0) JA.nil) cj_int T.n_int boot_int) (JE.ix (JE.rd (JE.lst (JA.consL JE.int (JA.consL JE.int (JA.consL (JE.bin JE.int JE.int opj_pow) JA.nilL))))) (JE.bin (JE.var 1) JE.int opj_mod)) opj_mod) hx sc_law_number.nd)) fun v_law_number_here_346 => (JR.ifR (JT.cmp (JE.bin (JE.bin (JE.var 1) JE.int opj_fdiv) JE.int opj_mod) JE.int opj_eq) (JR.ret (JE.un (JE.var 2) unj_neg) hx) (JR.ret (JE.var 2) hx) hx))⟩
theorem fn_law_number {P : Program} {w : World} {K : PySem.W.Frag} {mg : Str → Option Value} {base : Heap} (T : Txt K mg) : FnR P w K mg base (L2.CX P w) 1 (He.ga K "_law_number") (spF K (aCons (rp rInt) (aCons (rp rInt) aNil)) (fun d => m_law_number d.1 d.2.1) (rp rInt)) := by
  obtain ⟨fd, F⟩ := T.F_law_number
  exact FnOk.fr0 (ok_law_number T F) (F.bindsN fun _ _ _ _ _ _ us hl => match us, hl with | [_, _], _ => rfl)
theorem sc_common_divisor : FnScope ["first", "second"] ["first", "second"] (defScope s_common_divisor) := ⟨rfl, rfl, rfl, by decide +kernel, rfl, by decide +kernel, by decide +kernel⟩
def m_common_divisor (p_first : Int) (p_second : Int) : Res Int :=
  ((((Res.ok p_first).bind fun a355 => (Res.ok ()).bind fun b356 => .ok (a355, b356)).bind (fun d => .ok (if d.1 < 0 then -d.1 else d.1))).bind fun v_first_357 => ((((Res.ok p_second).bind fun a358 => (Res.ok ()).bind fun b359 => .ok (a358, b359)).bind (fun d => .ok (if d.1 < 0 then -d.1 else d.1))).bind fun v_second_360 => ((whileM (fun s361 : (Int × Int) => ((Res.ok s361.2).bind fun a362 => (Res.ok (0 : Int)).bind fun b363 => .ok (!decide (a362 = b363)))) (fun s361 => (((Res.ok s361.2).bind fun a367 => ((Res.ok s361.1).bind fun a364 => (Res.ok s361.2).bind fun b365 => modI a364 b365).bind fun b368 => .ok (a367, b368)).bind fun v366 => (Res.ok (v366.1, v366.2)))) ((v_second_360).toNat + 1) (v_first_357, v_second_360)).bind fun s361 => (Res.ok s361.1))))
abbrev C_common_divisor (P : Program) (w : World) (K : PySem.W.Frag) (mg : Str → Option Value) (base : Heap) : Prop := FnR P w K mg base (L2.CX P w) 1 (He.ga K "common_divisor") (spF K (aCons (rp rInt) (aCons (rp rInt) aNil)) (fun d => n_cd d.1 d.2.1) (rp rInt))
theorem ok_common_divisor {P : Program} {w : World} {K : PySem.W.Frag} {mg : Str → Option Value} {base : Heap} (T : Txt K mg) {fd : FuncData} (F : FunD K "common_divisor" "common_divisor" (defArgs s_common_divisor) (defBody s_common_divisor) (defScope s_common_divisor) [] [] (He.ga K "common_divisor") fd) : FnOk P w K mg base (L2.CX P w) 1 (He.ga K "common_divisor") fd ["first", "second"] (spF K (aCons (rp rInt) (aCons (rp rInt) aNil)) (fun d => m_common_divisor d.1 d.2.1) (rp rInt)) := by
  refine FunD.fn (k := 0) (N := ["first", "second"]) (ps := ["first", "second"]) F sc_common_divisor (fun I H vs d h => ?_) (fun cdv A outer s I0 H0 E vs d hr sm h => ?_)
  · obtain ⟨v0, _, rfl, h0, v1, _, rfl, h1, rfl⟩ := h; rfl
  obtain ⟨v0, _, rfl, h0, v1, _, rfl, h1, rfl⟩ := h
  have hx : ∀ {ctx : List (Option SF)} {mem : List MF} (I H : Hp) (σ : St) (d : Option Addr), Stt I0 H0 ctx mem I H σ → Fr H0 d → bK I0 H0 I H σ d := fun _ _ _ _ s f => ⟨s.fm, f⟩
  have tk : Takes (bx P w K mg base ["first", "second"] "common_divisor" (defScope s_common_divisor) (He.ga K "common_divisor") cdv A outer s H0 E) (bW E) := takes_of rfl rfl rfl rfl
  have hp : PassesOwn (model P w) (bx P w K mg base ["first", "second"] "common_divisor" (defScope s_common_divisor) (He.ga K "common_divisor") cdv A outer s H0 E).A (bx P w K mg base ["first", "second"] "common_divisor" (defScope s_common_divisor) (He.ga K "common_divisor") cdv A outer s H0 E).env (bx P w K mg base ["first", "second"] "common_divisor" (defScope s_common_divisor) (He.ga K "common_divisor") cdv A outer s H0 E).xe := passes_of rfl
  obtain ⟨p_first, p_second, _⟩ := d
  exact ⟨Stt I0 H0 [some (SF.mk rInt p_first), some (SF.mk rInt p_second)] [], Stt.start sm ⟨h0, h1, ini_nil rfl⟩ rfl (by simp), (JR.seq (J1.cx (c' := fun v_first_357 => [some (SF.mk rInt v_first_357), some (SF.mk rInt p_second)]) (J1.set 0 (JE.callB (JA.cons (JE.var 0) JA.nil) cj_abs T.n_abs boot_abs) hx sc_common_divisor.nd)) fun v_first_357 => (JR.seq (J1.cx (c' := fun v_second_360 => [some (SF.mk rInt v_first_357), some (SF.mk rInt v_second_360)]) (J1.set 1 (JE.callB (JA.cons (JE.var 1) JA.nil) cj_abs T.n_abs boot_abs) hx sc_common_divisor.nd)) fun v_second_360 => (JR.seq (J1.while (S := (Int × Int)) (cx := fun s361 => [some (SF.mk rInt s361.1), some (SF.mk rInt s361.2)]) (me := fun _ => []) (s0 := (v_first_357, v_second_360)) (fuel := (v_second_360).toNat + 1) hp (fun s361 => (JT.cmp (JE.var 1) JE.int opj_ne)) (fun s361 => (JN.seq (J1.cx (c' := fun v366 => [some (SF.mk rInt v366.1), some (SF.mk rInt v366.2)]) (J1.par 0 1 (JE.var 1) (JE.bin (JE.var 0) (JE.var 1) opj_mod) hx sc_common_divisor.nd)) fun v366 => (JN.nil fun _ _ _ h => h))) fun _ => hx) fun s361 => (JR.ret (JE.var 0) hx))))⟩
theorem fn_common_divisor {P : Program} {w : World} {K : PySem.W.Frag} {mg : Str → Option Value} {base : Heap} (T : Txt K mg) : FnR P w K mg base (L2.CX P w) 1 (He.ga K "common_divisor") (spF K (aCons (rp rInt) (aCons (rp rInt) aNil)) (fun d => m_common_divisor d.1 d.2.1) (rp rInt)) := by
  obtain ⟨fd, F⟩ := T.F_common_divisor
  exact FnOk.fr0 (ok_common_divisor T F) (F.bindsN fun _ _ _ _ _ _ us hl => match us, hl with | [_, _], _ => rfl)
theorem nice_common_divisor : ∀ d : Int × Int × Unit, n_cd d.1 d.2.1 = .stuck ∨ n_cd d.1 d.2.1 = m_common_divisor d.1 d.2.1 := fun ⟨a, b, _⟩ => by
  right
  show Res.ok _ = m_common_divisor a b
  have e : m_common_divisor a b = (whileM _ _ ((absI b).toNat + 1) (absI a, absI b)).bind fun s => .ok s.1 := rfl
  rw [e, absI_eq a, absI_eq b]
  simp only [Res.ok_bind]
  rw [cd_loop (fun s => rfl) (fun s h => by simp only [Res.ok_bind, modI_ok h]) _ _ _ (by omega)]
  simp only [Res.ok_bind, Int.gcd, Nat.gcd_comm b.natAbs]
theorem sc_Fraction_init : FnScope ["self", "top", "bottom", "divisor"] ["self", "top", "bottom"] (defScope s_Fraction_init) := ⟨rfl, rfl, rfl, by decide +kernel, rfl, by decide +kernel, by decide +kernel⟩
def mi_Fraction (top bottom : Int) : Res (Int × Int) :=
  (((Res.ok bottom).bind fun a => (Res.ok (0 : Int)).bind fun b => .ok (decide (a = b))).bind fun x => if x = true then (Res.err eBF : Res Unit) else .ok ()).bind fun _ =>
  (((Res.ok top).bind fun a => ((Res.ok bottom).bind fun b => (Res.ok ()).bind fun c => .ok (b, c)).bind fun d => .ok (a, d)).bind fun d => n_cd d.1 d.2.1).bind fun dv =>
  (((Res.ok bottom).bind fun a => (Res.ok (0 : Int)).bind fun b => .ok (decide (a < b))).bind fun x => if x = true then ((Res.ok dv).bind fun a => .ok (-a)).bind fun v => (Res.ok v) else .ok dv).bind fun s =>
  ((Res.ok top).bind fun a => (Res.ok s).bind fun b => fdivI a b).bind fun x =>
  ((Res.ok bottom).bind fun a => (Res.ok s).bind fun b => fdivI a b).bind fun y => .ok (x, y)
theorem mi_Fraction_eq (t b : Int) : mi_Fraction t b = (qRaw t b).bind fun q => .ok (q.num, (q.den : Int)) := by
  unfold mi_Fraction qRaw
  simp only [Res.ok_bind, n_cd]
  by_cases hb : b = 0
  · simp [hb]
  · simp only [hb, decide_false, Bool.false_eq_true, if_false, Res.ok_bind]
    have key : ∀ dv : Int, dv = (if b < 0 then -(Int.gcd t b : Int) else (Int.gcd t b : Int)) → (fdivI t dv).bind (fun x => (fdivI b dv).bind fun y => .ok (x, y)) = (Res.guard ((Int.gcd t b).log2 < 9000) (.ok (Rat.divInt t b))).bind fun q => .ok (q.num, (q.den : Int)) := fun dv hd => by
      obtain ⟨e1, e2⟩ := div_num hb dv hd
      have hg : Int.gcd t b ≠ 0 := fun h => hb (Int.gcd_eq_zero_iff.mp h).2
      have na : dv.natAbs = Int.gcd t b := by rw [hd]; split <;> omega
      have nz : dv ≠ 0 := by omega
      unfold fdivI
      rw [na]
      by_cases hl : (Int.gcd t b).log2 < 9000
      · rw [Res.guard_pos ⟨nz, hl⟩, Res.guard_pos ⟨nz, hl⟩, Res.guard_pos hl, e1, e2]; rfl
      · unfold Res.guard; rw [if_neg (fun h => hl h.2), if_neg hl]; rfl
    by_cases hlt : b < 0
    · simp only [hlt, decide_true, if_true, Res.ok_bind]
      exact key _ (by rw [if_pos hlt])
    · simp only [hlt, decide_false, Bool.false_eq_true, if_false, Res.ok_bind]
      exact key _ (by rw [if_neg hlt])
theorem in_Fraction {P : Program} {w : World} {K : PySem.W.Frag} {mg : Str → Option Value} {base : Heap} (T : Txt K mg) (c_common_divisor : C_common_divisor P w K mg base) {fd : FuncData} (F : FunD K "__init__" "Fraction.__init__" (defArgs s_Fraction_init) (defBody s_Fraction_init) (defScope s_Fraction_init) [.int 1] [] (He.ma K (He.ga K "Fraction") "__init__") fd) :
    FnOk P w K mg base (L2.CX P w) 2 (He.ma K (He.ga K "Fraction") "__init__") fd ["self", "top", "bottom"] (spI K (He.ga K "Fraction") (aCons (rp rInt) (aCons (rp rInt) aNil)) (fun d => qRaw d.1 d.2.1) (rp (rFrac K))) := by
  refine FunD.init (k := 1) (N := ["self", "top", "bottom", "divisor"]) (S := Int × Int) F sc_Fraction_init (fun I H vs d h => ?_) (fun cdv A outer s I0 H0 H1 E vs d y dx hr sm h n1 n2 n3 eH => ?_)
  · obtain ⟨v0, _, rfl, h0, v1, _, rfl, h1, rfl⟩ := h; rfl
  obtain ⟨v0, _, rfl, h0, v1, _, rfl, h1, rfl⟩ := h
  obtain ⟨t, b, _⟩ := d
  have hx : ∀ {ctx : List (Option SF)} {mem : List MF} (I H : Hp) (σ : St) (d : Option Addr), Stt I0 H0 ctx mem I H σ → Fr H0 d → bK I0 H0 I H σ d := fun _ _ _ _ s f => ⟨s.fm, f⟩
  have tk : Takes (bx P w K mg base ["self", "top", "bottom", "divisor"] "Fraction.__init__" (defScope s_Fraction_init) (He.ma K (He.ga K "Fraction") "__init__") cdv A outer s H1 E) (bW E) := takes_of rfl rfl rfl rfl
  refine ⟨Stt I0 H0 [some ⟨rRef y, ()⟩, some ⟨rInt, t⟩, some ⟨rInt, b⟩, none] [.ins y (He.ga K "Fraction") dx []], Int × Int, mi_Fraction t b, fun s I H σ => ∃ ctx, Stt I0 H0 ctx [.ins y (He.ga K "Fraction") dx [("top", ⟨rInt, s.1⟩), ("bottom", ⟨rInt, s.2⟩)]] I H σ, ?_, ?_, ?_⟩
  · subst eH
    exact Stt.fresh sm n1 n2 n3 rfl fun i sf e => IniR.get (n := 1) (vs := [.ref y, v0, v1]) (c := [some ⟨rRef y, ()⟩, some ⟨rInt, t⟩, some ⟨rInt, b⟩, none]) ⟨rfl, h0, h1, ini_nil rfl⟩ i sf e
  · exact JN.seq (J1.if (S := Unit) (G' := fun _ => Stt I0 H0 [some ⟨rRef y, ()⟩, some ⟨rInt, t⟩, some ⟨rInt, b⟩, none] [.ins y (He.ga K "Fraction") dx []]) (JT.cmp (JE.var 2) JE.int opj_eq) (JN.last (J1.raiseP rfl tk T.ex_BadFraction hx)) (JN.nil fun _ _ _ h => h) hx) fun _ =>
      JN.seq (J1.set 3 (JE.call (JA.cons (JE.var 1) (JA.cons (JE.var 2) JA.nil)) (cj_of c_common_divisor (hr.mono (by decide)) tk) T.g_common_divisor T.k_common_divisor) hx sc_Fraction_init.nd) fun dv =>
      JN.seq (J1.if (S := Int) (G' := fun s => Stt I0 H0 [some ⟨rRef y, ()⟩, some ⟨rInt, t⟩, some ⟨rInt, b⟩, some ⟨rInt, s⟩] [.ins y (He.ga K "Fraction") dx []]) (JT.cmp (JE.var 2) JE.int opj_lt) (JN.seq (J1.set 3 (JE.un (JE.var 3) unj_neg) hx sc_Fraction_init.nd) fun v => JN.nil fun _ _ _ h => h) (JN.nil fun _ _ _ h => h) hx) fun s =>
      JN.seq (J1.sfld 0 (JE.bin (JE.var 1) (JE.var 3) opj_fdiv) T.o_Fraction.cl T.na_Fraction_top (by decide) hx) fun x =>
      JN.seq (J1.sfld 0 (JE.bin (JE.var 2) (JE.var 3) opj_fdiv) T.o_Fraction.cl T.na_Fraction_bottom (by simp [putG]) hx) fun y' => JN.nil fun _ _ _ h => ⟨_, h⟩
  · rw [mi_Fraction_eq]
    dsimp only
    generalize qRaw t b = z
    cases z with
    | err e => rfl
    | stuck => rfl
    | ok q =>
      refine ⟨q, rfl, fun I' H' σ' ⟨ctx, g⟩ => ?_⟩
      obtain ⟨o, e1, ⟨fs, e2, hf⟩, g2, sm2⟩ := g.freeze
      exact ⟨_, g2.fm, y, dx, rfl, by show upd I' y o y = _; rw [upd_same, e2, frF_of rfl rfl hf]⟩
abbrev C_Fraction_2 (P : Program) (w : World) (K : PySem.W.Frag) (mg : Str → Option Value) (base : Heap) : Prop := MkR P w K mg base 3 (He.ga K "Fraction") (aCons (rp rInt) (aCons (rp rInt) aNil)) (fun d => qMk d.1 d.2.1) (rp (rFrac K))
theorem fn_Fraction_2 {P : Program} {w : World} {K : PySem.W.Frag} {mg : Str → Option Value} {base : Heap} (T : Txt K mg) (c_common_divisor : C_common_divisor P w K mg base) : C_Fraction_2 P w K mg base := by
  obtain ⟨fd, F⟩ := T.F_Fraction_init
  obtain ⟨ds, hd, hb⟩ := FunD.binds1 (ps := ["self", "top", "bottom"]) F 3 1 (by simp) rfl fun T kV doc pm an cdv ct us its hl hi => match us, hl, its, hi with | [_, _, _], _, [_], _ => ⟨_, rfl, rfl⟩
  exact MkR.nice (mkR_of (h := fun d => d) T.mk_Fraction (in_Fraction T c_common_divisor F) hb hd fun I H vs d h => by rw [show List.drop 1 [V.int 1] = [] from rfl, List.append_nil]; exact h) fun d => qMk_raw d.1 d.2.1
abbrev C_Fraction_1 (P : Program) (w : World) (K : PySem.W.Frag) (mg : Str → Option Value) (base : Heap) : Prop := MkR P w K mg base 3 (He.ga K "Fraction") (aCons (rp rInt) aNil) (fun d => qInt d.1) (rp (rFrac K))
theorem fn_Fraction_1 {P : Program} {w : World} {K : PySem.W.Frag} {mg : Str → Option Value} {base : Heap} (T : Txt K mg) (c_common_divisor : C_common_divisor P w K mg base) : C_Fraction_1 P w K mg base := by
  obtain ⟨fd, F⟩ := T.F_Fraction_init
  obtain ⟨ds, hd, hb⟩ := FunD.binds1 (ps := ["self", "top", "bottom"]) F 2 0 (by simp) rfl fun T kV doc pm an cdv ct us its hl hi => match us, hl, its, hi with | [_, _], _, [_], _ => ⟨_, rfl, rfl⟩
  exact MkR.nice (mkR_of (h := fun d : Int × Unit => (d.1, 1, ())) T.mk_Fraction (in_Fraction T c_common_divisor F) hb hd fun I H vs d h => by
    obtain ⟨v0, _, rfl, h0, rfl⟩ := h
    exact ⟨v0, _, rfl, h0, _, _, rfl, rfl, rfl⟩) fun d => qInt_raw d.1

theorem sc_Fraction_add : FnScope ["self", "other"] ["self", "other"] (defScope s_Fraction_add) := ⟨rfl, rfl, rfl, by decide +kernel, rfl, by decide +kernel, by decide +kernel⟩
def m_Fraction_add (p_self : Rat) (p_other : Num) : Res Rat :=
  (match p_other with | .i p_other_i => (((Res.ok p_other_i).bind fun a369 => .ok true).bind fun x370 => if x370 = true then (((((Res.ok p_self).bind fun a371 => .ok a371.num).bind fun a375 => ((Res.ok p_other_i).bind fun a373 => ((Res.ok p_self).bind fun a372 => .ok (a372.den : Int)).bind fun b374 => mulI a373 b374).bind fun b376 => .ok (a375 + b376)).bind fun a380 => (((Res.ok p_self).bind fun a377 => .ok (a377.den : Int)).bind fun a378 => (Res.ok ()).bind fun b379 => .ok (a378, b379)).bind fun b381 => .ok (a380, b381)).bind (fun d => qMk d.1 d.2.1)) else .stuck) | .q p_other_q => (((Res.ok p_other_q).bind fun a382 => .ok false).bind fun x383 => if x383 = true then .stuck else ((((Res.ok p_other_q).bind fun a384 => .ok true).bind fun a385 => .ok (!a385)).bind fun x386 => if x386 = true then .stuck else ((((((Res.ok p_self).bind fun a387 => .ok a387.num).bind fun a389 => ((Res.ok p_other_q).bind fun a388 => .ok (a388.den : Int)).bind fun b390 => mulI a389 b390).bind fun a395 => (((Res.ok p_other_q).bind fun a391 => .ok a391.num).bind fun a393 => ((Res.ok p_self).bind fun a392 => .ok (a392.den : Int)).bind fun b394 => mulI a393 b394).bind fun b396 => .ok (a395 + b396)).bind fun a403 => ((((Res.ok p_self).bind fun a397 => .ok (a397.den : Int)).bind fun a399 => ((Res.ok p_other_q).bind fun a398 => .ok (a398.den : Int)).bind fun b400 => mulI a399 b400).bind fun a401 => (Res.ok ()).bind fun b402 => .ok (a401, b402)).bind fun b404 => .ok (a403, b404)).bind (fun d => qMk d.1 d.2.1)))))
abbrev C_Fraction_add (P : Program) (w : World) (K : PySem.W.Frag) (mg : Str → Option Value) (base : Heap) : Prop := FnR P w K mg base (L2.CX P w) 4 (He.ma K (He.ga K "Fraction") "__add__") (spF K (aCons (rp (rFrac K)) (aCons (rp (rNum K)) aNil)) (fun d => qAdd d.1 d.2.1) (rp (rFrac K)))
theorem ok_Fraction_add {P : Program} {w : World} {K : PySem.W.Frag} {mg : Str → Option Value} {base : Heap} (T : Txt K mg) (c_Fraction_2 : C_Fraction_2 P w K mg base) {fd : FuncData} (F : FunD K "__add__" "Fraction.__add__" (defArgs s_Fraction_add) (defBody s_Fraction_add) (defScope s_Fraction_add) [] [] (He.ma K (He.ga K "Fraction") "__add__") fd) : FnOk P w K mg base (L2.CX P w) 4 (He.ma K (He.ga K "Fraction") "__add__") fd ["self", "other"] (spF K (aCons (rp (rFrac K)) (aCons (rp (rNum K)) aNil)) (fun d => m_Fraction_add d.1 d.2.1) (rp (rFrac K))) := by
  refine FunD.fn (k := 3) (N := ["self", "other"]) (ps := ["self", "other"]) F sc_Fraction_add (fun I H vs d h => ?_) (fun cdv A outer s I0 H0 E vs d hr sm h => ?_)
  · obtain ⟨v0, _, rfl, h0, v1, _, rfl, h1, rfl⟩ := h; rfl
  obtain ⟨v0, _, rfl, h0, v1, _, rfl, h1, rfl⟩ := h
  have hx : ∀ {ctx : List (Option SF)} {mem : List MF} (I H : Hp) (σ : St) (d : Option Addr), Stt I0 H0 ctx mem I H σ → Fr H0 d → bK I0 H0 I H σ d := fun _ _ _ _ s f => ⟨s.fm, f⟩
  have tk : Takes (bx P w K mg base ["self", "other"] "Fraction.__add__" (defScope s_Fraction_add) (He.ma K (He.ga K "Fraction") "__add__") cdv A outer s H0 E) (bW E) := takes_of rfl rfl rfl rfl
  obtain ⟨p_self, p_other, _⟩ := d
  exact ⟨Stt I0 H0 [some (SF.mk (rFrac K) p_self), some (SF.mk (rNum K) p_other)] [], Stt.start sm ⟨h0, h1, ini_nil rfl⟩ rfl (by simp), (JR.num (K := K) 1 (fun p_other_i => JR.at (c' := [some (SF.mk (rFrac K) p_self), some (SF.mk rInt p_other_i)]) (JR.ifR (JT.of (JE.isi (JE.var 1) (w_type_at T.n_int (by decide +kernel) rfl (by decide) (by decide)) (.ty _) (tyr_int (t := "int") (by decide +kernel)) T.n_isinstance)) (JR.ret (JE.call (JA.cons (JE.bin (JE.fld (JE.var 0) fld_top T.o_Fraction.cl T.na_Fraction_top) (JE.bin (JE.var 1) (JE.fld (JE.var 0) fld_bottom T.o_Fraction.cl T.na_Fraction_bottom) opj_mul) opj_add) (JA.cons (JE.fld (JE.var 0) fld_bottom T.o_Fraction.cl T.na_Fraction_bottom) JA.nil)) (c_Fraction_2 _ _ rfl rfl rfl rfl rfl (hr.mono (by decide)) tk) T.g_Fraction T.mk_Fraction.kp) hx) JR.dead hx)) (fun p_other_q => JR.at (c' := [some (SF.mk (rFrac K) p_self), some (SF.mk (rFrac K) p_other_q)]) (JR.ifR (JT.of (JE.isi (JE.var 1) (w_type_at T.n_int (by decide +kernel) rfl (by decide) (by decide)) (.ty _) (tyr_ins T.o_Fraction insF T.kT_Fraction_int) T.n_isinstance)) JR.dead (JR.ifR (JT.not (JT.of (JE.isi (JE.var 1) (w_glob_at T.g_Fraction rfl (by decide)) (.own _) (tyr_ins T.o_Fraction insF T.kt_Fraction_Fraction) T.n_isinstance))) JR.dead (JR.ret (JE.call (JA.cons (JE.bin (JE.bin (JE.fld (JE.var 0) fld_top T.o_Fraction.cl T.na_Fraction_top) (JE.fld (JE.var 1) fld_bottom T.o_Fraction.cl T.na_Fraction_bottom) opj_mul) (JE.bin (JE.fld (JE.var 1) fld_top T.o_Fraction.cl T.na_Fraction_top) (JE.fld (JE.var 0) fld_bottom T.o_Fraction.cl T.na_Fraction_bottom) opj_mul) opj_add) (JA.cons (JE.bin (JE.fld (JE.var 0) fld_bottom T.o_Fraction.cl T.na_Fraction_bottom) (JE.fld (JE.var 1) fld_bottom T.o_Fraction.cl T.na_Fraction_bottom) opj_mul) JA.nil)) (c_Fraction_2 _ _ rfl rfl rfl rfl rfl (hr.mono (by decide)) tk) T.g_Fraction T.mk_Fraction.kp) hx) hx) hx)))⟩
theorem fn_Fraction_add {P : Program} {w : World} {K : PySem.W.Frag} {mg : Str → Option Value} {base : Heap} (T : Txt K mg) (c_Fraction_2 : C_Fraction_2 P w K mg base) : FnR P w K mg base (L2.CX P w) 4 (He.ma K (He.ga K "Fraction") "__add__") (spF K (aCons (rp (rFrac K)) (aCons (rp (rNum K)) aNil)) (fun d => m_Fraction_add d.1 d.2.1) (rp (rFrac K))) := by
  obtain ⟨fd, F⟩ := T.F_Fraction_add
  exact FnOk.fr0 (ok_Fraction_add T c_Fraction_2 F) (F.bindsN fun _ _ _ _ _ _ us hl => match us, hl with | [_, _], _ => rfl)
theorem nice_Fraction_add : ∀ d : Rat × Num × Unit, qAdd d.1 d.2.1 = .stuck ∨ qAdd d.1 d.2.1 = m_Fraction_add d.1 d.2.1 := fun ⟨x, y, _⟩ => by
  cases y with
  | i n =>
      refine stuck_or fun h => ?_
      obtain ⟨hx, hn⟩ := h
      dsimp only at hx ⊢
      have hn := fits_int.mp hn
      simp only [m_Fraction_add, Res.ok_bind, Bool.not_true, Bool.not_false, Bool.false_eq_true, if_true, if_false, mul_fit hn (fd hx), mul_fit hx.1 hn, qMk_d hx, add_div1]
      rfl
  | q y =>
      refine stuck_or fun h => ?_
      obtain ⟨hx, hy⟩ := h
      dsimp only at hx ⊢
      have hy : fits y := hy
      simp only [m_Fraction_add, Res.ok_bind, Bool.not_true, Bool.not_false, Bool.false_eq_true, if_true, if_false, mul_fit hx.1 (fd hy), mul_fit hy.1 (fd hx), mul_fit (fd hx) (fd hy), mul_fit hx.1 hy.1, qMk_dd hx hy, add_divs]
      rfl
theorem sc_law_lower : FnScope ["_law_top", "_law_bottom", "_law_first", "_law_second", "_law_rest"] ["_law_top", "_law_bottom"] (defScope s_law_lower) := ⟨rfl, rfl, rfl, by decide +kernel, rfl, by decide +kernel, by decide +kernel⟩
def m_law_lower (p_law_top : Int) (p_law_bottom : Int) : Res (List Int) :=
  ((((Res.ok p_law_top).bind fun a437 => (Res.ok ()).bind fun b438 => .ok (a437, b438)).bind (fun d => .ok (if d.1 < 0 then -d.1 else d.1))).bind fun v_law_first_439 => ((((Res.ok p_law_bottom).bind fun a440 => (Res.ok ()).bind fun b441 => .ok (a440, b441)).bind (fun d => .ok (if d.1 < 0 then -d.1 else d.1))).bind fun v_law_second_442 => ((whileM (fun s443 : (Int × Int) => ((Res.ok s443.2).bind fun a444 => (Res.ok (0 : Int)).bind fun b445 => .ok (!decide (a444 = b445)))) (fun s443 => (((Res.ok s443.1).bind fun a446 => (Res.ok s443.2).bind fun b447 => modI a446 b447).bind fun v_law_rest_448 => ((Res.ok s443.2).bind fun v_law_first_449 => ((Res.ok v_law_rest_448).bind fun v_law_second_450 => (Res.ok (v_law_first_449, v_law_second_450)))))) ((v_law_second_442).toNat + 1) (v_law_first_439, v_law_second_442)).bind fun s443 => ((((Res.ok p_law_bottom).bind fun a451 => (Res.ok (0 : Int)).bind fun b452 => .ok (decide (a451 < b452))).bind fun x456 => if x456 = true then (((Res.ok s443.1).bind fun a453 => .ok (-a453)).bind fun v_law_first_454 => (Res.ok v_law_first_454)) else (Res.ok s443.1)).bind fun s455 => (((Res.ok p_law_top).bind fun a457 => (Res.ok s455).bind fun b458 => fdivI a457 b458).bind fun a463 => (((Res.ok p_law_bottom).bind fun a459 => (Res.ok s455).bind fun b460 => fdivI a459 b460).bind fun a461 => (Res.ok []).bind fun b462 => .ok (a461 :: b462)).bind fun b464 => .ok (a463 :: b464))))))
abbrev C_law_lower (P : Program) (w : World) (K : PySem.W.Frag) (mg : Str → Option Value) (base : Heap) : Prop := FnR P w K mg base (L2.CX P w) 1 (He.ga K "_law_lower") (spF K (aCons (rp rInt) (aCons (rp rInt) aNil)) (fun d => m_law_lower d.1 d.2.1) (rp (rL rInt)))
theorem ok_law_lower {P : Program} {w : World} {K : PySem.W.Frag} {mg : Str → Option Value} {base : Heap} (T : Txt K mg) {fd : FuncData} (F : FunD K "_law_lower" "_law_lower" (defArgs s_law_lower) (defBody s_law_lower) (defScope s_law_lower) [] [] (He.ga K "_law_lower") fd) : FnOk P w K mg base (L2.CX P w) 1 (He.ga K "_law_lower") fd ["_law_top", "_law_bottom"] (spF K (aCons (rp rInt) (aCons (rp rInt) aNil)) (fun d => m_law_lower d.1 d.2.1) (rp (rL rInt))) := by
  refine FunD.fn (k := 0) (N := ["_law_top", "_law_bottom", "_law_first", "_law_second", "_law_rest"]) (ps := ["_law_top", "_law_bottom"]) F sc_law_lower (fun I H vs d h => ?_) (fun cdv A outer s I0 H0 E vs d hr sm h => ?_)
  · obtain ⟨v0, _, rfl, h0, v1, _, rfl, h1, rfl⟩ := h; rfl
  obtain ⟨v0, _, rfl, h0, v1, _, rfl, h1, rfl⟩ := h
  have hx : ∀ {ctx : List (Option SF)} {mem : List MF} (I H : Hp) (σ : St) (d : Option Addr), Stt I0 H0 ctx mem I H σ → Fr H0 d → bK I0 H0 I H σ d := fun _ _ _ _ s f => ⟨s.fm, f⟩
  have tk : Takes (bx P w K mg base ["_law_top", "_law_bottom", "_law_first", "_law_second", "_law_rest"] "_law_lower" (defScope s_law_lower) (He.ga K "_law_lower") cdv A outer s H0 E) (bW E) := takes_of rfl rfl rfl rfl
  have hp : PassesOwn (model P w) (bx P w K mg base ["_law_top", "_law_bottom", "_law_first", "_law_second", "_law_rest"] "_law_lower" (defScope s_law_lower) (He.ga K "_law_lower") cdv A outer s H0 E).A (bx P w K mg base ["_law_top", "_law_bottom", "_law_first", "_law_second", "_law_rest"] "_law_lower" (defScope s_law_lower) (He.ga K "_law_lower") cdv A outer s H0 E).env (bx P w K mg base ["_law_top", "_law_bottom", "_law_first", "_law_second", "_law_rest"] "_law_lower" (defScope s_law_lower) (He.ga K "_law_lower") cdv A outer s H0 E).xe := passes_of rfl
  obtain ⟨p_law_top, p_law_bottom, _⟩ := d
  exact ⟨Stt I0 H0 [some (SF.mk rInt p_law_top), some (SF.mk rInt p_law_bottom), none, none, none] [], Stt.start sm ⟨h0, h1, ini_nil rfl⟩ rfl (by simp), (JR.seq (J1.cx (c' := fun v_law_first_439 => [some (SF.mk rInt p_law_top), some (SF.mk rInt p_law_bottom), some (SF.mk rInt v_law_first_439), none, none]) (J1.set 2 (JE.callB (JA.cons (JE.var 0) JA.nil) cj_abs T.n_abs boot_abs) hx sc_law_lower.nd)) fun v_law_first_439 => (JR.seq (J1.cx (c' := fun v_law_second_442 => [some (SF.mk rInt p_law_top), some (SF.mk rInt p_law_bottom), some (SF.mk rInt v_law_first_439), some (SF.mk rInt v_law_second_442), none]) (J1.set 3 (JE.callB (JA.cons (JE.var 1) JA.nil) cj_abs T.n_abs boot_abs) hx sc_law_lower.nd)) fun v_law_second_442 => (JR.seq (J1.while (S := (Int × Int)) (cx := fun s443 => [some (SF.mk rInt p_law_top), some (SF.mk rInt p_law_bottom), some (SF.mk rInt s443.1), some (SF.mk rInt s443.2), none]) (me := fun _ => []) (s0 := (v_law_first_439, v_law_second_442)) (fuel := (v_law_second_442).toNat + 1) hp (fun s443 => (JT.cmp (JE.var 3) JE.int opj_ne)) (fun s443 => (JN.seq (J1.cx (c' := fun v_law_rest_448 => [some (SF.mk rInt p_law_top), some (SF.mk rInt p_law_bottom), some (SF.mk rInt s443.1), some (SF.mk rInt s443.2), some (SF.mk rInt v_law_rest_448)]) (J1.set 4 (JE.bin (JE.var 2) (JE.var 3) opj_mod) hx sc_law_lower.nd)) fun v_law_rest_448 => (JN.seq (J1.cx (c' := fun v_law_first_449 => [some (SF.mk rInt p_law_top), some (SF.mk rInt p_law_bottom), some (SF.mk rInt v_law_first_449), some (SF.mk rInt s443.2), some (SF.mk rInt v_law_rest_448)]) (J1.set 2 (JE.var 3) hx sc_law_lower.nd)) fun v_law_first_449 => (JN.seq (J1.cx (c' := fun v_law_second_450 => [some (SF.mk rInt p_law_top), some (SF.mk rInt p_law_bottom), some (SF.mk rInt v_law_first_449), some (SF.mk rInt v_law_second_450), some (SF.mk rInt v_law_rest_448)]) (J1.set 3 (JE.var 4) hx sc_law_lower.nd)) fun v_law_second_450 => (JN.nil fun _ _ _ h => h.weak (weak_some (weak_some (weak_some (weak_some (weak_none weak_nil)))))))))) fun _ => hx) fun s443 => (JR.seq (J1.if (S := Int) (G' := fun s455 => Stt I0 H0 [some (SF.mk rInt p_law_top), some (SF.mk rInt p_law_bottom), some (SF.mk rInt s455), some (SF.mk rInt s443.2), none] []) (JT.cmp (JE.var 1) JE.int opj_lt) (JN.seq (J1.cx (c' := fun v_law_first_454 => [some (SF.mk rInt p_law_top), some (SF.mk rInt p_law_bottom), some (SF.mk rInt v_law_first_454), some (SF.mk rInt s443.2), none]) (J1.set 2 (JE.un (JE.var 2) unj_neg) hx sc_law_lower.nd)) fun v_law_first_454 => (JN.nil fun _ _ _ h => h)) (JN.nil fun _ _ _ h => h) hx) fun s455 => (JR.ret (JE.lst (JA.consL (JE.bin (JE.var 0) (JE.var 2) opj_fdiv) (JA.consL (JE.bin (JE.var 1) (JE.var 2) opj_fdiv) JA.nilL))) hx)))))⟩
theorem fn_law_lower {P : Program} {w : World} {K : PySem.W.Frag} {mg : Str → Option Value} {base : Heap} (T : Txt K mg) : FnR P w K mg base (L2.CX P w) 1 (He.ga K "_law_lower") (spF K (aCons (rp rInt) (aCons (rp rInt) aNil)) (fun d => m_law_lower d.1 d.2.1) (rp (rL rInt))) := by
  obtain ⟨fd, F⟩ := T.F_law_lower
  exact FnOk.fr0 (ok_law_lower T F) (F.bindsN fun _ _ _ _ _ _ us hl => match us, hl with | [_, _], _ => rfl)
theorem sc_Fraction_eq : FnScope ["self", "other"] ["self", "other"] (defScope s_Fraction_eq) := ⟨rfl, rfl, rfl, by decide +kernel, rfl, by decide +kernel, by decide +kernel⟩
def m_Fraction_eq (p_self : Rat) (p_other : Num) : Res Bool :=
  (match p_other with | .i p_other_i => (((Res.ok p_other_i).bind fun a465 => .ok true).bind fun x466 => if x466 = true then ((((Res.ok p_self).bind fun a467 => .ok (a467.den : Int)).bind fun a468 => (Res.ok (1 : Int)).bind fun b469 => .ok (decide (a468 = b469))).bind fun a473 => if a473 = true then (((Res.ok p_self).bind fun a470 => .ok a470.num).bind fun a471 => (Res.ok p_other_i).bind fun b472 => .ok (decide (a471 = b472))) else .ok false) else .stuck) | .q p_other_q => (((Res.ok p_other_q).bind fun a474 => .ok false).bind fun x475 => if x475 = true then .stuck else ((((Res.ok p_other_q).bind fun a476 => .ok true).bind fun a477 => .ok (!a477)).bind fun x478 => if x478 = true then .stuck else ((((Res.ok p_self).bind fun a479 => .ok a479.num).bind fun a481 => ((Res.ok p_other_q).bind fun a480 => .ok a480.num).bind fun b482 => .ok (decide (a481 = b482))).bind fun a487 => if a487 = true then (((Res.ok p_self).bind fun a483 => .ok (a483.den : Int)).bind fun a485 => ((Res.ok p_other_q).bind fun a484 => .ok (a484.den : Int)).bind fun b486 => .ok (decide (a485 = b486))) else .ok false))))
abbrev C_Fraction_eq (P : Program) (w : World) (K : PySem.W.Frag) (mg : Str → Option Value) (base : Heap) : Prop := FnR P w K mg base (L2.CX P w) 1 (He.ma K (He.ga K "Fraction") "__eq__") (spF K (aCons (rp (rFrac K)) (aCons (rp (rNum K)) aNil)) (fun d => qEq d.1 d.2.1) (rp rBl))
theorem ok_Fraction_eq {P : Program} {w : World} {K : PySem.W.Frag} {mg : Str → Option Value} {base : Heap} (T : Txt K mg) {fd : FuncData} (F : FunD K "__eq__" "Fraction.__eq__" (defArgs s_Fraction_eq) (defBody s_Fraction_eq) (defScope s_Fraction_eq) [] [] (He.ma K (He.ga K "Fraction") "__eq__") fd) : FnOk P w K mg base (L2.CX P w) 1 (He.ma K (He.ga K "Fraction") "__eq__") fd ["self", "other"] (spF K (aCons (rp (rFrac K)) (aCons (rp (rNum K)) aNil)) (fun d => m_Fraction_eq d.1 d.2.1) (rp rBl)) := by
  refine FunD.fn (k := 0) (N := ["self", "other"]) (ps := ["self", "other"]) F sc_Fraction_eq (fun I H vs d h => ?_) (fun cdv A outer s I0 H0 E vs d hr sm h => ?_)
  · obtain ⟨v0, _, rfl, h0, v1, _, rfl, h1, rfl⟩ := h; rfl
  obtain ⟨v0, _, rfl, h0, v1, _, rfl, h1, rfl⟩ := h
  have hx : ∀ {ctx : List (Option SF)} {mem : List MF} (I H : Hp) (σ : St) (d : Option Addr), Stt I0 H0 ctx mem I H σ → Fr H0 d → bK I0 H0 I H σ d := fun _ _ _ _ s f => ⟨s.fm, f⟩
  have tk : Takes (bx P w K mg base ["self", "other"] "Fraction.__eq__" (defScope s_Fraction_eq) (He.ma K (He.ga K "Fraction") "__eq__") cdv A outer s H0 E) (bW E) := takes_of rfl rfl rfl rfl
  obtain ⟨p_self, p_other, _⟩ := d
  exact ⟨Stt I0 H0 [some (SF.mk (rFrac K) p_self), some (SF.mk (rNum K) p_other)] [], Stt.start sm ⟨h0, h1, ini_nil rfl⟩ rfl (by simp), (JR.num (K := K) 1 (fun p_other_i => JR.at (c' := [some (SF.mk (rFrac K) p_self), some (SF.mk rInt p_other_i)]) (JR.ifR (JT.of (JE.isi (JE.var 1) (w_type_at T.n_int (by decide +kernel) rfl (by decide) (by decide)) (.ty _) (tyr_int (t := "int") (by decide +kernel)) T.n_isinstance)) (JR.ret (JE.and (JE.cmp (JE.fld (JE.var 0) fld_bottom T.o_Fraction.cl T.na_Fraction_bottom) JE.int opj_eq) (JE.one (JE.cmp (JE.fld (JE.var 0) fld_top T.o_Fraction.cl T.na_Fraction_top) (JE.var 1) opj_eq))) hx) JR.dead hx)) (fun p_other_q => JR.at (c' := [some (SF.mk (rFrac K) p_self), some (SF.mk (rFrac K) p_other_q)]) (JR.ifR (JT.of (JE.isi (JE.var 1) (w_type_at T.n_int (by decide +kernel) rfl (by decide) (by decide)) (.ty _) (tyr_ins T.o_Fraction insF T.kT_Fraction_int) T.n_isinstance)) JR.dead (JR.ifR (JT.not (JT.of (JE.isi (JE.var 1) (w_glob_at T.g_Fraction rfl (by decide)) (.own _) (tyr_ins T.o_Fraction insF T.kt_Fraction_Fraction) T.n_isinstance))) JR.dead (JR.ret (JE.and (JE.cmp (JE.fld (JE.var 0) fld_top T.o_Fraction.cl T.na_Fraction_top) (JE.fld (JE.var 1) fld_top T.o_Fraction.cl T.na_Fraction_top) opj_eq) (JE.one (JE.cmp (JE.fld (JE.var 0) fld_bottom T.o_Fraction.cl T.na_Fraction_bottom) (JE.fld (JE.var 1) fld_bottom T.o_Fraction.cl T.na_Fraction_bottom) opj_eq))) hx) hx) hx)))⟩
theorem fn_Fraction_eq {P : Program} {w : World} {K : PySem.W.Frag} {mg : Str → Option Value} {base : Heap} (T : Txt K mg) : FnR P w K mg base (L2.CX P w) 1 (He.ma K (He.ga K "Fraction") "__eq__") (spF K (aCons (rp (rFrac K)) (aCons (rp (rNum K)) aNil)) (fun d => m_Fraction_eq d.1 d.2.1) (rp rBl)) := by
  obtain ⟨fd, F⟩ := T.F_Fraction_eq
  exact FnOk.fr0 (ok_Fraction_eq T F) (F.bindsN fun _ _ _ _ _ _ us hl => match us, hl with | [_, _], _ => rfl)
theorem nice_Fraction_eq : ∀ d : Rat × Num × Unit, qEq d.1 d.2.1 = .stuck ∨ qEq d.1 d.2.1 = m_Fraction_eq d.1 d.2.1 := fun ⟨x, y, _⟩ => by
  right
  cases y with
  | i n =>
      simp only [m_Fraction_eq, Res.ok_bind, Bool.not_true, Bool.not_false, Bool.false_eq_true, if_true, if_false]
      exact (eq_dec1 x n).symm
  | q y =>
      simp only [m_Fraction_eq, Res.ok_bind, Bool.not_true, Bool.not_false, Bool.false_eq_true, if_true, if_false]
      exact (eq_dec x y).symm
theorem sc_law_is : FnScope ["_law_got", "_law_top", "_law_bottom"] ["_law_got", "_law_top", "_law_bottom"] (defScope s_law_is) := ⟨rfl, rfl, rfl, by decide +kernel, rfl, by decide +kernel, by decide +kernel⟩
def m_law_is (p_law_got : Rat) (p_law_top : Int) (p_law_bottom : Int) : Res Bool :=
  (((((Res.ok p_law_got).bind fun a405 => .ok true).bind fun a406 => .ok (!a406)).bind fun a419 => if a419 = true then .ok true else ((((Res.ok p_law_got).bind fun a407 => .ok a407.num).bind fun a411 => (((Res.ok p_law_got).bind fun a408 => .ok (a408.den : Int)).bind fun a409 => (Res.ok []).bind fun b410 => .ok (a409 :: b410)).bind fun b412 => .ok (a411 :: b412)).bind fun a417 => (((Res.ok p_law_top).bind fun a415 => ((Res.ok p_law_bottom).bind fun a413 => (Res.ok ()).bind fun b414 => .ok (a413, b414)).bind fun b416 => .ok (a415, b416)).bind (fun d => m_law_lower d.1 d.2.1)).bind fun b418 => .ok (!decide (a417 = b418)))).bind fun x420 => if x420 = true then (Res.ok false) else (((Res.ok p_law_got).bind fun a425 => (((Res.ok p_law_top).bind fun a423 => ((Res.ok p_law_bottom).bind fun a421 => (Res.ok ()).bind fun b422 => .ok (a421, b422)).bind fun b424 => .ok (a423, b424)).bind (fun d => qMk d.1 d.2.1)).bind fun b426 => qEq a425 (.q b426)).bind fun a436 => if a436 = true then (((Res.ok p_law_got).bind fun a433 => ((((Res.ok p_law_top).bind fun a427 => .ok (-a427)).bind fun a431 => (((Res.ok p_law_bottom).bind fun a428 => .ok (-a428)).bind fun a429 => (Res.ok ()).bind fun b430 => .ok (a429, b430)).bind fun b432 => .ok (a431, b432)).bind (fun d => qMk d.1 d.2.1)).bind fun b434 => (qEq a433 (.q b434)).bind fun z => .ok (!z)).bind fun a435 => .ok (!a435)) else .ok false))
abbrev C_law_is (P : Program) (w : World) (K : PySem.W.Frag) (mg : Str → Option Value) (base : Heap) : Prop := FnR P w K mg base (L2.CX P w) 5 (He.ga K "_law_is") (spF K (aCons (rp (rFrac K)) (aCons (rp rInt) (aCons (rp rInt) aNil))) (fun d => m_law_is d.1 d.2.1 d.2.2.1) (rp rBl))
theorem ok_law_is {P : Program} {w : World} {K : PySem.W.Frag} {mg : Str → Option Value} {base : Heap} (T : Txt K mg) (c_law_lower : C_law_lower P w K mg base) (c_Fraction_2 : C_Fraction_2 P w K mg base) (c_Fraction_eq : C_Fraction_eq P w K mg base) {fd : FuncData} (F : FunD K "_law_is" "_law_is" (defArgs s_law_is) (defBody s_law_is) (defScope s_law_is) [] [] (He.ga K "_law_is") fd) : FnOk P w K mg base (L2.CX P w) 5 (He.ga K "_law_is") fd ["_law_got", "_law_top", "_law_bottom"] (spF K (aCons (rp (rFrac K)) (aCons (rp rInt) (aCons (rp rInt) aNil))) (fun d => m_law_is d.1 d.2.1 d.2.2.1) (rp rBl)) := by
  refine FunD.fn (k := 4) (N := ["_law_got", "_law_top", "_law_bottom"]) (ps := ["_law_got", "_law_top", "_law_bottom"]) F sc_law_is (fun I H vs d h => ?_) (fun cdv A outer s I0 H0 E vs d hr sm h => ?_)
  · obtain ⟨v0, _, rfl, h0, v1, _, rfl, h1, v2, _, rfl, h2, rfl⟩ := h; rfl
  obtain ⟨v0, _, rfl, h0, v1, _, rfl, h1, v2, _, rfl, h2, rfl⟩ := h
  have hx : ∀ {ctx : List (Option SF)} {mem : List MF} (I H : Hp) (σ : St) (d : Option Addr), Stt I0 H0 ctx mem I H σ → Fr H0 d → bK I0 H0 I H σ d := fun _ _ _ _ s f => ⟨s.fm, f⟩
  have tk : Takes (bx P w K mg base ["_law_got", "_law_top", "_law_bottom"] "_law_is" (defScope s_law_is) (He.ga K "_law_is") cdv A outer s H0 E) (bW E) := takes_of rfl rfl rfl rfl
  obtain ⟨p_law_got, p_law_top, p_law_bottom, _⟩ := d
  exact ⟨Stt I0 H0 [some (SF.mk (rFrac K) p_law_got), some (SF.mk rInt p_law_top), some (SF.mk rInt p_law_bottom)] [], Stt.start sm ⟨h0, h1, h2, ini_nil rfl⟩ rfl (by simp), (JR.ifR (JT.bool (JW.or (JT.not (JT.of (JE.isi (JE.var 0) (w_glob_at T.g_Fraction rfl (by decide)) (.own _) (tyr_ins T.o_Fraction insF T.kt_Fraction_Fraction) T.n_isinstance))) (JW.or1 (JT.cmp (JE.rd (JE.lst (JA.consL (JE.fld (JE.var 0) fld_top T.o_Fraction.cl T.na_Fraction_top) (JA.consL (JE.fld (JE.var 0) fld_bottom T.o_Fraction.cl T.na_Fraction_bottom) JA.nilL)))) (JE.rd (JE.call (JA.cons (JE.var 1) (JA.cons (JE.var 2) JA.nil)) (cj_of c_law_lower (hr.mono (by decide)) tk) T.g_law_lower T.k_law_lower)) (opj_neL hr.units))))) (JR.ret JE.bl hx) (JR.ret (JE.and (JE.cmp (JE.var 0) (JE.call (JA.cons (JE.var 1) (JA.cons (JE.var 2) JA.nil)) (c_Fraction_2 _ _ rfl rfl rfl rfl rfl (hr.mono (by decide)) tk) T.g_Fraction T.mk_Fraction.kp) (opj_cqq (op := .Eq) (fun _ _ => rfl) T.o_Fraction T.om_Fraction_eq T.nf_Fraction.1 c_Fraction_eq (hr.mono (by decide)) tk)) (JE.one (JE.not (JE.cmp (JE.var 0) (JE.call (JA.cons (JE.un (JE.var 1) unj_neg) (JA.cons (JE.un (JE.var 2) unj_neg) JA.nil)) (c_Fraction_2 _ _ rfl rfl rfl rfl rfl (hr.mono (by decide)) tk) T.g_Fraction T.mk_Fraction.kp) (opj_neqq T.o_Fraction T.om_Fraction_eq T.nf_Fraction.1 c_Fraction_eq (hr.mono (by decide)) tk))))) hx) hx)⟩
theorem fn_law_is {P : Program} {w : World} {K : PySem.W.Frag} {mg : Str → Option Value} {base : Heap} (T : Txt K mg) (c_law_lower : C_law_lower P w K mg base) (c_Fraction_2 : C_Fraction_2 P w K mg base) (c_Fraction_eq : C_Fraction_eq P w K mg base) : FnR P w K mg base (L2.CX P w) 5 (He.ga K "_law_is") (spF K (aCons (rp (rFrac K)) (aCons (rp rInt) (aCons (rp rInt) aNil))) (fun d => m_law_is d.1 d.2.1 d.2.2.1) (rp rBl)) := by
  obtain ⟨fd, F⟩ := T.F_law_is
  exact FnOk.fr0 (ok_law_is T c_law_lower c_Fraction_2 c_Fraction_eq F) (F.bindsN fun _ _ _ _ _ _ us hl => match us, hl with | [_, _, _], _ => rfl)
theorem sc_Fraction_sub : FnScope ["self", "other"] ["self", "other"] (defScope s_Fraction_sub) := ⟨rfl, rfl, rfl, by decide +kernel, rfl, by decide +kernel, by decide +kernel⟩
def m_Fraction_sub (p_self : Rat) (p_other : Num) : Res Rat :=
  (match p_other with | .i p_other_i => (((Res.ok p_other_i).bind fun a488 => .ok true).bind fun x489 => if x489 = true then (((((Res.ok p_self).bind fun a490 => .ok a490.num).bind fun a494 => ((Res.ok p_other_i).bind fun a492 => ((Res.ok p_self).bind fun a491 => .ok (a491.den : Int)).bind fun b493 => mulI a492 b493).bind fun b495 => .ok (a494 - b495)).bind fun a499 => (((Res.ok p_self).bind fun a496 => .ok (a496.den : Int)).bind fun a497 => (Res.ok ()).bind fun b498 => .ok (a497, b498)).bind fun b500 => .ok (a499, b500)).bind (fun d => qMk d.1 d.2.1)) else .stuck) | .q p_other_q => (((Res.ok p_other_q).bind fun a501 => .ok false).bind fun x502 => if x502 = true then .stuck else ((((Res.ok p_other_q).bind fun a503 => .ok true).bind fun a504 => .ok (!a504)).bind fun x505 => if x505 = true then .stuck else ((((((Res.ok p_self).bind fun a506 => .ok a506.num).bind fun a508 => ((Res.ok p_other_q).bind fun a507 => .ok (a507.den : Int)).bind fun b509 => mulI a508 b509).bind fun a514 => (((Res.ok p_other_q).bind fun a510 => .ok a510.num).bind fun a512 => ((Res.ok p_self).bind fun a511 => .ok (a511.den : Int)).bind fun b513 => mulI a512 b513).bind fun b515 => .ok (a514 - b515)).bind fun a522 => ((((Res.ok p_self).bind fun a516 => .ok (a516.den : Int)).bind fun a518 => ((Res.ok p_other_q).bind fun a517 => .ok (a517.den : Int)).bind fun b519 => mulI a518 b519).bind fun a520 => (Res.ok ()).bind fun b521 => .ok (a520, b521)).bind fun b523 => .ok (a522, b523)).bind (fun d => qMk d.1 d.2.1)))))
abbrev C_Fraction_sub (P : Program) (w : World) (K : PySem.W.Frag) (mg : Str → Option Value) (base : Heap) : Prop := FnR P w K mg base (L2.CX P w) 4 (He.ma K (He.ga K "Fraction") "__sub__") (spF K (aCons (rp (rFrac K)) (aCons (rp (rNum K)) aNil)) (fun d => qSub d.1 d.2.1) (rp (rFrac K)))
theorem ok_Fraction_sub {P : Program} {w : World} {K : PySem.W.Frag} {mg : Str → Option Value} {base : Heap} (T : Txt K mg) (c_Fraction_2 : C_Fraction_2 P w K mg base) {fd : FuncData} (F : FunD K "__sub__" "Fraction.__sub__" (defArgs s_Fraction_sub) (defBody s_Fraction_sub) (defScope s_Fraction_sub) [] [] (He.ma K (He.ga K "Fraction") "__sub__") fd) : FnOk P w K mg base (L2.CX P w) 4 (He.ma K (He.ga K "Fraction") "__sub__") fd ["self", "other"] (spF K (aCons (rp (rFrac K)) (aCons (rp (rNum K)) aNil)) (fun d => m_Fraction_sub d.1 d.2.1) (rp (rFrac K))) := by
  refine FunD.fn (k := 3) (N := ["self", "other"]) (ps := ["self", "other"]) F sc_Fraction_sub (fun I H vs d h => ?_) (fun cdv A outer s I0 H0 E vs d hr sm h => ?_)
  · obtain ⟨v0, _, rfl, h0, v1, _, rfl, h1, rfl⟩ := h; rfl
  obtain ⟨v0, _, rfl, h0, v1, _, rfl, h1, rfl⟩ := h
  have hx : ∀ {ctx : List (Option SF)} {mem : List MF} (I H : Hp) (σ : St) (d : Option Addr), Stt I0 H0 ctx mem I H σ → Fr H0 d → bK I0 H0 I H σ d := fun _ _ _ _ s f => ⟨s.fm, f⟩
  have tk : Takes (bx P w K mg base ["self", "other"] "Fraction.__sub__" (defScope s_Fraction_sub) (He.ma K (He.ga K "Fraction") "__sub__") cdv A outer s H0 E) (bW E) := takes_of rfl rfl rfl rfl
  obtain ⟨p_self, p_other, _⟩ := d
  exact ⟨Stt I0 H0 [some (SF.mk (rFrac K) p_self), some (SF.mk (rNum K) p_other)] [], Stt.start sm ⟨h0, h1, ini_nil rfl⟩ rfl (by simp), (JR.num (K := K) 1 (fun p_other_i => JR.at (c' := [some (SF.mk (rFrac K) p_self), some (SF.mk rInt p_other_i)]) (JR.ifR (JT.of (JE.isi (JE.var 1) (w_type_at T.n_int (by decide +kernel) rfl (by decide) (by decide)) (.ty _) (tyr_int (t := "int") (by decide +kernel)) T.n_isinstance)) (JR.ret (JE.call (JA.cons (JE.bin (JE.fld (JE.var 0) fld_top T.o_Fraction.cl T.na_Fraction_top) (JE.bin (JE.var 1) (JE.fld (JE.var 0) fld_bottom T.o_Fraction.cl T.na_Fraction_bottom) opj_mul) opj_sub) (JA.cons (JE.fld (JE.var 0) fld_bottom T.o_Fraction.cl T.na_Fraction_bottom) JA.nil)) (c_Fraction_2 _ _ rfl rfl rfl rfl rfl (hr.mono (by decide)) tk) T.g_Fraction T.mk_Fraction.kp) hx) JR.dead hx)) (fun p_other_q => JR.at (c' := [some (SF.mk (rFrac K) p_self), some (SF.mk (rFrac K) p_other_q)]) (JR.ifR (JT.of (JE.isi (JE.var 1) (w_type_at T.n_int (by decide +kernel) rfl (by decide) (by decide)) (.ty _) (tyr_ins T.o_Fraction insF T.kT_Fraction_int) T.n_isinstance)) JR.dead (JR.ifR (JT.not (JT.of (JE.isi (JE.var 1) (w_glob_at T.g_Fraction rfl (by decide)) (.own _) (tyr_ins T.o_Fraction insF T.kt_Fraction_Fraction) T.n_isinstance))) JR.dead (JR.ret (JE.call (JA.cons (JE.bin (JE.bin (JE.fld (JE.var 0) fld_top T.o_Fraction.cl T.na_Fraction_top) (JE.fld (JE.var 1) fld_bottom T.o_Fraction.cl T.na_Fraction_bottom) opj_mul) (JE.bin (JE.fld (JE.var 1) fld_top T.o_Fraction.cl T.na_Fraction_top) (JE.fld (JE.var 0) fld_bottom T.o_Fraction.cl T.na_Fraction_bottom) opj_mul) opj_sub) (JA.cons (JE.bin (JE.fld (JE.var 0) fld_bottom T.o_Fraction.cl T.na_Fraction_bottom) (JE.fld (JE.var 1) fld_bottom T.o_Fraction.cl T.na_Fraction_bottom) opj_mul) JA.nil)) (c_Fraction_2 _ _ rfl rfl rfl rfl rfl (hr.mono (by decide)) tk) T.g_Fraction T.mk_Fraction.kp) hx) hx) hx)))⟩
theorem fn_Fraction_sub {P : Program} {w : World} {K : PySem.W.Frag} {mg : Str → Option Value} {base : Heap} (T : Txt K mg) (c_Fraction_2 : C_Fraction_2 P w K mg base) : FnR P w K mg base (L2.CX P w) 4 (He.ma K (He.ga K "Fraction") "__sub__") (spF K (aCons (rp (rFrac K)) (aCons (rp (rNum K)) aNil)) (fun d => m_Fraction_sub d.1 d.2.1) (rp (rFrac K))) := by
  obtain ⟨fd, F⟩ := T.F_Fraction_sub
  exact FnOk.fr0 (ok_Fraction_sub T c_Fraction_2 F) (F.bindsN fun _ _ _ _ _ _ us hl => match us, hl with | [_, _], _ => rfl)
theorem nice_Fraction_sub : ∀ d : Rat × Num × Unit, qSub d.1 d.2.1 = .stuck ∨ qSub d.1 d.2.1 = m_Fraction_sub d.1 d.2.1 := fun ⟨x, y, _⟩ => by
  cases y with
  | i n =>
      refine stuck_or fun h => ?_
      obtain ⟨hx, hn⟩ := h
      dsimp only at hx ⊢
      have hn := fits_int.mp hn
      simp only [m_Fraction_sub, Res.ok_bind, Bool.not_true, Bool.not_false, Bool.false_eq_true, if_true, if_false, mul_fit hn (fd hx), mul_fit hx.1 hn, qMk_d hx, sub_div1]
      rfl
  | q y =>
      refine stuck_or fun h => ?_
      obtain ⟨hx, hy⟩ := h
      dsimp only at hx ⊢
      have hy : fits y := hy
      simp only [m_Fraction_sub, Res.ok_bind, Bool.not_true, Bool.not_false, Bool.false_eq_true, if_true, if_false, mul_fit hx.1 (fd hy), mul_fit hy.1 (fd hx), mul_fit (fd hx) (fd hy), mul_fit hx.1 hy.1, qMk_dd hx hy, sub_divs]
      rfl
theorem sc_Fraction_mul : FnScope ["self", "other"] ["self", "other"] (defScope s_Fraction_mul) := ⟨rfl, rfl, rfl, by decide +kernel, rfl, by decide +kernel, by decide +kernel⟩
def m_Fraction_mul (p_self : Rat) (p_other : Num) : Res Rat :=
  (match p_other with | .i p_other_i => (((Res.ok p_other_i).bind fun a524 => .ok true).bind fun x525 => if x525 = true then (((((Res.ok p_self).bind fun a526 => .ok a526.num).bind fun a527 => (Res.ok p_other_i).bind fun b528 => mulI a527 b528).bind fun a532 => (((Res.ok p_self).bind fun a529 => .ok (a529.den : Int)).bind fun a530 => (Res.ok ()).bind fun b531 => .ok (a530, b531)).bind fun b533 => .ok (a532, b533)).bind (fun d => qMk d.1 d.2.1)) else .stuck) | .q p_other_q => (((Res.ok p_other_q).bind fun a534 => .ok false).bind fun x535 => if x535 = true then .stuck else ((((Res.ok p_other_q).bind fun a536 => .ok true).bind fun a537 => .ok (!a537)).bind fun x538 => if x538 = true then .stuck else (((((Res.ok p_self).bind fun a539 => .ok a539.num).bind fun a541 => ((Res.ok p_other_q).bind fun a540 => .ok a540.num).bind fun b542 => mulI a541 b542).bind fun a549 => ((((Res.ok p_self).bind fun a543 => .ok (a543.den : Int)).bind fun a545 => ((Res.ok p_other_q).bind fun a544 => .ok (a544.den : Int)).bind fun b546 => mulI a545 b546).bind fun a547 => (Res.ok ()).bind fun b548 => .ok (a547, b548)).bind fun b550 => .ok (a549, b550)).bind (fun d => qMk d.1 d.2.1)))))
abbrev C_Fraction_mul (P : Program) (w : World) (K : PySem.W.Frag) (mg : Str → Option Value) (base : Heap) : Prop := FnR P w K mg base (L2.CX P w) 4 (He.ma K (He.ga K "Fraction") "__mul__") (spF K (aCons (rp (rFrac K)) (aCons (rp (rNum K)) aNil)) (fun d => qMul d.1 d.2.1) (rp (rFrac K)))
theorem ok_Fraction_mul {P : Program} {w : World} {K : PySem.W.Frag} {mg : Str → Option Value} {base : Heap} (T : Txt K mg) (c_Fraction_2 : C_Fraction_2 P w K mg base) {fd : FuncData} (F : FunD K "__mul__" "Fraction.__mul__" (defArgs s_Fraction_mul) (defBody s_Fraction_mul) (defScope s_Fraction_mul) [] [] (He.ma K (He.ga K "Fraction") "__mul__") fd) : FnOk P w K mg base (L2.CX P w) 4 (He.ma K (He.ga K "Fraction") "__mul__") fd ["self", "other"] (spF K (aCons (rp (rFrac K)) (aCons (rp (rNum K)) aNil)) (fun d => m_Fraction_mul d.1 d.2.1) (rp (rFrac K))) := by
  refine FunD.fn (k := 3) (N := ["self", "other"]) (ps := ["self", "other"]) F sc_Fraction_mul (fun I H vs d h => ?_) (fun cdv A outer s I0 H0 E vs d hr sm h => ?_)
  · obtain ⟨v0, _, rfl, h0, v1, _, rfl, h1, rfl⟩ := h; rfl
  obtain ⟨v0, _, rfl, h0, v1, _, rfl, h1, rfl⟩ := h
  have hx : ∀ {ctx : List (Option SF)} {mem : List MF} (I H : Hp) (σ : St) (d : Option Addr), Stt I0 H0 ctx mem I H σ → Fr H0 d → bK I0 H0 I H σ d := fun _ _ _ _ s f => ⟨s.fm, f⟩
  have tk : Takes (bx P w K mg base ["self", "other"] "Fraction.__mul__" (defScope s_Fraction_mul) (He.ma K (He.ga K "Fraction") "__mul__") cdv A outer s H0 E) (bW E) := takes_of rfl rfl rfl rfl
  obtain ⟨p_self, p_other, _⟩ := d
  exact ⟨Stt I0 H0 [some (SF.mk (rFrac K) p_self), some (SF.mk (rNum K) p_other)] [], Stt.start sm ⟨h0, h1, ini_nil rfl⟩ rfl (by simp), (JR.num (K := K) 1 (fun p_other_i => JR.at (c' := [some (SF.mk (rFrac K) p_self), some (SF.mk rInt p_other_i)]) (JR.ifR (JT.of (JE.isi (JE.var 1) (w_type_at T.n_int (by decide +kernel) rfl (by decide) (by decide)) (.ty _) (tyr_int (t := "int") (by decide +kernel)) T.n_isinstance)) (JR.ret (JE.call (JA.cons (JE.bin (JE.fld (JE.var 0) fld_top T.o_Fraction.cl T.na_Fraction_top) (JE.var 1) opj_mul) (JA.cons (JE.fld (JE.var 0) fld_bottom T.o_Fraction.cl T.na_Fraction_bottom) JA.nil)) (c_Fraction_2 _ _ rfl rfl rfl rfl rfl (hr.mono (by decide)) tk) T.g_Fraction T.mk_Fraction.kp) hx) JR.dead hx)) (fun p_other_q => JR.at (c' := [some (SF.mk (rFrac K) p_self), some (SF.mk (rFrac K) p_other_q)]) (JR.ifR (JT.of (JE.isi (JE.var 1) (w_type_at T.n_int (by decide +kernel) rfl (by decide) (by decide)) (.ty _) (tyr_ins T.o_Fraction insF T.kT_Fraction_int) T.n_isinstance)) JR.dead (JR.ifR (JT.not (JT.of (JE.isi (JE.var 1) (w_glob_at T.g_Fraction rfl (by decide)) (.own _) (tyr_ins T.o_Fraction insF T.kt_Fraction_Fraction) T.n_isinstance))) JR.dead (JR.ret (JE.call (JA.cons (JE.bin (JE.fld (JE.var 0) fld_top T.o_Fraction.cl T.na_Fraction_top) (JE.fld (JE.var 1) fld_top T.o_Fraction.cl T.na_Fraction_top) opj_mul) (JA.cons (JE.bin (JE.fld (JE.var 0) fld_bottom T.o_Fraction.cl T.na_Fraction_bottom) (JE.fld (JE.var 1) fld_bottom T.o_Fraction.cl T.na_Fraction_bottom) opj_mul) JA.nil)) (c_Fraction_2 _ _ rfl rfl rfl rfl rfl (hr.mono (by decide)) tk) T.g_Fraction T.mk_Fraction.kp) hx) hx) hx)))⟩
theorem fn_Fraction_mul {P : Program} {w : World} {K : PySem.W.Frag} {mg : Str → Option Value} {base : Heap} (T : Txt K mg) (c_Fraction_2 : C_Fraction_2 P w K mg base) : FnR P w K mg base (L2.CX P w) 4 (He.ma K (He.ga K "Fraction") "__mul__") (spF K (aCons (rp (rFrac K)) (aCons (rp (rNum K)) aNil)) (fun d => m_Fraction_mul d.1 d.2.1) (rp (rFrac K))) := by
  obtain ⟨fd, F⟩ := T.F_Fraction_mul
  exact FnOk.fr0 (ok_Fraction_mul T c_Fraction_2 F) (F.bindsN fun _ _ _ _ _ _ us hl => match us, hl with | [_, _], _ => rfl)
theorem nice_Fraction_mul : ∀ d : Rat × Num × Unit, qMul d.1 d.2.1 = .stuck ∨ qMul d.1 d.2.1 = m_Fraction_mul d.1 d.2.1 := fun ⟨x, y, _⟩ => by
  cases y with
  | i n =>
      refine stuck_or fun h => ?_
      obtain ⟨hx, hn⟩ := h
      dsimp only at hx ⊢
      have hn := fits_int.mp hn
      simp only [m_Fraction_mul, Res.ok_bind, Bool.not_true, Bool.not_false, Bool.false_eq_true, if_true, if_false, mul_fit hn (fd hx), mul_fit hx.1 hn, qMk_d hx, mul_div1]
      rfl
  | q y =>
      refine stuck_or fun h => ?_
      obtain ⟨hx, hy⟩ := h
      dsimp only at hx ⊢
      have hy : fits y := hy
      simp only [m_Fraction_mul, Res.ok_bind, Bool.not_true, Bool.not_false, Bool.false_eq_true, if_true, if_false, mul_fit hx.1 (fd hy), mul_fit hy.1 (fd hx), mul_fit (fd hx) (fd hy), mul_fit hx.1 hy.1, qMk_dd hx hy, mul_divs]
      rfl
theorem sc_Fraction_neg : FnScope ["self"] ["self"] (defScope s_Fraction_neg) := ⟨rfl, rfl, rfl, by decide +kernel, rfl, by decide +kernel, by decide +kernel⟩
def m_Fraction_neg (p_self : Rat) : Res Rat :=
  (((((Res.ok p_self).bind fun a551 => .ok a551.num).bind fun a552 => .ok (-a552)).bind fun a556 => (((Res.ok p_self).bind fun a553 => .ok (a553.den : Int)).bind fun a554 => (Res.ok ()).bind fun b555 => .ok (a554, b555)).bind fun b557 => .ok (a556, b557)).bind (fun d => qMk d.1 d.2.1))
abbrev C_Fraction_neg (P : Program) (w : World) (K : PySem.W.Frag) (mg : Str → Option Value) (base : Heap) : Prop := FnR P w K mg base (L2.CX P w) 4 (He.ma K (He.ga K "Fraction") "__neg__") (spF K (aCons (rp (rFrac K)) aNil) (fun d => qNeg d.1) (rp (rFrac K)))
theorem ok_Fraction_neg {P : Program} {w : World} {K : PySem.W.Frag} {mg : Str → Option Value} {base : Heap} (T : Txt K mg) (c_Fraction_2 : C_Fraction_2 P w K mg base) {fd : FuncData} (F : FunD K "__neg__" "Fraction.__neg__" (defArgs s_Fraction_neg) (defBody s_Fraction_neg) (defScope s_Fraction_neg) [] [] (He.ma K (He.ga K "Fraction") "__neg__") fd) : FnOk P w K mg base (L2.CX P w) 4 (He.ma K (He.ga K "Fraction") "__neg__") fd ["self"] (spF K (aCons (rp (rFrac K)) aNil) (fun d => m_Fraction_neg d.1) (rp (rFrac K))) := by
  refine FunD.fn (k := 3) (N := ["self"]) (ps := ["self"]) F sc_Fraction_neg (fun I H vs d h => ?_) (fun cdv A outer s I0 H0 E vs d hr sm h => ?_)
  · obtain ⟨v0, _, rfl, h0, rfl⟩ := h; rfl
  obtain ⟨v0, _, rfl, h0, rfl⟩ := h
  have hx : ∀ {ctx : List (Option SF)} {mem : List MF} (I H : Hp) (σ : St) (d : Option Addr), Stt I0 H0 ctx mem I H σ → Fr H0 d → bK I0 H0 I H σ d := fun _ _ _ _ s f => ⟨s.fm, f⟩
  have tk : Takes (bx P w K mg base ["self"] "Fraction.__neg__" (defScope s_Fraction_neg) (He.ma K (He.ga K "Fraction") "__neg__") cdv A outer s H0 E) (bW E) := takes_of rfl rfl rfl rfl
  obtain ⟨p_self, _⟩ := d
  exact ⟨Stt I0 H0 [some (SF.mk (rFrac K) p_self)] [], Stt.start sm ⟨h0, ini_nil rfl⟩ rfl (by simp), (JR.ret (JE.call (JA.cons (JE.un (JE.fld (JE.var 0) fld_top T.o_Fraction.cl T.na_Fraction_top) unj_neg) (JA.cons (JE.fld (JE.var 0) fld_bottom T.o_Fraction.cl T.na_Fraction_bottom) JA.nil)) (c_Fraction_2 _ _ rfl rfl rfl rfl rfl (hr.mono (by decide)) tk) T.g_Fraction T.mk_Fraction.kp) hx)⟩
theorem fn_Fraction_neg {P : Program} {w : World} {K : PySem.W.Frag} {mg : Str → Option Value} {base : Heap} (T : Txt K mg) (c_Fraction_2 : C_Fraction_2 P w K mg base) : FnR P w K mg base (L2.CX P w) 4 (He.ma K (He.ga K "Fraction") "__neg__") (spF K (aCons (rp (rFrac K)) aNil) (fun d => m_Fraction_neg d.1) (rp (rFrac K))) := by
  obtain ⟨fd, F⟩ := T.F_Fraction_neg
  exact FnOk.fr0 (ok_Fraction_neg T c_Fraction_2 F) (F.bindsN fun _ _ _ _ _ _ us hl => match us, hl with | [_], _ => rfl)
theorem nice_Fraction_neg : ∀ d : Rat × Unit, qNeg d.1 = .stuck ∨ qNeg d.1 = m_Fraction_neg d.1 := fun ⟨x, _⟩ => by
  refine stuck_or fun hx => ?_
  dsimp only at hx ⊢
  simp only [m_Fraction_neg, Res.ok_bind, qMk_d hx, neg_div1]
theorem sc_Fraction_abs : FnScope ["self"] ["self"] (defScope s_Fraction_abs) := ⟨rfl, rfl, rfl, by decide +kernel, rfl, by decide +kernel, by decide +kernel⟩
def m_Fraction_abs (p_self : Rat) : Res Rat :=
  ((((((Res.ok p_self).bind fun a558 => .ok a558.num).bind fun a559 => (Res.ok ()).bind fun b560 => .ok (a559, b560)).bind (fun d => .ok (if d.1 < 0 then -d.1 else d.1))).bind fun a564 => (((Res.ok p_self).bind fun a561 => .ok (a561.den : Int)).bind fun a562 => (Res.ok ()).bind fun b563 => .ok (a562, b563)).bind fun b565 => .ok (a564, b565)).bind (fun d => qMk d.1 d.2.1))
abbrev C_Fraction_abs (P : Program) (w : World) (K : PySem.W.Frag) (mg : Str → Option Value) (base : Heap) : Prop := FnR P w K mg base (L2.CX P w) 4 (He.ma K (He.ga K "Fraction") "__abs__") (spF K (aCons (rp (rFrac K)) aNil) (fun d => qAbs d.1) (rp (rFrac K)))
theorem ok_Fraction_abs {P : Program} {w : World} {K : PySem.W.Frag} {mg : Str → Option Value} {base : Heap} (T : Txt K mg) (c_Fraction_2 : C_Fraction_2 P w K mg base) {fd : FuncData} (F : FunD K "__abs__" "Fraction.__abs__" (defArgs s_Fraction_abs) (defBody s_Fraction_abs) (defScope s_Fraction_abs) [] [] (He.ma K (He.ga K "Fraction") "__abs__") fd) : FnOk P w K mg base (L2.CX P w) 4 (He.ma K (He.ga K "Fraction") "__abs__") fd ["self"] (spF K (aCons (rp (rFrac K)) aNil) (fun d => m_Fraction_abs d.1) (rp (rFrac K))) := by
  refine FunD.fn (k := 3) (N := ["self"]) (ps := ["self"]) F sc_Fraction_abs (fun I H vs d h => ?_) (fun cdv A outer s I0 H0 E vs d hr sm h => ?_)
  · obtain ⟨v0, _, rfl, h0, rfl⟩ := h; rfl
  obtain ⟨v0, _, rfl, h0, rfl⟩ := h
  have hx : ∀ {ctx : List (Option SF)} {mem : List MF} (I H : Hp) (σ : St) (d : Option Addr), Stt I0 H0 ctx mem I H σ → Fr H0 d → bK I0 H0 I H σ d := fun _ _ _ _ s f => ⟨s.fm, f⟩
  have tk : Takes (bx P w K mg base ["self"] "Fraction.__abs__" (defScope s_Fraction_abs) (He.ma K (He.ga K "Fraction") "__abs__") cdv A outer s H0 E) (bW E) := takes_of rfl rfl rfl rfl
  obtain ⟨p_self, _⟩ := d
  exact ⟨Stt I0 H0 [some (SF.mk (rFrac K) p_self)] [], Stt.start sm ⟨h0, ini_nil rfl⟩ rfl (by simp), (JR.ret (JE.call (JA.cons (JE.callB (JA.cons (JE.fld (JE.var 0) fld_top T.o_Fraction.cl T.na_Fraction_top) JA.nil) cj_abs T.n_abs boot_abs) (JA.cons (JE.fld (JE.var 0) fld_bottom T.o_Fraction.cl T.na_Fraction_bottom) JA.nil)) (c_Fraction_2 _ _ rfl rfl rfl rfl rfl (hr.mono (by decide)) tk) T.g_Fraction T.mk_Fraction.kp) hx)⟩
theorem fn_Fraction_abs {P : Program} {w : World} {K : PySem.W.Frag} {mg : Str → Option Value} {base : Heap} (T : Txt K mg) (c_Fraction_2 : C_Fraction_2 P w K mg base) : FnR P w K mg base (L2.CX P w) 4 (He.ma K (He.ga K "Fraction") "__abs__") (spF K (aCons (rp (rFrac K)) aNil) (fun d => m_Fraction_abs d.1) (rp (rFrac K))) := by
  obtain ⟨fd, F⟩ := T.F_Fraction_abs
  exact FnOk.fr0 (ok_Fraction_abs T c_Fraction_2 F) (F.bindsN fun _ _ _ _ _ _ us hl => match us, hl with | [_], _ => rfl)
theorem nice_Fraction_abs : ∀ d : Rat × Unit, qAbs d.1 = .stuck ∨ qAbs d.1 = m_Fraction_abs d.1 := fun ⟨x, _⟩ => by
  refine stuck_or fun hx => ?_
  dsimp only at hx ⊢
  simp only [m_Fraction_abs, Res.ok_bind, qMk_d hx]
  have e : x < 0 ↔ x.num < 0 := by have := lt_int x 0; simpa using this
  by_cases h : x < 0
  · rw [if_pos h, if_pos (e.mp h), neg_div1]
  · rw [if_neg h, if_neg (fun z => h (e.mpr z)), Rat.num_divInt_den]
theorem sc_Fraction_radd : FnScope ["self", "other"] ["self", "other"] (defScope s_Fraction_radd) := ⟨rfl, rfl, rfl, by decide +kernel, rfl, by decide +kernel, by decide +kernel⟩
def m_Fraction_radd (p_self : Rat) (p_other : Int) : Res Rat :=
  ((((Res.ok p_other).bind fun a566 => .ok true).bind fun a567 => .ok (!a567)).bind fun x568 => if x568 = true then .stuck else (((((Res.ok p_other).bind fun a570 => ((Res.ok p_self).bind fun a569 => .ok (a569.den : Int)).bind fun b571 => mulI a570 b571).bind fun a573 => ((Res.ok p_self).bind fun a572 => .ok a572.num).bind fun b574 => .ok (a573 + b574)).bind fun a578 => (((Res.ok p_self).bind fun a575 => .ok (a575.den : Int)).bind fun a576 => (Res.ok ()).bind fun b577 => .ok (a576, b577)).bind fun b579 => .ok (a578, b579)).bind (fun d => qMk d.1 d.2.1)))
abbrev C_Fraction_radd (P : Program) (w : World) (K : PySem.W.Frag) (mg : Str → Option Value) (base : Heap) : Prop := FnR P w K mg base (L2.CX P w) 4 (He.ma K (He.ga K "Fraction") "__radd__") (spF K (aCons (rp (rFrac K)) (aCons (rp rInt) aNil)) (fun d => qRadd d.1 d.2.1) (rp (rFrac K)))
theorem ok_Fraction_radd {P : Program} {w : World} {K : PySem.W.Frag} {mg : Str → Option Value} {base : Heap} (T : Txt K mg) (c_Fraction_2 : C_Fraction_2 P w K mg base) {fd : FuncData} (F : FunD K "__radd__" "Fraction.__radd__" (defArgs s_Fraction_radd) (defBody s_Fraction_radd) (defScope s_Fraction_radd) [] [] (He.ma K (He.ga K "Fraction") "__radd__") fd) : FnOk P w K mg base (L2.CX P w) 4 (He.ma K (He.ga K "Fraction") "__radd__") fd ["self", "other"] (spF K (aCons (rp (rFrac K)) (aCons (rp rInt) aNil)) (fun d => m_Fraction_radd d.1 d.2.1) (rp (rFrac K))) := by
  refine FunD.fn (k := 3) (N := ["self", "other"]) (ps := ["self", "other"]) F sc_Fraction_radd (fun I H vs d h => ?_) (fun cdv A outer s I0 H0 E vs d hr sm h => ?_)
  · obtain ⟨v0, _, rfl, h0, v1, _, rfl, h1, rfl⟩ := h; rfl
  obtain ⟨v0, _, rfl, h0, v1, _, rfl, h1, rfl⟩ := h
  have hx : ∀ {ctx : List (Option SF)} {mem : List MF} (I H : Hp) (σ : St) (d : Option Addr), Stt I0 H0 ctx mem I H σ → Fr H0 d → bK I0 H0 I H σ d := fun _ _ _ _ s f => ⟨s.fm, f⟩
  have tk : Takes (bx P w K mg base ["self", "other"] "Fraction.__radd__" (defScope s_Fraction_radd) (He.ma K (He.ga K "Fraction") "__radd__") cdv A outer s H0 E) (bW E) := takes_of rfl rfl rfl rfl
  obtain ⟨p_self, p_other, _⟩ := d
  exact ⟨Stt I0 H0 [some (SF.mk (rFrac K) p_self), some (SF.mk rInt p_other)] [], Stt.start sm ⟨h0, h1, ini_nil rfl⟩ rfl (by simp), (JR.ifR (JT.not (JT.of (JE.isi (JE.var 1) (w_type_at T.n_int (by decide +kernel) rfl (by decide) (by decide)) (.ty _) (tyr_int (t := "int") (by decide +kernel)) T.n_isinstance))) JR.dead (JR.ret (JE.call (JA.cons (JE.bin (JE.bin (JE.var 1) (JE.fld (JE.var 0) fld_bottom T.o_Fraction.cl T.na_Fraction_bottom) opj_mul) (JE.fld (JE.var 0) fld_top T.o_Fraction.cl T.na_Fraction_top) opj_add) (JA.cons (JE.fld (JE.var 0) fld_bottom T.o_Fraction.cl T.na_Fraction_bottom) JA.nil)) (c_Fraction_2 _ _ rfl rfl rfl rfl rfl (hr.mono (by decide)) tk) T.g_Fraction T.mk_Fraction.kp) hx) hx)⟩
theorem fn_Fraction_radd {P : Program} {w : World} {K : PySem.W.Frag} {mg : Str → Option Value} {base : Heap} (T : Txt K mg) (c_Fraction_2 : C_Fraction_2 P w K mg base) : FnR P w K mg base (L2.CX P w) 4 (He.ma K (He.ga K "Fraction") "__radd__") (spF K (aCons (rp (rFrac K)) (aCons (rp rInt) aNil)) (fun d => m_Fraction_radd d.1 d.2.1) (rp (rFrac K))) := by
  obtain ⟨fd, F⟩ := T.F_Fraction_radd
  exact FnOk.fr0 (ok_Fraction_radd T c_Fraction_2 F) (F.bindsN fun _ _ _ _ _ _ us hl => match us, hl with | [_, _], _ => rfl)
theorem nice_Fraction_radd : ∀ d : Rat × Int × Unit, qRadd d.1 d.2.1 = .stuck ∨ qRadd d.1 d.2.1 = m_Fraction_radd d.1 d.2.1 := fun ⟨x, n, _⟩ => by
  refine stuck_or fun h => ?_
  obtain ⟨hx, hn⟩ := h
  dsimp only at hx ⊢
  have hn := fits_int.mp hn
  simp only [m_Fraction_radd, Res.ok_bind, Bool.not_true, Bool.not_false, Bool.false_eq_true, if_true, if_false, mul_fit hn (fd hx), mul_fit hn hx.1, qMk_d hx]
  exact congrArg Res.ok (by rw [Int.add_comm, add_div1, Rat.add_comm])
theorem sc_Fraction_rsub : FnScope ["self", "other"] ["self", "other"] (defScope s_Fraction_rsub) := ⟨rfl, rfl, rfl, by decide +kernel, rfl, by decide +kernel, by decide +kernel⟩
def m_Fraction_rsub (p_self : Rat) (p_other : Int) : Res Rat :=
  ((((Res.ok p_other).bind fun a580 => .ok true).bind fun a581 => .ok (!a581)).bind fun x582 => if x582 = true then .stuck else (((((Res.ok p_other).bind fun a584 => ((Res.ok p_self).bind fun a583 => .ok (a583.den : Int)).bind fun b585 => mulI a584 b585).bind fun a587 => ((Res.ok p_self).bind fun a586 => .ok a586.num).bind fun b588 => .ok (a587 - b588)).bind fun a592 => (((Res.ok p_self).bind fun a589 => .ok (a589.den : Int)).bind fun a590 => (Res.ok ()).bind fun b591 => .ok (a590, b591)).bind fun b593 => .ok (a592, b593)).bind (fun d => qMk d.1 d.2.1)))
abbrev C_Fraction_rsub (P : Program) (w : World) (K : PySem.W.Frag) (mg : Str → Option Value) (base : Heap) : Prop := FnR P w K mg base (L2.CX P w) 4 (He.ma K (He.ga K "Fraction") "__rsub__") (spF K (aCons (rp (rFrac K)) (aCons (rp rInt) aNil)) (fun d => qRsub d.1 d.2.1) (rp (rFrac K)))
theorem ok_Fraction_rsub {P : Program} {w : World} {K : PySem.W.Frag} {mg : Str → Option Value} {base : Heap} (T : Txt K mg) (c_Fraction_2 : C_Fraction_2 P w K mg base) {fd : FuncData} (F : FunD K "__rsub__" "Fraction.__rsub__" (defArgs s_Fraction_rsub) (defBody s_Fraction_rsub) (defScope s_Fraction_rsub) [] [] (He.ma K (He.ga K "Fraction") "__rsub__") fd) : FnOk P w K mg base (L2.CX P w) 4 (He.ma K (He.ga K "Fraction") "__rsub__") fd ["self", "other"] (spF K (aCons (rp (rFrac K)) (aCons (rp rInt) aNil)) (fun d => m_Fraction_rsub d.1 d.2.1) (rp (rFrac K))) := by
  refine FunD.fn (k := 3) (N := ["self", "other"]) (ps := ["self", "other"]) F sc_Fraction_rsub (fun I H vs d h => ?_) (fun cdv A outer s I0 H0 E vs d hr sm h => ?_)
  · obtain ⟨v0, _, rfl, h0, v1, _, rfl, h1, rfl⟩ := h; rfl
  obtain ⟨v0, _, rfl, h0, v1, _, rfl, h1, rfl⟩ := h
  have hx : ∀ {ctx : List (Option SF)} {mem : List MF} (I H : Hp) (σ : St) (d : Option Addr), Stt I0 H0 ctx mem I H σ → Fr H0 d → bK I0 H0 I H σ d := fun _ _ _ _ s f => ⟨s.fm, f⟩
  have tk : Takes (bx P w K mg base ["self", "other"] "Fraction.__rsub__" (defScope s_Fraction_rsub) (He.ma K (He.ga K "Fraction") "__rsub__") cdv A outer s H0 E) (bW E) := takes_of rfl rfl rfl rfl
  obtain ⟨p_self, p_other, _⟩ := d
  exact ⟨Stt I0 H0 [some (SF.mk (rFrac K) p_self), some (SF.mk rInt p_other)] [], Stt.start sm ⟨h0, h1, ini_nil rfl⟩ rfl (by simp), (JR.ifR (JT.not (JT.of (JE.isi (JE.var 1) (w_type_at T.n_int (by decide +kernel) rfl (by decide) (by decide)) (.ty _) (tyr_int (t := "int") (by decide +kernel)) T.n_isinstance))) JR.dead (JR.ret (JE.call (JA.cons (JE.bin (JE.bin (JE.var 1) (JE.fld (JE.var 0) fld_bottom T.o_Fraction.cl T.na_Fraction_bottom) opj_mul) (JE.fld (JE.var 0) fld_top T.o_Fraction.cl T.na_Fraction_top) opj_sub) (JA.cons (JE.fld (JE.var 0) fld_bottom T.o_Fraction.cl T.na_Fraction_bottom) JA.nil)) (c_Fraction_2 _ _ rfl rfl rfl rfl rfl (hr.mono (by decide)) tk) T.g_Fraction T.mk_Fraction.kp) hx) hx)⟩
theorem fn_Fraction_rsub {P : Program} {w : World} {K : PySem.W.Frag} {mg : Str → Option Value} {base : Heap} (T : Txt K mg) (c_Fraction_2 : C_Fraction_2 P w K mg base) : FnR P w K mg base (L2.CX P w) 4 (He.ma K (He.ga K "Fraction") "__rsub__") (spF K (aCons (rp (rFrac K)) (aCons (rp rInt) aNil)) (fun d => m_Fraction_rsub d.1 d.2.1) (rp (rFrac K))) := by
  obtain ⟨fd, F⟩ := T.F_Fraction_rsub
  exact FnOk.fr0 (ok_Fraction_rsub T c_Fraction_2 F) (F.bindsN fun _ _ _ _ _ _ us hl => match us, hl with | [_, _], _ => rfl)
theorem nice_Fraction_rsub : ∀ d : Rat × Int × Unit, qRsub d.1 d.2.1 = .stuck ∨ qRsub d.1 d.2.1 = m_Fraction_rsub d.1 d.2.1 := fun ⟨x, n, _⟩ => by
  refine stuck_or fun h => ?_
  obtain ⟨hx, hn⟩ := h
  dsimp only at hx ⊢
  have hn := fits_int.mp hn
  simp only [m_Fraction_rsub, Res.ok_bind, Bool.not_true, Bool.not_false, Bool.false_eq_true, if_true, if_false, mul_fit hn (fd hx), mul_fit hn hx.1, qMk_d hx]
  exact congrArg Res.ok (by have h := congrArg (fun z : Rat => -z) (sub_div1 x n); simp only [Rat.neg_divInt] at h; rw [Int.neg_sub, Rat.neg_sub] at h; exact h.symm)
theorem sc_Fraction_rmul : FnScope ["self", "other"] ["self", "other"] (defScope s_Fraction_rmul) := ⟨rfl, rfl, rfl, by decide +kernel, rfl, by decide +kernel, by decide +kernel⟩
def m_Fraction_rmul (p_self : Rat) (p_other : Int) : Res Rat :=
  ((((Res.ok p_other).bind fun a594 => .ok true).bind fun a595 => .ok (!a595)).bind fun x596 => if x596 = true then .stuck else ((((Res.ok p_other).bind fun a598 => ((Res.ok p_self).bind fun a597 => .ok a597.num).bind fun b599 => mulI a598 b599).bind fun a603 => (((Res.ok p_self).bind fun a600 => .ok (a600.den : Int)).bind fun a601 => (Res.ok ()).bind fun b602 => .ok (a601, b602)).bind fun b604 => .ok (a603, b604)).bind (fun d => qMk d.1 d.2.1)))
abbrev C_Fraction_rmul (P : Program) (w : World) (K : PySem.W.Frag) (mg : Str → Option Value) (base : Heap) : Prop := FnR P w K mg base (L2.CX P w) 4 (He.ma K (He.ga K "Fraction") "__rmul__") (spF K (aCons (rp (rFrac K)) (aCons (rp rInt) aNil)) (fun d => qRmul d.1 d.2.1) (rp (rFrac K)))
theorem ok_Fraction_rmul {P : Program} {w : World} {K : PySem.W.Frag} {mg : Str → Option Value} {base : Heap} (T : Txt K mg) (c_Fraction_2 : C_Fraction_2 P w K mg base) {fd : FuncData} (F : FunD K "__rmul__" "Fraction.__rmul__" (defArgs s_Fraction_rmul) (defBody s_Fraction_rmul) (defScope s_Fraction_rmul) [] [] (He.ma K (He.ga K "Fraction") "__rmul__") fd) : FnOk P w K mg base (L2.CX P w) 4 (He.ma K (He.ga K "Fraction") "__rmul__") fd ["self", "other"] (spF K (aCons (rp (rFrac K)) (aCons (rp rInt) aNil)) (fun d => m_Fraction_rmul d.1 d.2.1) (rp (rFrac K))) := by
  refine FunD.fn (k := 3) (N := ["self", "other"]) (ps := ["self", "other"]) F sc_Fraction_rmul (fun I H vs d h => ?_) (fun cdv A outer s I0 H0 E vs d hr sm h => ?_)
  · obtain ⟨v0, _, rfl, h0, v1, _, rfl, h1, rfl⟩ := h; rfl
  obtain ⟨v0, _, rfl, h0, v1, _, rfl, h1, rfl⟩ := h
  have hx : ∀ {ctx : List (Option SF)} {mem : List MF} (I H : Hp) (σ : St) (d : Option Addr), Stt I0 H0 ctx mem I H σ → Fr H0 d → bK I0 H0 I H σ d := fun _ _ _ _ s f => ⟨s.fm, f⟩
  have tk : Takes (bx P w K mg base ["self", "other"] "Fraction.__rmul__" (defScope s_Fraction_rmul) (He.ma K (He.ga K "Fraction") "__rmul__") cdv A outer s H0 E) (bW E) := takes_of rfl rfl rfl rfl
  obtain ⟨p_self, p_other, _⟩ := d
  exact ⟨Stt I0 H0 [some (SF.mk (rFrac K) p_self), some (SF.mk rInt p_other)] [], Stt.start sm ⟨h0, h1, ini_nil rfl⟩ rfl (by simp), (JR.ifR (JT.not (JT.of (JE.isi (JE.var 1) (w_type_at T.n_int (by decide +kernel) rfl (by decide) (by decide)) (.ty _) (tyr_int (t := "int") (by decide +kernel)) T.n_isinstance))) JR.dead (JR.ret (JE.call (JA.cons (JE.bin (JE.var 1) (JE.fld (JE.var 0) fld_top T.o_Fraction.cl T.na_Fraction_top) opj_mul) (JA.cons (JE.fld (JE.var 0) fld_bottom T.o_Fraction.cl T.na_Fraction_bottom) JA.nil)) (c_Fraction_2 _ _ rfl rfl rfl rfl rfl (hr.mono (by decide)) tk) T.g_Fraction T.mk_Fraction.kp) hx) hx)⟩
theorem fn_Fraction_rmul {P : Program} {w : World} {K : PySem.W.Frag} {mg : Str → Option Value} {base : Heap} (T : Txt K mg) (c_Fraction_2 : C_Fraction_2 P w K mg base) : FnR P w K mg base (L2.CX P w) 4 (He.ma K (He.ga K "Fraction") "__rmul__") (spF K (aCons (rp (rFrac K)) (aCons (rp rInt) aNil)) (fun d => m_Fraction_rmul d.1 d.2.1) (rp (rFrac K))) := by
  obtain ⟨fd, F⟩ := T.F_Fraction_rmul
  exact FnOk.fr0 (ok_Fraction_rmul T c_Fraction_2 F) (F.bindsN fun _ _ _ _ _ _ us hl => match us, hl with | [_, _], _ => rfl)
theorem nice_Fraction_rmul : ∀ d : Rat × Int × Unit, qRmul d.1 d.2.1 = .stuck ∨ qRmul d.1 d.2.1 = m_Fraction_rmul d.1 d.2.1 := fun ⟨x, n, _⟩ => by
  refine stuck_or fun h => ?_
  obtain ⟨hx, hn⟩ := h
  dsimp only at hx ⊢
  have hn := fits_int.mp hn
  simp only [m_Fraction_rmul, Res.ok_bind, Bool.not_true, Bool.not_false, Bool.false_eq_true, if_true, if_false, mul_fit hn (fd hx), mul_fit hn hx.1, qMk_d hx]
  exact congrArg Res.ok (by rw [Int.mul_comm, mul_div1, Rat.mul_comm])
theorem sc_Fraction_bool : FnScope ["self"] ["self"] (defScope s_Fraction_bool) := ⟨rfl, rfl, rfl, by decide +kernel, rfl, by decide +kernel, by decide +kernel⟩
def m_Fraction_bool (p_self : Rat) : Res Bool :=
  (((((Res.ok p_self).bind fun a605 => .ok a605.num).bind fun a606 => (Res.ok (0 : Int)).bind fun b607 => .ok (!decide (a606 = b607))).bind fun a608 => (Res.ok ()).bind fun b609 => .ok (a608, b609)).bind (fun d => .ok d.1))
abbrev C_Fraction_bool (P : Program) (w : World) (K : PySem.W.Frag) (mg : Str → Option Value) (base : Heap) : Prop := FnR P w K mg base (L2.CX P w) 1 (He.ma K (He.ga K "Fraction") "__bool__") (spF K (aCons (rp (rFrac K)) aNil) (fun d => qBool d.1) (rp rBl))
theorem ok_Fraction_bool {P : Program} {w : World} {K : PySem.W.Frag} {mg : Str → Option Value} {base : Heap} (T : Txt K mg) {fd : FuncData} (F : FunD K "__bool__" "Fraction.__bool__" (defArgs s_Fraction_bool) (defBody s_Fraction_bool) (defScope s_Fraction_bool) [] [] (He.ma K (He.ga K "Fraction") "__bool__") fd) : FnOk P w K mg base (L2.CX P w) 1 (He.ma K (He.ga K "Fraction") "__bool__") fd ["self"] (spF K (aCons (rp (rFrac K)) aNil) (fun d => m_Fraction_bool d.1) (rp rBl)) := by
  refine FunD.fn (k := 0) (N := ["self"]) (ps := ["self"]) F sc_Fraction_bool (fun I H vs d h => ?_) (fun cdv A outer s I0 H0 E vs d hr sm h => ?_)
  · obtain ⟨v0, _, rfl, h0, rfl⟩ := h; rfl
  obtain ⟨v0, _, rfl, h0, rfl⟩ := h
  have hx : ∀ {ctx : List (Option SF)} {mem : List MF} (I H : Hp) (σ : St) (d : Option Addr), Stt I0 H0 ctx mem I H σ → Fr H0 d → bK I0 H0 I H σ d := fun _ _ _ _ s f => ⟨s.fm, f⟩
  have tk : Takes (bx P w K mg base ["self"] "Fraction.__bool__" (defScope s_Fraction_bool) (He.ma K (He.ga K "Fraction") "__bool__") cdv A outer s H0 E) (bW E) := takes_of rfl rfl rfl rfl
  obtain ⟨p_self, _⟩ := d
  exact ⟨Stt I0 H0 [some (SF.mk (rFrac K) p_self)] [], Stt.start sm ⟨h0, ini_nil rfl⟩ rfl (by simp), (JR.ret (JE.callTy (JA.cons (JE.cmp (JE.fld (JE.var 0) fld_top T.o_Fraction.cl T.na_Fraction_top) JE.int opj_ne) JA.nil) cj_bool T.n_bool boot_bool) hx)⟩
theorem fn_Fraction_bool {P : Program} {w : World} {K : PySem.W.Frag} {mg : Str → Option Value} {base : Heap} (T : Txt K mg) : FnR P w K mg base (L2.CX P w) 1 (He.ma K (He.ga K "Fraction") "__bool__") (spF K (aCons (rp (rFrac K)) aNil) (fun d => m_Fraction_bool d.1) (rp rBl)) := by
  obtain ⟨fd, F⟩ := T.F_Fraction_bool
  exact FnOk.fr0 (ok_Fraction_bool T F) (F.bindsN fun _ _ _ _ _ _ us hl => match us, hl with | [_], _ => rfl)
theorem nice_Fraction_bool : ∀ d : Rat × Unit, qBool d.1 = .stuck ∨ qBool d.1 = m_Fraction_bool d.1 := fun ⟨x, _⟩ => by
  right
  simp only [m_Fraction_bool, Res.ok_bind, qBool, num_zero]
theorem sc_as_fraction : FnScope ["number"] ["number"] (defScope s_as_fraction) := ⟨rfl, rfl, rfl, by decide +kernel, rfl, by decide +kernel, by decide +kernel⟩
def m_as_fraction (p_number : Num) : Res Rat :=
  (match p_number with | .i p_number_i => (((Res.ok p_number_i).bind fun a686 => .ok false).bind fun x687 => if x687 = true then .stuck else (((Res.ok p_number_i).bind fun a688 => (Res.ok ()).bind fun b689 => .ok (a688, b689)).bind (fun d => qInt d.1))) | .q p_number_q => (((Res.ok p_number_q).bind fun a690 => .ok true).bind fun x691 => if x691 = true then (Res.ok p_number_q) else .stuck))
abbrev C_as_fraction (P : Program) (w : World) (K : PySem.W.Frag) (mg : Str → Option Value) (base : Heap) : Prop := FnR P w K mg base (L2.CX P w) 4 (He.ga K "as_fraction") (spF K (aCons (rp (rNum K)) aNil) (fun d => qAs d.1) (rp (rFrac K)))
theorem ok_as_fraction {P : Program} {w : World} {K : PySem.W.Frag} {mg : Str → Option Value} {base : Heap} (T : Txt K mg) (c_Fraction_1 : C_Fraction_1 P w K mg base) {fd : FuncData} (F : FunD K "as_fraction" "as_fraction" (defArgs s_as_fraction) (defBody s_as_fraction) (defScope s_as_fraction) [] [] (He.ga K "as_fraction") fd) : FnOk P w K mg base (L2.CX P w) 4 (He.ga K "as_fraction") fd ["number"] (spF K (aCons (rp (rNum K)) aNil) (fun d => m_as_fraction d.1) (rp (rFrac K))) := by
  refine FunD.fn (k := 3) (N := ["number"]) (ps := ["number"]) F sc_as_fraction (fun I H vs d h => ?_) (fun cdv A outer s I0 H0 E vs d hr sm h => ?_)
  · obtain ⟨v0, _, rfl, h0, rfl⟩ := h; rfl
  obtain ⟨v0, _, rfl, h0, rfl⟩ := h
  have hx : ∀ {ctx : List (Option SF)} {mem : List MF} (I H : Hp) (σ : St) (d : Option Addr), Stt I0 H0 ctx mem I H σ → Fr H0 d → bK I0 H0 I H σ d := fun _ _ _ _ s f => ⟨s.fm, f⟩
  have tk : Takes (bx P w K mg base ["number"] "as_fraction" (defScope s_as_fraction) (He.ga K "as_fraction") cdv A outer s H0 E) (bW E) := takes_of rfl rfl rfl rfl
  obtain ⟨p_number, _⟩ := d
  exact ⟨Stt I0 H0 [some (SF.mk (rNum K) p_number)] [], Stt.start sm ⟨h0, ini_nil rfl⟩ rfl (by simp), (JR.num (K := K) 0 (fun p_number_i => JR.at (c' := [some (SF.mk rInt p_number_i)]) (JR.ifR (JT.of (JE.isi (JE.var 0) (w_glob_at T.g_Fraction rfl (by decide)) (.own _) (tyr_intC T.kI_int_Fraction) T.n_isinstance)) JR.dead (JR.ret (JE.call (JA.cons (JE.var 0) JA.nil) (c_Fraction_1 _ _ rfl rfl rfl rfl rfl (hr.mono (by decide)) tk) T.g_Fraction T.mk_Fraction.kp) hx) hx)) (fun p_number_q => JR.at (c' := [some (SF.mk (rFrac K) p_number_q)]) (JR.ifR (JT.of (JE.isi (JE.var 0) (w_glob_at T.g_Fraction rfl (by decide)) (.own _) (tyr_ins T.o_Fraction insF T.kt_Fraction_Fraction) T.n_isinstance)) (JR.ret (JE.var 0) hx) JR.dead hx)))⟩
theorem fn_as_fraction {P : Program} {w : World} {K : PySem.W.Frag} {mg : Str → Option Value} {base : Heap} (T : Txt K mg) (c_Fraction_1 : C_Fraction_1 P w K mg base) : FnR P w K mg base (L2.CX P w) 4 (He.ga K "as_fraction") (spF K (aCons (rp (rNum K)) aNil) (fun d => m_as_fraction d.1) (rp (rFrac K))) := by
  obtain ⟨fd, F⟩ := T.F_as_fraction
  exact FnOk.fr0 (ok_as_fraction T c_Fraction_1 F) (F.bindsN fun _ _ _ _ _ _ us hl => match us, hl with | [_], _ => rfl)
theorem nice_as_fraction : ∀ d : Num × Unit, qAs d.1 = .stuck ∨ qAs d.1 = m_as_fraction d.1 := fun ⟨y, _⟩ => by
  right
  cases y with
  | i n => rfl
  | q y => rfl
theorem sc_Fraction_over : FnScope ["self", "other", "divisor"] ["self", "other"] (defScope s_Fraction_over) := ⟨rfl, rfl, rfl, by decide +kernel, rfl, by decide +kernel, by decide +kernel⟩
def m_Fraction_over (p_self : Rat) (p_other : Num) : Res Rat :=
  (match p_other with | .i p_other_i => (((((Res.ok p_other_i).bind fun a646 => .ok (Num.i a646)).bind fun a647 => (Res.ok ()).bind fun b648 => .ok (a647, b648)).bind (fun d => qAs d.1)).bind fun v_divisor_649 => ((((Res.ok v_divisor_649).bind fun a650 => .ok a650.num).bind fun a651 => (Res.ok (0 : Int)).bind fun b652 => .ok (decide (a651 = b652))).bind fun x653 => if x653 = true then (Res.err ⟨"BadFraction", []⟩) else (((((Res.ok p_self).bind fun a654 => .ok a654.num).bind fun a656 => ((Res.ok v_divisor_649).bind fun a655 => .ok (a655.den : Int)).bind fun b657 => mulI a656 b657).bind fun a664 => ((((Res.ok p_self).bind fun a658 => .ok (a658.den : Int)).bind fun a660 => ((Res.ok v_divisor_649).bind fun a659 => .ok a659.num).bind fun b661 => mulI a660 b661).bind fun a662 => (Res.ok ()).bind fun b663 => .ok (a662, b663)).bind fun b665 => .ok (a664, b665)).bind (fun d => qMk d.1 d.2.1)))) | .q p_other_q => (((((Res.ok p_other_q).bind fun a666 => .ok (Num.q a666)).bind fun a667 => (Res.ok ()).bind fun b668 => .ok (a667, b668)).bind (fun d => qAs d.1)).bind fun v_divisor_669 => ((((Res.ok v_divisor_669).bind fun a670 => .ok a670.num).bind fun a671 => (Res.ok (0 : Int)).bind fun b672 => .ok (decide (a671 = b672))).bind fun x673 => if x673 = true then (Res.err ⟨"BadFraction", []⟩) else (((((Res.ok p_self).bind fun a674 => .ok a674.num).bind fun a676 => ((Res.ok v_divisor_669).bind fun a675 => .ok (a675.den : Int)).bind fun b677 => mulI a676 b677).bind fun a684 => ((((Res.ok p_self).bind fun a678 => .ok (a678.den : Int)).bind fun a680 => ((Res.ok v_divisor_669).bind fun a679 => .ok a679.num).bind fun b681 => mulI a680 b681).bind fun a682 => (Res.ok ()).bind fun b683 => .ok (a682, b683)).bind fun b685 => .ok (a684, b685)).bind (fun d => qMk d.1 d.2.1)))))
abbrev C_Fraction_over (P : Program) (w : World) (K : PySem.W.Frag) (mg : Str → Option Value) (base : Heap) : Prop := FnR P w K mg base (L2.CX P w) 5 (He.ma K (He.ga K "Fraction") "over") (spF K (aCons (rp (rFrac K)) (aCons (rp (rNum K)) aNil)) (fun d => qOver d.1 d.2.1) (rp (rFrac K)))
theorem ok_Fraction_over {P : Program} {w : World} {K : PySem.W.Frag} {mg : Str → Option Value} {base : Heap} (T : Txt K mg) (c_as_fraction : C_as_fraction P w K mg base) (c_Fraction_2 : C_Fraction_2 P w K mg base) {fd : FuncData} (F : FunD K "over" "Fraction.over" (defArgs s_Fraction_over) (defBody s_Fraction_over) (defScope s_Fraction_over) [] [] (He.ma K (He.ga K "Fraction") "over") fd) : FnOk P w K mg base (L2.CX P w) 5 (He.ma K (He.ga K "Fraction") "over") fd ["self", "other"] (spF K (aCons (rp (rFrac K)) (aCons (rp (rNum K)) aNil)) (fun d => m_Fraction_over d.1 d.2.1) (rp (rFrac K))) := by
  refine FunD.fn (k := 4) (N := ["self", "other", "divisor"]) (ps := ["self", "other"]) F sc_Fraction_over (fun I H vs d h => ?_) (fun cdv A outer s I0 H0 E vs d hr sm h => ?_)
  · obtain ⟨v0, _, rfl, h0, v1, _, rfl, h1, rfl⟩ := h; rfl
  obtain ⟨v0, _, rfl, h0, v1, _, rfl, h1, rfl⟩ := h
  have hx : ∀ {ctx : List (Option SF)} {mem : List MF} (I H : Hp) (σ : St) (d : Option Addr), Stt I0 H0 ctx mem I H σ → Fr H0 d → bK I0 H0 I H σ d := fun _ _ _ _ s f => ⟨s.fm, f⟩
  have tk : Takes (bx P w K mg base ["self", "other", "divisor"] "Fraction.over" (defScope s_Fraction_over) (He.ma K (He.ga K "Fraction") "over") cdv A outer s H0 E) (bW E) := takes_of rfl rfl rfl rfl
  obtain ⟨p_self, p_other, _⟩ := d
  exact ⟨Stt I0 H0 [some (SF.mk (rFrac K) p_self), some (SF.mk (rNum K) p_other), none] [], Stt.start sm ⟨h0, h1, ini_nil rfl⟩ rfl (by simp), (JR.num (K := K) 1 (fun p_other_i => JR.at (c' := [some (SF.mk (rFrac K) p_self), some (SF.mk rInt p_other_i), none]) (JR.seq (J1.cx (c' := fun v_divisor_649 => [some (SF.mk (rFrac K) p_self), some (SF.mk rInt p_other_i), some (SF.mk (rFrac K) v_divisor_649)]) (J1.set 2 (JE.call (JA.cons (JE.num (JE.var 1)) JA.nil) (cj_of c_as_fraction (hr.mono (by decide)) tk) T.g_as_fraction T.k_as_fraction) hx sc_Fraction_over.nd)) fun v_divisor_649 => (JR.ifR (JT.cmp (JE.fld (JE.var 2) fld_top T.o_Fraction.cl T.na_Fraction_top) JE.int opj_eq) (JR.raiseP rfl tk T.ex_BadFraction hx) (JR.ret (JE.call (JA.cons (JE.bin (JE.fld (JE.var 0) fld_top T.o_Fraction.cl T.na_Fraction_top) (JE.fld (JE.var 2) fld_bottom T.o_Fraction.cl T.na_Fraction_bottom) opj_mul) (JA.cons (JE.bin (JE.fld (JE.var 0) fld_bottom T.o_Fraction.cl T.na_Fraction_bottom) (JE.fld (JE.var 2) fld_top T.o_Fraction.cl T.na_Fraction_top) opj_mul) JA.nil)) (c_Fraction_2 _ _ rfl rfl rfl rfl rfl (hr.mono (by decide)) tk) T.g_Fraction T.mk_Fraction.kp) hx) hx))) (fun p_other_q => JR.at (c' := [some (SF.mk (rFrac K) p_self), some (SF.mk (rFrac K) p_other_q), none]) (JR.seq (J1.cx (c' := fun v_divisor_669 => [some (SF.mk (rFrac K) p_self), some (SF.mk (rFrac K) p_other_q), some (SF.mk (rFrac K) v_divisor_669)]) (J1.set 2 (JE.call (JA.cons (JE.numq (JE.var 1)) JA.nil) (cj_of c_as_fraction (hr.mono (by decide)) tk) T.g_as_fraction T.k_as_fraction) hx sc_Fraction_over.nd)) fun v_divisor_669 => (JR.ifR (JT.cmp (JE.fld (JE.var 2) fld_top T.o_Fraction.cl T.na_Fraction_top) JE.int opj_eq) (JR.raiseP rfl tk T.ex_BadFraction hx) (JR.ret (JE.call (JA.cons (JE.bin (JE.fld (JE.var 0) fld_top T.o_Fraction.cl T.na_Fraction_top) (JE.fld (JE.var 2) fld_bottom T.o_Fraction.cl T.na_Fraction_bottom) opj_mul) (JA.cons (JE.bin (JE.fld (JE.var 0) fld_bottom T.o_Fraction.cl T.na_Fraction_bottom) (JE.fld (JE.var 2) fld_top T.o_Fraction.cl T.na_Fraction_top) opj_mul) JA.nil)) (c_Fraction_2 _ _ rfl rfl rfl rfl rfl (hr.mono (by decide)) tk) T.g_Fraction T.mk_Fraction.kp) hx) hx))))⟩
theorem fn_Fraction_over {P : Program} {w : World} {K : PySem.W.Frag} {mg : Str → Option Value} {base : Heap} (T : Txt K mg) (c_as_fraction : C_as_fraction P w K mg base) (c_Fraction_2 : C_Fraction_2 P w K mg base) : FnR P w K mg base (L2.CX P w) 5 (He.ma K (He.ga K "Fraction") "over") (spF K (aCons (rp (rFrac K)) (aCons (rp (rNum K)) aNil)) (fun d => m_Fraction_over d.1 d.2.1) (rp (rFrac K))) := by
  obtain ⟨fd, F⟩ := T.F_Fraction_over
  exact FnOk.fr0 (ok_Fraction_over T c_as_fraction c_Fraction_2 F) (F.bindsN fun _ _ _ _ _ _ us hl => match us, hl with | [_, _], _ => rfl)
theorem nice_Fraction_over : ∀ d : Rat × Num × Unit, qOver d.1 d.2.1 = .stuck ∨ qOver d.1 d.2.1 = m_Fraction_over d.1 d.2.1 := fun ⟨x, y, _⟩ => by
  refine stuck_or fun h => ?_
  obtain ⟨hx, hy⟩ := h
  dsimp only at hx hy ⊢
  cases y with
  | i n =>
      simp only [m_Fraction_over, Res.ok_bind, qAs]
      by_cases h : (Num.i n).val = 0
      · rw [if_pos h, if_pos (decide_eq_true (num_zero.mpr h))]; rfl
      · rw [if_neg h, if_neg (by simpa [num_zero] using h), mul_fit hx.1 (fd hy), mul_fit (fd hx) hy.1]
        simp only [Res.ok_bind]
        rw [qMk_dn hx hy h, div_divs x _ h]
  | q y =>
      simp only [m_Fraction_over, Res.ok_bind, qAs]
      by_cases h : (Num.q y).val = 0
      · rw [if_pos h, if_pos (decide_eq_true (num_zero.mpr h))]; rfl
      · rw [if_neg h, if_neg (by simpa [num_zero] using h), mul_fit hx.1 (fd hy), mul_fit (fd hx) hy.1]
        simp only [Res.ok_bind]
        rw [qMk_dn hx hy h, div_divs x _ h]
abbrev C_Fraction_over_1_other (P : Program) (w : World) (K : PySem.W.Frag) (mg : Str → Option Value) (base : Heap) : Prop := MkK P w K mg base 5 (He.ma K (He.ga K "Fraction") "over") ["other"] (aCons (rp (rFrac K)) aNil) (aCons (rp (rNum K)) aNil) (fun (x : (Rat × Unit)) (y : (Num × Unit)) => qOver x.1 y.1) (rp (rFrac K))
theorem fn_Fraction_over_1_other {P : Program} {w : World} {K : PySem.W.Frag} {mg : Str → Option Value} {base : Heap} (T : Txt K mg) (c_as_fraction : C_as_fraction P w K mg base) (c_Fraction_2 : C_Fraction_2 P w K mg base) : C_Fraction_over_1_other P w K mg base := by
  obtain ⟨fd, F⟩ := T.F_Fraction_over
  have hb := kbindsN (ps := ["self", "other"]) F 1 ["other"] (fun us ws => us ++ ws) (fun a c => a.append c) fun kV doc pm an cdv ct us ws hl hw => match us, hl, ws, hw with | [_], _, [_], _ => rfl
  exact MkK.nice (m := (fun (x : (Rat × Unit)) (y : (Num × Unit)) => m_Fraction_over x.1 y.1)) (fun X W e1 e2 e3 e4 e5 hr tk => by
    subst e1; subst e2; subst e3; subst e4; subst e5
    exact cjk_fn (n := 1) (R := (aCons (rp (rFrac X.K)) aNil)) (R' := (aCons (rp (rNum X.K)) aNil)) (h := fun (x : (Rat × Unit)) (y : (Num × Unit)) => (x.1, y.1, ())) (ok_Fraction_over T c_as_fraction c_Fraction_2 F) hr hb tk fun I H vs zs x y r r' => by
      obtain ⟨v0, _, rfl, h0, rfl⟩ := r
      obtain ⟨w0, _, rfl, k0, rfl⟩ := r'
      exact ⟨rfl, rfl, _, _, rfl, h0, _, _, rfl, k0, rfl⟩) fun x y => nice_Fraction_over (x.1, y.1, ())
theorem sc_law_over : FnScope ["_law_got", "_law_by", "_law_top", "_law_bottom", "_law_result"] ["_law_got", "_law_by", "_law_top", "_law_bottom"] (defScope s_law_over) := ⟨rfl, rfl, rfl, by decide +kernel, rfl, by decide +kernel, by decide +kernel⟩
def m_law_over (p_law_got : Rat) (p_law_by : Num) (p_law_top : Int) (p_law_bottom : Int) : Res Bool :=
  (match p_law_by with | .i p_law_by_i => (tryM (((Res.ok p_law_got).bind fun a613 => (((Res.ok p_law_by_i).bind fun a610 => .ok (Num.i a610)).bind fun a611 => (Res.ok ()).bind fun b612 => .ok (a611, b612)).bind fun y614 => qOver a613 y614.1).bind fun v_law_result_615 => (Res.ok v_law_result_615)) [("BadFraction", true)] (fun ee => if ee.pay.isEmpty = true then (fun _ => ((Res.ok p_law_bottom).bind fun a616 => (Res.ok (0 : Int)).bind fun b617 => .ok (decide (a616 = b617)))) ee.cls else .stuck) (fun s618 => (((Res.ok p_law_bottom).bind fun a619 => (Res.ok (0 : Int)).bind fun b620 => .ok (!decide (a619 = b620))).bind fun a627 => if a627 = true then (((Res.ok s618).bind fun a625 => ((Res.ok p_law_top).bind fun a623 => ((Res.ok p_law_bottom).bind fun a621 => (Res.ok ()).bind fun b622 => .ok (a621, b622)).bind fun b624 => .ok (a623, b624)).bind fun b626 => .ok (a625, b626)).bind (fun d => m_law_is d.1 d.2.1 d.2.2.1)) else .ok false))) | .q p_law_by_q => (tryM (((Res.ok p_law_got).bind fun a631 => (((Res.ok p_law_by_q).bind fun a628 => .ok (Num.q a628)).bind fun a629 => (Res.ok ()).bind fun b630 => .ok (a629, b630)).bind fun y632 => qOver a631 y632.1).bind fun v_law_result_633 => (Res.ok v_law_result_633)) [("BadFraction", true)] (fun ee => if ee.pay.isEmpty = true then (fun _ => ((Res.ok p_law_bottom).bind fun a634 => (Res.ok (0 : Int)).bind fun b635 => .ok (decide (a634 = b635)))) ee.cls else .stuck) (fun s636 => (((Res.ok p_law_bottom).bind fun a637 => (Res.ok (0 : Int)).bind fun b638 => .ok (!decide (a637 = b638))).bind fun a645 => if a645 = true then (((Res.ok s636).bind fun a643 => ((Res.ok p_law_top).bind fun a641 => ((Res.ok p_law_bottom).bind fun a639 => (Res.ok ()).bind fun b640 => .ok (a639, b640)).bind fun b642 => .ok (a641, b642)).bind fun b644 => .ok (a643, b644)).bind (fun d => m_law_is d.1 d.2.1 d.2.2.1)) else .ok false))))
abbrev C_law_over (P : Program) (w : World) (K : PySem.W.Frag) (mg : Str → Option Value) (base : Heap) : Prop := FnR P w K mg base (L2.CX P w) 7 (He.ga K "_law_over") (spF K (aCons (rp (rFrac K)) (aCons (rp (rNum K)) (aCons (rp rInt) (aCons (rp rInt) aNil)))) (fun d => m_law_over d.1 d.2.1 d.2.2.1 d.2.2.2.1) (rp rBl))
theorem ok_law_over {P : Program} {w : World} {K : PySem.W.Frag} {mg : Str → Option Value} {base : Heap} (T : Txt K mg) (c_Fraction_over_1_other : C_Fraction_over_1_other P w K mg base) (c_law_is : C_law_is P w K mg base) {fd : FuncData} (F : FunD K "_law_over" "_law_over" (defArgs s_law_over) (defBody s_law_over) (defScope s_law_over) [] [] (He.ga K "_law_over") fd) : FnOk P w K mg base (L2.CX P w) 7 (He.ga K "_law_over") fd ["_law_got", "_law_by", "_law_top", "_law_bottom"] (spF K (aCons (rp (rFrac K)) (aCons (rp (rNum K)) (aCons (rp rInt) (aCons (rp rInt) aNil)))) (fun d => m_law_over d.1 d.2.1 d.2.2.1 d.2.2.2.1) (rp rBl)) := by
  refine FunD.fn (k := 6) (N := ["_law_got", "_law_by", "_law_top", "_law_bottom", "_law_result"]) (ps := ["_law_got", "_law_by", "_law_top", "_law_bottom"]) F sc_law_over (fun I H vs d h => ?_) (fun cdv A outer s I0 H0 E vs d hr sm h => ?_)
  · obtain ⟨v0, _, rfl, h0, v1, _, rfl, h1, v2, _, rfl, h2, v3, _, rfl, h3, rfl⟩ := h; rfl
  obtain ⟨v0, _, rfl, h0, v1, _, rfl, h1, v2, _, rfl, h2, v3, _, rfl, h3, rfl⟩ := h
  have hx : ∀ {ctx : List (Option SF)} {mem : List MF} (I H : Hp) (σ : St) (d : Option Addr), Stt I0 H0 ctx mem I H σ → Fr H0 d → bK I0 H0 I H σ d := fun _ _ _ _ s f => ⟨s.fm, f⟩
  have tk : Takes (bx P w K mg base ["_law_got", "_law_by", "_law_top", "_law_bottom", "_law_result"] "_law_over" (defScope s_law_over) (He.ga K "_law_over") cdv A outer s H0 E) (bW E) := takes_of rfl rfl rfl rfl
  have hp : PassesOwn (model P w) (bx P w K mg base ["_law_got", "_law_by", "_law_top", "_law_bottom", "_law_result"] "_law_over" (defScope s_law_over) (He.ga K "_law_over") cdv A outer s H0 E).A (bx P w K mg base ["_law_got", "_law_by", "_law_top", "_law_bottom", "_law_result"] "_law_over" (defScope s_law_over) (He.ga K "_law_over") cdv A outer s H0 E).env (bx P w K mg base ["_law_got", "_law_by", "_law_top", "_law_bottom", "_law_result"] "_law_over" (defScope s_law_over) (He.ga K "_law_over") cdv A outer s H0 E).xe := passes_of rfl
  obtain ⟨p_law_got, p_law_by, p_law_top, p_law_bottom, _⟩ := d
  exact ⟨Stt I0 H0 [some (SF.mk (rFrac K) p_law_got), some (SF.mk (rNum K) p_law_by), some (SF.mk rInt p_law_top), some (SF.mk rInt p_law_bottom), none] [], Stt.start sm ⟨h0, h1, h2, h3, ini_nil rfl⟩ rfl (by simp), (JR.num (K := K) 1 (fun p_law_by_i => JR.at (c' := [some (SF.mk (rFrac K) p_law_got), some (SF.mk rInt p_law_by_i), some (SF.mk rInt p_law_top), some (SF.mk rInt p_law_bottom), none]) (JR.tryOnlyP (S := Rat) (cv := .ref (He.ga K "BadFraction")) (L := [("BadFraction", true)]) (cw := [some (SF.mk (rFrac K) p_law_got), some (SF.mk rInt p_law_by_i), some (SF.mk rInt p_law_top), some (SF.mk rInt p_law_bottom), none]) (G' := (fun s618 => Stt I0 H0 [some (SF.mk (rFrac K) p_law_got), some (SF.mk rInt p_law_by_i), some (SF.mk rInt p_law_top), some (SF.mk rInt p_law_bottom), some (SF.mk (rFrac K) s618)] [])) (mh := fun _ => ((Res.ok p_law_bottom).bind fun a616 => (Res.ok (0 : Int)).bind fun b617 => .ok (decide (a616 = b617)))) tk (fun W' pn xe tk hp => (JN.seq (J1.cx (c' := fun v_law_result_615 => [some (SF.mk (rFrac K) p_law_got), some (SF.mk rInt p_law_by_i), some (SF.mk rInt p_law_top), some (SF.mk rInt p_law_bottom), some (SF.mk (rFrac K) v_law_result_615)]) (J1.set 4 (JE.methK0 (JE.var 0) insOfF (JK.cons (JE.num (JE.var 1)) JK.nil) (c_Fraction_over_1_other _ _ rfl rfl rfl rfl rfl (hr.mono (by decide)) tk) T.o_Fraction.cl T.me_Fraction_over) (fun _ _ _ _ s f => ⟨s.weak (by first | exact weak_refl _ | (simp only [weakC]; simp)), f⟩) sc_law_over.nd)) fun v_law_result_615 => (JN.nil fun _ _ _ h => h))) (fun cls hcl => by
        obtain rfl : cls = "BadFraction" := by simpa using hcl
        exact fun a oe pn hz hf => (JR.ret (JE.cmp (JE.var 3) JE.int opj_eq) (fun _ _ _ _ _ _ => True.intro))) (fun s618 => (JR.ret (JE.and (JE.cmp (JE.var 3) JE.int opj_ne) (JE.one (JE.call (JA.cons (JE.var 4) (JA.cons (JE.var 2) (JA.cons (JE.var 3) JA.nil))) (cj_of c_law_is (hr.mono (by decide)) tk) T.g_law_is T.k_law_is))) hx)) (fun y b h => by
        simp only [List.mem_cons, List.mem_nil_iff, or_false, Prod.mk.injEq] at h
        obtain ⟨rfl, rfl⟩ := h
        exact T.xm_BadFraction_BadFraction) ⟨rfl, by decide, .inl T.g_BadFraction⟩ hx)) (fun p_law_by_q => JR.at (c' := [some (SF.mk (rFrac K) p_law_got), some (SF.mk (rFrac K) p_law_by_q), some (SF.mk rInt p_law_top), some (SF.mk rInt p_law_bottom), none]) (JR.tryOnlyP (S := Rat) (cv := .ref (He.ga K "BadFraction")) (L := [("BadFraction", true)]) (cw := [some (SF.mk (rFrac K) p_law_got), some (SF.mk (rFrac K) p_law_by_q), some (SF.mk rInt p_law_top), some (SF.mk rInt p_law_bottom), none]) (G' := (fun s636 => Stt I0 H0 [some (SF.mk (rFrac K) p_law_got), some (SF.mk (rFrac K) p_law_by_q), some (SF.mk rInt p_law_top), some (SF.mk rInt p_law_bottom), some (SF.mk (rFrac K) s636)] [])) (mh := fun _ => ((Res.ok p_law_bottom).bind fun a634 => (Res.ok (0 : Int)).bind fun b635 => .ok (decide (a634 = b635)))) tk (fun W' pn xe tk hp => (JN.seq (J1.cx (c' := fun v_law_result_633 => [some (SF.mk (rFrac K) p_law_got), some (SF.mk (rFrac K) p_law_by_q), some (SF.mk rInt p_law_top), some (SF.mk rInt p_law_bottom), some (SF.mk (rFrac K) v_law_result_633)]) (J1.set 4 (JE.methK0 (JE.var 0) insOfF (JK.cons (JE.numq (JE.var 1)) JK.nil) (c_Fraction_over_1_other _ _ rfl rfl rfl rfl rfl (hr.mono (by decide)) tk) T.o_Fraction.cl T.me_Fraction_over) (fun _ _ _ _ s f => ⟨s.weak (by first | exact weak_refl _ | (simp only [weakC]; simp)), f⟩) sc_law_over.nd)) fun v_law_result_633 => (JN.nil fun _ _ _ h => h))) (fun cls hcl => by
        obtain rfl : cls = "BadFraction" := by simpa using hcl
        exact fun a oe pn hz hf => (JR.ret (JE.cmp (JE.var 3) JE.int opj_eq) (fun _ _ _ _ _ _ => True.intro))) (fun s636 => (JR.ret (JE.and (JE.cmp (JE.var 3) JE.int opj_ne) (JE.one (JE.call (JA.cons (JE.var 4) (JA.cons (JE.var 2) (JA.cons (JE.var 3) JA.nil))) (cj_of c_law_is (hr.mono (by decide)) tk) T.g_law_is T.k_law_is))) hx)) (fun y b h => by
        simp only [List.mem_cons, List.mem_nil_iff, or_false, Prod.mk.injEq] at h
        obtain ⟨rfl, rfl⟩ := h
        exact T.xm_BadFraction_BadFraction) ⟨rfl, by decide, .inl T.g_BadFraction⟩ hx)))⟩
theorem fn_law_over {P : Program} {w : World} {K : PySem.W.Frag} {mg : Str → Option Value} {base : Heap} (T : Txt K mg) (c_Fraction_over_1_other : C_Fraction_over_1_other P w K mg base) (c_law_is : C_law_is P w K mg base) : FnR P w K mg base (L2.CX P w) 7 (He.ga K "_law_over") (spF K (aCons (rp (rFrac K)) (aCons (rp (rNum K)) (aCons (rp rInt) (aCons (rp rInt) aNil)))) (fun d => m_law_over d.1 d.2.1 d.2.2.1 d.2.2.2.1) (rp rBl)) := by
  obtain ⟨fd, F⟩ := T.F_law_over
  exact FnOk.fr0 (ok_law_over T c_Fraction_over_1_other c_law_is F) (F.bindsN fun _ _ _ _ _ _ us hl => match us, hl with | [_, _, _, _], _ => rfl)
theorem sc_law_in_place : FnScope ["_law_a", "_law_b", "_law_c", "_law_d", "_law_got", "_law_kept", "_law_total", "_law_old"] ["_law_a", "_law_b", "_law_c", "_law_d"] (defScope s_law_in_place) := ⟨rfl, rfl, rfl, by decide +kernel, rfl, by decide +kernel, by decide +kernel⟩
def m_law_in_place (p_law_a : Int) (p_law_b : Int) (p_law_c : Int) (p_law_d : Int) : Res Bool :=
  ((((Res.ok p_law_a).bind fun a694 => ((Res.ok p_law_b).bind fun a692 => (Res.ok ()).bind fun b693 => .ok (a692, b693)).bind fun b695 => .ok (a694, b695)).bind (fun d => qMk d.1 d.2.1)).bind fun v_law_got_696 => ((Res.ok v_law_got_696).bind fun v_law_kept_697 => (((((Res.ok p_law_c).bind fun a700 => ((Res.ok p_law_d).bind fun a698 => (Res.ok ()).bind fun b699 => .ok (a698, b699)).bind fun b701 => .ok (a700, b701)).bind (fun d => qMk d.1 d.2.1)).bind fun y702 => qAdd v_law_got_696 (.q y702)).bind fun v_law_got_703 => ((((((Res.ok v_law_got_703).bind fun a716 => ((((Res.ok p_law_a).bind fun a704 => (Res.ok p_law_d).bind fun b705 => mulI a704 b705).bind fun a708 => ((Res.ok p_law_c).bind fun a706 => (Res.ok p_law_b).bind fun b707 => mulI a706 b707).bind fun b709 => .ok (a708 + b709)).bind fun a714 => (((Res.ok p_law_b).bind fun a710 => (Res.ok p_law_d).bind fun b711 => mulI a710 b711).bind fun a712 => (Res.ok ()).bind fun b713 => .ok (a712, b713)).bind fun b715 => .ok (a714, b715)).bind fun b717 => .ok (a716, b717)).bind (fun d => m_law_is d.1 d.2.1 d.2.2.1)).bind fun a718 => .ok (!a718)).bind fun a726 => if a726 = true then .ok true else ((((Res.ok v_law_kept_697).bind fun a723 => ((Res.ok p_law_a).bind fun a721 => ((Res.ok p_law_b).bind fun a719 => (Res.ok ()).bind fun b720 => .ok (a719, b720)).bind fun b722 => .ok (a721, b722)).bind fun b724 => .ok (a723, b724)).bind (fun d => m_law_is d.1 d.2.1 d.2.2.1)).bind fun a725 => .ok (!a725))).bind fun x727 => if x727 = true then (Res.ok false) else (((Res.ok p_law_c).bind fun y728 => qSub v_law_got_703 (.i y728)).bind fun v_law_got_729 => (((((Res.ok p_law_a).bind fun a730 => (Res.ok p_law_d).bind fun b731 => mulI a730 b731).bind fun a734 => ((Res.ok p_law_c).bind fun a732 => (Res.ok p_law_b).bind fun b733 => mulI a732 b733).bind fun b735 => .ok (a734 + b735)).bind fun a740 => (((Res.ok p_law_c).bind fun a736 => (Res.ok p_law_b).bind fun b737 => mulI a736 b737).bind fun a738 => (Res.ok p_law_d).bind fun b739 => mulI a738 b739).bind fun b741 => .ok (a740 - b741)).bind fun v_law_total_742 => ((((((Res.ok v_law_got_729).bind fun a749 => ((Res.ok v_law_total_742).bind fun a747 => (((Res.ok p_law_b).bind fun a743 => (Res.ok p_law_d).bind fun b744 => mulI a743 b744).bind fun a745 => (Res.ok ()).bind fun b746 => .ok (a745, b746)).bind fun b748 => .ok (a747, b748)).bind fun b750 => .ok (a749, b750)).bind (fun d => m_law_is d.1 d.2.1 d.2.2.1)).bind fun a751 => .ok (!a751)).bind fun a759 => if a759 = true then .ok true else ((((Res.ok v_law_kept_697).bind fun a756 => ((Res.ok p_law_a).bind fun a754 => ((Res.ok p_law_b).bind fun a752 => (Res.ok ()).bind fun b753 => .ok (a752, b753)).bind fun b755 => .ok (a754, b755)).bind fun b757 => .ok (a756, b757)).bind (fun d => m_law_is d.1 d.2.1 d.2.2.1)).bind fun a758 => .ok (!a758))).bind fun x760 => if x760 = true then (Res.ok false) else (((Res.ok v_law_got_729).bind fun y761 => qMul v_law_kept_697 (.q y761)).bind fun v_law_kept_762 => ((((((Res.ok v_law_kept_762).bind fun a773 => (((Res.ok p_law_a).bind fun a763 => (Res.ok v_law_total_742).bind fun b764 => mulI a763 b764).bind fun a771 => ((((Res.ok p_law_b).bind fun a765 => (Res.ok p_law_b).bind fun b766 => mulI a765 b766).bind fun a767 => (Res.ok p_law_d).bind fun b768 => mulI a767 b768).bind fun a769 => (Res.ok ()).bind fun b770 => .ok (a769, b770)).bind fun b772 => .ok (a771, b772)).bind fun b774 => .ok (a773, b774)).bind (fun d => m_law_is d.1 d.2.1 d.2.2.1)).bind fun a775 => .ok (!a775)).bind fun a785 => if a785 = true then .ok true else ((((Res.ok v_law_got_729).bind fun a782 => ((Res.ok v_law_total_742).bind fun a780 => (((Res.ok p_law_b).bind fun a776 => (Res.ok p_law_d).bind fun b777 => mulI a776 b777).bind fun a778 => (Res.ok ()).bind fun b779 => .ok (a778, b779)).bind fun b781 => .ok (a780, b781)).bind fun b783 => .ok (a782, b783)).bind (fun d => m_law_is d.1 d.2.1 d.2.2.1)).bind fun a784 => .ok (!a784))).bind fun x786 => if x786 = true then (Res.ok false) else ((Res.ok v_law_got_729).bind fun v_law_old_787 => (((Res.ok p_law_c).bind fun y788 => qMul v_law_got_729 (.i y788)).bind fun v_law_got_789 => ((((((Res.ok v_law_got_789).bind fun a798 => (((Res.ok v_law_total_742).bind fun a790 => (Res.ok p_law_c).bind fun b791 => mulI a790 b791).bind fun a796 => (((Res.ok p_law_b).bind fun a792 => (Res.ok p_law_d).bind fun b793 => mulI a792 b793).bind fun a794 => (Res.ok ()).bind fun b795 => .ok (a794, b795)).bind fun b797 => .ok (a796, b797)).bind fun b799 => .ok (a798, b799)).bind (fun d => m_law_is d.1 d.2.1 d.2.2.1)).bind fun a800 => .ok (!a800)).bind fun a810 => if a810 = true then .ok true else ((((Res.ok v_law_old_787).bind fun a807 => ((Res.ok v_law_total_742).bind fun a805 => (((Res.ok p_law_b).bind fun a801 => (Res.ok p_law_d).bind fun b802 => mulI a801 b802).bind fun a803 => (Res.ok ()).bind fun b804 => .ok (a803, b804)).bind fun b806 => .ok (a805, b806)).bind fun b808 => .ok (a807, b808)).bind (fun d => m_law_is d.1 d.2.1 d.2.2.1)).bind fun a809 => .ok (!a809))).bind fun x811 => if x811 = true then (Res.ok false) else (((((Res.ok p_law_a).bind fun a814 => ((Res.ok p_law_b).bind fun a812 => (Res.ok ()).bind fun b813 => .ok (a812, b813)).bind fun b815 => .ok (a814, b815)).bind (fun d => qMk d.1 d.2.1)).bind fun y816 => qSub v_law_got_789 (.q y816)).bind fun v_law_got_817 => ((((Res.ok v_law_total_742).bind fun a818 => (Res.ok p_law_c).bind fun b819 => mulI a818 b819).bind fun a822 => ((Res.ok p_law_a).bind fun a820 => (Res.ok p_law_d).bind fun b821 => mulI a820 b821).bind fun b823 => .ok (a822 - b823)).bind fun v_law_total_824 => (((((Res.ok v_law_got_817).bind fun a831 => ((Res.ok v_law_total_824).bind fun a829 => (((Res.ok p_law_b).bind fun a825 => (Res.ok p_law_d).bind fun b826 => mulI a825 b826).bind fun a827 => (Res.ok ()).bind fun b828 => .ok (a827, b828)).bind fun b830 => .ok (a829, b830)).bind fun b832 => .ok (a831, b832)).bind (fun d => m_law_is d.1 d.2.1 d.2.2.1)).bind fun a833 => .ok (!a833)).bind fun x834 => if x834 = true then (Res.ok false) else (((Res.ok p_law_d).bind fun y835 => qAdd v_law_got_817 (.i y835)).bind fun v_law_got_836 => ((((Res.ok v_law_got_836).bind fun a849 => (((Res.ok v_law_total_824).bind fun a841 => (((Res.ok p_law_d).bind fun a837 => (Res.ok p_law_b).bind fun b838 => mulI a837 b838).bind fun a839 => (Res.ok p_law_d).bind fun b840 => mulI a839 b840).bind fun b842 => .ok (a841 + b842)).bind fun a847 => (((Res.ok p_law_b).bind fun a843 => (Res.ok p_law_d).bind fun b844 => mulI a843 b844).bind fun a845 => (Res.ok ()).bind fun b846 => .ok (a845, b846)).bind fun b848 => .ok (a847, b848)).bind fun b850 => .ok (a849, b850)).bind (fun d => m_law_is d.1 d.2.1 d.2.2.1)).bind fun a871 => if a871 = true then (((Res.ok v_law_old_787).bind fun a869 => (((((Res.ok p_law_a).bind fun a851 => (Res.ok p_law_d).bind fun b852 => mulI a851 b852).bind fun a855 => ((Res.ok p_law_c).bind fun a853 => (Res.ok p_law_b).bind fun b854 => mulI a853 b854).bind fun b856 => .ok (a855 + b856)).bind fun a861 => (((Res.ok p_law_c).bind fun a857 => (Res.ok p_law_b).bind fun b858 => mulI a857 b858).bind fun a859 => (Res.ok p_law_d).bind fun b860 => mulI a859 b860).bind fun b862 => .ok (a861 - b862)).bind fun a867 => (((Res.ok p_law_b).bind fun a863 => (Res.ok p_law_d).bind fun b864 => mulI a863 b864).bind fun a865 => (Res.ok ()).bind fun b866 => .ok (a865, b866)).bind fun b868 => .ok (a867, b868)).bind fun b870 => .ok (a869, b870)).bind (fun d => m_law_is d.1 d.2.1 d.2.2.1)) else .ok false)))))))))))))))))
abbrev C_law_in_place (P : Program) (w : World) (K : PySem.W.Frag) (mg : Str → Option Value) (base : Heap) : Prop := FnR P w K mg base (L2.CX P w) 6 (He.ga K "_law_in_place") (spF K (aCons (rp rInt) (aCons (rp rInt) (aCons (rp rInt) (aCons (rp rInt) aNil)))) (fun d => m_law_in_place d.1 d.2.1 d.2.2.1 d.2.2.2.1) (rp rBl))
theorem ok_law_in_place {P : Program} {w : World} {K : PySem.W.Frag} {mg : Str → Option Value} {base : Heap} (T : Txt K mg) (c_Fraction_2 : C_Fraction_2 P w K mg base) (c_Fraction_add : C_Fraction_add P w K mg base) (c_law_is : C_law_is P w K mg base) (c_Fraction_sub : C_Fraction_sub P w K mg base) (c_Fraction_mul : C_Fraction_mul P w K mg base) {fd : FuncData} (F : FunD K "_law_in_place" "_law_in_place" (defArgs s_law_in_place) (defBody s_law_in_place) (defScope s_law_in_place) [] [] (He.ga K "_law_in_place") fd) : FnOk P w K mg base (L2.CX P w) 6 (He.ga K "_law_in_place") fd ["_law_a", "_law_b", "_law_c", "_law_d"] (spF K (aCons (rp rInt) (aCons (rp rInt) (aCons (rp rInt) (aCons (rp rInt) aNil)))) (fun d => m_law_in_place d.1 d.2.1 d.2.2.1 d.2.2.2.1) (rp rBl)) := by
  refine FunD.fn (k := 5) (N := ["_law_a", "_law_b", "_law_c", "_law_d", "_law_got", "_law_kept", "_law_total", "_law_old"]) (ps := ["_law_a", "_law_b", "_law_c", "_law_d"]) F sc_law_in_place (fun I H vs d h => ?_) (fun cdv A outer s I0 H0 E vs d hr sm h => ?_)
  · obtain ⟨v0, _, rfl, h0, v1, _, rfl, h1, v2, _, rfl, h2, v3, _, rfl, h3, rfl⟩ := h; rfl
  obtain ⟨v0, _, rfl, h0, v1, _, rfl, h1, v2, _, rfl, h2, v3, _, rfl, h3, rfl⟩ := h
  have hx : ∀ {ctx : List (Option SF)} {mem : List MF} (I H : Hp) (σ : St) (d : Option Addr), Stt I0 H0 ctx mem I H σ → Fr H0 d → bK I0 H0 I H σ d := fun _ _ _ _ s f => ⟨s.fm, f⟩
  have tk : Takes (bx P w K mg base ["_law_a", "_law_b", "_law_c", "_law_d", "_law_got", "_law_kept", "_law_total", "_law_old"] "_law_in_place" (defScope s_law_in_place) (He.ga K "_law_in_place") cdv A outer s H0 E) (bW E) := takes_of rfl rfl rfl rfl
  obtain ⟨p_law_a, p_law_b, p_law_c, p_law_d, _⟩ := d
  exact ⟨Stt I0 H0 [some (SF.mk rInt p_law_a), some (SF.mk rInt p_law_b), some (SF.mk rInt p_law_c), some (SF.mk rInt p_law_d), none, none, none, none] [], Stt.start sm ⟨h0, h1, h2, h3, ini_nil rfl⟩ rfl (by simp), (JR.seq (J1.cx (c' := fun v_law_got_696 => [some (SF.mk rInt p_law_a), some (SF.mk rInt p_law_b), some (SF.mk rInt p_law_c), some (SF.mk rInt p_law_d), some (SF.mk (rFrac K) v_law_got_696), none, none, none]) (J1.set 4 (JE.call (JA.cons (JE.var 0) (JA.cons (JE.var 1) JA.nil)) (c_Fraction_2 _ _ rfl rfl rfl rfl rfl (hr.mono (by decide)) tk) T.g_Fraction T.mk_Fraction.kp) hx sc_law_in_place.nd)) fun v_law_got_696 => (JR.seq (J1.cx (c' := fun v_law_kept_697 => [some (SF.mk rInt p_law_a), some (SF.mk rInt p_law_b), some (SF.mk rInt p_law_c), some (SF.mk rInt p_law_d), some (SF.mk (rFrac K) v_law_got_696), some (SF.mk (rFrac K) v_law_kept_697), none, none]) (J1.set 5 (JE.var 4) hx sc_law_in_place.nd)) fun v_law_kept_697 => (JR.seq (J1.cx (c' := fun v_law_got_703 => [some (SF.mk rInt p_law_a), some (SF.mk rInt p_law_b), some (SF.mk rInt p_law_c), some (SF.mk rInt p_law_d), some (SF.mk (rFrac K) v_law_got_703), some (SF.mk (rFrac K) v_law_kept_697), none, none]) (J1.aug 4 (x := v_law_got_696) (h := fun xx y702 => qAdd xx (.q y702)) (JE.call (JA.cons (JE.var 2) (JA.cons (JE.var 3) JA.nil)) (c_Fraction_2 _ _ rfl rfl rfl rfl rfl (hr.mono (by decide)) tk) T.g_Fraction T.mk_Fraction.kp) (opi_qq (op := .Add) T.ni_Fraction_add T.o_Fraction T.om_Fraction_add c_Fraction_add (hr.mono (by decide)) tk) hx sc_law_in_place.nd)) fun v_law_got_703 => (JR.ifR (JT.bool (JW.or (JT.not (JT.of (JE.call (JA.cons (JE.var 4) (JA.cons (JE.bin (JE.bin (JE.var 0) (JE.var 3) opj_mul) (JE.bin (JE.var 2) (JE.var 1) opj_mul) opj_add) (JA.cons (JE.bin (JE.var 1) (JE.var 3) opj_mul) JA.nil))) (cj_of c_law_is (hr.mono (by decide)) tk) T.g_law_is T.k_law_is))) (JW.or1 (JT.not (JT.of (JE.call (JA.cons (JE.var 5) (JA.cons (JE.var 0) (JA.cons (JE.var 1) JA.nil))) (cj_of c_law_is (hr.mono (by decide)) tk) T.g_law_is T.k_law_is)))))) (JR.ret JE.bl hx) (JR.seq (J1.cx (c' := fun v_law_got_729 => [some (SF.mk rInt p_law_a), some (SF.mk rInt p_law_b), some (SF.mk rInt p_law_c), some (SF.mk rInt p_law_d), some (SF.mk (rFrac K) v_law_got_729), some (SF.mk (rFrac K) v_law_kept_697), none, none]) (J1.aug 4 (x := v_law_got_703) (h := fun xx y728 => qSub xx (.i y728)) (JE.var 2) (opi_qi (op := .Sub) T.ni_Fraction_sub T.o_Fraction T.om_Fraction_sub T.om_Fraction_rsub T.im_sub.choose_spec T.im_rsub.choose_spec c_Fraction_sub (hr.mono (by decide)) tk) hx sc_law_in_place.nd)) fun v_law_got_729 => (JR.seq (J1.cx (c' := fun v_law_total_742 => [some (SF.mk rInt p_law_a), some (SF.mk rInt p_law_b), some (SF.mk rInt p_law_c), some (SF.mk rInt p_law_d), some (SF.mk (rFrac K) v_law_got_729), some (SF.mk (rFrac K) v_law_kept_697), some (SF.mk rInt v_law_total_742), none]) (J1.set 6 (JE.bin (JE.bin (JE.bin (JE.var 0) (JE.var 3) opj_mul) (JE.bin (JE.var 2) (JE.var 1) opj_mul) opj_add) (JE.bin (JE.bin (JE.var 2) (JE.var 1) opj_mul) (JE.var 3) opj_mul) opj_sub) hx sc_law_in_place.nd)) fun v_law_total_742 => (JR.ifR (JT.bool (JW.or (JT.not (JT.of (JE.call (JA.cons (JE.var 4) (JA.cons (JE.var 6) (JA.cons (JE.bin (JE.var 1) (JE.var 3) opj_mul) JA.nil))) (cj_of c_law_is (hr.mono (by decide)) tk) T.g_law_is T.k_law_is))) (JW.or1 (JT.not (JT.of (JE.call (JA.cons (JE.var 5) (JA.cons (JE.var 0) (JA.cons (JE.var 1) JA.nil))) (cj_of c_law_is (hr.mono (by decide)) tk) T.g_law_is T.k_law_is)))))) (JR.ret JE.bl hx) (JR.seq (J1.cx (c' := fun v_law_kept_762 => [some (SF.mk rInt p_law_a), some (SF.mk rInt p_law_b), some (SF.mk rInt p_law_c), some (SF.mk rInt p_law_d), some (SF.mk (rFrac K) v_law_got_729), some (SF.mk (rFrac K) v_law_kept_762), some (SF.mk rInt v_law_total_742), none]) (J1.aug 5 (x := v_law_kept_697) (h := fun xx y761 => qMul xx (.q y761)) (JE.var 4) (opi_qq (op := .Mult) T.ni_Fraction_mul T.o_Fraction T.om_Fraction_mul c_Fraction_mul (hr.mono (by decide)) tk) hx sc_law_in_place.nd)) fun v_law_kept_762 => (JR.ifR (JT.bool (JW.or (JT.not (JT.of (JE.call (JA.cons (JE.var 5) (JA.cons (JE.bin (JE.var 0) (JE.var 6) opj_mul) (JA.cons (JE.bin (JE.bin (JE.var 1) (JE.var 1) opj_mul) (JE.var 3) opj_mul) JA.nil))) (cj_of c_law_is (hr.mono (by decide)) tk) T.g_law_is T.k_law_is))) (JW.or1 (JT.not (JT.of (JE.call (JA.cons (JE.var 4) (JA.cons (JE.var 6) (JA.cons (JE.bin (JE.var 1) (JE.var 3) opj_mul) JA.nil))) (cj_of c_law_is (hr.mono (by decide)) tk) T.g_law_is T.k_law_is)))))) (JR.ret JE.bl hx) (JR.seq (J1.cx (c' := fun v_law_old_787 => [some (SF.mk rInt p_law_a), some (SF.mk rInt p_law_b), some (SF.mk rInt p_law_c), some (SF.mk rInt p_law_d), some (SF.mk (rFrac K) v_law_got_729), some (SF.mk (rFrac K) v_law_kept_762), some (SF.mk rInt v_law_total_742), some (SF.mk (rFrac K) v_law_old_787)]) (J1.set 7 (JE.var 4) hx sc_law_in_place.nd)) fun v_law_old_787 => (JR.seq (J1.cx (c' := fun v_law_got_789 => [some (SF.mk rInt p_law_a), some (SF.mk rInt p_law_b), some (SF.mk rInt p_law_c), some (SF.mk rInt p_law_d), some (SF.mk (rFrac K) v_law_got_789), some (SF.mk (rFrac K) v_law_kept_762), some (SF.mk rInt v_law_total_742), some (SF.mk (rFrac K) v_law_old_787)]) (J1.aug 4 (x := v_law_got_729) (h := fun xx y788 => qMul xx (.i y788)) (JE.var 2) (opi_qi (op := .Mult) T.ni_Fraction_mul T.o_Fraction T.om_Fraction_mul T.om_Fraction_rmul T.im_mul.choose_spec T.im_rmul.choose_spec c_Fraction_mul (hr.mono (by decide)) tk) hx sc_law_in_place.nd)) fun v_law_got_789 => (JR.ifR (JT.bool (JW.or (JT.not (JT.of (JE.call (JA.cons (JE.var 4) (JA.cons (JE.bin (JE.var 6) (JE.var 2) opj_mul) (JA.cons (JE.bin (JE.var 1) (JE.var 3) opj_mul) JA.nil))) (cj_of c_law_is (hr.mono (by decide)) tk) T.g_law_is T.k_law_is))) (JW.or1 (JT.not (JT.of (JE.call (JA.cons (JE.var 7) (JA.cons (JE.var 6) (JA.cons (JE.bin (JE.var 1) (JE.var 3) opj_mul) JA.nil))) (cj_of c_law_is (hr.mono (by decide)) tk) T.g_law_is T.k_law_is)))))) (JR.ret JE.bl hx) (JR.seq (J1.cx (c' := fun v_law_got_817 => [some (SF.mk rInt p_law_a), some (SF.mk rInt p_law_b), some (SF.mk rInt p_law_c), some (SF.mk rInt p_law_d), some (SF.mk (rFrac K) v_law_got_817), some (SF.mk (rFrac K) v_law_kept_762), some (SF.mk rInt v_law_total_742), some (SF.mk (rFrac K) v_law_old_787)]) (J1.aug 4 (x := v_law_got_789) (h := fun xx y816 => qSub xx (.q y816)) (JE.call (JA.cons (JE.var 0) (JA.cons (JE.var 1) JA.nil)) (c_Fraction_2 _ _ rfl rfl rfl rfl rfl (hr.mono (by decide)) tk) T.g_Fraction T.mk_Fraction.kp) (opi_qq (op := .Sub) T.ni_Fraction_sub T.o_Fraction T.om_Fraction_sub c_Fraction_sub (hr.mono (by decide)) tk) hx sc_law_in_place.nd)) fun v_law_got_817 => (JR.seq (J1.cx (c' := fun v_law_total_824 => [some (SF.mk rInt p_law_a), some (SF.mk rInt p_law_b), some (SF.mk rInt p_law_c), some (SF.mk rInt p_law_d), some (SF.mk (rFrac K) v_law_got_817), some (SF.mk (rFrac K) v_law_kept_762), some (SF.mk rInt v_law_total_824), some (SF.mk (rFrac K) v_law_old_787)]) (J1.set 6 (JE.bin (JE.bin (JE.var 6) (JE.var 2) opj_mul) (JE.bin (JE.var 0) (JE.var 3) opj_mul) opj_sub) hx sc_law_in_place.nd)) fun v_law_total_824 => (JR.ifR (JT.not (JT.of (JE.call (JA.cons (JE.var 4) (JA.cons (JE.var 6) (JA.cons (JE.bin (JE.var 1) (JE.var 3) opj_mul) JA.nil))) (cj_of c_law_is (hr.mono (by decide)) tk) T.g_law_is T.k_law_is))) (JR.ret JE.bl hx) (JR.seq (J1.cx (c' := fun v_law_got_836 => [some (SF.mk rInt p_law_a), some (SF.mk rInt p_law_b), some (SF.mk rInt p_law_c), some (SF.mk rInt p_law_d), some (SF.mk (rFrac K) v_law_got_836), some (SF.mk (rFrac K) v_law_kept_762), some (SF.mk rInt v_law_total_824), some (SF.mk (rFrac K) v_law_old_787)]) (J1.aug 4 (x := v_law_got_817) (h := fun xx y835 => qAdd xx (.i y835)) (JE.var 3) (opi_qi (op := .Add) T.ni_Fraction_add T.o_Fraction T.om_Fraction_add T.om_Fraction_radd T.im_add.choose_spec T.im_radd.choose_spec c_Fraction_add (hr.mono (by decide)) tk) hx sc_law_in_place.nd)) fun v_law_got_836 => (JR.ret (JE.and (JE.call (JA.cons (JE.var 4) (JA.cons (JE.bin (JE.var 6) (JE.bin (JE.bin (JE.var 3) (JE.var 1) opj_mul) (JE.var 3) opj_mul) opj_add) (JA.cons (JE.bin (JE.var 1) (JE.var 3) opj_mul) JA.nil))) (cj_of c_law_is (hr.mono (by decide)) tk) T.g_law_is T.k_law_is) (JE.one (JE.call (JA.cons (JE.var 7) (JA.cons (JE.bin (JE.bin (JE.bin (JE.var 0) (JE.var 3) opj_mul) (JE.bin (JE.var 2) (JE.var 1) opj_mul) opj_add) (JE.bin (JE.bin (JE.var 2) (JE.var 1) opj_mul) (JE.var 3) opj_mul) opj_sub) (JA.cons (JE.bin (JE.var 1) (JE.var 3) opj_mul) JA.nil))) (cj_of c_law_is (hr.mono (by decide)) tk) T.g_law_is T.k_law_is))) hx)) hx))) hx))) hx)) hx))) hx))))⟩
theorem fn_law_in_place {P : Program} {w : World} {K : PySem.W.Frag} {mg : Str → Option Value} {base : Heap} (T : Txt K mg) (c_Fraction_2 : C_Fraction_2 P w K mg base) (c_Fraction_add : C_Fraction_add P w K mg base) (c_law_is : C_law_is P w K mg base) (c_Fraction_sub : C_Fraction_sub P w K mg base) (c_Fraction_mul : C_Fraction_mul P w K mg base) : FnR P w K mg base (L2.CX P w) 6 (He.ga K "_law_in_place") (spF K (aCons (rp rInt) (aCons (rp rInt) (aCons (rp rInt) (aCons (rp rInt) aNil)))) (fun d => m_law_in_place d.1 d.2.1 d.2.2.1 d.2.2.2.1) (rp rBl)) := by
  obtain ⟨fd, F⟩ := T.F_law_in_place
  exact FnOk.fr0 (ok_law_in_place T c_Fraction_2 c_Fraction_add c_law_is c_Fraction_sub c_Fraction_mul F) (F.bindsN fun _ _ _ _ _ _ us hl => match us, hl with | [_, _, _, _], _ => rfl)
theorem sc_law : FnScope ["_law_script", "_law_choice", "_law_a", "_law_b", "_law_c", "_law_d", "_law_n", "_law_x", "_law_y"] ["_law_script"] (defScope s_law) := ⟨rfl, rfl, rfl, by decide +kernel, rfl, by decide +kernel, by decide +kernel⟩
def m_law (p_law_script : (List Int)) : Res Bool :=
  (((((((Res.ok p_law_script).bind fun a3 => ((Res.ok (0 : Int)).bind fun a1 => (Res.ok ()).bind fun b2 => .ok (a1, b2)).bind fun b4 => .ok (a3, b4)).bind (fun d => m_law_cell d.1 d.2.1)).bind fun a5 => (Res.ok ()).bind fun b6 => .ok (a5, b6)).bind (fun d => .ok d.1)).bind fun a9 => ((Res.ok (10 : Int)).bind fun a7 => (Res.ok (9 : Int)).bind fun b8 => powI a7 b8).bind fun b10 => modI a9 b10).bind fun v_law_choice_11 => ((((((Res.ok p_law_script).bind fun a14 => ((Res.ok (1 : Int)).bind fun a12 => (Res.ok ()).bind fun b13 => .ok (a12, b13)).bind fun b15 => .ok (a14, b15)).bind (fun d => m_law_cell d.1 d.2.1)).bind fun a18 => ((Res.ok v_law_choice_11).bind fun a16 => (Res.ok ()).bind fun b17 => .ok (a16, b17)).bind fun b19 => .ok (a18, b19)).bind (fun d => m_law_number d.1 d.2.1)).bind fun v_law_a_20 => (((Res.ok (1 : Int)).bind fun a33 => (((((((Res.ok p_law_script).bind fun a23 => ((Res.ok (2 : Int)).bind fun a21 => (Res.ok ()).bind fun b22 => .ok (a21, b22)).bind fun b24 => .ok (a23, b24)).bind (fun d => m_law_cell d.1 d.2.1)).bind fun a29 => (((Res.ok v_law_choice_11).bind fun a25 => (Res.ok (6 : Int)).bind fun b26 => fdivI a25 b26).bind fun a27 => (Res.ok ()).bind fun b28 => .ok (a27, b28)).bind fun b30 => .ok (a29, b30)).bind (fun d => m_law_number d.1 d.2.1)).bind fun a31 => (Res.ok ()).bind fun b32 => .ok (a31, b32)).bind (fun d => .ok (if d.1 < 0 then -d.1 else d.1))).bind fun b34 => .ok (a33 + b34)).bind fun v_law_b_35 => ((((((Res.ok p_law_script).bind fun a38 => ((Res.ok (3 : Int)).bind fun a36 => (Res.ok ()).bind fun b37 => .ok (a36, b37)).bind fun b39 => .ok (a38, b39)).bind (fun d => m_law_cell d.1 d.2.1)).bind fun a44 => (((Res.ok v_law_choice_11).bind fun a40 => (Res.ok (12 : Int)).bind fun b41 => fdivI a40 b41).bind fun a42 => (Res.ok ()).bind fun b43 => .ok (a42, b43)).bind fun b45 => .ok (a44, b45)).bind (fun d => m_law_number d.1 d.2.1)).bind fun v_law_c_46 => (((Res.ok (1 : Int)).bind fun a59 => (((((((Res.ok p_law_script).bind fun a49 => ((Res.ok (4 : Int)).bind fun a47 => (Res.ok ()).bind fun b48 => .ok (a47, b48)).bind fun b50 => .ok (a49, b50)).bind (fun d => m_law_cell d.1 d.2.1)).bind fun a55 => (((Res.ok v_law_choice_11).bind fun a51 => (Res.ok (72 : Int)).bind fun b52 => fdivI a51 b52).bind fun a53 => (Res.ok ()).bind fun b54 => .ok (a53, b54)).bind fun b56 => .ok (a55, b56)).bind (fun d => m_law_number d.1 d.2.1)).bind fun a57 => (Res.ok ()).bind fun b58 => .ok (a57, b58)).bind (fun d => .ok (if d.1 < 0 then -d.1 else d.1))).bind fun b60 => .ok (a59 + b60)).bind fun v_law_d_61 => ((((((Res.ok v_law_choice_11).bind fun a62 => (Res.ok (216 : Int)).bind fun b63 => fdivI a62 b63).bind fun a64 => (Res.ok (3 : Int)).bind fun b65 => modI a64 b65).bind fun a66 => (Res.ok (1 : Int)).bind fun b67 => .ok (decide (a66 = b67))).bind fun x70 => if x70 = true then ((Res.ok v_law_b_35).bind fun v_law_d_68 => (Res.ok v_law_d_68)) else (Res.ok v_law_d_61)).bind fun s69 => ((((((Res.ok p_law_script).bind fun a73 => ((Res.ok (5 : Int)).bind fun a71 => (Res.ok ()).bind fun b72 => .ok (a71, b72)).bind fun b74 => .ok (a73, b74)).bind (fun d => m_law_cell d.1 d.2.1)).bind fun a79 => (((Res.ok v_law_choice_11).bind fun a75 => (Res.ok (648 : Int)).bind fun b76 => fdivI a75 b76).bind fun a77 => (Res.ok ()).bind fun b78 => .ok (a77, b78)).bind fun b80 => .ok (a79, b80)).bind (fun d => m_law_number d.1 d.2.1)).bind fun v_law_n_81 => ((((Res.ok v_law_a_20).bind fun a84 => ((Res.ok v_law_b_35).bind fun a82 => (Res.ok ()).bind fun b83 => .ok (a82, b83)).bind fun b85 => .ok (a84, b85)).bind (fun d => qMk d.1 d.2.1)).bind fun v_law_x_86 => ((((Res.ok v_law_c_46).bind fun a89 => ((Res.ok s69).bind fun a87 => (Res.ok ()).bind fun b88 => .ok (a87, b88)).bind fun b90 => .ok (a89, b90)).bind (fun d => qMk d.1 d.2.1)).bind fun v_law_y_91 => (((((((Res.ok v_law_x_86).bind fun a92 => (Res.ok v_law_y_91).bind fun b93 => qAdd a92 (.q b93)).bind fun a106 => ((((Res.ok v_law_a_20).bind fun a94 => (Res.ok s69).bind fun b95 => mulI a94 b95).bind fun a98 => ((Res.ok v_law_c_46).bind fun a96 => (Res.ok v_law_b_35).bind fun b97 => mulI a96 b97).bind fun b99 => .ok (a98 + b99)).bind fun a104 => (((Res.ok v_law_b_35).bind fun a100 => (Res.ok s69).bind fun b101 => mulI a100 b101).bind fun a102 => (Res.ok ()).bind fun b103 => .ok (a102, b103)).bind fun b105 => .ok (a104, b105)).bind fun b107 => .ok (a106, b107)).bind (fun d => m_law_is d.1 d.2.1 d.2.2.1)).bind fun a108 => .ok (!a108)).bind fun a126 => if a126 = true then .ok true else (((((Res.ok v_law_x_86).bind fun a109 => (Res.ok v_law_y_91).bind fun b110 => qSub a109 (.q b110)).bind fun a123 => ((((Res.ok v_law_a_20).bind fun a111 => (Res.ok s69).bind fun b112 => mulI a111 b112).bind fun a115 => ((Res.ok v_law_c_46).bind fun a113 => (Res.ok v_law_b_35).bind fun b114 => mulI a113 b114).bind fun b116 => .ok (a115 - b116)).bind fun a121 => (((Res.ok v_law_b_35).bind fun a117 => (Res.ok s69).bind fun b118 => mulI a117 b118).bind fun a119 => (Res.ok ()).bind fun b120 => .ok (a119, b120)).bind fun b122 => .ok (a121, b122)).bind fun b124 => .ok (a123, b124)).bind (fun d => m_law_is d.1 d.2.1 d.2.2.1)).bind fun a125 => .ok (!a125))).bind fun x127 => if x127 = true then (Res.ok false) else (((((((Res.ok v_law_x_86).bind fun a128 => (Res.ok v_law_y_91).bind fun b129 => qMul a128 (.q b129)).bind fun a138 => (((Res.ok v_law_a_20).bind fun a130 => (Res.ok v_law_c_46).bind fun b131 => mulI a130 b131).bind fun a136 => (((Res.ok v_law_b_35).bind fun a132 => (Res.ok s69).bind fun b133 => mulI a132 b133).bind fun a134 => (Res.ok ()).bind fun b135 => .ok (a134, b135)).bind fun b137 => .ok (a136, b137)).bind fun b139 => .ok (a138, b139)).bind (fun d => m_law_is d.1 d.2.1 d.2.2.1)).bind fun a140 => .ok (!a140)).bind fun a162 => if a162 = true then .ok true else ((((((Res.ok v_law_x_86).bind fun a141 => qNeg a141).bind fun a147 => (((Res.ok v_law_a_20).bind fun a142 => .ok (-a142)).bind fun a145 => ((Res.ok v_law_b_35).bind fun a143 => (Res.ok ()).bind fun b144 => .ok (a143, b144)).bind fun b146 => .ok (a145, b146)).bind fun b148 => .ok (a147, b148)).bind (fun d => m_law_is d.1 d.2.1 d.2.2.1)).bind fun a149 => .ok (!a149)).bind fun a161 => if a161 = true then .ok true else ((((((Res.ok v_law_x_86).bind fun a150 => (Res.ok ()).bind fun b151 => .ok (a150, b151)).bind (fun d => qAbs d.1)).bind fun a158 => ((((Res.ok v_law_a_20).bind fun a152 => (Res.ok ()).bind fun b153 => .ok (a152, b153)).bind (fun d => .ok (if d.1 < 0 then -d.1 else d.1))).bind fun a156 => ((Res.ok v_law_b_35).bind fun a154 => (Res.ok ()).bind fun b155 => .ok (a154, b155)).bind fun b157 => .ok (a156, b157)).bind fun b159 => .ok (a158, b159)).bind (fun d => m_law_is d.1 d.2.1 d.2.2.1)).bind fun a160 => .ok (!a160)))).bind fun x163 => if x163 = true then (Res.ok false) else (((((((Res.ok v_law_x_86).bind fun a164 => (Res.ok v_law_n_81).bind fun b165 => qAdd a164 (.i b165)).bind fun a174 => (((Res.ok v_law_a_20).bind fun a168 => ((Res.ok v_law_n_81).bind fun a166 => (Res.ok v_law_b_35).bind fun b167 => mulI a166 b167).bind fun b169 => .ok (a168 + b169)).bind fun a172 => ((Res.ok v_law_b_35).bind fun a170 => (Res.ok ()).bind fun b171 => .ok (a170, b171)).bind fun b173 => .ok (a172, b173)).bind fun b175 => .ok (a174, b175)).bind (fun d => m_law_is d.1 d.2.1 d.2.2.1)).bind fun a176 => .ok (!a176)).bind fun a190 => if a190 = true then .ok true else (((((Res.ok v_law_n_81).bind fun a177 => (Res.ok v_law_x_86).bind fun b178 => qRadd b178 a177).bind fun a187 => (((Res.ok v_law_a_20).bind fun a181 => ((Res.ok v_law_n_81).bind fun a179 => (Res.ok v_law_b_35).bind fun b180 => mulI a179 b180).bind fun b182 => .ok (a181 + b182)).bind fun a185 => ((Res.ok v_law_b_35).bind fun a183 => (Res.ok ()).bind fun b184 => .ok (a183, b184)).bind fun b186 => .ok (a185, b186)).bind fun b188 => .ok (a187, b188)).bind (fun d => m_law_is d.1 d.2.1 d.2.2.1)).bind fun a189 => .ok (!a189))).bind fun x191 => if x191 = true then (Res.ok false) else (((((((Res.ok v_law_x_86).bind fun a192 => (Res.ok v_law_n_81).bind fun b193 => qSub a192 (.i b193)).bind fun a202 => (((Res.ok v_law_a_20).bind fun a196 => ((Res.ok v_law_n_81).bind fun a194 => (Res.ok v_law_b_35).bind fun b195 => mulI a194 b195).bind fun b197 => .ok (a196 - b197)).bind fun a200 => ((Res.ok v_law_b_35).bind fun a198 => (Res.ok ()).bind fun b199 => .ok (a198, b199)).bind fun b201 => .ok (a200, b201)).bind fun b203 => .ok (a202, b203)).bind (fun d => m_law_is d.1 d.2.1 d.2.2.1)).bind fun a204 => .ok (!a204)).bind fun a218 => if a218 = true then .ok true else (((((Res.ok v_law_n_81).bind fun a205 => (Res.ok v_law_x_86).bind fun b206 => qRsub b206 a205).bind fun a215 => ((((Res.ok v_law_n_81).bind fun a207 => (Res.ok v_law_b_35).bind fun b208 => mulI a207 b208).bind fun a209 => (Res.ok v_law_a_20).bind fun b210 => .ok (a209 - b210)).bind fun a213 => ((Res.ok v_law_b_35).bind fun a211 => (Res.ok ()).bind fun b212 => .ok (a211, b212)).bind fun b214 => .ok (a213, b214)).bind fun b216 => .ok (a215, b216)).bind (fun d => m_law_is d.1 d.2.1 d.2.2.1)).bind fun a217 => .ok (!a217))).bind fun x219 => if x219 = true then (Res.ok false) else (((((((Res.ok v_law_x_86).bind fun a220 => (Res.ok v_law_n_81).bind fun b221 => qMul a220 (.i b221)).bind fun a228 => (((Res.ok v_law_a_20).bind fun a222 => (Res.ok v_law_n_81).bind fun b223 => mulI a222 b223).bind fun a226 => ((Res.ok v_law_b_35).bind fun a224 => (Res.ok ()).bind fun b225 => .ok (a224, b225)).bind fun b227 => .ok (a226, b227)).bind fun b229 => .ok (a228, b229)).bind (fun d => m_law_is d.1 d.2.1 d.2.2.1)).bind fun a230 => .ok (!a230)).bind fun a242 => if a242 = true then .ok true else (((((Res.ok v_law_n_81).bind fun a231 => (Res.ok v_law_x_86).bind fun b232 => qRmul b232 a231).bind fun a239 => (((Res.ok v_law_a_20).bind fun a233 => (Res.ok v_law_n_81).bind fun b234 => mulI a233 b234).bind fun a237 => ((Res.ok v_law_b_35).bind fun a235 => (Res.ok ()).bind fun b236 => .ok (a235, b236)).bind fun b238 => .ok (a237, b238)).bind fun b240 => .ok (a239, b240)).bind (fun d => m_law_is d.1 d.2.1 d.2.2.1)).bind fun a241 => .ok (!a241))).bind fun x243 => if x243 = true then (Res.ok false) else ((((((Res.ok v_law_x_86).bind fun a244 => (Res.ok ()).bind fun b245 => .ok (a244, b245)).bind (fun d => qBool d.1)).bind fun a248 => ((Res.ok v_law_a_20).bind fun a246 => (Res.ok (0 : Int)).bind fun b247 => .ok (!decide (a246 = b247))).bind fun b249 => .ok (!decide (a248 = b249))).bind fun a256 => if a256 = true then .ok true else ((((Res.ok v_law_y_91).bind fun a250 => (Res.ok ()).bind fun b251 => .ok (a250, b251)).bind (fun d => qBool d.1)).bind fun a254 => ((Res.ok v_law_c_46).bind fun a252 => (Res.ok (0 : Int)).bind fun b253 => .ok (!decide (a252 = b253))).bind fun b255 => .ok (!decide (a254 = b255)))).bind fun x257 => if x257 = true then (Res.ok false) else ((((((Res.ok v_law_x_86).bind fun a269 => (((Res.ok v_law_y_91).bind fun a258 => .ok (Num.q a258)).bind fun a267 => (((Res.ok v_law_a_20).bind fun a259 => (Res.ok s69).bind fun b260 => mulI a259 b260).bind fun a265 => (((Res.ok v_law_b_35).bind fun a261 => (Res.ok v_law_c_46).bind fun b262 => mulI a261 b262).bind fun a263 => (Res.ok ()).bind fun b264 => .ok (a263, b264)).bind fun b266 => .ok (a265, b266)).bind fun b268 => .ok (a267, b268)).bind fun b270 => .ok (a269, b270)).bind (fun d => m_law_over d.1 d.2.1 d.2.2.1 d.2.2.2.1)).bind fun a271 => .ok (!a271)).bind fun a299 => if a299 = true then .ok true else (((((Res.ok v_law_y_91).bind fun a283 => (((Res.ok v_law_x_86).bind fun a272 => .ok (Num.q a272)).bind fun a281 => (((Res.ok v_law_c_46).bind fun a273 => (Res.ok v_law_b_35).bind fun b274 => mulI a273 b274).bind fun a279 => (((Res.ok s69).bind fun a275 => (Res.ok v_law_a_20).bind fun b276 => mulI a275 b276).bind fun a277 => (Res.ok ()).bind fun b278 => .ok (a277, b278)).bind fun b280 => .ok (a279, b280)).bind fun b282 => .ok (a281, b282)).bind fun b284 => .ok (a283, b284)).bind (fun d => m_law_over d.1 d.2.1 d.2.2.1 d.2.2.2.1)).bind fun a285 => .ok (!a285)).bind fun a298 => if a298 = true then .ok true else ((((Res.ok v_law_x_86).bind fun a295 => (((Res.ok v_law_n_81).bind fun a286 => .ok (Num.i a286)).bind fun a293 => ((Res.ok v_law_a_20).bind fun a291 => (((Res.ok v_law_b_35).bind fun a287 => (Res.ok v_law_n_81).bind fun b288 => mulI a287 b288).bind fun a289 => (Res.ok ()).bind fun b290 => .ok (a289, b290)).bind fun b292 => .ok (a291, b292)).bind fun b294 => .ok (a293, b294)).bind fun b296 => .ok (a295, b296)).bind (fun d => m_law_over d.1 d.2.1 d.2.2.1 d.2.2.2.1)).bind fun a297 => .ok (!a297)))).bind fun x300 => if x300 = true then (Res.ok false) else ((((Res.ok v_law_a_20).bind fun a307 => ((Res.ok v_law_b_35).bind fun a305 => ((Res.ok v_law_c_46).bind fun a303 => ((Res.ok s69).bind fun a301 => (Res.ok ()).bind fun b302 => .ok (a301, b302)).bind fun b304 => .ok (a303, b304)).bind fun b306 => .ok (a305, b306)).bind fun b308 => .ok (a307, b308)).bind (fun d => m_law_in_place d.1 d.2.1 d.2.2.1 d.2.2.2.1)).bind fun a322 => if a322 = true then ((((Res.ok v_law_x_86).bind fun a313 => ((Res.ok v_law_a_20).bind fun a311 => ((Res.ok v_law_b_35).bind fun a309 => (Res.ok ()).bind fun b310 => .ok (a309, b310)).bind fun b312 => .ok (a311, b312)).bind fun b314 => .ok (a313, b314)).bind (fun d => m_law_is d.1 d.2.1 d.2.2.1)).bind fun a321 => if a321 = true then (((Res.ok v_law_y_91).bind fun a319 => ((Res.ok v_law_c_46).bind fun a317 => ((Res.ok s69).bind fun a315 => (Res.ok ()).bind fun b316 => .ok (a315, b316)).bind fun b318 => .ok (a317, b318)).bind fun b320 => .ok (a319, b320)).bind (fun d => m_law_is d.1 d.2.1 d.2.2.1)) else .ok false) else .ok false)))))))))))))))))
abbrev C_law (P : Program) (w : World) (K : PySem.W.Frag) (mg : Str → Option Value) (base : Heap) : Prop := FnR P w K mg base (L2.CX P w) 10 (He.ga K "law") (spF K (aCons (rdL K (rp rInt)) aNil) (fun d => m_law d.1) (rp rBl))
theorem fn_law {P : Program} {w : World} {K : PySem.W.Frag} {mg : Str → Option Value} {base : Heap} (T : Txt K mg) (c_law_cell : C_law_cell P w K mg base) (c_law_number : C_law_number P w K mg base) (c_Fraction_2 : C_Fraction_2 P w K mg base) (c_Fraction_add : C_Fraction_add P w K mg base) (c_law_is : C_law_is P w K mg base) (c_Fraction_sub : C_Fraction_sub P w K mg base) (c_Fraction_mul : C_Fraction_mul P w K mg base) (c_Fraction_neg : C_Fraction_neg P w K mg base) (c_Fraction_abs : C_Fraction_abs P w K mg base) (c_Fraction_radd : C_Fraction_radd P w K mg base) (c_Fraction_rsub : C_Fraction_rsub P w K mg base) (c_Fraction_rmul : C_Fraction_rmul P w K mg base) (c_Fraction_bool : C_Fraction_bool P w K mg base) (c_law_over : C_law_over P w K mg base) (c_law_in_place : C_law_in_place P w K mg base) {fd : FuncData} (F : FunD K "law" "law" (defArgs s_law) (defBody s_law) (defScope s_law) [] [] (He.ga K "law") fd) : FnOk P w K mg base (L2.CX P w) 10 (He.ga K "law") fd ["_law_script"] (spF K (aCons (rdL K (rp rInt)) aNil) (fun d => m_law d.1) (rp rBl)) := by
  refine FunD.fn (k := 9) (N := ["_law_script", "_law_choice", "_law_a", "_law_b", "_law_c", "_law_d", "_law_n", "_law_x", "_law_y"]) (ps := ["_law_script"]) F sc_law (fun I H vs d h => ?_) (fun cdv A outer s I0 H0 E vs d hr sm h => ?_)
  · obtain ⟨v0, _, rfl, h0, rfl⟩ := h; rfl
  obtain ⟨v0, _, rfl, h0, rfl⟩ := h
  have hx : ∀ {ctx : List (Option SF)} {mem : List MF} (I H : Hp) (σ : St) (d : Option Addr), Stt I0 H0 ctx mem I H σ → Fr H0 d → bK I0 H0 I H σ d := fun _ _ _ _ s f => ⟨s.fm, f⟩
  have tk : Takes (bx P w K mg base ["_law_script", "_law_choice", "_law_a", "_law_b", "_law_c", "_law_d", "_law_n", "_law_x", "_law_y"] "law" (defScope s_law) (He.ga K "law") cdv A outer s H0 E) (bW E) := takes_of rfl rfl rfl rfl
  obtain ⟨p_law_script, _⟩ := d
  exact ⟨Stt I0 H0 [some (SF.mk (fun I v x => (rdL K (rp rInt)) I H0 v x) p_law_script), none, none, none, none, none, none, none, none] [], Stt.start sm ⟨h0, ini_nil rfl⟩ rfl (by simp), (JR.seq (J1.cx (c' := fun v_law_choice_11 => [some (SF.mk (fun I v x => (rdL K (rp rInt)) I H0 v x) p_law_script), some (SF.mk rInt v_law_choice_11), none, none, none, none, none, none, none]) (J1.set 1 (JE.bin (JE.callTy (JA.cons (JE.call (JA.cons (JE.varP 0 (r := (rdL K (rp rInt)))) (JA.cons JE.int JA.nil)) (cj_of c_law_cell (hr.mono (by decide)) tk) T.g_law_cell T.k_law_cell) JA.nil) cj_int T.n_int boot_int) (JE.bin JE.int JE.int opj_pow) opj_mod) hx sc_law.nd)) fun v_law_choice_11 => (JR.seq (J1.cx (c' := fun v_law_a_20 => [some (SF.mk (fun I v x => (rdL K (rp rInt)) I H0 v x) p_law_script), some (SF.mk rInt v_law_choice_11), some (SF.mk rInt v_law_a_20), none, none, none, none, none, none]) (J1.set 2 (JE.call (JA.cons (JE.call (JA.cons (JE.varP 0 (r := (rdL K (rp rInt)))) (JA.cons JE.int JA.nil)) (cj_of c_law_cell (hr.mono (by decide)) tk) T.g_law_cell T.k_law_cell) (JA.cons (JE.var 1) JA.nil)) (cj_of c_law_number (hr.mono (by decide)) tk) T.g_law_number T.k_law_number) hx sc_law.nd)) fun v_law_a_20 => (JR.seq (J1.cx (c' := fun v_law_b_35 => [some (SF.mk (fun I v x => (rdL K (rp rInt)) I H0 v x) p_law_script), some (SF.mk rInt v_law_choice_11), some (SF.mk rInt v_law_a_20), some (SF.mk rInt v_law_b_35), none, none, none, none, none]) (J1.set 3 (JE.bin JE.int (JE.callB (JA.cons (JE.call (JA.cons (JE.call (JA.cons (JE.varP 0 (r := (rdL K (rp rInt)))) (JA.cons JE.int JA.nil)) (cj_of c_law_cell (hr.mono (by decide)) tk) T.g_law_cell T.k_law_cell) (JA.cons (JE.bin (JE.var 1) JE.int opj_fdiv) JA.nil)) (cj_of c_law_number (hr.mono (by decide)) tk) T.g_law_number T.k_law_number) JA.nil) cj_abs T.n_abs boot_abs) opj_add) hx sc_law.nd)) fun v_law_b_35 => (JR.seq (J1.cx (c' := fun v_law_c_46 => [some (SF.mk (fun I v x => (rdL K (rp rInt)) I H0 v x) p_law_script), some (SF.mk rInt v_law_choice_11), some (SF.mk rInt v_law_a_20), some (SF.mk rInt v_law_b_35), some (SF.mk rInt v_law_c_46), none, none, none, none]) (J1.set 4 (JE.call (JA.cons (JE.call (JA.cons (JE.varP 0 (r := (rdL K (rp rInt)))) (JA.cons JE.int JA.nil)) (cj_of c_law_cell (hr.mono (by decide)) tk) T.g_law_cell T.k_law_cell) (JA.cons (JE.bin (JE.var 1) JE.int opj_fdiv) JA.nil)) (cj_of c_law_number (hr.mono (by decide)) tk) T.g_law_number T.k_law_number) hx sc_law.nd)) fun v_law_c_46 => (JR.seq (J1.cx (c' := fun v_law_d_61 => [some (SF.mk (fun I v x => (rdL K (rp rInt)) I H0 v x) p_law_script), some (SF.mk rInt v_law_choice_11), some (SF.mk rInt v_law_a_20), some (SF.mk rInt v_law_b_35), some (SF.mk rInt v_law_c_46), some (SF.mk rInt v_law_d_61), none, none, none]) (J1.set 5 (JE.bin JE.int (JE.callB (JA.cons (JE.call (JA.cons (JE.call (JA.cons (JE.varP 0 (r := (rdL K (rp rInt)))) (JA.cons JE.int JA.nil)) (cj_of c_law_cell (hr.mono (by decide)) tk) T.g_law_cell T.k_law_cell) (JA.cons (JE.bin (JE.var 1) JE.int opj_fdiv) JA.nil)) (cj_of c_law_number (hr.mono (by decide)) tk) T.g_law_number T.k_law_number) JA.nil) cj_abs T.n_abs boot_abs) opj_add) hx sc_law.nd)) fun v_law_d_61 => (JR.seq (J1.if (S := Int) (G' := fun s69 => Stt I0 H0 [some (SF.mk (fun I v x => (rdL K (rp rInt)) I H0 v x) p_law_script), some (SF.mk rInt v_law_choice_11), some (SF.mk rInt v_law_a_20), some (SF.mk rInt v_law_b_35), some (SF.mk rInt v_law_c_46), some (SF.mk rInt s69), none, none, none] []) (JT.cmp (JE.bin (JE.bin (JE.var 1) JE.int opj_fdiv) JE.int opj_mod) JE.int opj_eq) (JN.seq (J1.cx (c' := fun v_law_d_68 => [some (SF.mk (fun I v x => (rdL K (rp rInt)) I H0 v x) p_law_script), some (SF.mk rInt v_law_choice_11), some (SF.mk rInt v_law_a_20), some (SF.mk rInt v_law_b_35), some (SF.mk rInt v_law_c_46), some (SF.mk rInt v_law_d_68), none, none, none]) (J1.set 5 (JE.var 3) hx sc_law.nd)) fun v_law_d_68 => (JN.nil fun _ _ _ h => h)) (JN.nil fun _ _ _ h => h) hx) fun s69 => (JR.seq (J1.cx (c' := fun v_law_n_81 => [some (SF.mk (fun I v x => (rdL K (rp rInt)) I H0 v x) p_law_script), some (SF.mk rInt v_law_choice_11), some (SF.mk rInt v_law_a_20), some (SF.mk rInt v_law_b_35), some (SF.mk rInt v_law_c_46), some (SF.mk rInt s69), some (SF.mk rInt v_law_n_81), none, none]) (J1.set 6 (JE.call (JA.cons (JE.call (JA.cons (JE.varP 0 (r := (rdL K (rp rInt)))) (JA.cons JE.int JA.nil)) (cj_of c_law_cell (hr.mono (by decide)) tk) T.g_law_cell T.k_law_cell) (JA.cons (JE.bin (JE.var 1) JE.int opj_fdiv) JA.nil)) (cj_of c_law_number (hr.mono (by decide)) tk) T.g_law_number T.k_law_number) hx sc_law.nd)) fun v_law_n_81 => (JR.seq (J1.cx (c' := fun v_law_x_86 => [some (SF.mk (fun I v x => (rdL K (rp rInt)) I H0 v x) p_law_script), some (SF.mk rInt v_law_choice_11), some (SF.mk rInt v_law_a_20), some (SF.mk rInt v_law_b_35), some (SF.mk rInt v_law_c_46), some (SF.mk rInt s69), some (SF.mk rInt v_law_n_81), some (SF.mk (rFrac K) v_law_x_86), none]) (J1.set 7 (JE.call (JA.cons (JE.var 2) (JA.cons (JE.var 3) JA.nil)) (c_Fraction_2 _ _ rfl rfl rfl rfl rfl (hr.mono (by decide)) tk) T.g_Fraction T.mk_Fraction.kp) hx sc_law.nd)) fun v_law_x_86 => (JR.seq (J1.cx (c' := fun v_law_y_91 => [some (SF.mk (fun I v x => (rdL K (rp rInt)) I H0 v x) p_law_script), some (SF.mk rInt v_law_choice_11), some (SF.mk rInt v_law_a_20), some (SF.mk rInt v_law_b_35), some (SF.mk rInt v_law_c_46), some (SF.mk rInt s69), some (SF.mk rInt v_law_n_81), some (SF.mk (rFrac K) v_law_x_86), some (SF.mk (rFrac K) v_law_y_91)]) (J1.set 8 (JE.call (JA.cons (JE.var 4) (JA.cons (JE.var 5) JA.nil)) (c_Fraction_2 _ _ rfl rfl rfl rfl rfl (hr.mono (by decide)) tk) T.g_Fraction T.mk_Fraction.kp) hx sc_law.nd)) fun v_law_y_91 => (JR.ifR (JT.bool (JW.or (JT.not (JT.of (JE.call (JA.cons (JE.bin (JE.var 7) (JE.var 8) (opj_qq (op := .Add) T.o_Fraction T.om_Fraction_add c_Fraction_add (hr.mono (by decide)) tk)) (JA.cons (JE.bin (JE.bin (JE.var 2) (JE.var 5) opj_mul) (JE.bin (JE.var 4) (JE.var 3) opj_mul) opj_add) (JA.cons (JE.bin (JE.var 3) (JE.var 5) opj_mul) JA.nil))) (cj_of c_law_is (hr.mono (by decide)) tk) T.g_law_is T.k_law_is))) (JW.or1 (JT.not (JT.of (JE.call (JA.cons (JE.bin (JE.var 7) (JE.var 8) (opj_qq (op := .Sub) T.o_Fraction T.om_Fraction_sub c_Fraction_sub (hr.mono (by decide)) tk)) (JA.cons (JE.bin (JE.bin (JE.var 2) (JE.var 5) opj_mul) (JE.bin (JE.var 4) (JE.var 3) opj_mul) opj_sub) (JA.cons (JE.bin (JE.var 3) (JE.var 5) opj_mul) JA.nil))) (cj_of c_law_is (hr.mono (by decide)) tk) T.g_law_is T.k_law_is)))))) (JR.ret JE.bl hx) (JR.ifR (JT.bool (JW.or (JT.not (JT.of (JE.call (JA.cons (JE.bin (JE.var 7) (JE.var 8) (opj_qq (op := .Mult) T.o_Fraction T.om_Fraction_mul c_Fraction_mul (hr.mono (by decide)) tk)) (JA.cons (JE.bin (JE.var 2) (JE.var 4) opj_mul) (JA.cons (JE.bin (JE.var 3) (JE.var 5) opj_mul) JA.nil))) (cj_of c_law_is (hr.mono (by decide)) tk) T.g_law_is T.k_law_is))) (JW.or (JT.not (JT.of (JE.call (JA.cons (JE.un (JE.var 7) (unj_own T.om_Fraction_neg insF (cj_of c_Fraction_neg (hr.mono (by decide)) tk))) (JA.cons (JE.un (JE.var 2) unj_neg) (JA.cons (JE.var 3) JA.nil))) (cj_of c_law_is (hr.mono (by decide)) tk) T.g_law_is T.k_law_is))) (JW.or1 (JT.not (JT.of (JE.call (JA.cons (JE.callB (JA.cons (JE.var 7) JA.nil) (cj_absO T.om_Fraction_abs insF (hr.mono (by decide)) tk c_Fraction_abs) T.n_abs boot_abs) (JA.cons (JE.callB (JA.cons (JE.var 2) JA.nil) cj_abs T.n_abs boot_abs) (JA.cons (JE.var 3) JA.nil))) (cj_of c_law_is (hr.mono (by decide)) tk) T.g_law_is T.k_law_is))))))) (JR.ret JE.bl hx) (JR.ifR (JT.bool (JW.or (JT.not (JT.of (JE.call (JA.cons (JE.bin (JE.var 7) (JE.var 6) (opj_qi (op := .Add) T.o_Fraction T.om_Fraction_add T.om_Fraction_radd T.im_add.choose_spec T.im_radd.choose_spec c_Fraction_add (hr.mono (by decide)) tk)) (JA.cons (JE.bin (JE.var 2) (JE.bin (JE.var 6) (JE.var 3) opj_mul) opj_add) (JA.cons (JE.var 3) JA.nil))) (cj_of c_law_is (hr.mono (by decide)) tk) T.g_law_is T.k_law_is))) (JW.or1 (JT.not (JT.of (JE.call (JA.cons (JE.bin (JE.var 6) (JE.var 7) (opj_addR T.o_Fraction T.om_Fraction_add T.om_Fraction_radd insF (cj_of c_Fraction_radd (hr.mono (by decide)) tk))) (JA.cons (JE.bin (JE.var 2) (JE.bin (JE.var 6) (JE.var 3) opj_mul) opj_add) (JA.cons (JE.var 3) JA.nil))) (cj_of c_law_is (hr.mono (by decide)) tk) T.g_law_is T.k_law_is)))))) (JR.ret JE.bl hx) (JR.ifR (JT.bool (JW.or (JT.not (JT.of (JE.call (JA.cons (JE.bin (JE.var 7) (JE.var 6) (opj_qi (op := .Sub) T.o_Fraction T.om_Fraction_sub T.om_Fraction_rsub T.im_sub.choose_spec T.im_rsub.choose_spec c_Fraction_sub (hr.mono (by decide)) tk)) (JA.cons (JE.bin (JE.var 2) (JE.bin (JE.var 6) (JE.var 3) opj_mul) opj_sub) (JA.cons (JE.var 3) JA.nil))) (cj_of c_law_is (hr.mono (by decide)) tk) T.g_law_is T.k_law_is))) (JW.or1 (JT.not (JT.of (JE.call (JA.cons (JE.bin (JE.var 6) (JE.var 7) (opj_subR T.o_Fraction T.om_Fraction_sub T.om_Fraction_rsub insF (cj_of c_Fraction_rsub (hr.mono (by decide)) tk))) (JA.cons (JE.bin (JE.bin (JE.var 6) (JE.var 3) opj_mul) (JE.var 2) opj_sub) (JA.cons (JE.var 3) JA.nil))) (cj_of c_law_is (hr.mono (by decide)) tk) T.g_law_is T.k_law_is)))))) (JR.ret JE.bl hx) (JR.ifR (JT.bool (JW.or (JT.not (JT.of (JE.call (JA.cons (JE.bin (JE.var 7) (JE.var 6) (opj_qi (op := .Mult) T.o_Fraction T.om_Fraction_mul T.om_Fraction_rmul T.im_mul.choose_spec T.im_rmul.choose_spec c_Fraction_mul (hr.mono (by decide)) tk)) (JA.cons (JE.bin (JE.var 2) (JE.var 6) opj_mul) (JA.cons (JE.var 3) JA.nil))) (cj_of c_law_is (hr.mono (by decide)) tk) T.g_law_is T.k_law_is))) (JW.or1 (JT.not (JT.of (JE.call (JA.cons (JE.bin (JE.var 6) (JE.var 7) (opj_mulR T.o_Fraction T.om_Fraction_mul T.om_Fraction_rmul insF (cj_of c_Fraction_rmul (hr.mono (by decide)) tk))) (JA.cons (JE.bin (JE.var 2) (JE.var 6) opj_mul) (JA.cons (JE.var 3) JA.nil))) (cj_of c_law_is (hr.mono (by decide)) tk) T.g_law_is T.k_law_is)))))) (JR.ret JE.bl hx) (JR.ifR (JT.bool (JW.or (JT.cmp (JE.callTy (JA.cons (JE.var 7) JA.nil) (cj_boolO T.om_Fraction_bool insF (hr.mono (by decide)) tk c_Fraction_bool) T.n_bool boot_bool) (JE.cmp (JE.var 2) JE.int opj_ne) opj_neB) (JW.or1 (JT.cmp (JE.callTy (JA.cons (JE.var 8) JA.nil) (cj_boolO T.om_Fraction_bool insF (hr.mono (by decide)) tk c_Fraction_bool) T.n_bool boot_bool) (JE.cmp (JE.var 4) JE.int opj_ne) opj_neB)))) (JR.ret JE.bl hx) (JR.ifR (JT.bool (JW.or (JT.not (JT.of (JE.call (JA.cons (JE.var 7) (JA.cons (JE.numq (JE.var 8)) (JA.cons (JE.bin (JE.var 2) (JE.var 5) opj_mul) (JA.cons (JE.bin (JE.var 3) (JE.var 4) opj_mul) JA.nil)))) (cj_of c_law_over (hr.mono (by decide)) tk) T.g_law_over T.k_law_over))) (JW.or (JT.not (JT.of (JE.call (JA.cons (JE.var 8) (JA.cons (JE.numq (JE.var 7)) (JA.cons (JE.bin (JE.var 4) (JE.var 3) opj_mul) (JA.cons (JE.bin (JE.var 5) (JE.var 2) opj_mul) JA.nil)))) (cj_of c_law_over (hr.mono (by decide)) tk) T.g_law_over T.k_law_over))) (JW.or1 (JT.not (JT.of (JE.call (JA.cons (JE.var 7) (JA.cons (JE.num (JE.var 6)) (JA.cons (JE.var 2) (JA.cons (JE.bin (JE.var 3) (JE.var 6) opj_mul) JA.nil)))) (cj_of c_law_over (hr.mono (by decide)) tk) T.g_law_over T.k_law_over))))))) (JR.ret JE.bl hx) (JR.ret (JE.and (JE.call (JA.cons (JE.var 2) (JA.cons (JE.var 3) (JA.cons (JE.var 4) (JA.cons (JE.var 5) JA.nil)))) (cj_of c_law_in_place (hr.mono (by decide)) tk) T.g_law_in_place T.k_law_in_place) (JE.and (JE.call (JA.cons (JE.var 7) (JA.cons (JE.var 2) (JA.cons (JE.var 3) JA.nil))) (cj_of c_law_is (hr.mono (by decide)) tk) T.g_law_is T.k_law_is) (JE.one (JE.call (JA.cons (JE.var 8) (JA.cons (JE.var 4) (JA.cons (JE.var 5) JA.nil))) (cj_of c_law_is (hr.mono (by decide)) tk) T.g_law_is T.k_law_is)))) hx) hx) hx) hx) hx) hx) hx) hx))))))))))⟩
end L2.Tr

namespace L2.Tr
open PySem PySem.Spec PyProof.Rows
theorem cell_eq (ns : List Int) (k : Int) (hk : 0 ≤ k) : m_law_cell ns k = .ok (ns.getD k.toNat 0) := by
  unfold m_law_cell
  simp only [Res.ok_bind]
  by_cases h : k < (ns.length : Int)
  · simp only [h, decide_true, if_true]
    have hl : k.toNat < ns.length := by omega
    have e : atM ns ((k.toNat : Nat) : Int) = .ok (ns.getD k.toNat 0) := atM_nat (by simp [List.getD, hl])
    rwa [Int.toNat_of_nonneg hk] at e
  · simp only [h, decide_false, Bool.false_eq_true, if_false]
    have : ns[k.toNat]? = none := List.getElem?_eq_none (by omega)
    simp [List.getD, this]
theorem number_eq (c ch : Int) : ∃ v, m_law_number c ch = .ok v ∧ v.natAbs < 2 ^ 139 := by
  unfold m_law_number
  simp only [Res.ok_bind]
  rw [show powI 10 40 = .ok (10 ^ 40) from rfl]
  simp only [Res.ok_bind]
  rw [modI_ok (by decide), fdivI_ok (by decide) (by decide)]
  simp only [Res.ok_bind]
  rw [modI_ok (by decide), Int.fmod_eq_emod_of_nonneg ch (show (0 : Int) ≤ 3 by decide)]
  simp only [Res.ok_bind]
  have key : ∀ m : Int, 0 < m → m ≤ 10 ^ 40 → ∃ v, (modI c m).bind (fun z => if decide (Int.fmod (Int.fdiv ch 3) 2 = 1) = true then Res.ok (-z) else Res.ok z) = .ok v ∧ v.natAbs < 2 ^ 139 := fun m h0 h1 => by
    rw [modI_ok (by omega)]
    have a := Int.fmod_nonneg_of_pos c h0
    have b := Int.fmod_lt_of_pos c h0
    have q : (10 : Int) ^ 40 < 2 ^ 139 := by decide +kernel
    simp only [Res.ok_bind]
    split
    · exact ⟨_, rfl, by omega⟩
    · exact ⟨_, rfl, by omega⟩
  have h3 : ch % 3 = 0 ∨ ch % 3 = 1 ∨ ch % 3 = 2 := by omega
  rcases h3 with e | e | e <;> rw [e]
  · exact key 12 (by decide) (by decide)
  · exact key 1000 (by decide) (by decide)
  · exact key (10 ^ 40) (by decide) (by decide)
theorem lower_eq (t b : Int) {s : Nat} [k : Bd b s] [z : NZ b] (hs : s ≤ 4000) : m_law_lower t b = .ok [(Rat.divInt t b).num, ((Rat.divInt t b).den : Int)] := by
  unfold m_law_lower
  simp only [Res.ok_bind, absN]
  rw [cd_loop (fun s => rfl) (fun s h => by simp only [Res.ok_bind, modI_ok h]) _ _ _ (by omega)]
  simp only [Res.ok_bind]
  have hg : (Nat.gcd b.natAbs t.natAbs : Int) = (Int.gcd t b : Int) := by rw [Int.gcd, Nat.gcd_comm]
  rw [hg]
  have key : ∀ dv : Int, dv = (if b < 0 then -(Int.gcd t b : Int) else (Int.gcd t b : Int)) → ((fdivI t dv).bind fun x => ((fdivI b dv).bind fun y => .ok [y]).bind fun l => .ok (x :: l)) = Res.ok [(Rat.divInt t b).num, ((Rat.divInt t b).den : Int)] := fun dv hd => by
    obtain ⟨e1, e2⟩ := div_num z.ne dv hd
    have hg : Int.gcd t b ≠ 0 := fun h => z.ne (Int.gcd_eq_zero_iff.mp h).2
    have na : dv.natAbs = Int.gcd t b := by rw [hd]; split <;> omega
    have hl : (Int.gcd t b) ≤ b.natAbs := Int.gcd_le_natAbs_right t z.ne
    have hl2 := log_big (Nat.le_trans hl (k.big hs))
    rw [fdivI_ok (by omega) (by rw [na]; omega), fdivI_ok (by omega) (by rw [na]; omega), e1, e2]
    rfl
  by_cases hlt : b < 0
  · simp only [hlt, decide_true, if_true, Res.ok_bind]
    exact key _ (by rw [if_pos hlt])
  · simp only [hlt, decide_false, Bool.false_eq_true, if_false, Res.ok_bind]
    exact key _ (by rw [if_neg hlt])
theorem is_ok {q : Rat} {t b : Int} {s : Nat} [k : Bd b s] [z : NZ b] (e : q = Rat.divInt t b) (hs : s ≤ 4000) : m_law_is q t b = .ok true := by
  subst e
  unfold m_law_is
  simp only [Res.ok_bind]
  rw [lower_eq t b hs, qMk_bd hs, qMk_bd hs, divInt_neg2]
  simp [qEq, Num.val]
theorem over_ok {x : Rat} {y : Num} {t b : Int} {s u v : Nat} [k : Bd b s] [hx : SzC x u] [hy : SzC y.val v] (e : b ≠ 0 → x / y.val = Rat.divInt t b) (hz : y.val = 0 ↔ b = 0) (hs : s ≤ 4000) (hu : u ≤ 4000) (hv : v ≤ 4000) : m_law_over x y t b = .ok true := by
  by_cases h : b = 0
  · have h' := hz.mpr h
    cases y with
    | i n => simp only [m_law_over, Res.ok_bind, qOver_err (hx.sz.fits hu) (hy.sz.fits hv) h', h]; rfl
    | q r => simp only [m_law_over, Res.ok_bind, qOver_err (hx.sz.fits hu) (hy.sz.fits hv) h', h]; rfl
  · have h' : y.val ≠ 0 := fun z => h (hz.mp z)
    haveI : NZ b := ⟨h⟩
    have e1 := is_ok (e h) hs
    cases y with
    | i n => simp only [m_law_over, Res.ok_bind, qOver_ok (hx.sz.fits hu) (hy.sz.fits hv) h', tryM, e1, h, decide_false, Bool.not_false, if_true]
    | q r => simp only [m_law_over, Res.ok_bind, qOver_ok (hx.sz.fits hu) (hy.sz.fits hv) h', tryM, e1, h, decide_false, Bool.not_false, if_true]
theorem divInt_zero_iff {a b : Int} (hb : b ≠ 0) : Rat.divInt a b = 0 ↔ a = 0 := by
  have e : (0 : Rat) = Rat.divInt 0 1 := rfl
  rw [e, Rat.divInt_eq_divInt_iff hb (by decide)]
  simp
theorem q_of {a b : Int} : Rat.divInt a b = (a : Rat) / (b : Rat) := Rat.divInt_eq_div a b
theorem place_ok (a b c d : Int) [Bd a 140] [Bd b 140] [Bd c 140] [Bd d 140] [NZ b] [NZ d] : m_law_in_place a b c d = .ok true := by
  have hb : (b : Rat) ≠ 0 := nz_cast NZ.ne
  have hd : (d : Rat) ≠ 0 := nz_cast NZ.ne
  unfold m_law_in_place
  simp (config := {decide := true}) only [Res.ok_bind, mulI_bd, qMk_bd, qAdd_q, qSub_i, qMul_q, qMul_i, qSub_q, qAdd_i]
  rw [is_ok (q := Rat.divInt a b + Rat.divInt c d) (t := a * d + c * b) (b := b * d) (by simp only [q_of, Rat.intCast_mul, Rat.intCast_add, Rat.intCast_sub, Rat.intCast_neg]; grind) (by decide),
    is_ok (q := Rat.divInt a b) (t := a) (b := b) rfl (by decide),
    is_ok (q := Rat.divInt a b + Rat.divInt c d - (c : Rat)) (t := a * d + c * b - c * b * d) (b := b * d) (by simp only [q_of, Rat.intCast_mul, Rat.intCast_add, Rat.intCast_sub, Rat.intCast_neg]; grind) (by decide),
    is_ok (q := Rat.divInt a b * (Rat.divInt a b + Rat.divInt c d - (c : Rat))) (t := a * (a * d + c * b - c * b * d)) (b := b * b * d) (by simp only [q_of, Rat.intCast_mul, Rat.intCast_add, Rat.intCast_sub, Rat.intCast_neg]; grind) (by decide),
    is_ok (q := (Rat.divInt a b + Rat.divInt c d - (c : Rat)) * (c : Rat)) (t := (a * d + c * b - c * b * d) * c) (b := b * d) (by simp only [q_of, Rat.intCast_mul, Rat.intCast_add, Rat.intCast_sub, Rat.intCast_neg]; grind) (by decide),
    is_ok (q := (Rat.divInt a b + Rat.divInt c d - (c : Rat)) * (c : Rat) - Rat.divInt a b) (t := (a * d + c * b - c * b * d) * c - a * d) (b := b * d) (by simp only [q_of, Rat.intCast_mul, Rat.intCast_add, Rat.intCast_sub, Rat.intCast_neg]; grind) (by decide),
    is_ok (q := (Rat.divInt a b + Rat.divInt c d - (c : Rat)) * (c : Rat) - Rat.divInt a b + (d : Rat)) (t := (a * d + c * b - c * b * d) * c - a * d + d * b * d) (b := b * d) (by simp only [q_of, Rat.intCast_mul, Rat.intCast_add, Rat.intCast_sub, Rat.intCast_neg]; grind) (by decide)]
  rfl
theorem law_ok (ns : List Int) (hl : ns.length ≤ 63) : m_law ns = .ok true := by
  unfold m_law
  simp only [Res.ok_bind, cell_eq _ _ (show (0 : Int) ≤ 0 by decide), cell_eq _ _ (show (0 : Int) ≤ 1 by decide), cell_eq _ _ (show (0 : Int) ≤ 2 by decide), cell_eq _ _ (show (0 : Int) ≤ 3 by decide), cell_eq _ _ (show (0 : Int) ≤ 4 by decide), cell_eq _ _ (show (0 : Int) ≤ 5 by decide), show powI 10 9 = .ok (10 ^ 9) from rfl, modI_ok (show (10 ^ 9 : Int) ≠ 0 by decide), fdivI_ok (show (6 : Int) ≠ 0 by decide) (by decide), fdivI_ok (show (12 : Int) ≠ 0 by decide) (by decide), fdivI_ok (show (72 : Int) ≠ 0 by decide) (by decide), fdivI_ok (show (216 : Int) ≠ 0 by decide) (by decide), fdivI_ok (show (648 : Int) ≠ 0 by decide) (by decide), modI_ok (show (3 : Int) ≠ 0 by decide)]
  generalize Int.fmod _ (10 ^ 9) = ch
  obtain ⟨a, ea, ha⟩ := number_eq (ns.getD (Int.toNat 1) 0) ch
  obtain ⟨b0, eb, hb0⟩ := number_eq (ns.getD (Int.toNat 2) 0) (ch.fdiv 6)
  obtain ⟨c, ec, hc⟩ := number_eq (ns.getD (Int.toNat 3) 0) (ch.fdiv 12)
  obtain ⟨d0, ed, hd0⟩ := number_eq (ns.getD (Int.toNat 4) 0) (ch.fdiv 72)
  obtain ⟨n, en, hn⟩ := number_eq (ns.getD (Int.toNat 5) 0) (ch.fdiv 648)
  rw [ea, eb, ec, ed, en]
  simp only [Res.ok_bind, absN]
  have p1 : (2 : Nat) ^ 140 = 2 ^ 139 + 2 ^ 139 := by decide +kernel
  have p2 : (1 : Nat) ≤ 2 ^ 139 := by decide +kernel
  generalize hB : (1 + (b0.natAbs : Int)) = b
  generalize hD : (1 + (d0.natAbs : Int)) = d1
  refine bind_to (fun d => 0 < d ∧ d.natAbs ≤ 2 ^ 140) ?_ ?_
  · by_cases w : Int.fmod (ch.fdiv 216) 3 = 1
    · rw [if_pos (by simpa using w)]
      exact ⟨_, rfl, by omega, by omega⟩
    · rw [if_neg (by simpa using w)]
      exact ⟨_, rfl, by omega, by omega⟩
  rintro d ⟨hd0, hdl⟩
  haveI : Bd a 140 := ⟨by omega⟩
  haveI : Bd b 140 := ⟨by omega⟩
  haveI : Bd c 140 := ⟨by omega⟩
  haveI : Bd d 140 := ⟨hdl⟩
  haveI : Bd n 140 := ⟨by omega⟩
  haveI : NZ b := ⟨by omega⟩
  haveI : NZ d := ⟨by omega⟩
  have hb : (b : Rat) ≠ 0 := nz_cast NZ.ne
  have hd : (d : Rat) ≠ 0 := nz_cast NZ.ne
  simp (config := {decide := true}) only [Res.ok_bind, mulI_bd, qMk_bd, qAdd_q, qSub_i, qMul_q, qMul_i, qSub_q, qAdd_i, qRadd_b, qRsub_b, qRmul_b, qNeg_b, qAbs_b, qBool]
  have za : Rat.divInt a b = 0 ↔ a = 0 := by
    have hb' : b ≠ 0 := NZ.ne
    exact divInt_zero_iff hb'
  have zc : Rat.divInt c d = 0 ↔ c = 0 := by
    have hd' : d ≠ 0 := NZ.ne
    exact divInt_zero_iff hd'
  have eabs : (if Rat.divInt a b < 0 then -Rat.divInt a b else Rat.divInt a b) = Rat.divInt (a.natAbs : Int) b := by
    have e : Rat.divInt a b < 0 ↔ a < 0 := by
      have := divs_lt_int (a := a) (b := b) (n := 0) (by omega)
      simpa using this
    by_cases h : a < 0
    · rw [if_pos (e.mpr h), show (a.natAbs : Int) = -a by omega, Rat.neg_divInt]
    · rw [if_neg (fun z => h (e.mp z)), show (a.natAbs : Int) = a by omega]
  rw [is_ok (q := Rat.divInt a b + Rat.divInt c d) (t := a * d + c * b) (b := b * d) (by simp only [q_of, Rat.intCast_mul, Rat.intCast_add, Rat.intCast_sub, Rat.intCast_neg]; grind) (by decide),
    is_ok (q := Rat.divInt a b - Rat.divInt c d) (t := a * d - c * b) (b := b * d) (by simp only [q_of, Rat.intCast_mul, Rat.intCast_add, Rat.intCast_sub, Rat.intCast_neg]; grind) (by decide),
    is_ok (q := Rat.divInt a b * Rat.divInt c d) (t := a * c) (b := b * d) (by simp only [q_of, Rat.intCast_mul, Rat.intCast_add, Rat.intCast_sub, Rat.intCast_neg]; grind) (by decide),
    is_ok (q := -Rat.divInt a b) (t := -a) (b := b) (by simp only [q_of, Rat.intCast_mul, Rat.intCast_add, Rat.intCast_sub, Rat.intCast_neg]; grind) (by decide),
    is_ok (b := b) eabs (by decide),
    is_ok (q := Rat.divInt a b + (n : Rat)) (t := a + n * b) (b := b) (by simp only [q_of, Rat.intCast_mul, Rat.intCast_add, Rat.intCast_sub, Rat.intCast_neg]; grind) (by decide),
    is_ok (q := (n : Rat) + Rat.divInt a b) (t := a + n * b) (b := b) (by simp only [q_of, Rat.intCast_mul, Rat.intCast_add, Rat.intCast_sub, Rat.intCast_neg]; grind) (by decide),
    is_ok (q := Rat.divInt a b - (n : Rat)) (t := a - n * b) (b := b) (by simp only [q_of, Rat.intCast_mul, Rat.intCast_add, Rat.intCast_sub, Rat.intCast_neg]; grind) (by decide),
    is_ok (q := (n : Rat) - Rat.divInt a b) (t := n * b - a) (b := b) (by simp only [q_of, Rat.intCast_mul, Rat.intCast_add, Rat.intCast_sub, Rat.intCast_neg]; grind) (by decide),
    is_ok (q := Rat.divInt a b * (n : Rat)) (t := a * n) (b := b) (by simp only [q_of, Rat.intCast_mul, Rat.intCast_add, Rat.intCast_sub, Rat.intCast_neg]; grind) (by decide),
    is_ok (q := (n : Rat) * Rat.divInt a b) (t := a * n) (b := b) (by simp only [q_of, Rat.intCast_mul, Rat.intCast_add, Rat.intCast_sub, Rat.intCast_neg]; grind) (by decide),
    is_ok (q := Rat.divInt a b) (t := a) (b := b) rfl (by decide),
    is_ok (q := Rat.divInt c d) (t := c) (b := d) rfl (by decide),
    place_ok,
    over_ok (x := Rat.divInt a b) (y := .q (Rat.divInt c d)) (t := a * d) (b := b * c) (v := 280) (hy := (inferInstance : SzC (Rat.divInt c d) 280)) (fun h => by
      have hc : (c : Rat) ≠ 0 := nz_cast (fun z => h (by rw [z, Int.mul_zero]))
      show Rat.divInt a b / Rat.divInt c d = _
      simp only [q_of, Rat.intCast_mul, Rat.intCast_add, Rat.intCast_sub, Rat.intCast_neg]; grind) (by
      show Rat.divInt c d = 0 ↔ _
      rw [zc, Int.mul_eq_zero]
      have hb' : b ≠ 0 := NZ.ne
      omega) (by decide) (by decide) (by decide),
    over_ok (x := Rat.divInt c d) (y := .q (Rat.divInt a b)) (t := c * b) (b := d * a) (v := 280) (hy := (inferInstance : SzC (Rat.divInt a b) 280)) (fun h => by
      have hc : (a : Rat) ≠ 0 := nz_cast (fun z => h (by rw [z, Int.mul_zero]))
      show Rat.divInt c d / Rat.divInt a b = _
      simp only [q_of, Rat.intCast_mul, Rat.intCast_add, Rat.intCast_sub, Rat.intCast_neg]; grind) (by
      show Rat.divInt a b = 0 ↔ _
      rw [za, Int.mul_eq_zero]
      have hb' : d ≠ 0 := NZ.ne
      omega) (by decide) (by decide) (by decide),
    over_ok (x := Rat.divInt a b) (y := .i n) (t := a) (b := b * n) (v := 140) (hy := (inferInstance : SzC (n : Rat) 140)) (fun h => by
      have hc : (n : Rat) ≠ 0 := nz_cast (fun z => h (by rw [z, Int.mul_zero]))
      show Rat.divInt a b / (n : Rat) = _
      simp only [q_of, Rat.intCast_mul, Rat.intCast_add, Rat.intCast_sub, Rat.intCast_neg]; grind) (by
      show (n : Rat) = 0 ↔ _
      rw [Rat.intCast_eq_zero_iff, Int.mul_eq_zero]
      have hb' : b ≠ 0 := NZ.ne
      omega) (by decide) (by decide) (by decide)]
  simp [za, zc]
end L2.Tr

namespace L2.Tr
open PySem PySem.Spec PyProof.Rows He
def fs : List FB := [fGlo "_law_cell", fKeep "_law_cell", fFree "int", fGlo "_law_number", fKeep "_law_number", fFree "abs", fGlo "Fraction", fMkr "Fraction", fOcl "Fraction", fOMet "Fraction" "__add__", fGlo "_law_is", fKeep "_law_is", fOMet "Fraction" "__sub__", fOMet "Fraction" "__mul__", fOMet "Fraction" "__neg__", fOMet "Fraction" "__abs__", fOMet "Fraction" "__radd__", fIntM "__add__", fIntM "__radd__", fOMet "Fraction" "__rsub__", fIntM "__sub__", fIntM "__rsub__", fOMet "Fraction" "__rmul__", fIntM "__mul__", fIntM "__rmul__", fOMet "Fraction" "__bool__", fFree "bool", fGlo "_law_over", fKeep "_law_over", fGlo "_law_in_place", fKeep "_law_in_place", fFree "len", fFree "isinstance", fNoat "Fraction" "top", fNoat "Fraction" "bottom", fKitT "Fraction" "int" false, fKit "Fraction" "Fraction" true, fGlo "_law_lower", fKeep "_law_lower", fOMet "Fraction" "__eq__", fNf "Fraction", fMeth "Fraction" "over", fExm "BadFraction" "BadFraction" true, fGlo "BadFraction", fGlo "as_fraction", fKeep "as_fraction", fExc "BadFraction", fKitI "int" "Fraction" false, fNoIpl "Fraction" "add", fNoIpl "Fraction" "sub", fNoIpl "Fraction" "mul", fGlo "law", fGlo "common_divisor", fKeep "common_divisor"]
def fnl : List He.DefD := [⟨("_law_cell", none), "_law_cell", "_law_cell", defArgs s_law_cell, defBody s_law_cell, defScope s_law_cell, [], []⟩,
  ⟨("_law_number", none), "_law_number", "_law_number", defArgs s_law_number, defBody s_law_number, defScope s_law_number, [], []⟩,
  ⟨("common_divisor", none), "common_divisor", "common_divisor", defArgs s_common_divisor, defBody s_common_divisor, defScope s_common_divisor, [], []⟩,
  ⟨("Fraction", some "__add__"), "__add__", "Fraction.__add__", defArgs s_Fraction_add, defBody s_Fraction_add, defScope s_Fraction_add, [], []⟩,
  ⟨("_law_lower", none), "_law_lower", "_law_lower", defArgs s_law_lower, defBody s_law_lower, defScope s_law_lower, [], []⟩,
  ⟨("Fraction", some "__eq__"), "__eq__", "Fraction.__eq__", defArgs s_Fraction_eq, defBody s_Fraction_eq, defScope s_Fraction_eq, [], []⟩,
  ⟨("_law_is", none), "_law_is", "_law_is", defArgs s_law_is, defBody s_law_is, defScope s_law_is, [], []⟩,
  ⟨("Fraction", some "__sub__"), "__sub__", "Fraction.__sub__", defArgs s_Fraction_sub, defBody s_Fraction_sub, defScope s_Fraction_sub, [], []⟩,
  ⟨("Fraction", some "__mul__"), "__mul__", "Fraction.__mul__", defArgs s_Fraction_mul, defBody s_Fraction_mul, defScope s_Fraction_mul, [], []⟩,
  ⟨("Fraction", some "__neg__"), "__neg__", "Fraction.__neg__", defArgs s_Fraction_neg, defBody s_Fraction_neg, defScope s_Fraction_neg, [], []⟩,
  ⟨("Fraction", some "__abs__"), "__abs__", "Fraction.__abs__", defArgs s_Fraction_abs, defBody s_Fraction_abs, defScope s_Fraction_abs, [], []⟩,
  ⟨("Fraction", some "__radd__"), "__radd__", "Fraction.__radd__", defArgs s_Fraction_radd, defBody s_Fraction_radd, defScope s_Fraction_radd, [], []⟩,
  ⟨("Fraction", some "__rsub__"), "__rsub__", "Fraction.__rsub__", defArgs s_Fraction_rsub, defBody s_Fraction_rsub, defScope s_Fraction_rsub, [], []⟩,
  ⟨("Fraction", some "__rmul__"), "__rmul__", "Fraction.__rmul__", defArgs s_Fraction_rmul, defBody s_Fraction_rmul, defScope s_Fraction_rmul, [], []⟩,
  ⟨("Fraction", some "__bool__"), "__bool__", "Fraction.__bool__", defArgs s_Fraction_bool, defBody s_Fraction_bool, defScope s_Fraction_bool, [], []⟩,
  ⟨("as_fraction", none), "as_fraction", "as_fraction", defArgs s_as_fraction, defBody s_as_fraction, defScope s_as_fraction, [], []⟩,
  ⟨("Fraction", some "over"), "over", "Fraction.over", defArgs s_Fraction_over, defBody s_Fraction_over, defScope s_Fraction_over, [], []⟩,
  ⟨("_law_over", none), "_law_over", "_law_over", defArgs s_law_over, defBody s_law_over, defScope s_law_over, [], []⟩,
  ⟨("_law_in_place", none), "_law_in_place", "_law_in_place", defArgs s_law_in_place, defBody s_law_in_place, defScope s_law_in_place, [], []⟩,
  ⟨("law", none), "law", "law", defArgs s_law, defBody s_law, defScope s_law, [], []⟩,
  ⟨("Fraction", some "__init__"), "__init__", "Fraction.__init__", defArgs s_Fraction_init, defBody s_Fraction_init, defScope s_Fraction_init, [.int 1], []⟩]
theorem txt_of {K : PySem.W.Frag} {mg : Str → Option Value} {h : Heap} (KX : K.In h) (G : h.Ns mainGlobals mg) (c : SaysX fs fnl K) : Txt K mg where
  g_law_cell := glo_of KX G (c.fact 0)
  k_law_cell := (c.fact 1)
  n_int := free_of KX G (c.fact 2)
  g_law_number := glo_of KX G (c.fact 3)
  k_law_number := (c.fact 4)
  n_abs := free_of KX G (c.fact 5)
  g_Fraction := glo_of KX G (c.fact 6)
  mk_Fraction := mkr_of (c.fact 7)
  o_Fraction := ocl_of (c.fact 8)
  om_Fraction_add := omet_of (c.fact 9)
  g_law_is := glo_of KX G (c.fact 10)
  k_law_is := (c.fact 11)
  om_Fraction_sub := omet_of (c.fact 12)
  om_Fraction_mul := omet_of (c.fact 13)
  om_Fraction_neg := omet_of (c.fact 14)
  om_Fraction_abs := omet_of (c.fact 15)
  om_Fraction_radd := omet_of (c.fact 16)
  im_add := intM_of (c.fact 17)
  im_radd := intM_of (c.fact 18)
  om_Fraction_rsub := omet_of (c.fact 19)
  im_sub := intM_of (c.fact 20)
  im_rsub := intM_of (c.fact 21)
  om_Fraction_rmul := omet_of (c.fact 22)
  im_mul := intM_of (c.fact 23)
  im_rmul := intM_of (c.fact 24)
  om_Fraction_bool := omet_of (c.fact 25)
  n_bool := free_of KX G (c.fact 26)
  g_law_over := glo_of KX G (c.fact 27)
  k_law_over := (c.fact 28)
  g_law_in_place := glo_of KX G (c.fact 29)
  k_law_in_place := (c.fact 30)
  n_len := free_of KX G (c.fact 31)
  F_law_cell := c.def_ 0
  F_law_number := c.def_ 1
  F_common_divisor := c.def_ 2
  n_isinstance := free_of KX G (c.fact 32)
  na_Fraction_top := noat_of (c.fact 33)
  na_Fraction_bottom := noat_of (c.fact 34)
  kT_Fraction_int := kitT_of (c.fact 35)
  kt_Fraction_Fraction := kit_of' (c.fact 36)
  F_Fraction_add := c.def_ 3
  g_law_lower := glo_of KX G (c.fact 37)
  k_law_lower := (c.fact 38)
  om_Fraction_eq := omet_of (c.fact 39)
  nf_Fraction := nf_of (c.fact 40)
  F_law_lower := c.def_ 4
  F_Fraction_eq := c.def_ 5
  F_law_is := c.def_ 6
  F_Fraction_sub := c.def_ 7
  F_Fraction_mul := c.def_ 8
  F_Fraction_neg := c.def_ 9
  F_Fraction_abs := c.def_ 10
  F_Fraction_radd := c.def_ 11
  F_Fraction_rsub := c.def_ 12
  F_Fraction_rmul := c.def_ 13
  F_Fraction_bool := c.def_ 14
  me_Fraction_over := meth_of (c.fact 41)
  xm_BadFraction_BadFraction := exm_of (c.fact 42)
  g_BadFraction := glo_of KX G (c.fact 43)
  g_as_fraction := glo_of KX G (c.fact 44)
  k_as_fraction := (c.fact 45)
  ex_BadFraction := exc_of KX G (c.fact 46)
  kI_int_Fraction := kitI_of (c.fact 47)
  F_as_fraction := c.def_ 15
  F_Fraction_over := c.def_ 16
  F_law_over := c.def_ 17
  ni_Fraction_add := noIpl_of (c.fact 48)
  ni_Fraction_sub := noIpl_of (c.fact 49)
  ni_Fraction_mul := noIpl_of (c.fact 50)
  F_law_in_place := c.def_ 18
  F_law := c.def_ 19
  g_law := glo_of KX G (c.fact 51)
  F_Fraction_init := c.def_ 20
  g_common_divisor := glo_of KX G (c.fact 52)
  k_common_divisor := (c.fact 53)
theorem all_of {P : Program} {w : World} {K : PySem.W.Frag} {mg : Str → Option Value} {base : Heap} (T : Txt K mg) {fd : FuncData} (F : FunD K "law" "law" (defArgs s_law) (defBody s_law) (defScope s_law) [] [] (He.ga K "law") fd) : FnOk P w K mg base (L2.CX P w) 10 (He.ga K "law") fd ["_law_script"] (spF K (aCons (rdL K (rp rInt)) aNil) (fun d => m_law d.1) (rp rBl)) := by
  have c_law_cell : C_law_cell P w K mg base := fn_law_cell T
  have c_law_number : C_law_number P w K mg base := fn_law_number T
  have c_common_divisor : C_common_divisor P w K mg base := FnR.nice (fn_common_divisor T) nice_common_divisor
  have c_Fraction_2 : C_Fraction_2 P w K mg base := fn_Fraction_2 T c_common_divisor
  have c_Fraction_add : C_Fraction_add P w K mg base := FnR.nice (fn_Fraction_add T c_Fraction_2) nice_Fraction_add
  have c_law_lower : C_law_lower P w K mg base := fn_law_lower T
  have c_Fraction_eq : C_Fraction_eq P w K mg base := FnR.nice (fn_Fraction_eq T) nice_Fraction_eq
  have c_law_is : C_law_is P w K mg base := fn_law_is T c_law_lower c_Fraction_2 c_Fraction_eq
  have c_Fraction_sub : C_Fraction_sub P w K mg base := FnR.nice (fn_Fraction_sub T c_Fraction_2) nice_Fraction_sub
  have c_Fraction_mul : C_Fraction_mul P w K mg base := FnR.nice (fn_Fraction_mul T c_Fraction_2) nice_Fraction_mul
  have c_Fraction_neg : C_Fraction_neg P w K mg base := FnR.nice (fn_Fraction_neg T c_Fraction_2) nice_Fraction_neg
  have c_Fraction_abs : C_Fraction_abs P w K mg base := FnR.nice (fn_Fraction_abs T c_Fraction_2) nice_Fraction_abs
  have c_Fraction_radd : C_Fraction_radd P w K mg base := FnR.nice (fn_Fraction_radd T c_Fraction_2) nice_Fraction_radd
  have c_Fraction_rsub : C_Fraction_rsub P w K mg base := FnR.nice (fn_Fraction_rsub T c_Fraction_2) nice_Fraction_rsub
  have c_Fraction_rmul : C_Fraction_rmul P w K mg base := FnR.nice (fn_Fraction_rmul T c_Fraction_2) nice_Fraction_rmul
  have c_Fraction_bool : C_Fraction_bool P w K mg base := FnR.nice (fn_Fraction_bool T) nice_Fraction_bool
  have c_Fraction_1 : C_Fraction_1 P w K mg base := fn_Fraction_1 T c_common_divisor
  have c_as_fraction : C_as_fraction P w K mg base := FnR.nice (fn_as_fraction T c_Fraction_1) nice_as_fraction
  have c_Fraction_over : C_Fraction_over P w K mg base := FnR.nice (fn_Fraction_over T c_as_fraction c_Fraction_2) nice_Fraction_over
  have c_Fraction_over_1_other : C_Fraction_over_1_other P w K mg base := fn_Fraction_over_1_other T c_as_fraction c_Fraction_2
  have c_law_over : C_law_over P w K mg base := fn_law_over T c_Fraction_over_1_other c_law_is
  have c_law_in_place : C_law_in_place P w K mg base := fn_law_in_place T c_Fraction_2 c_Fraction_add c_law_is c_Fraction_sub c_Fraction_mul
  exact fn_law T c_law_cell c_law_number c_Fraction_2 c_Fraction_add c_law_is c_Fraction_sub c_Fraction_mul c_Fraction_neg c_Fraction_abs c_Fraction_radd c_Fraction_rsub c_Fraction_rmul c_Fraction_bool c_law_over c_law_in_place F
theorem law_end {P : Program} {w : World} {K : PySem.W.Frag} {mg : Str → Option Value} {h : Heap} {fa : Addr} (KX : K.In h) (hmg : mg ("law" : Str) = some (.ref fa)) (T : Txt K mg) :
    ∃ (K : PySem.W.Frag) (fd : FuncData) (sp : Sp), K.In h ∧ (∀ (s : Shared) (u : Value), BindsTo s fd ⟨[u], []⟩ [(("_law_script" : Str), u)]) ∧
        (∀ (H : Hp) (a : Addr) (ns : List Int), ns.length ≤ 63 → Only H → SqL K H a (ns.map V.int) → sp [.ref a] H (fun v _ => v = .bl true) fun _ _ _ => False) ∧
        ∀ base : Heap, K.In base → base.Ns mainGlobals mg → FnOk P w K mg base CX0 10 fa fd ["_law_script"] sp := by
  obtain ⟨fd, F⟩ := T.F_law
  have e := hmg.symm.trans T.g_law
  cases e
  have b := FunD.bindsA (ps := ["_law_script"]) F fun _ _ _ _ _ _ us hl => match us, hl with | [_], _ => rfl
  refine ⟨K, fd, (fun vs H Q _ => spF K (aCons (rdL K (rp rInt)) aNil) (fun d => m_law d.1) (rp rBl) vs H Q fun _ _ _ => False), KX, fun s u => b s [u] rfl, fun H a ns hl _ hS => ⟨fun _ => none, (ns, ()), (fun b o e => nomatch e), ⟨.ref a, [], rfl, ⟨a, ns.map V.int, rfl, hS, paired_ints _ _ ns⟩, rfl⟩, ?_⟩, fun base _ _ => FnOk.no (all_of T F)⟩
  show PostE K (m_law ns) _ _ _ _ _
  rw [law_ok ns hl]
  exact fun I' H' v _ r => r
abbrev RR : PySem.W.OpenRow := PySem.W.OpenLaw.row PySem.Challenge.rw_tracerline_k02_arithmetic
abbrev hk : PySem.W.Hook := hookX 4 fs fnl
def ob (s : PySem.W.SharedT) : AlX := obsXG 4 fs fnl (HandSHeadRun.getT s)
theorem ob_eq (s : PySem.W.SharedT) : ob s = hk.obs s.abs := obsXG_eq (HandSHeadRun.getT_eq s)
def names : List PySem.Str := ((["__name__", "TracerError", "BadFraction", "common_divisor", "Fraction", "as_fraction", "_law_cell", "_law_number", "_law_lower", "_law_is", "_law_over", "_law_in_place"] : List PySem.Str))
set_option maxHeartbeats 0 in
theorem run (w : World) : HandSHeadRun.RunEq RR (PySem.W.view RR.prog [14]) hk ob 20000 names w := by
  intro os
  kernel_rfl
end L2.Tr
open PySem PySem.W PySem.Calls PyProof.Rows
set_option maxHeartbeats 0 in
theorem PySem.Challenge.cw_tracerline_k02_arithmetic_holds : PySem.Challenge.rw_tracerline_k02_arithmetic.Holds := by
  w_on; o_law
  refine HandSHeadRun.head_any (r := OpenLaw.row PySem.Challenge.rw_tracerline_k02_arithmetic) (q := view (OpenLaw.row PySem.Challenge.rw_tracerline_k02_arithmetic).prog [14]) (H := L2.Tr.hk) (ob := L2.Tr.ob) (M := 20000) (loose := L2.Tr.names) (d := HandSHeadRun.topDef (OpenLaw.row PySem.Challenge.rw_tracerline_k02_arithmetic).prog 14) (kwd := []) L2.Tr.ob_eq
    (by kernel_rfl) (fun s => by kernel_rfl) L2.Tr.run (by kernel_rfl) (by kernel_rfl) (by kernel_rfl) (by rfl) (by first | assumption | decide +kernel) (by decide +kernel) ⟨rfl, rfl, rfl, rfl, rfl, by decide +kernel⟩ ?hw ?hc
  case hw => w_witness2
  case hc =>
    refine L2.walk_ofE (l := PySem.Challenge.rw_tracerline_k02_arithmetic) (n := 63) (k := 10) (x := "_law_script") (CX := L2.CX0) rfl (by decide) (by kernel_rfl) ⟨rfl, by decide, by decide⟩ ?F (fun _ _ _ _ z => z)
    intro w mg fa h Y G hmg0
    obtain ⟨K, KX, c⟩ := Y
    have hmg : mg ("law" : PySem.Str) = some (.ref fa) := by
      have e : (HandSHeadRun.topDef (OpenLaw.row PySem.Challenge.rw_tracerline_k02_arithmetic).prog 14).name = ("law" : PySem.Str) := by kernel_rfl
      rw [← e]
      exact hmg0
    have T := L2.Tr.txt_of KX G c
    exact L2.Tr.law_end (P := (PySem.Challenge.rw_tracerline_k02_arithmetic).prog) (w := w) KX hmg T

