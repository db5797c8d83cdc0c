import PyProof.Rows.All
import Wide.All
import OpenK.AllK
import Wide.FinOn
import HandS.ForMost
import HandS.ForExc
import HandS.More
import HandS.Wide
import HandS.Flow
import HandS.Defaults
import HandS.MakeKw
import HandS.CallSlots
import HandS.IsInst
import HandS.ExcIs
import HandS.OwnEq
import HandS.HeadHook1
import KE.KStateDown
import HandS.Head0
import HandS.Head1
import HandS.Head2
import HandS.HeadEnd
import HandS.HeadHook2
import HandS.MakeKwOnly
import OpenK.KOps
import HandS.List
import HandS.Style
import HandS.Comp
import KE.KCallOwn
import HandS.Property
import HandS.ClsMeth
import HandS.GenList
import HandS.ExcInit
import HandS.ExcField
import KE.KExcIs
import PySem.Challenge.RW_tracerline_k78_first_returns_and_reading
set_option Elab.async false
set_option linter.all false
set_option maxRecDepth 100000
set_option maxHeartbeats 0
set_option exponentiation.threshold 100000
namespace L2.Tr
open PySem PySem.Spec PyProof.Rows

/-! ### wishes: what must hold ahead of a piece of code -/
def wE (X : Cx) (e : Expr) : TE := fun σ H Q => ∀ (pins : List (Addr × Obj)) (s : Shared), Inv X pins σ H s → wpAny (model X.prog X.w) X.A (eval e X.env) (EP X pins σ Q) X.xe s
def wT (X : Cx) (e : Expr) : TT := fun σ H Q => ∀ (pins : List (Addr × Obj)) (s : Shared), Inv X pins σ H s → wpAny (model X.prog X.w) X.A (isTrue e X.env (eval e X.env)) (TP X pins σ Q) X.xe s
def wW (X : Cx) (e : Expr) : TT := fun σ H Q => ∀ (whole : Sem Value) (pins : List (Addr × Obj)) (s : Shared), Inv X pins σ H s → wpAny (model X.prog X.w) X.A (isTrue e X.env whole) (TP X pins σ Q) X.xe s
def wA (X : Cx) (es : List Expr) : TA := fun σ H Q => ∀ (pos : Pos) (pins : List (Addr × Obj)) (s : Shared), Inv X pins σ H s → wpAny (model X.prog X.w) X.A (spliced (backTo pos (starEach es X.env))) (AP X pins σ Q) X.xe s
def wS (X : Cx) (st : Stmt) : TS := fun D σ H => ∀ (pins : List (Addr × Obj)) (s : Shared), Inv X pins σ H s → wpAny (model X.prog X.w) X.A (exec st X.env) (SP X pins D) X.xe s
def wB (X : Cx) (st : List Stmt) : TS := fun D σ H => ∀ (pins : List (Addr × Obj)) (s : Shared), Inv X pins σ H s → wpAny (model X.prog X.w) X.A (execs st X.env) (SP X pins D) X.xe s
def opW (X : Cx) (f : Value → Value → Sem Value) (σ : St) (x y : V) (H : Hp) (Q : VK) : Prop := ∀ (pins : List (Addr × Obj)) (s : Shared) (v u : Value), Inv X pins σ H s → RelV x v → RelV y u → wpAny (model X.prog X.w) X.A (f v u) (EP X pins σ Q) X.xe s
def unW (X : Cx) (f : Value → Sem Value) (σ : St) (x : V) (H : Hp) (Q : VK) : Prop := ∀ (pins : List (Addr × Obj)) (s : Shared) (v : Value), Inv X pins σ H s → RelV x v → wpAny (model X.prog X.w) X.A (f v) (EP X pins σ Q) X.xe s
def callW (X : Cx) (f : Value) (σ : St) (xs : List V) (H : Hp) (Q : VK) : Prop := ∀ (pins : List (Addr × Obj)) (s : Shared) (us : List Value), Inv X pins σ H s → Vals xs us → wpAny (model X.prog X.w) X.A (call f us) (EP X pins σ Q) X.xe s
def truW (X : Cx) (σ : St) (x : V) (H : Hp) (Q : Bool → Hp → Prop) : Prop := ∀ (pins : List (Addr × Obj)) (s : Shared) (v : Value), Inv X pins σ H s → RelV x v → wpAny (model X.prog X.w) X.A (truthy v) (TP X pins σ Q) X.xe s

section
variable {X : Cx} {e a b c o : Expr} {es : List Expr} {st : Stmt} {ss : List Stmt} {σ : St} {H : Hp} {Q : VK} {D : Ends} {x y v : V} {pos pos' : Pos} {n : Str}
theorem pe_W : PE X e (wE X e) := ⟨fun pins s _ _ _ I h => h pins s I⟩
theorem pt_W : PT X e (wT X e) := ⟨fun pins s _ _ _ I h => h pins s I⟩
theorem pw_W : PW X e (wW X e) := ⟨fun wh pins s _ _ _ I h => h wh pins s I⟩
theorem pa_W : PA X es (wA X es) := ⟨fun pos pins s _ _ _ I h => h pos pins s I⟩
theorem ps_W : PS X st (wS X st) := ⟨fun pins s _ _ _ I h => h pins s I⟩
theorem pss_W : PSs X ss (wB X ss) := ⟨fun pins s _ _ _ I h => h pins s I⟩
theorem PE.w {t : TE} (p : PE X e t) (h : t σ H Q) : wE X e σ H Q := fun pins s I => p.run pins s σ H Q I h
theorem PT.w {t : TT} {Q : Bool → Hp → Prop} (p : PT X e t) (h : t σ H Q) : wT X e σ H Q := fun pins s I => p.run pins s σ H Q I h
theorem PW.w {t : TT} {Q : Bool → Hp → Prop} (p : PW X e t) (h : t σ H Q) : wW X e σ H Q := fun wh pins s I => p.run wh pins s σ H Q I h
theorem PA.w {t : TA} {Q : List V → Hp → Prop} (p : PA X es t) (h : t σ H Q) : wA X es σ H Q := fun pos pins s I => p.run pos pins s σ H Q I h
theorem PS.w {t : TS} (p : PS X st t) (h : t D σ H) : wS X st D σ H := fun pins s I => p.run pins s σ H D I h
theorem PSs.w {t : TS} (p : PSs X ss t) (h : t D σ H) : wB X ss D σ H := fun pins s I => p.run pins s σ H D I h
theorem OpR.w {f : Value → Value → Sem Value} {r : R2} (o : OpR X f r) (h : r x y H Q) : opW X f σ x y H Q := fun pins s v u I rx ry => o pins s σ H x y v u Q I rx ry h
theorem UnR.w {f : Value → Sem Value} {r : V → Hp → VK → Prop} (o : UnR X f r) (h : r x H Q) : unW X f σ x H Q := fun pins s v I rx => o pins s σ H x v Q I rx h
theorem CallR.w {f : Value} {r : List V → Hp → VK → Prop} {xs : List V} (o : CallR X f r) (h : r xs H Q) : callW X f σ xs H Q := fun pins s us I rx => o pins s σ H xs us Q I rx h
theorem TruR.w {r : V → Hp → (Bool → Hp → Prop) → Prop} {Q : Bool → Hp → Prop} (o : TruR X r) (h : r x H Q) : truW X σ x H Q := fun pins s v I rx => o pins s σ H x v Q I rx h

/-! ### expressions -/
theorem w_var (i : Nat) (h : Q v H) (hs : σ[i]? = some (some v) := by rfl) (hN : X.N[i]? = some n := by rfl) (hv : Vis X.env.scope n := by first | exact Or.inl rfl | exact Or.inr (Or.inl rfl) | exact Or.inr (Or.inr rfl)) (hd : (n == ("__debug__" : Str)) = false := by decide)
    (hcd : (n == ("__classdict__" : Str)) = false := by decide) : wE X (.Name n pos) σ H Q := PE.w (pe_var hN hv hd hcd) ⟨v, hs, h⟩
theorem w_int {i : Int} {j} (h : Q (.int i) H) : wE X (.Constant (.int i) j pos) σ H Q := PE.w pe_int h
theorem w_bl {i : Bool} {j} (h : Q (.bl i) H) : wE X (.Constant (.bool i) j pos) σ H Q := PE.w pe_bl h
theorem w_str {i : Str} {j} (h : Q (.str i) H) : wE X (.Constant (.str i) j pos) σ H Q := PE.w pe_str h
theorem w_non {j} (h : Q .non H) : wE X (.Constant .none j pos) σ H Q := PE.w pe_non h
theorem w_bin {op : Operator} (h : wE X a σ H fun x H1 => wE X b σ H1 fun y H2 => opW X (binaryOp op) σ x y H2 Q) : wE X (.BinOp a op b pos) σ H Q := fun pins s I =>
  wpAny_BinOp (thn (h pins s I) fun v s1 ⟨x, H1, I1, r1, q1⟩ => thn (q1 pins s1 I1) fun u s2 ⟨y, H2, I2, r2, q2⟩ => q2 pins s2 v u I2 r1 r2)
theorem w_un {op : UnaryOp} (h : wE X a σ H fun x H1 => unW X (unaryOp op) σ x H1 Q) : wE X (.UnaryOp op a pos) σ H Q := fun pins s I =>
  UnaryOp_ (thn (h pins s I) fun v s1 ⟨x, H1, I1, r1, q1⟩ => q1 pins s1 v I1 r1)
theorem w_cmp {op : CmpOp} (h : wE X a σ H fun x H1 => wE X b σ H1 fun y H2 => opW X (compareOp op) σ x y H2 Q) (hm : behindInMarks op b = false := by first | exact nomark _ | rfl) : wE X (.Compare a [op] [b] pos) σ H Q := fun pins s I =>
  wpAny_Compare1 (thn (h pins s I) fun v s1 ⟨x, H1, I1, r1, q1⟩ => thn (q1 pins s1 I1) fun u s2 ⟨y, H2, I2, r2, q2⟩ => q2 pins s2 v u I2 r1 r2) hm
/-- a test that is a comparison -/
theorem w_tcmp {op : CmpOp} {Q : Bool → Hp → Prop} (h : wE X a σ H fun x H1 => wE X b σ H1 fun y H2 => opW X (compareOp op) σ x y H2 fun z H3 => truW X σ z H3 Q) (hm : behindInMarks op b = false := by first | exact nomark _ | rfl) : wT X (.Compare a [op] [b] pos) σ H Q := fun pins s I =>
  wpAny_isTrue_Compare1 (thn (h pins s I) fun v s1 ⟨x, H1, I1, r1, q1⟩ => thn (q1 pins s1 I1) fun u s2 ⟨y, H2, I2, r2, q2⟩ => thn (q2 pins s2 v u I2 r1 r2) fun c s3 ⟨z, H3, I3, r3, q3⟩ => q3 pins s3 c I3 r3) hm
/-- a test of a plain form -/
theorem w_t {Q : Bool → Hp → Prop} (h : wE X e σ H fun x H1 => truW X σ x H1 Q) (he : ∀ whole, isTrue e X.env whole = (do let v ← whole; standAt e.pos; holding [v] (truthy v)) := by intro _; rfl) : wT X e σ H Q := fun pins s I =>
  isTrue_plain (thn (h pins s I) fun v s1 ⟨x, H1, I1, r1, q1⟩ => q1 pins s1 v I1 r1) (he _)
theorem tru_bl {k : Bool} {Q : Bool → Hp → Prop} (h : Q k H) : truW X σ (.bl k) H Q := fun pins s v I r => by
  cases (show v = Value.bool k from r)
  exact wpAny_truthy_bool ⟨H, I, h⟩
theorem tru_int {i : Int} {Q : Bool → Hp → Prop} (h : Q (i != 0) H) : truW X σ (.int i) H Q := TruR.w tru_ok ⟨_, rfl, h⟩
theorem w_not {Q : Bool → Hp → Prop} (h : wT X a σ H fun k H1 => Q (!k) H1) : wT X (.UnaryOp .Not a pos) σ H Q := PT.w (pt_not pt_W) h
/-- not as a value -/
theorem w_notV (h : wE X a σ H fun x H1 => ∃ k, x = .bl k ∧ Q (.bl (!k)) H1) : wE X (.UnaryOp .Not a pos) σ H Q := PE.w (pe_not pe_W) h
/-! ### and, or as tests -/
theorem w_tbool {Q : Bool → Hp → Prop} {op} (h : wW X (.BoolOp op es pos) σ H Q) : wT X (.BoolOp op es pos) σ H Q := fun pins s I => h _ pins s I
theorem w_and1 {Q : Bool → Hp → Prop} (h : wT X a σ H Q) : wW X (.BoolOp .And [a] pos) σ H Q := PW.w (pw_and1 pt_W) h
theorem w_or1 {Q : Bool → Hp → Prop} (h : wT X a σ H Q) : wW X (.BoolOp .Or [a] pos) σ H Q := PW.w (pw_or1 pt_W) h
theorem w_and {bs : List Expr} {Q : Bool → Hp → Prop} (h : wT X a σ H fun k H1 => if k = true then wW X (.BoolOp .And (b :: bs) pos) σ H1 Q else Q false H1) : wW X (.BoolOp .And (a :: b :: bs) pos) σ H Q := PW.w (pw_and pt_W pw_W) h
theorem w_or {bs : List Expr} {Q : Bool → Hp → Prop} (h : wT X a σ H fun k H1 => if k = true then Q true H1 else wW X (.BoolOp .Or (b :: bs) pos) σ H1 Q) : wW X (.BoolOp .Or (a :: b :: bs) pos) σ H Q := PW.w (pw_or pt_W pw_W) h
/-! ### and, or as values (bools) -/
theorem w_oneV {op} (h : wE X a σ H Q) : wE X (.BoolOp op [a] pos) σ H Q := PE.w (pe_one pe_W) h
theorem w_andV {bs : List Expr} (h : wE X a σ H fun x H1 => ∃ k, x = .bl k ∧ if k = true then wE X (.BoolOp .And (b :: bs) pos) σ H1 Q else Q (.bl false) H1) : wE X (.BoolOp .And (a :: b :: bs) pos) σ H Q := PE.w (pe_and pe_W pe_W) h
theorem w_orV {bs : List Expr} (h : wE X a σ H fun x H1 => ∃ k, x = .bl k ∧ if k = true then Q (.bl true) H1 else wE X (.BoolOp .Or (b :: bs) pos) σ H1 Q) : wE X (.BoolOp .Or (a :: b :: bs) pos) σ H Q := PE.w (pe_or pe_W pe_W) h
theorem w_ifx (h : wT X c σ H fun k H1 => if k = true then wE X a σ H1 Q else wE X b σ H1 Q) : wE X (.IfExp c a b pos) σ H Q := PE.w (pe_ifExp pt_W pe_W pe_W) h

/-! ### arguments, displays, calls -/
theorem w_nil {Q : List V → Hp → Prop} (h : Q [] H) : wA X [] σ H Q := PA.w pa_nil h
theorem w_cons {Q : List V → Hp → Prop} (h : wE X e σ H fun x H1 => wA X es σ H1 fun xs H2 => Q (x :: xs) H2) (hs : starEach (e :: es) X.env = (false, eval e X.env) :: starEach es X.env := by rfl) : wA X (e :: es) σ H Q := PA.w (pa_cons pe_W pa_W hs) h
theorem w_lst (h : wA X es σ H fun xs H1 => xs.length ≤ sizeLine ∧ ∀ p, H1 p = none → Q (.ref p) (upd H1 p (.lst xs))) : wE X (.List es pos) σ H Q := PE.w (pe_lst pa_W) h
theorem w_tup {x1} (h : wA X es σ H fun xs H1 => xs.length ≤ sizeLine ∧ ∀ p, H1 p = none → Q (.ref p) (upd H1 p (.tup xs))) : wE X (.Tuple es x1 pos) σ H Q := PE.w (pe_tup pa_W) h
theorem w_callB {id : String} (h : wA X (e :: es) σ H fun vs H1 => callW X (.builtin id) σ vs H1 Q) (hm : X.mg n = none) (hv : bootBuiltins n = some (.builtin id)) (hg : Gl X n := by rfl) (hn : n ≠ "__name__" := by decide) (hdb : (n == ("__debug__" : Str)) = false := by decide)
    (he : starEach (e :: es) X.env = (false, eval e X.env) :: starEach es X.env := by rfl) (hpl : (backTo pos (starEach es X.env)).any (·.1) = false := by rfl) : wE X (.Call (.Name n pos') (e :: es) [] pos) σ H Q := fun pins s I =>
  wpAny_Call_Name_kw (ld_blt I hg hm hv (PyProof.Rows.callWith_builtin1 (thn (h pos pins s I) fun us s1 ⟨vs, H1, I1, r1, q1⟩ => q1 pins s1 us I1 r1) he hpl) hn hdb)
theorem w_callTy {T : String} (h : wA X (e :: es) σ H fun vs H1 => callW X (.type T) σ vs H1 Q) (hm : X.mg n = none) (hv : bootBuiltins n = some (.type T)) (hg : Gl X n := by rfl) (hn : n ≠ "__name__" := by decide) (hdb : (n == ("__debug__" : Str)) = false := by decide)
    (he : starEach (e :: es) X.env = (false, eval e X.env) :: starEach es X.env := by rfl) (hpl : (backTo pos (starEach es X.env)).any (·.1) = false := by rfl) : wE X (.Call (.Name n pos') (e :: es) [] pos) σ H Q := fun pins s I =>
  wpAny_Call_Name_kw (ld_blt I hg hm hv (PyProof.Rows.callWith_type1 (thn (h pos pins s I) fun us s1 ⟨vs, H1, I1, r1, q1⟩ => q1 pins s1 us I1 r1) he hpl) hn hdb)
theorem w_bltn {u : Value} (h : Q v H) (hm : X.mg n = none) (hv : bootBuiltins n = some u) (r : RelV v u) (hg : Gl X n := by rfl) (hn : n ≠ "__name__" := by decide) (hd : (n == ("__debug__" : Str)) = false := by decide) : wE X (.Name n pos) σ H Q := PE.w (pe_bltn hg hm hv r hn hd) h
theorem w_glob {u : Value} (h : Q v H) (hm : X.mg n = some u) (r : RelV v u) (hg : Gl X n := by rfl) (hd : (n == ("__debug__" : Str)) = false := by decide) : wE X (.Name n pos) σ H Q := PE.w (pe_glob hg hm r hd) h

/-- the callee runs (a def, a class, a method with its self), the wish at these slots -/
theorem run_W {k : Nat} {f : Addr} {sp : Sp} {W : WX} {vs : List V} (F : FnR X.prog X.w X.K X.mg X.base (L2.CX X.prog X.w) k f sp) (hr : Room k X.A) (tk : Takes X W) (h : sp vs H Q fun cls d H' => W cls d σ H') : callW X (.ref f) σ vs H Q := fun pins s us I r => by
  refine wpAny_call (codeAny_mono (F X.A X.stack s H us vs Q _ hr I.env0 r h) fun r s' hq => ?_)
  cases r with
  | error e => exact passAt tk σ pins H s e s' I hq
  | ok fl =>
    cases fl with
    | ret u => exact I.after hq
    | next => exact False.elim hq
    | brk => exact False.elim hq
    | cont => exact False.elim hq
/-- f(e, ..), C(e, ..) by a global name -/
theorem w_call {f : Addr} (h : wA X (e :: es) σ H fun vs H1 => callW X (.ref f) σ vs H1 Q) (hm : X.mg n = some (.ref f)) (hk : PySem.W.keepIn X.K (.ref f) = true) (hg : Gl X n := by rfl) (hdb : (n == ("__debug__" : Str)) = false := by decide)
    (he : starEach (e :: es) X.env = (false, eval e X.env) :: starEach es X.env := by rfl) (hpl : (backTo pos (starEach es X.env)).any (·.1) = false := by rfl) : wE X (.Call (.Name n pos') (e :: es) [] pos) σ H Q := fun pins s I =>
  wpAny_Call_Name_kw (ld_glob I hg hm (PySem.W.callWith_K (h₀ := X.base) I.ok.mod.kin hk (thn (h pos pins s I) fun us s1 ⟨vs, H1, I1, r, q⟩ => ⟨I1.kIn, q pins s1 us I1 r⟩) he hpl) hdb)
theorem w_call0 {f : Addr} (h : callW X (.ref f) σ [] H Q) (hm : X.mg n = some (.ref f)) (hk : PySem.W.keepIn X.K (.ref f) = true) (hg : Gl X n := by rfl) (hdb : (n == ("__debug__" : Str)) = false := by decide) : wE X (.Call (.Name n pos') [] [] pos) σ H Q := fun pins s I =>
  wpAny_Call_Name_kw (ld_glob I hg hm (PySem.W.callWith_K0 I.kIn hk (h pins s [] I .nil)) hdb)
/-- o.m(e, ..) -/
theorem w_meth {pl : Sem Bool} {m : Str} {C f : Addr} {apos : Pos} (h : wE X o σ H fun x H1 => ∃ a dx fs, x = .ref a ∧ H1 a = some (.ins C dx fs) ∧ fs.lookup m = none ∧ wA X (e :: es) σ H1 fun vs H2 => callW X (.ref f) σ (x :: vs) H2 Q) (c : Cls X.K C) (hm : Meth X.K C m f)
    (hst : starEach (e :: es) X.env = (false, eval e X.env) :: starEach es X.env := by rfl) (hpl : (backTo pos (starEach es X.env)).any (·.1) = false := by rfl)
    (ht : eval (.Call (.Attribute o m apos) (e :: es) [] pos) X.env = (do
      let ov ← eval o X.env
      standAt apos.atName
      let (f, first) ← holding [ov] (getMethod ov m pl)
      callWith pos f first (backTo pos (starEach (e :: es) X.env)) (backToKw pos (keywordEach [] X.env))) := by rfl) : wE X (.Call (.Attribute o m apos) (e :: es) [] pos) σ H Q := fun pins s I => by
  refine PySem.W.methodCall_KW (pl := pl) (thn (h pins s I) fun u s1 ⟨x, H1, I1, rx, a, dx, fs, ex, ea, l, q⟩ => ?_) ht
  subst ex
  obtain rfl : u = Value.ref a := rx
  refine getmeth_ok I1 ea c hm l ?_
  exact PySem.W.callWith_K (first := [.ref a]) (h₀ := X.base) I.ok.mod.kin hm.kp (thn (q pos pins s1 I1) fun us s2 ⟨vs, H2, I2, r, q2⟩ => ⟨I2.kIn, q2 pins s2 (.ref a :: us) I2 (.cons rfl r)⟩) hst hpl
theorem w_meth0 {pl : Sem Bool} {m : Str} {C f : Addr} {apos : Pos} (h : wE X o σ H fun x H1 => ∃ a dx fs, x = .ref a ∧ H1 a = some (.ins C dx fs) ∧ fs.lookup m = none ∧ callW X (.ref f) σ [x] H1 Q) (c : Cls X.K C) (hm : Meth X.K C m f)
    (ht : eval (.Call (.Attribute o m apos) [] [] pos) X.env = (do
      let ov ← eval o X.env
      standAt apos.atName
      let (f, first) ← holding [ov] (getMethod ov m pl)
      callWith pos f first (backTo pos (starEach [] X.env)) (backToKw pos (keywordEach [] X.env))) := by rfl) : wE X (.Call (.Attribute o m apos) [] [] pos) σ H Q := fun pins s I => by
  refine PySem.W.methodCall_KW (pl := pl) (thn (h pins s I) fun u s1 ⟨x, H1, I1, rx, a, dx, fs, ex, ea, l, q⟩ => ?_) ht
  subst ex
  obtain rfl : u = Value.ref a := rx
  refine getmeth_ok I1 ea c hm l ?_
  exact PySem.W.callWith_K0 (first := [.ref a]) I1.kIn hm.kp (q pins s1 [.ref a] I1 (.cons rfl .nil))
/-- o.f -/
theorem w_fld {f : Str} (h : wE X o σ H fun x H1 => ∃ a C dx fs v, x = .ref a ∧ H1 a = some (.ins C dx fs) ∧ Cls X.K C ∧ NoAttr X.K C f ∧ fs.lookup f = some v ∧ Q v H1) (hb : attributeBase o f X.env (eval o X.env) = eval o X.env := by rfl) : wE X (.Attribute o f pos) σ H Q := PE.w (pe_fld pe_W hb) h

/-! ### statements -/
theorem b_nil (h : D.nx σ H) : wB X [] D σ H := PSs.w pss_nil h
theorem b_cons (h : wS X st { D with nx := fun σ' H' => wB X ss D σ' H' } σ H) : wB X (st :: ss) D σ H := PSs.w (pss_cons ps_W pss_W) h
theorem s_ret (h : wE X e σ H D.rt) : wS X (.Return (some e) pos) D σ H := PS.w (ps_ret pe_W) h
theorem s_retN (h : D.rt .non H) : wS X (.Return none pos) D σ H := PS.w ps_retN h
theorem s_expr (h : wE X e σ H fun _ H1 => D.nx σ H1) (hs : swapsWith e none pos.line X.env = pure false := by rfl) : wS X (.Expr e pos) D σ H := PS.w (ps_expr pe_W hs) h
theorem s_if {s1 s2 : List Stmt} (h : wT X c σ H fun k H1 => if k = true then wB X s1 D σ H1 else wB X s2 D σ H1) : wS X (.If c s1 s2 pos) D σ H := PS.w (ps_if pt_W pss_W pss_W) h
theorem s_pass (h : D.nx σ H) : wS X (.Pass pos) D σ H := PS.w ps_pass h
theorem s_set (i : Nat) (h : wE X e σ H fun x H1 => D.nx (σ.set i (some x)) H1) (hN : X.N.Nodup) (hi : X.N[i]? = some n := by rfl) (hx : Loc X.env.scope n := by first | exact Or.inl rfl | exact Or.inr rfl) (hs : swapsWith e (some (.Name n pos')) pos.line X.env = pure false := by rfl) (hf : X.fn n = true ∨ X.env.scope.names.lookup n = some .local := by first | exact .inl rfl | exact .inr rfl | assumption) :
    wS X (.Assign [.Name n pos'] e pos) D σ H := PS.w (ps_set hN hi hx pe_W hs hf) h
/-- o.f = e -/
theorem s_fld {f : Str} (h : wE X e σ H fun y H1 => wE X o σ H1 fun x H2 => ∃ a C dx fs, x = .ref a ∧ H2 a = some (.ins C dx fs) ∧ Cls X.K C ∧ NoAttr X.K C f ∧ fs.length < 1000 ∧ D.nx σ (upd H2 a (.ins C dx (putF f y fs))))
    (hs : swapsWith e (some (.Attribute o f pos')) pos.line X.env = pure false := by rfl) : wS X (.Assign [.Attribute o f pos'] e pos) D σ H := PS.w (ps_fld pe_W pe_W hs) h
theorem s_raise {W : WX} {t : L2.St → Hp → XK → Prop} (hc : X.calm = true) (tk : Takes X W) (he : PMk X e t) (h : t σ H fun cls d H' => W cls d σ H') : wS X (.Raise (some e) none pos) D σ H := PS.w (ps_raise hc tk he) h
theorem b_mono {D' : Ends} (h : wB X ss D σ H) (h1 : ∀ σ' H', D.nx σ' H' → D'.nx σ' H') (h2 : ∀ v H', D.rt v H' → D'.rt v H') (h3 : ∀ σ' H', D.bk σ' H' → D'.bk σ' H') (h4 : ∀ σ' H', D.ct σ' H' → D'.ct σ' H') : wB X ss D' σ H := fun pins s I =>
  thn (h pins s I) fun f s' q => by
    cases f with
    | next => obtain ⟨a, b, c, d⟩ := q; exact ⟨a, b, c, h1 _ _ d⟩
    | brk => obtain ⟨a, b, c, d⟩ := q; exact ⟨a, b, c, h3 _ _ d⟩
    | cont => obtain ⟨a, b, c, d⟩ := q; exact ⟨a, b, c, h4 _ _ d⟩
    | ret u => obtain ⟨v, a, b, c, r, d⟩ := q; exact ⟨v, a, b, c, r, h2 _ _ d⟩
theorem e_mono {Q' : VK} (h : wE X e σ H Q) (h1 : ∀ v H', Q v H' → Q' v H') : wE X e σ H Q' := fun pins s I => thn (h pins s I) fun u s' ⟨v, H', I', r, q⟩ => ⟨v, H', I', r, h1 _ _ q⟩
end
end L2.Tr

/-! operators of own classes -/
namespace PySem.W
open PySem PySem.Calls PyProof.Rows
section
variable {prog : Program} {w : World} {A : Around} {E : Value → Shared → Prop} {s : Shared} {K : Frag} {x C dx L f : Addr} {h₀ : Heap} {m : Str → Option Value} {ox : Obj} {od : Option Obj} {nm : String}
/-- int's own slot declines an instance -/
theorem tr_decl {name : Str} {sl id : String} {g : Int → Int → Sem Fin} {i : Int} {t : Tok} {Q : Value → Shared → Prop} (slot : Slot "int" name id) (entry : entryFor table id = some (Builtin.Int.intBinary sl g)) (args : ∀ a b, argsOk id ⟨[a, b], []⟩)
    (I : s.heap.get? x = some (instObj C dx)) (h : Q .notImplemented s) : wpAny (model prog w) A (call (.builtin id) [.int i t, .ref x]) Q E s := by
  refine GQ.call_here slot (typeIs_int s i t) entry (args _ _) ?_
  unfold Builtin.Int.intBinary slotArgs Builtin.Int.intOfSelf
  simp only [List.isEmpty_nil, Bool.not_true, Bool.false_eq_true, if_false, List.length_cons, List.length_nil, bne_self_eq_false, pure_bind, asInt?, List.headD_cons]
  refine wpAny_bind (wpAny_bind (wpAny_load I (wpAny_pure ?_)))
  obtain ⟨hp, g, d, tk, os⟩ := s
  wp_walk
  exact h
/-- n op x, n an int, x an instance whose class has the reflected method -/
theorem tr_binR {op : Operator} {sl id : String} {g : Int → Int → Sem Fin} {i : Int} {t : Tok} {fo : Value} {Q : Value → Shared → Prop} (X : K.In s.heap) (I : InstAt s.heap x (instObj C dx) C od) (hc : selfFirst K C = true)
    (hs : findIn K (.ref C) (PySem.dunder op.info.2) = some (some (.ref f))) (hr : findIn K (.ref C) (dunderR op.info.2) = some (some (.ref L))) (hf : isFn K (.ref L) = true)
    (fills : fillsNumberSlot (.type "int") op.info.2 = pure true) (hsub : subIn K (.ref C) (.type "int") = some false)
    (slot : Slot "int" (PySem.dunder op.info.2) id) (entry : entryFor table id = some (Builtin.Int.intBinary sl g)) (args : ∀ a b, argsOk id ⟨[a, b], []⟩)
    (h : wpAny (model prog w) A (call (.ref L) [.ref x, .int i t]) (CmpBack Q) E s) : wpAny (model prog w) A (binaryOp op (.int i t) (.ref x)) Q E s := by
  obtain ⟨cd, rest, hcd, hm⟩ := ksp_first hc
  rcases hi : op.info with ⟨sym, nm'⟩
  rw [hi] at hs hr fills slot
  dsimp only at hs hr fills slot
  have two := ksp_try X I hr hf h
  have one : ∀ {Q : Option Value → Shared → Prop}, Q none s → wpAny (model prog w) A (tryMethod (.int i t) (PySem.dunder nm') (.ref x)) Q E s := fun q =>
    wpAny_tryMethod_declines (typeIs_int s i t) slot (tr_decl slot entry args I.at_ ⟨rfl, q⟩)
  obtain ⟨hh, g', d, tt, os⟩ := s
  have L1 : Looks (model prog w) hh (typeOf (.int i t)) (.type "int") := Looks.of_pure rfl
  have L2 : Looks (model prog w) hh (typeOf (.ref x)) (.ref C) := I.type
  have L3 : Looks (model prog w) hh (fillsNumberSlot (.type "int") nm') true := Looks.of_pure fills
  have L4 : Looks (model prog w) hh (fillsNumberSlot (.ref C) nm') true := fills_K X hcd hm hs
  have L5 : Looks (model prog w) hh (isSubtype (.ref C) (.type "int")) false := looks_subIn X hsub
  have L6 : Looks (model prog w) hh (numberSlotInPython (.type "int") nm') false := Looks.of_pure rfl
  have hne : (Value.type "int" == Value.ref C) = false := Bool.eq_false_iff.mpr fun q => by cases beq_iff_eq.mp q
  simp only [binaryOp, hi]
  refine wpAny_holding (wpAny_bind ?_)
  unfold binaryOp1
  refine wpAny_bind (L1.at (wpAny_bind (L2.at (wpAny_bind (L3.at ?_)))))
  simp only [hne, Bool.false_eq_true, if_false]
  ksp_lk
  refine one ?_
  ksp_lk
  refine wpAny_mono two (fun r s' hr' => ?_) fun _ _ e => e
  obtain ⟨v, rfl, hq⟩ := hr'
  ksp_lk
  exact hq
/-- n op x, a comparison -/
theorem tr_cmpR {op : CmpOp} {sl id : String} {g : Int → Int → Sem Fin} {i : Int} {t : Tok} {Q : Value → Shared → Prop} (hu : A.units < cLine) (X : K.In s.heap) (I : InstAt s.heap x (instObj C dx) C od)
    (hr : findIn K (.ref C) (cmpInfo op).2.2 = some (some (.ref f))) (hf : isFn K (.ref f) = true) (hsub : subIn K (.ref C) (.type "int") = some false)
    (slot : Slot "int" (cmpInfo op).2.1 id) (entry : entryFor table id = some (Builtin.Int.intBinary sl g)) (args : ∀ a b, argsOk id ⟨[a, b], []⟩)
    (h : wpAny (model prog w) A (call (.ref f) [.ref x, .int i t]) (CmpBack Q) E s) : wpAny (model prog w) A (richCompare op (.int i t) (.ref x)) Q E s := by
  have two : wpAny (model prog w) A (tryCompare (.ref x) (cmpInfo op).2.2 (.int i t)) (fun r s' => ∃ v, r = some v ∧ Q v s') E s := by
    unfold tryCompare
    refine wpAny_bind (ifBound_K X I hr hf (wpAny_mono h (fun v s' hv => ?_) fun _ _ e => e))
    cases v <;> first | exact hv.elim | exact wpAny_pure ⟨_, rfl, hv⟩
  rcases hi : cmpInfo op with ⟨sym, f', r'⟩
  rw [hi] at two slot
  dsimp only at two slot
  have hne : (Value.type "int" != Value.ref C) = true := by
    have : (Value.type "int" == Value.ref C) = false := Bool.eq_false_iff.mpr fun q => by cases beq_iff_eq.mp q
    simp only [bne, this, Bool.not_false]
  simp only [richCompare, hi, (typeIs_int s i t).oneThing_none]
  refine wpAny_holding (wpAny_bind (wpAny_cRoomFor hu ?_))
  refine wpAny_bind (wpAny_typeOf (typeIs_int s i t) (wpAny_bind (I.type.here ?_)))
  simp only [hne, if_true]
  refine wpAny_bind ((looks_subIn X hsub).here ?_)
  simp only [Bool.false_eq_true, if_false, Bool.not_false, if_true]
  refine wpAny_bind (m := tryCompare (.int i t) _ (.ref x)) (wpAny_tryCompare_declines (typeIs_int s i t) slot (tr_decl slot entry args I.at_ ⟨rfl, ?_⟩))
  refine wpAny_bind (m := tryCompare (.ref x) _ (.int i t)) (wpAny_mono two (fun r s' z => ?_) fun _ _ e => e)
  obtain ⟨v, rfl, hq⟩ := z
  exact wpAny_pure hq
/-- object.__ne__ of an instance whose class has its own __eq__ -/
theorem tr_objNe {b : Value} {Q : Value → Shared → Prop} (hu : A.in1.units < cLine) (X : K.In s.heap) (I : InstAt s.heap x ox C od) (hm : mroIn K C (.type "object") = some true) (hr : findIn K (.ref C) "__eq__" = some (some (.ref f))) (hf : isFn K (.ref f) = true)
    (h : wpAny (model prog w) A.in1 (call (.ref f) [.ref x, b]) (fun v s' => ∃ k, v = .bool k ∧ Q (.bool (!k)) s') E s) : wpAny (model prog w) A (call (.builtin "object.__ne__") [.ref x, b]) Q E s := by
  refine wpAny_call (codeAny_call_builtin F.cmp_object.ne.plain F.cmpEntry_ne (check_slot (i := "object.__ne__") (owner := "object") (n := "__ne__") F.cmpKind_ne F.cmpSplit_ne (I.type.andThen (looks_mroIn X hm)) (F.cmpArgs_ne _ _) ?_))
  unfold Builtin.«object.__ne__»
  refine wpAny_bind (m := slotArgs "__ne__" 1 _) (wpAny_pure ?_)
  refine wpAny_bind (m := cRoomFor _ _) (wpAny_cRoomFor hu ?_)
  refine wpAny_bind (m := callSpecialIfBound? (.ref x) (Str.ofString "__eq__") _) (ifBound_K X I hr hf (wpAny_mono h (fun r s' hq => ?_) fun _ _ y => y))
  obtain ⟨k, rfl, hq⟩ := hq
  refine wpAny_bind (m := truthy (.bool k)) (wpAny_truthy_bool ?_)
  exact wpAny_pure hq
theorem tr_tryNe {b : Value} {Q : Option Value → Shared → Prop} (hu : A.in1.units < cLine) (X : K.In s.heap) (I : InstAt s.heap x ox C od) (hm : mroIn K C (.type "object") = some true) (hn : findIn K (.ref C) "__ne__" = some (some (.builtin "object.__ne__"))) (hr : findIn K (.ref C) "__eq__" = some (some (.ref f))) (hf : isFn K (.ref f) = true)
    (h : wpAny (model prog w) A.in1 (call (.ref f) [.ref x, b]) (fun v s' => ∃ k, v = .bool k ∧ Q (some (.bool (!k))) s') E s) : wpAny (model prog w) A (tryCompare (.ref x) "__ne__" b) Q E s := by
  unfold tryCompare
  simp only [callSpecialIfBound?, bindSpecialIfBound?]
  refine wpAny_bind (wpAny_holding (wpAny_bind (wpAny_bind (wpAny_bind (I.type.here ((looks_findIn X hn).here ?_))))))
  refine wpAny_bind (wpAny_askSetting (wpAny_ite ?_))
  have fin : wpAny (model prog w) A (call (.builtin "object.__ne__") ([.ref x] ++ [b]) >>= fun v => pure (some v)) (fun a s' => wpAny (model prog w) A (match a with | some .notImplemented => pure none | none => pure none | some v => pure (some v)) Q E s') E s :=
    wpAny_bind (tr_objNe hu X I hm hr hf (wpAny_mono h (fun v s' ⟨k, e, q⟩ => ⟨k, e, wpAny_pure (wpAny_pure q)⟩) fun _ _ h' => h'))
  simp only [F.cmp_object.ne.bind]
  split
  · exact wpAny_bind (wpAny_pure (wpAny_pure (by exact fin)))
  · exact wpAny_tryCatch (wpAny_bind (wpAny_pure (wpAny_pure (by exact fin))))
/-- x != b -/
theorem tr_ne {b tb : Value} {Q : Value → Shared → Prop} (hu : A.in1.units < cLine) (hu0 : A.units < cLine) (X : K.In s.heap) (I : InstAt s.heap x ox C od) (hb : Looks (model prog w) s.heap (typeOf b) tb) (hnf : notFirst K C tb = true) (hm : mroIn K C (.type "object") = some true)
    (hn : findIn K (.ref C) "__ne__" = some (some (.builtin "object.__ne__"))) (hr : findIn K (.ref C) "__eq__" = some (some (.ref f))) (hf : isFn K (.ref f) = true)
    (h : wpAny (model prog w) A.in1 (call (.ref f) [.ref x, b]) (fun v s' => ∃ k, v = .bool k ∧ Q (.bool (!k)) s') E s) : wpAny (model prog w) A (richCompare .NotEq (.ref x) b) Q E s := by
  have one : wpAny (model prog w) A (tryCompare (.ref x) "__ne__" b) (fun r s' => ∃ v, r = some v ∧ Q v s') E s := tr_tryNe hu X I hm hn hr hf (wpAny_mono h (fun v s' ⟨k, e, q⟩ => ⟨k, e, _, rfl, q⟩) fun _ _ h' => h')
  unfold richCompare
  simp only [oneThing_ref]
  refine wpAny_holding (wpAny_bind (wpAny_cRoomFor hu0 ?_))
  refine wpAny_bind (I.type.here (wpAny_bind (hb.here ?_)))
  split
  · rename_i q
    have e : subIn K tb (.ref C) = some false := by
      rcases Bool.or_eq_true_iff.mp hnf with e | e
      · rw [beq_iff_eq.mp e] at q; simp at q
      · exact beq_iff_eq.mp e
    refine wpAny_bind ((looks_subIn X e).here ?_)
    simp only [Bool.false_eq_true, if_false]
    refine wpAny_bind (m := tryCompare (.ref x) _ b) (wpAny_mono one (fun r s' z => ?_) fun _ _ e => e)
    obtain ⟨v, rfl, hq⟩ := z
    exact wpAny_pure hq
  · refine wpAny_bind (wpAny_pure ?_)
    simp only [Bool.false_eq_true, if_false]
    refine wpAny_bind (m := tryCompare (.ref x) _ b) (wpAny_mono one (fun r s' z => ?_) fun _ _ e => e)
    obtain ⟨v, rfl, hq⟩ := z
    exact wpAny_pure hq
/-- n != x -/
theorem tr_neR {sl id : String} {g : Int → Int → Sem Fin} {i : Int} {t : Tok} {Q : Value → Shared → Prop} (hu1 : A.in1.units < cLine) (hu : A.units < cLine) (X : K.In s.heap) (I : InstAt s.heap x (instObj C dx) C od) (hm : mroIn K C (.type "object") = some true)
    (hn : findIn K (.ref C) "__ne__" = some (some (.builtin "object.__ne__"))) (hr : findIn K (.ref C) "__eq__" = some (some (.ref f))) (hf : isFn K (.ref f) = true) (hsub : subIn K (.ref C) (.type "int") = some false)
    (h : wpAny (model prog w) A.in1 (call (.ref f) [.ref x, .int i t]) (fun v s' => ∃ k, v = .bool k ∧ Q (.bool (!k)) s') E s) : wpAny (model prog w) A (richCompare .NotEq (.int i t) (.ref x)) Q E s := by
  have two : wpAny (model prog w) A (tryCompare (.ref x) "__ne__" (.int i t)) (fun r s' => ∃ v, r = some v ∧ Q v s') E s := tr_tryNe hu1 X I hm hn hr hf (wpAny_mono h (fun v s' ⟨k, e, q⟩ => ⟨k, e, _, rfl, q⟩) fun _ _ h' => h')
  have hne : (Value.type "int" != Value.ref C) = true := by
    have : (Value.type "int" == Value.ref C) = false := Bool.eq_false_iff.mpr fun q => by cases beq_iff_eq.mp q
    simp only [bne, this, Bool.not_false]
  simp only [richCompare, cmpInfo, (typeIs_int s i t).oneThing_none]
  refine wpAny_holding (wpAny_bind (wpAny_cRoomFor hu ?_))
  refine wpAny_bind (wpAny_typeOf (typeIs_int s i t) (wpAny_bind (I.type.here ?_)))
  simp only [hne, if_true]
  refine wpAny_bind ((looks_subIn X hsub).here ?_)
  simp only [Bool.false_eq_true, if_false, Bool.not_false, if_true]
  refine wpAny_bind (m := tryCompare (.int i t) _ (.ref x)) (wpAny_tryCompare_declines (typeIs_int s i t) F.slot_int_ne (tr_decl (sl := "__ne__") F.slot_int_ne F.entry_int_ne F.args_int_ne_2 I.at_ ⟨rfl, ?_⟩))
  refine wpAny_bind (m := tryCompare (.ref x) _ (.int i t)) (wpAny_mono two (fun r s' z => ?_) fun _ _ e => e)
  obtain ⟨v, rfl, hq⟩ := z
  exact wpAny_pure hq
end
end PySem.W

namespace L2.Tr
open PySem PySem.Spec PyProof.Rows

/-! ### results of mirrors -/
inductive Pay where
  | int (i : Int) | str (s : Str) | bl (b : Bool) | non | frac (q : Rat) | obj (n : Nat) (xs : List Rat)
structure Exn where
  cls : Str
  pay : List (Str × Pay)
inductive Res (α : Type) where
  | ok (a : α) | err (e : Exn) | stuck
namespace Res
variable {α β γ : Type}
def bind (m : Res α) (f : α → Res β) : Res β := match m with
  | .ok a => f a
  | .err e => .err e
  | .stuck => .stuck
@[simp] theorem ok_bind (a : α) (f : α → Res β) : (ok a).bind f = f a := rfl
@[simp] theorem err_bind (e : Exn) (f : α → Res β) : (err e : Res α).bind f = err e := rfl
@[simp] theorem stuck_bind (f : α → Res β) : (stuck : Res α).bind f = stuck := rfl
theorem bind_assoc (m : Res α) (f : α → Res β) (g : β → Res γ) : (m.bind f).bind g = m.bind fun a => (f a).bind g := by cases m <;> rfl
theorem bind_ok (m : Res α) : (m.bind fun a => ok a) = m := by cases m <;> rfl
def guard (p : Prop) [Decidable p] (m : Res α) : Res α := if p then m else stuck
theorem guard_pos {p : Prop} [Decidable p] (h : p) (m : Res α) : guard p m = m := if_pos h
end Res

/-! ### representations -/
/-- by the frozen heap I and the heap H -/
abbrev Ra (α : Type) := Hp → Hp → V → α → Prop
/-- by the frozen heap alone -/
abbrev Rp (α : Type) := Hp → V → α → Prop
abbrev rp {α : Type} (r : Rp α) : Ra α := fun I _ v x => r I v x
class Mo {α : Type} (r : Rp α) : Prop where
  up : ∀ {I I' : Hp} {v : V} {x : α}, Same I I' → r I v x → r I' v x
class MoA {α : Type} (r : Ra α) : Prop where
  up : ∀ {I H I' H' : Hp} {v : V} {x : α}, Same I I' → Same H H' → r I H v x → r I' H' v x
instance {α : Type} {r : Rp α} [m : Mo r] : MoA (rp r) := ⟨fun a _ h => m.up a h⟩
instance {α : Type} {r : Ra α} {H0 : Hp} [m : MoA r] : Mo (fun I v x => r I H0 v x) := ⟨fun a h => m.up a (Same.refl _) h⟩

def rInt : Rp Int := fun _ v x => v = .int x
def rBl : Rp Bool := fun _ v x => v = .bl x
def rStr : Rp Str := fun _ v x => v = .str x
def rNon : Rp Unit := fun _ v _ => v = .non
instance : Mo rInt := ⟨fun _ h => h⟩
instance : Mo rBl := ⟨fun _ h => h⟩
instance : Mo rStr := ⟨fun _ h => h⟩
instance : Mo rNon := ⟨fun _ h => h⟩
/-- a Fraction -/
def frF (q : Rat) : List (Str × V) := [("top", .int q.num), ("bottom", .int (q.den : Int))]
def rFrac (K : PySem.W.Frag) : Rp Rat := fun I v q => ∃ a dx, v = .ref a ∧ I a = some (.ins (He.ga K "Fraction") dx (frF q))
instance {K : PySem.W.Frag} : Mo (rFrac K) := ⟨fun s ⟨a, dx, e, h⟩ => ⟨a, dx, e, s _ _ h⟩⟩
/-- an int or a Fraction -/
inductive Num where
  | i (n : Int) | q (r : Rat)
def Num.val : Num → Rat
  | .i n => (n : Rat)
  | .q r => r
def rNum (K : PySem.W.Frag) : Rp Num := fun I v x => match x with
  | .i n => v = .int n
  | .q r => rFrac K I v r
instance {K : PySem.W.Frag} : Mo (rNum K) := ⟨fun {I I' v x} s h => by
  cases x with
  | i n => exact h
  | q r => exact Mo.up (r := rFrac K) s h⟩
theorem Paired.mapQ {α β : Type} {F G : α → β → Prop} {l₁ : List α} {l₂ : List β} (h : Paired F l₁ l₂) (f : ∀ a b, F a b → G a b) : Paired G l₁ l₂ := Paired.mapP h f
/-- a frozen list -/
def rL {α : Type} (r : Rp α) : Rp (List α) := fun I v xs => ∃ l vs, v = .ref l ∧ I l = some (.lst vs) ∧ Paired (r I) vs xs
instance {α : Type} {r : Rp α} [m : Mo r] : Mo (rL r) := ⟨fun s ⟨l, vs, e, h, p⟩ => ⟨l, vs, e, s _ _ h, Paired.mapP p fun _ _ q => m.up s q⟩⟩
/-- a frozen tuple (of one kind) -/
def rT {α : Type} (r : Rp α) : Rp (List α) := fun I v xs => ∃ l vs, v = .ref l ∧ I l = some (.tup vs) ∧ Paired (r I) vs xs
instance {α : Type} {r : Rp α} [m : Mo r] : Mo (rT r) := ⟨fun s ⟨l, vs, e, h, p⟩ => ⟨l, vs, e, s _ _ h, Paired.mapP p fun _ _ q => m.up s q⟩⟩
/-- a list that can be read (frozen or not), or the script -/
def rdL {α : Type} (K : PySem.W.Frag) (r : Ra α) : Ra (List α) := fun I H v xs => ∃ l vs, v = .ref l ∧ SqL K H l vs ∧ Paired (r I H) vs xs
instance {α : Type} {K : PySem.W.Frag} {r : Ra α} [m : MoA r] : MoA (rdL K r) := ⟨fun s t ⟨l, vs, e, h, p⟩ => ⟨l, vs, e, t.seq h, Paired.mapP p fun _ _ q => m.up s t q⟩⟩

/-! ### exceptions -/
def PayR (K : PySem.W.Frag) (I : Hp) (v : V) : Pay → Prop
  | .int i => v = .int i
  | .str s => v = .str s
  | .bl b => v = .bl b
  | .non => v = .non
  | .frac q => rFrac K I v q
  | .obj _ _ => True
def ExR (K : PySem.W.Frag) (I H : Hp) (e : Exn) (cls : Value) (d : Option Addr) : Prop := cls = .ref (He.ga K e.cls) ∧ (match d with
  | none => e.pay = []
  | some a => e.pay ≠ [] ∧ ∃ fs : List (Str × V), H a = some (.xd fs) ∧ I a = none ∧ Paired (fun (p : Str × V) (q : Str × Pay) => p.1 = q.1 ∧ PayR K I p.2 q.2) fs e.pay)

/-! ### frames -/
/-- from (I, H) to (I', H') nothing that stood has changed -/
structure Fm (I H I' H' : Hp) : Prop where
  i : Same I I'
  h : Same H H'
  ih : Same I' H'
  mu : ∀ l, I l = none → H l ≠ none → I' l = none
theorem Fm.refl {I H : Hp} (h : Same I H) : Fm I H I H := ⟨Same.refl _, Same.refl _, h, fun _ e _ => e⟩
theorem Fm.trans {I H I1 H1 I2 H2 : Hp} (a : Fm I H I1 H1) (b : Fm I1 H1 I2 H2) : Fm I H I2 H2 :=
  ⟨a.i.trans b.i, a.h.trans b.h, b.ih, fun l e n => b.mu l (a.mu l e n) fun q => by
    cases z : H l with
    | none => exact n z
    | some o => rw [a.h l o z] at q; cases q⟩
/-- a new frozen object -/
theorem Fm.new {I H : Hp} {p : Addr} {o : HO} (s : Same I H) (h : H p = none) : Fm I H (upd I p o) (upd H p o) :=
  ⟨fun b u e => by rw [upd_ne (ne_of_none (s _ _ e) h)]; exact e, fun b u e => by rw [upd_ne (ne_of_none e h)]; exact e, fun b u e => by
    by_cases hb : b = p
    · subst hb; rw [upd_same] at e ⊢; exact e
    · rw [upd_ne hb] at e ⊢; exact s _ _ e, fun l e n => by
    have : l ≠ p := fun q => n (q ▸ h)
    rw [upd_ne this]; exact e⟩
/-- a new object that may still be changed -/
theorem Fm.newM {I H : Hp} {p : Addr} {o : HO} (s : Same I H) (h : H p = none) : Fm I H I (upd H p o) :=
  ⟨Same.refl _, fun b u e => by rw [upd_ne (ne_of_none e h)]; exact e, fun b u e => by rw [upd_ne (ne_of_none (s _ _ e) h)]; exact s _ _ e, fun l e n => e⟩

/-- the error's own dict is new -/
def Fr (H : Hp) (d : Option Addr) : Prop := ∀ a, d = some a → H a = none
theorem Fr.back {H H' : Hp} {d : Option Addr} (f : Fr H' d) (s : Same H H') : Fr H d := fun a e => s.free (f a e)
def PostE {α : Type} (K : PySem.W.Frag) (m : Res α) (r : Ra α) (I H : Hp) (E : XK) (Q : VK) : Prop := match m with
  | .ok a => ∀ I' H' v, Fm I H I' H' → r I' H' v a → Q v H'
  | .err e => ∀ I' H' cls d, Fm I H I' H' → Fr H d ∧ ExR K I' H' e cls d → E cls d H'
  | .stuck => False
theorem PostE.up {α : Type} {K : PySem.W.Frag} {m : Res α} {r : Ra α} {I H I1 H1 : Hp} {E : XK} {Q : VK} (h : PostE K m r I H E Q) (f : Fm I H I1 H1) : PostE K m r I1 H1 E Q := by
  cases m with
  | ok a => exact fun I' H' v g => h I' H' v (f.trans g)
  | err e => exact fun I' H' c d g x => h I' H' c d (f.trans g) ⟨x.1.back f.h, x.2⟩
  | stuck => exact h
theorem PostE.imp {α : Type} {K : PySem.W.Frag} {m : Res α} {r : Ra α} {I H : Hp} {E : XK} {Q Q' : VK} (h : PostE K m r I H E Q) (g : ∀ v H', Q v H' → Q' v H') : PostE K m r I H E Q' := by
  cases m with
  | ok a => exact fun I' H' v f r => g _ _ (h I' H' v f r)
  | err e => exact h
  | stuck => exact h

/-! ### environments -/
structure SF where
  {α : Type}
  r : Rp α
  [mo : Mo r]
  x : α
/-- a region of the call's own that may still be changed: its footprint is hidden -/
structure MF where
  Q : Hp → Hp → List Addr → Prop
  mo : ∀ {I I' H : Hp} {fp : List Addr}, Same I I' → Q I H fp → Q I' H fp
  lo : ∀ {I H H' : Hp} {fp : List Addr}, (∀ a, a ∈ fp → H' a = H a) → Q I H fp → Q I H' fp
/-- one object -/
def MF.one (l : Addr) (P : Hp → HO → Prop) (mo : ∀ {I I' : Hp} {o : HO}, Same I I' → P I o → P I' o) : MF := ⟨fun I H fp => fp = [l] ∧ ∃ o, H l = some o ∧ P I o, fun s ⟨e, o, h, p⟩ => ⟨e, o, h, mo s p⟩, fun k ⟨e, o, h, p⟩ => ⟨e, o, by rw [k l (by rw [e]; exact List.mem_singleton_self l)]; exact h, p⟩⟩
def MF.lst {α : Type} (l : Addr) (r : Rp α) [m : Mo r] (xs : List α) : MF := .one l (fun I o => ∃ vs, o = .lst vs ∧ Paired (r I) vs xs) (fun s ⟨vs, e, p⟩ => ⟨vs, e, Paired.mapP p fun _ _ q => m.up s q⟩)
def FldR (I : Hp) : List (Str × V) → List (Str × SF) → Prop
  | [], [] => True
  | p :: fs, q :: gs => p.1 = q.1 ∧ q.2.r I p.2 q.2.x ∧ FldR I fs gs
  | _, _ => False
theorem FldR.up {I I' : Hp} (s : Same I I') : ∀ {fs : List (Str × V)} {gs : List (Str × SF)}, FldR I fs gs → FldR I' fs gs
  | [], [], h => h
  | _ :: _, q :: _, ⟨a, b, c⟩ => ⟨a, q.2.mo.up s b, FldR.up s c⟩
  | [], _ :: _, h => h
  | _ :: _, [], h => h
def MF.ins (l C dx : Addr) (gs : List (Str × SF)) : MF := .one l (fun I o => ∃ fs, o = .ins C dx fs ∧ FldR I fs gs) (fun s ⟨fs, e, p⟩ => ⟨fs, e, FldR.up s p⟩)
/-- regions with their footprints -/
def Regs (I H : Hp) : List MF → List (List Addr) → Prop
  | [], [] => True
  | c :: mem, fp :: fps => c.Q I H fp ∧ Regs I H mem fps
  | _, _ => False
structure Stt (I0 H0 : Hp) (ctx : List (Option SF)) (mem : List MF) (I H : Hp) (σ : St) : Prop where
  fm : Fm I0 H0 I H
  len : σ.length = ctx.length
  sl : ∀ (i : Nat) (sf : SF), ctx[i]? = some (some sf) → ∃ v, σ[i]? = some (some v) ∧ sf.r I v sf.x
  me : ∃ fps, Regs I H mem fps ∧ fps.flatten.Nodup ∧ ∀ a, a ∈ fps.flatten → H0 a = none ∧ I a = none ∧ H a ≠ none
theorem Regs.up {I I' H H' : Hp} (s : Same I I') : ∀ {mem : List MF} {fps : List (List Addr)}, (∀ a, a ∈ fps.flatten → H' a = H a) → Regs I H mem fps → Regs I' H' mem fps
  | [], [], _, h => h
  | c :: _, fp :: fps, k, ⟨a, b⟩ => ⟨c.lo (fun x hx => k x (by rw [List.flatten_cons]; exact List.mem_append_left _ hx)) (c.mo s a), Regs.up s (fun x hx => k x (by rw [List.flatten_cons]; exact List.mem_append_right _ hx)) b⟩
  | [], _ :: _, _, h => h
  | _ :: _, [], _, h => h
theorem Regs.get {I H : Hp} : ∀ {mem : List MF} {fps : List (List Addr)} {j : Nat} {c : MF}, Regs I H mem fps → mem[j]? = some c → ∃ fp, fps[j]? = some fp ∧ c.Q I H fp
  | [], _, _, _, _, e => by simp at e
  | d :: _, fp :: _, 0, c, ⟨a, _⟩, e => ⟨fp, rfl, by
    have : d = c := by simpa using e
    rw [← this]; exact a⟩
  | _ :: mem, _ :: fps, j + 1, c, ⟨_, b⟩, e => by
    have e' : mem[j]? = some c := by simpa using e
    obtain ⟨fp, e1, q⟩ := Regs.get b e'
    exact ⟨fp, by simpa using e1, q⟩
  | _ :: _, [], _, _, h, _ => h.elim
section
variable {I0 H0 I H I' H' : Hp} {ctx : List (Option SF)} {mem : List MF} {σ : St}
theorem Stt.same (s : Stt I0 H0 ctx mem I H σ) : Same I H := s.fm.ih
theorem Stt.step (s : Stt I0 H0 ctx mem I H σ) (f : Fm I H I' H') : Stt I0 H0 ctx mem I' H' σ := by
  obtain ⟨fps, rg, nd, k⟩ := s.me
  have key : ∀ a, a ∈ fps.flatten → H' a = H a := fun a ha => by
    obtain ⟨_, _, h3⟩ := k a ha
    cases e : H a with
    | none => exact absurd e h3
    | some o => exact f.h _ _ e
  refine ⟨s.fm.trans f, s.len, fun i sf e => ?_, fps, rg.up f.i key, nd, fun a ha => ?_⟩
  · obtain ⟨v, e1, h⟩ := s.sl i sf e
    exact ⟨v, e1, sf.mo.up f.i h⟩
  · obtain ⟨h1, h2, h3⟩ := k a ha
    exact ⟨h1, f.mu _ h2 h3, by rw [key a ha]; exact h3⟩
/-- one object of the call's own -/
theorem Stt.me1 (s : Stt I0 H0 ctx mem I H σ) {j : Nat} {l : Addr} {P : Hp → HO → Prop} {c : MF} (hj : mem[j]? = some c) (hc : ∀ {I H : Hp} {fp : List Addr}, c.Q I H fp → fp = [l] ∧ ∃ o, H l = some o ∧ P I o) : H0 l = none ∧ I l = none ∧ ∃ o, H l = some o ∧ P I o := by
  obtain ⟨fps, rg, nd, k⟩ := s.me
  obtain ⟨fp, e, q⟩ := rg.get hj
  obtain ⟨e1, q⟩ := hc q
  obtain ⟨h1, h2, _⟩ := k l (List.mem_flatten.mpr ⟨fp, List.mem_of_getElem? e, by rw [e1]; exact List.mem_singleton_self l⟩)
  exact ⟨h1, h2, q⟩
theorem Stt.lstAt (s : Stt I0 H0 ctx mem I H σ) {α : Type} {j : Nat} {l : Addr} {r : Rp α} {mo : Mo r} {xs : List α} (hj : mem[j]? = some (MF.lst l r xs)) : H0 l = none ∧ I l = none ∧ ∃ o, H l = some o ∧ ∃ vs, o = .lst vs ∧ Paired (r I) vs xs :=
  s.me1 (P := fun I o => ∃ vs, o = .lst vs ∧ Paired (r I) vs xs) hj fun q => q
theorem Stt.insAt (s : Stt I0 H0 ctx mem I H σ) {j : Nat} {l C dx : Addr} {gs : List (Str × SF)} (hj : mem[j]? = some (MF.ins l C dx gs)) : H0 l = none ∧ I l = none ∧ ∃ o, H l = some o ∧ ∃ fs, o = .ins C dx fs ∧ FldR I fs gs :=
  s.me1 (P := fun I o => ∃ fs, o = .ins C dx fs ∧ FldR I fs gs) hj fun q => q
theorem Stt.set (s : Stt I0 H0 ctx mem I H σ) (i : Nat) {α : Type} {r : Rp α} [mo : Mo r] {x : α} {v : V} (h : r I v x) : Stt I0 H0 (ctx.set i (some ⟨r, x⟩)) mem I H (σ.set i (some v)) := by
  refine ⟨s.fm, by rw [List.length_set, List.length_set]; exact s.len, fun j sf e => ?_, s.me⟩
  by_cases hj : j = i
  · subst hj
    rw [List.getElem?_set] at e
    by_cases hl : j < ctx.length
    · simp only [hl, if_true] at e
      cases e
      exact ⟨v, by rw [List.getElem?_set]; simp [s.len, hl], h⟩
    · simp only [hl, if_true, if_false] at e
      cases e
  · rw [List.getElem?_set_ne (Ne.symm hj)] at e
    obtain ⟨w, e1, q⟩ := s.sl j sf e
    exact ⟨w, by rw [List.getElem?_set_ne (Ne.symm hj)]; exact e1, q⟩
end
/-! ### expressions -/
section
variable {α β γ δ : Type}
def JE (X : Cx) (I0 H0 : Hp) (W : WX) (ctx : List (Option SF)) (mem : List MF) (e : Expr) (m : Res α) (r : Ra α) : Prop :=
  ∀ (I H : Hp) (σ : St) (Q : VK), Stt I0 H0 ctx mem I H σ → PostE X.K m r I H (fun cls d H' => W cls d σ H') Q → wE X e σ H Q
def JT (X : Cx) (I0 H0 : Hp) (W : WX) (ctx : List (Option SF)) (mem : List MF) (e : Expr) (m : Res Bool) : Prop :=
  ∀ (I H : Hp) (σ : St) (Q : Bool → Hp → Prop), Stt I0 H0 ctx mem I H σ → PostE X.K m (rp rBl) I H (fun cls d H' => W cls d σ H') (fun v H' => ∀ b, v = .bl b → Q b H') → wT X e σ H Q
def OpJ (X : Cx) (W : WX) (f : Value → Value → Sem Value) (ra : Ra α) (rb : Ra β) (g : α → β → Res γ) (rc : Ra γ) : Prop :=
  ∀ (I H : Hp) (σ : St) (Q : VK) (u v : V) (x : α) (y : β), Same I H → ra I H u x → rb I H v y → PostE X.K (g x y) rc I H (fun cls d H' => W cls d σ H') Q → opW X f σ u v H Q
def UnJ (X : Cx) (W : WX) (f : Value → Sem Value) (ra : Ra α) (g : α → Res γ) (rc : Ra γ) : Prop :=
  ∀ (I H : Hp) (σ : St) (Q : VK) (u : V) (x : α), Same I H → ra I H u x → PostE X.K (g x) rc I H (fun cls d H' => W cls d σ H') Q → unW X f σ u H Q
def CallJ (X : Cx) (W : WX) (f : Value) (R : Hp → Hp → List V → δ → Prop) (g : δ → Res γ) (rc : Ra γ) : Prop :=
  ∀ (I H : Hp) (σ : St) (Q : VK) (vs : List V) (x : δ), Same I H → R I H vs x → PostE X.K (g x) rc I H (fun cls d H' => W cls d σ H') Q → callW X f σ vs H Q
/-- argument lists -/
def JA (X : Cx) (I0 H0 : Hp) (W : WX) (ctx : List (Option SF)) (mem : List MF) (es : List Expr) (m : Res δ) (R : Hp → Hp → List V → δ → Prop) : Prop :=
  ∀ (I H : Hp) (σ : St) (Q : List V → Hp → Prop), Stt I0 H0 ctx mem I H σ → (match m with
    | .ok a => ∀ I' H' vs, Fm I H I' H' → R I' H' vs a → Q vs H'
    | .err e => ∀ I' H' cls d, Fm I H I' H' → Fr H d ∧ ExR X.K I' H' e cls d → W cls d σ H'
    | .stuck => False) → wA X es σ H Q
def aNil : Hp → Hp → List V → Unit → Prop := fun _ _ vs _ => vs = []
def aCons (r : Ra α) (R : Hp → Hp → List V → δ → Prop) : Hp → Hp → List V → α × δ → Prop := fun I H vs x => ∃ v ws, vs = v :: ws ∧ r I H v x.1 ∧ R I H ws x.2

variable {X : Cx} {I0 H0 : Hp} {W : WX} {ctx : List (Option SF)} {mem : List MF} {e a b c o : Expr} {es : List Expr} {pos pos' : Pos} {n : Str} {ra : Ra α} {rb : Ra β} {rc : Ra γ} {ma : Res α} {mb : Res β}

theorem JE.co {m : Res α} {r : Ra α} {r' : Ra α} (j : JE X I0 H0 W ctx mem e m r) (c : ∀ I H v x, Same I H → r I H v x → r' I H v x) : JE X I0 H0 W ctx mem e m r' := fun I H σ Q st p => j I H σ Q st (by
  cases m with
  | ok a => exact fun I' H' v f q => p I' H' v f (c _ _ _ _ f.ih q)
  | err e => exact p
  | stuck => exact p)
theorem JE.map {m : Res α} {r : Ra α} {r' : Ra β} {g : α → β} (j : JE X I0 H0 W ctx mem e m r) (c : ∀ I H v x, Same I H → r I H v x → r' I H v (g x)) : JE X I0 H0 W ctx mem e (m.bind fun x => .ok (g x)) r' := fun I H σ Q st p => j I H σ Q st (by
  cases m with
  | ok a => exact fun I' H' v f q => p I' H' v f (c _ _ _ _ f.ih q)
  | err e => exact p
  | stuck => exact p)
theorem JE.num {m : Res Int} {K : PySem.W.Frag} (j : JE X I0 H0 W ctx mem e m (rp rInt)) : JE X I0 H0 W ctx mem e (m.bind fun x => .ok (Num.i x)) (rp (rNum K)) := j.map fun _ _ _ _ _ h => h
theorem JE.numq {m : Res Rat} {K : PySem.W.Frag} (j : JE X I0 H0 W ctx mem e m (rp (rFrac K))) : JE X I0 H0 W ctx mem e (m.bind fun x => .ok (Num.q x)) (rp (rNum K)) := j.map fun _ _ _ _ _ h => h
/-- a name in slot i -/
theorem JE.var (i : Nat) {r : Rp α} {mo : Mo r} {x : α} (hc : ctx[i]? = some (some (@SF.mk α r mo x)) := by rfl) (hN : X.N[i]? = some n := by rfl) (hv : Vis X.env.scope n := by first | exact Or.inl rfl | exact Or.inr (Or.inl rfl) | exact Or.inr (Or.inr rfl)) (hd : (n == ("__debug__" : Str)) = false := by decide)
    (hcd : (n == ("__classdict__" : Str)) = false := by decide) : JE X I0 H0 W ctx mem (.Name n pos) (.ok x) (rp r) := fun I H σ Q st p => by
  obtain ⟨v, e, h⟩ := st.sl i _ hc
  exact w_var i (p I H v (Fm.refl st.same) h) e hN hv hd hcd
/-- .. a parameter whose worth may lean on the heap at the entry -/
theorem JE.varP (i : Nat) {r : Ra α} {mo : Mo (fun I v x => r I H0 v x)} {x : α} [m : MoA r] (hc : ctx[i]? = some (some (@SF.mk α (fun I v x => r I H0 v x) mo x)) := by rfl) (hN : X.N[i]? = some n := by rfl) (hv : Vis X.env.scope n := by first | exact Or.inl rfl | exact Or.inr (Or.inl rfl) | exact Or.inr (Or.inr rfl)) (hd : (n == ("__debug__" : Str)) = false := by decide)
    (hcd : (n == ("__classdict__" : Str)) = false := by decide) : JE X I0 H0 W ctx mem (.Name n pos) (.ok x) r := fun I H σ Q st p => by
  obtain ⟨v, e, h⟩ := st.sl i _ hc
  exact w_var i (p I H v (Fm.refl st.same) (m.up (Same.refl _) st.fm.h h)) e hN hv hd hcd
theorem JE.int {i : Int} {j} : JE X I0 H0 W ctx mem (.Constant (.int i) j pos) (.ok i) (rp rInt) := fun I H σ Q st p => w_int (p I H _ (Fm.refl st.same) rfl)
theorem JE.bl {i : Bool} {j} : JE X I0 H0 W ctx mem (.Constant (.bool i) j pos) (.ok i) (rp rBl) := fun I H σ Q st p => w_bl (p I H _ (Fm.refl st.same) rfl)
theorem JE.str {i : Str} {j} : JE X I0 H0 W ctx mem (.Constant (.str i) j pos) (.ok i) (rp rStr) := fun I H σ Q st p => w_str (p I H _ (Fm.refl st.same) rfl)
theorem JE.non {j} : JE X I0 H0 W ctx mem (.Constant .none j pos) (.ok ()) (rp rNon) := fun I H σ Q st p => w_non (p I H _ (Fm.refl st.same) rfl)
theorem JE.bin {op : Operator} {g : α → β → Res γ} [MoA ra] (ja : JE X I0 H0 W ctx mem a ma ra) (jb : JE X I0 H0 W ctx mem b mb rb) (o : OpJ X W (binaryOp op) ra rb g rc) : JE X I0 H0 W ctx mem (.BinOp a op b pos) (ma.bind fun x => mb.bind fun y => g x y) rc := fun I H σ Q st p => by
  refine w_bin (ja I H σ _ st ?_)
  cases ma with
  | ok x =>
    intro I1 H1 u f1 r1
    refine jb I1 H1 σ _ (st.step f1) ?_
    have p1 := PostE.up p f1
    cases mb with
    | ok y => exact fun I2 H2 v f2 r2 => o I2 H2 σ Q u v x y f2.ih (MoA.up f2.i f2.h r1) r2 (PostE.up p1 f2)
    | err e => exact p1
    | stuck => exact p1
  | err e => exact p
  | stuck => exact p
theorem JE.cmp {op : CmpOp} {g : α → β → Res γ} [MoA ra] (ja : JE X I0 H0 W ctx mem a ma ra) (jb : JE X I0 H0 W ctx mem b mb rb) (o : OpJ X W (compareOp op) ra rb g rc) (hm : behindInMarks op b = false := by first | exact nomark _ | rfl) : JE X I0 H0 W ctx mem (.Compare a [op] [b] pos) (ma.bind fun x => mb.bind fun y => g x y) rc := fun I H σ Q st p => by
  refine w_cmp (ja I H σ _ st ?_) hm
  cases ma with
  | ok x =>
    intro I1 H1 u f1 r1
    refine jb I1 H1 σ _ (st.step f1) ?_
    have p1 := PostE.up p f1
    cases mb with
    | ok y => exact fun I2 H2 v f2 r2 => o I2 H2 σ Q u v x y f2.ih (MoA.up f2.i f2.h r1) r2 (PostE.up p1 f2)
    | err e => exact p1
    | stuck => exact p1
  | err e => exact p
  | stuck => exact p
theorem JT.cmp {op : CmpOp} {g : α → β → Res Bool} [MoA ra] (ja : JE X I0 H0 W ctx mem a ma ra) (jb : JE X I0 H0 W ctx mem b mb rb) (o : OpJ X W (compareOp op) ra rb g (rp rBl)) (hm : behindInMarks op b = false := by first | exact nomark _ | rfl) : JT X I0 H0 W ctx mem (.Compare a [op] [b] pos) (ma.bind fun x => mb.bind fun y => g x y) := fun I H σ Q st p => by
  refine w_tcmp (ja I H σ _ st ?_) hm
  cases ma with
  | ok x =>
    intro I1 H1 u f1 r1
    refine jb I1 H1 σ _ (st.step f1) ?_
    have p1 := PostE.up p f1
    cases mb with
    | ok y =>
      intro I2 H2 v f2 r2
      refine o I2 H2 σ _ u v x y f2.ih (MoA.up f2.i f2.h r1) r2 ?_
      have p2 := PostE.up p1 f2
      revert p2
      show PostE X.K (g x y) _ _ _ _ _ → _
      generalize g x y = z
      intro p2
      cases z with
      | ok k => intro I3 H3 v3 f3 r3; cases r3; exact tru_bl (p2 I3 H3 _ f3 rfl k rfl)
      | err e => exact p2
      | stuck => exact p2
    | err e => exact p1
    | stuck => exact p1
  | err e => exact p
  | stuck => exact p
theorem JE.un {op : UnaryOp} {g : α → Res γ} (ja : JE X I0 H0 W ctx mem a ma ra) (o : UnJ X W (unaryOp op) ra g rc) : JE X I0 H0 W ctx mem (.UnaryOp op a pos) (ma.bind fun x => g x) rc := fun I H σ Q st p => by
  refine w_un (ja I H σ _ st ?_)
  cases ma with
  | ok x => exact fun I1 H1 u f1 r1 => o I1 H1 σ Q u x f1.ih r1 (PostE.up p f1)
  | err e => exact p
  | stuck => exact p
/-- a test of a plain form whose value is a bool -/
theorem JT.of {m : Res Bool} (j : JE X I0 H0 W ctx mem e m (rp rBl)) (he : ∀ whole, isTrue e X.env whole = (do let v ← whole; standAt e.pos; holding [v] (truthy v)) := by intro _; rfl) : JT X I0 H0 W ctx mem e m := fun I H σ Q st p => by
  refine w_t (j I H σ _ st ?_) he
  cases m with
  | ok k => intro I1 H1 v f1 r1; cases r1; exact tru_bl (p I1 H1 _ f1 rfl k rfl)
  | err e => exact p
  | stuck => exact p
theorem JT.not {m : Res Bool} (j : JT X I0 H0 W ctx mem e m) : JT X I0 H0 W ctx mem (.UnaryOp .Not e pos) (m.bind fun b => .ok (!b)) := fun I H σ Q st p => by
  refine w_not (j I H σ _ st ?_)
  cases m with
  | ok k => exact fun I1 H1 v f1 r1 b hb => by cases r1; cases hb; exact p I1 H1 _ f1 rfl _ rfl
  | err e => exact p
  | stuck => exact p
theorem JE.not {m : Res Bool} (j : JE X I0 H0 W ctx mem e m (rp rBl)) : JE X I0 H0 W ctx mem (.UnaryOp .Not e pos) (m.bind fun b => .ok (!b)) (rp rBl) := fun I H σ Q st p => by
  refine w_notV (j I H σ _ st ?_)
  cases m with
  | ok k => exact fun I1 H1 v f1 r1 => ⟨k, r1, p I1 H1 _ f1 rfl⟩
  | err e => exact p
  | stuck => exact p
end
end L2.Tr

namespace L2.Tr
open PySem PySem.Spec PyProof.Rows
section
variable {α β γ δ S : Type}
def JW (X : Cx) (I0 H0 : Hp) (W : WX) (ctx : List (Option SF)) (mem : List MF) (e : Expr) (m : Res Bool) : Prop :=
  ∀ (I H : Hp) (σ : St) (Q : Bool → Hp → Prop), Stt I0 H0 ctx mem I H σ → PostE X.K m (rp rBl) I H (fun cls d H' => W cls d σ H') (fun v H' => ∀ b, v = .bl b → Q b H') → wW X e σ H Q
variable {X : Cx} {I0 H0 : Hp} {W : WX} {ctx : List (Option SF)} {mem : List MF} {e a b c o : Expr} {es bs : List Expr} {pos pos' : Pos} {n : Str} {ra : Ra α} {rb : Ra β} {rc : Ra γ} {ma : Res α} {mb : Res β} {m1 m2 mc : Res Bool}
theorem JT.bool {op} (j : JW X I0 H0 W ctx mem (.BoolOp op es pos) m1) : JT X I0 H0 W ctx mem (.BoolOp op es pos) m1 := fun I H σ Q st p => w_tbool (j I H σ Q st p)
theorem JW.and1 (j : JT X I0 H0 W ctx mem a m1) : JW X I0 H0 W ctx mem (.BoolOp .And [a] pos) m1 := fun I H σ Q st p => w_and1 (j I H σ Q st p)
theorem JW.or1 (j : JT X I0 H0 W ctx mem a m1) : JW X I0 H0 W ctx mem (.BoolOp .Or [a] pos) m1 := fun I H σ Q st p => w_or1 (j I H σ Q st p)
theorem JW.and (j : JT X I0 H0 W ctx mem a m1) (k : JW X I0 H0 W ctx mem (.BoolOp .And (b :: bs) pos) m2) : JW X I0 H0 W ctx mem (.BoolOp .And (a :: b :: bs) pos) (m1.bind fun x => if x = true then m2 else .ok false) := fun I H σ Q st p => by
  refine w_and (j I H σ _ st ?_)
  cases m1 with
  | ok x =>
    intro I1 H1 v f r y hy
    cases r; cases hy
    have p1 := PostE.up p f
    cases x with
    | true => exact iteT (k I1 H1 σ Q (st.step f) p1)
    | false => exact iteF (p1 I1 H1 _ (Fm.refl f.ih) rfl _ rfl)
  | err e => exact p
  | stuck => exact p
theorem JW.or (j : JT X I0 H0 W ctx mem a m1) (k : JW X I0 H0 W ctx mem (.BoolOp .Or (b :: bs) pos) m2) : JW X I0 H0 W ctx mem (.BoolOp .Or (a :: b :: bs) pos) (m1.bind fun x => if x = true then .ok true else m2) := fun I H σ Q st p => by
  refine w_or (j I H σ _ st ?_)
  cases m1 with
  | ok x =>
    intro I1 H1 v f r y hy
    cases r; cases hy
    have p1 := PostE.up p f
    cases x with
    | true => exact iteT (p1 I1 H1 _ (Fm.refl f.ih) rfl _ rfl)
    | false => exact iteF (k I1 H1 σ Q (st.step f) p1)
  | err e => exact p
  | stuck => exact p
theorem JE.one {op} {m : Res Bool} (j : JE X I0 H0 W ctx mem a m (rp rBl)) : JE X I0 H0 W ctx mem (.BoolOp op [a] pos) m (rp rBl) := fun I H σ Q st p => w_oneV (j I H σ Q st p)
theorem JE.and (j : JE X I0 H0 W ctx mem a m1 (rp rBl)) (k : JE X I0 H0 W ctx mem (.BoolOp .And (b :: bs) pos) m2 (rp rBl)) : JE X I0 H0 W ctx mem (.BoolOp .And (a :: b :: bs) pos) (m1.bind fun x => if x = true then m2 else .ok false) (rp rBl) := fun I H σ Q st p => by
  refine w_andV (j I H σ _ st ?_)
  cases m1 with
  | ok x =>
    intro I1 H1 v f r
    have p1 := PostE.up p f
    refine ⟨x, r, ?_⟩
    cases x with
    | true => exact iteT (k I1 H1 σ Q (st.step f) p1)
    | false => exact iteF (p1 I1 H1 _ (Fm.refl f.ih) rfl)
  | err e => exact p
  | stuck => exact p
theorem JE.or (j : JE X I0 H0 W ctx mem a m1 (rp rBl)) (k : JE X I0 H0 W ctx mem (.BoolOp .Or (b :: bs) pos) m2 (rp rBl)) : JE X I0 H0 W ctx mem (.BoolOp .Or (a :: b :: bs) pos) (m1.bind fun x => if x = true then .ok true else m2) (rp rBl) := fun I H σ Q st p => by
  refine w_orV (j I H σ _ st ?_)
  cases m1 with
  | ok x =>
    intro I1 H1 v f r
    have p1 := PostE.up p f
    refine ⟨x, r, ?_⟩
    cases x with
    | true => exact iteT (p1 I1 H1 _ (Fm.refl f.ih) rfl)
    | false => exact iteF (k I1 H1 σ Q (st.step f) p1)
  | err e => exact p
  | stuck => exact p
theorem JE.ifx {m m' : Res α} {r : Ra α} (j : JT X I0 H0 W ctx mem c mc) (k1 : JE X I0 H0 W ctx mem a m r) (k2 : JE X I0 H0 W ctx mem b m' r) : JE X I0 H0 W ctx mem (.IfExp c a b pos) (mc.bind fun x => if x = true then m else m') r := fun I H σ Q st p => by
  refine w_ifx (j I H σ _ st ?_)
  cases mc with
  | ok x =>
    intro I1 H1 v f r y hy
    cases r; cases hy
    have p1 := PostE.up p f
    cases x with
    | true => exact iteT (k1 I1 H1 σ Q (st.step f) p1)
    | false => exact iteF (k2 I1 H1 σ Q (st.step f) p1)
  | err e => exact p
  | stuck => exact p
/-! ### arguments and calls -/
theorem JA.nil : JA X I0 H0 W ctx mem [] (.ok ()) aNil := fun I H σ Q st p => w_nil (p I H [] (Fm.refl st.same) rfl)
theorem JA.cons {R : Hp → Hp → List V → δ → Prop} {m : Res δ} [MoA ra] (j : JE X I0 H0 W ctx mem e ma ra) (k : JA X I0 H0 W ctx mem es m R) (hs : starEach (e :: es) X.env = (false, eval e X.env) :: starEach es X.env := by rfl) :
    JA X I0 H0 W ctx mem (e :: es) (ma.bind fun x => m.bind fun y => .ok (x, y)) (aCons ra R) := fun I H σ Q st p => by
  refine Tr.w_cons (j I H σ _ st ?_) hs
  cases ma with
  | ok x =>
    intro I1 H1 v f1 r1
    refine k I1 H1 σ _ (st.step f1) ?_
    cases m with
    | ok y => exact fun I2 H2 vs f2 r2 => p I2 H2 _ (f1.trans f2) ⟨v, vs, rfl, MoA.up f2.i f2.h r1, r2⟩
    | err e => exact fun I2 H2 c d f2 x => p I2 H2 c d (f1.trans f2) ⟨x.1.back f1.h, x.2⟩
    | stuck => exact p
  | err e => exact p
  | stuck => exact p
variable {R : Hp → Hp → List V → δ → Prop} {md : Res δ} {g : δ → Res γ}
theorem JA.call (k : JA X I0 H0 W ctx mem es md R) {f : Value} (cj : CallJ X W f R g rc) {I H : Hp} {σ : St} {Q : VK} (st : Stt I0 H0 ctx mem I H σ) (p : PostE X.K (md.bind g) rc I H (fun cls d H' => W cls d σ H') Q) : wA X es σ H fun vs H1 => callW X f σ vs H1 Q := by
  refine k I H σ _ st ?_
  cases md with
  | ok x => exact fun I1 H1 vs f1 r1 => cj I1 H1 σ Q vs x f1.ih r1 (PostE.up p f1)
  | err e => exact p
  | stuck => exact p
/-- f(..), C(..) by a global name -/
theorem JE.call {f : Addr} (k : JA X I0 H0 W ctx mem (e :: es) md R) (cj : CallJ X W (.ref f) R g rc) (hm : X.mg n = some (.ref f)) (hk : PySem.W.keepIn X.K (.ref f) = true) (hg : Gl X n := by rfl) (hdb : (n == ("__debug__" : Str)) = false := by decide)
    (he : starEach (e :: es) X.env = (false, eval e X.env) :: starEach es X.env := by rfl) (hpl : (backTo pos (starEach es X.env)).any (·.1) = false := by rfl) : JE X I0 H0 W ctx mem (.Call (.Name n pos') (e :: es) [] pos) (md.bind g) rc := fun I H σ Q st p =>
  w_call (k.call cj st p) hm hk hg hdb he hpl
theorem JE.call0 {f : Addr} {g : Unit → Res γ} (cj : CallJ X W (.ref f) aNil g rc) (hm : X.mg n = some (.ref f)) (hk : PySem.W.keepIn X.K (.ref f) = true) (hg : Gl X n := by rfl) (hdb : (n == ("__debug__" : Str)) = false := by decide) : JE X I0 H0 W ctx mem (.Call (.Name n pos') [] [] pos) (g ()) rc := fun I H σ Q st p =>
  w_call0 (cj I H σ Q [] () st.same rfl p) hm hk hg hdb
/-- a built-in by its name -/
theorem JE.callB {id : String} (k : JA X I0 H0 W ctx mem (e :: es) md R) (cj : CallJ X W (.builtin id) R g rc) (hm : X.mg n = none) (hv : bootBuiltins n = some (.builtin id)) (hg : Gl X n := by rfl) (hn : n ≠ "__name__" := by decide) (hdb : (n == ("__debug__" : Str)) = false := by decide)
    (he : starEach (e :: es) X.env = (false, eval e X.env) :: starEach es X.env := by rfl) (hpl : (backTo pos (starEach es X.env)).any (·.1) = false := by rfl) : JE X I0 H0 W ctx mem (.Call (.Name n pos') (e :: es) [] pos) (md.bind g) rc := fun I H σ Q st p =>
  w_callB (k.call cj st p) hm hv hg hn hdb he hpl
theorem JE.callTy {T : String} (k : JA X I0 H0 W ctx mem (e :: es) md R) (cj : CallJ X W (.type T) R g rc) (hm : X.mg n = none) (hv : bootBuiltins n = some (.type T)) (hg : Gl X n := by rfl) (hn : n ≠ "__name__" := by decide) (hdb : (n == ("__debug__" : Str)) = false := by decide)
    (he : starEach (e :: es) X.env = (false, eval e X.env) :: starEach es X.env := by rfl) (hpl : (backTo pos (starEach es X.env)).any (·.1) = false := by rfl) : JE X I0 H0 W ctx mem (.Call (.Name n pos') (e :: es) [] pos) (md.bind g) rc := fun I H σ Q st p =>
  w_callTy (k.call cj st p) hm hv hg hn hdb he hpl
/-- what an instance must be for its methods -/
def InsOf (C : Addr) (r : Ra α) (m : Str) : Prop := ∀ I H v x, Same I H → r I H v x → ∃ a dx fs, v = .ref a ∧ H a = some (.ins C dx fs) ∧ fs.lookup m = none
theorem JE.meth {pl : Sem Bool} {m : Str} {C f : Addr} {apos : Pos} {g : α × δ → Res γ} [MoA ra] (j : JE X I0 H0 W ctx mem o ma ra) (hi : InsOf C ra m) (k : JA X I0 H0 W ctx mem (e :: es) md R) (cj : CallJ X W (.ref f) (aCons ra R) g rc) (c : Cls X.K C) (hm : Meth X.K C m f)
    (hst : starEach (e :: es) X.env = (false, eval e X.env) :: starEach es X.env := by rfl) (hpl : (backTo pos (starEach es X.env)).any (·.1) = false := by rfl)
    (ht : eval (.Call (.Attribute o m apos) (e :: es) [] pos) X.env = (do
      let ov ← eval o X.env
      standAt apos.atName
      let (f, first) ← holding [ov] (getMethod ov m pl)
      callWith pos f first (backTo pos (starEach (e :: es) X.env)) (backToKw pos (keywordEach [] X.env))) := by rfl) : JE X I0 H0 W ctx mem (.Call (.Attribute o m apos) (e :: es) [] pos) (ma.bind fun x => md.bind fun y => g (x, y)) rc := fun I H σ Q st p => by
  refine w_meth (j I H σ _ st ?_) c hm hst hpl ht
  cases ma with
  | ok x =>
    intro I1 H1 v f1 r1
    obtain ⟨a, dx, fs, ev, ha, hl⟩ := hi I1 H1 v x f1.ih r1
    refine ⟨a, dx, fs, ev, ha, hl, k I1 H1 σ _ (st.step f1) ?_⟩
    have p1 := PostE.up p f1
    cases md with
    | ok y => exact fun I2 H2 vs f2 r2 => cj I2 H2 σ Q (v :: vs) (x, y) f2.ih ⟨v, vs, rfl, MoA.up f2.i f2.h r1, r2⟩ (PostE.up p1 f2)
    | err e => exact p1
    | stuck => exact p1
  | err e => exact p
  | stuck => exact p
theorem JE.meth0 {pl : Sem Bool} {m : Str} {C f : Addr} {apos : Pos} {g : α × Unit → Res γ} (j : JE X I0 H0 W ctx mem o ma ra) (hi : InsOf C ra m) (cj : CallJ X W (.ref f) (aCons ra aNil) g rc) (c : Cls X.K C) (hm : Meth X.K C m f)
    (ht : eval (.Call (.Attribute o m apos) [] [] pos) X.env = (do
      let ov ← eval o X.env
      standAt apos.atName
      let (f, first) ← holding [ov] (getMethod ov m pl)
      callWith pos f first (backTo pos (starEach [] X.env)) (backToKw pos (keywordEach [] X.env))) := by rfl) : JE X I0 H0 W ctx mem (.Call (.Attribute o m apos) [] [] pos) (ma.bind fun x => g (x, ())) rc := fun I H σ Q st p => by
  refine w_meth0 (j I H σ _ st ?_) c hm ht
  cases ma with
  | ok x =>
    intro I1 H1 v f1 r1
    obtain ⟨a, dx, fs, ev, ha, hl⟩ := hi I1 H1 v x f1.ih r1
    exact ⟨a, dx, fs, ev, ha, hl, cj I1 H1 σ Q [v] (x, ()) f1.ih ⟨v, [], rfl, r1, rfl⟩ (PostE.up p f1)⟩
  | err e => exact p
  | stuck => exact p
/-- what a field is worth -/
def FldOf (K : PySem.W.Frag) (C : Addr) (r : Ra α) (f : Str) (get : α → β) (rf : Ra β) : Prop := ∀ I H v x, Same I H → r I H v x → ∃ a dx fs w, v = .ref a ∧ H a = some (.ins C dx fs) ∧ fs.lookup f = some w ∧ rf I H w (get x)
theorem JE.fld {C : Addr} {f : Str} {get : α → β} (j : JE X I0 H0 W ctx mem o ma ra) (hf : FldOf X.K C ra f get rb) (c : Cls X.K C) (hn : NoAttr X.K C f) (hb : attributeBase o f X.env (eval o X.env) = eval o X.env := by rfl) :
    JE X I0 H0 W ctx mem (.Attribute o f pos) (ma.bind fun x => .ok (get x)) rb := fun I H σ Q st p => by
  refine w_fld (j I H σ _ st ?_) hb
  cases ma with
  | ok x =>
    intro I1 H1 v f1 r1
    obtain ⟨a, dx, fs, w, ev, ha, hl, hw⟩ := hf I1 H1 v x f1.ih r1
    exact ⟨a, C, dx, fs, w, ev, ha, c, hn, hl, p I1 H1 w f1 hw⟩
  | err e => exact p
  | stuck => exact p
end

/-! ### statements -/
section
variable {α β γ δ S : Type}
abbrev Knows := Hp → Hp → St → Prop
abbrev KnowsX := Hp → Hp → St → Option Addr → Prop
def PostB (X : Cx) (W : WX) (Kx : KnowsX) (I : Hp) (m : Res S) (G : S → Knows) (D : Ends) : Prop := match m with
  | .ok s => ∀ I' H' σ', Same I I' → G s I' H' σ' → D.nx σ' H'
  | .err e => ∀ I' H' σ' cls d, Kx I' H' σ' d → ExR X.K I' H' e cls d → W cls d σ' H'
  | .stuck => False
def PostR (X : Cx) (I0 H0 : Hp) (W : WX) (Kx : KnowsX) (m : Res γ) (r : Ra γ) (D : Ends) : Prop := match m with
  | .ok y => ∀ I' H' v, Fm I0 H0 I' H' → r I' H' v y → D.rt v H'
  | .err e => ∀ I' H' σ' cls d, Kx I' H' σ' d → ExR X.K I' H' e cls d → W cls d σ' H'
  | .stuck => False
theorem PostB.up {X : Cx} {W : WX} {Kx : KnowsX} {I I1 : Hp} {m : Res S} {G : S → Knows} {D : Ends} (p : PostB X W Kx I m G D) (s : Same I I1) : PostB X W Kx I1 m G D := by
  cases m with
  | ok a => exact fun I' H' σ' q => p I' H' σ' (s.trans q)
  | err e => exact p
  | stuck => exact p
/-- one statement that goes on -/
def J1 (X : Cx) (W : WX) (Kx : KnowsX) (G : Knows) (st : Stmt) (m : Res S) (G' : S → Knows) : Prop := ∀ (I H : Hp) (σ : St) (D : Ends), G I H σ → PostB X W Kx I m G' D → wS X st D σ H
/-- a block that goes on -/
def JN (X : Cx) (W : WX) (Kx : KnowsX) (G : Knows) (ss : List Stmt) (m : Res S) (G' : S → Knows) : Prop := ∀ (I H : Hp) (σ : St) (D : Ends), G I H σ → PostB X W Kx I m G' D → wB X ss D σ H
/-- a block that ends the def -/
def JR (X : Cx) (I0 H0 : Hp) (W : WX) (Kx : KnowsX) (G : Knows) (ss : List Stmt) (m : Res γ) (r : Ra γ) : Prop := ∀ (I H : Hp) (σ : St) (D : Ends), G I H σ → PostR X I0 H0 W Kx m r D → wB X ss D σ H
variable {X : Cx} {I0 H0 : Hp} {W : WX} {Kx : KnowsX} {G : Knows} {ctx : List (Option SF)} {mem : List MF} {e a b c o : Expr} {es bs : List Expr} {st : Stmt} {ss s1 s2 : List Stmt} {pos pos' : Pos} {n : Str} {ra : Ra α} {rr : Ra γ} {ma : Res α} {mc : Res Bool}
theorem JN.nil {s : S} {G' : S → Knows} (h : ∀ I H σ, G I H σ → G' s I H σ) : JN X W Kx G [] (.ok s) G' := fun I H σ D g p => b_nil (p I H σ (Same.refl _) (h _ _ _ g))
theorem JN.seq {T : Type} {m : Res S} {G1 : S → Knows} {f : S → Res T} {G2 : T → Knows} (j : J1 X W Kx G st m G1) (k : ∀ s, JN X W Kx (G1 s) ss (f s) G2) : JN X W Kx G (st :: ss) (m.bind f) G2 := fun I H σ D g p => by
  refine b_cons (j I H σ _ g ?_)
  cases m with
  | ok s => exact fun I' H' σ' si g' => k s I' H' σ' D g' (PostB.up p si)
  | err e => exact p
  | stuck => exact p
theorem JN.last {m : Res S} {G1 : S → Knows} (j : J1 X W Kx G st m G1) : JN X W Kx G [st] m G1 := fun I H σ D g p => by
  refine b_cons (j I H σ _ g ?_)
  cases m with
  | ok s => exact fun I' H' σ' si g' => b_nil (p I' H' σ' si g')
  | err e => exact p
  | stuck => exact p
theorem JR.seq {m : Res S} {G1 : S → Knows} {f : S → Res γ} (j : J1 X W Kx G st m G1) (k : ∀ s, JR X I0 H0 W Kx (G1 s) ss (f s) rr) : JR X I0 H0 W Kx G (st :: ss) (m.bind f) rr := fun I H σ D g p => by
  refine b_cons (j I H σ _ g ?_)
  cases m with
  | ok s => exact fun I' H' σ' _ g' => k s I' H' σ' D g' p
  | err e => exact p
  | stuck => exact p
theorem JR.ret {m : Res γ} (j : JE X I0 H0 W ctx mem e m rr) (hx : ∀ I H σ d, Stt I0 H0 ctx mem I H σ → Fr H0 d → Kx I H σ d) : JR X I0 H0 W Kx (Stt I0 H0 ctx mem) (.Return (some e) pos :: ss) m rr := fun I H σ D g p => by
  refine b_cons (s_ret (j I H σ _ g ?_))
  cases m with
  | ok y => exact fun I' H' v f r => p I' H' v (g.fm.trans f) r
  | err e => exact fun I' H' c d f x => p I' H' σ c d (hx _ _ _ _ (g.step f) (x.1.back g.fm.h)) x.2
  | stuck => exact p
theorem JR.retN : JR X I0 H0 W Kx (Stt I0 H0 ctx mem) (.Return none pos :: ss) (.ok ()) (rp rNon) := fun I H σ D g p => b_cons (s_retN (p I H _ g.fm rfl))
theorem JR.ifR {m1 m2 : Res γ} (j : JT X I0 H0 W ctx mem c mc) (k1 : JR X I0 H0 W Kx (Stt I0 H0 ctx mem) s1 m1 rr) (k2 : JR X I0 H0 W Kx (Stt I0 H0 ctx mem) ss m2 rr) (hx : ∀ I H σ d, Stt I0 H0 ctx mem I H σ → Fr H0 d → Kx I H σ d) :
    JR X I0 H0 W Kx (Stt I0 H0 ctx mem) (.If c s1 [] pos :: ss) (mc.bind fun x => if x = true then m1 else m2) rr := fun I H σ D g p => by
  refine b_cons (s_if (j I H σ _ g ?_))
  cases mc with
  | ok x =>
    intro I1 H1 v f r y hy
    cases r; cases hy
    cases x with
    | true =>
      refine iteT (b_mono (k1 I1 H1 σ { D with nx := fun _ _ => False } (g.step f) ?_) (fun _ _ z => z.elim) (fun _ _ z => z) (fun _ _ z => z) (fun _ _ z => z))
      exact p
    | false => exact iteF (b_nil (k2 I1 H1 σ D (g.step f) p))
  | err e => exact fun I' H' c d f x => p I' H' σ c d (hx _ _ _ _ (g.step f) (x.1.back g.fm.h)) x.2
  | stuck => exact p
theorem JR.if2 {m1 m2 : Res γ} (j : JT X I0 H0 W ctx mem c mc) (k1 : JR X I0 H0 W Kx (Stt I0 H0 ctx mem) s1 m1 rr) (k2 : JR X I0 H0 W Kx (Stt I0 H0 ctx mem) s2 m2 rr) (hx : ∀ I H σ d, Stt I0 H0 ctx mem I H σ → Fr H0 d → Kx I H σ d) :
    JR X I0 H0 W Kx (Stt I0 H0 ctx mem) (.If c s1 s2 pos :: ss) (mc.bind fun x => if x = true then m1 else m2) rr := fun I H σ D g p => by
  refine b_cons (s_if (j I H σ _ g ?_))
  cases mc with
  | ok x =>
    intro I1 H1 v f r y hy
    cases r; cases hy
    cases x with
    | true => exact iteT (b_mono (k1 I1 H1 σ { D with nx := fun _ _ => False } (g.step f) p) (fun _ _ z => z.elim) (fun _ _ z => z) (fun _ _ z => z) (fun _ _ z => z))
    | false => exact iteF (b_mono (k2 I1 H1 σ { D with nx := fun _ _ => False } (g.step f) p) (fun _ _ z => z.elim) (fun _ _ z => z) (fun _ _ z => z) (fun _ _ z => z))
  | err e => exact fun I' H' c d f x => p I' H' σ c d (hx _ _ _ _ (g.step f) (x.1.back g.fm.h)) x.2
  | stuck => exact p
theorem J1.if {m1 m2 : Res S} {G' : S → Knows} (j : JT X I0 H0 W ctx mem c mc) (k1 : JN X W Kx (Stt I0 H0 ctx mem) s1 m1 G') (k2 : JN X W Kx (Stt I0 H0 ctx mem) s2 m2 G') (hx : ∀ I H σ d, Stt I0 H0 ctx mem I H σ → Fr H0 d → Kx I H σ d) :
    J1 X W Kx (Stt I0 H0 ctx mem) (.If c s1 s2 pos) (mc.bind fun x => if x = true then m1 else m2) G' := fun I H σ D g p => by
  refine s_if (j I H σ _ g ?_)
  cases mc with
  | ok x =>
    intro I1 H1 v f r y hy
    cases r; cases hy
    cases x with
    | true => exact iteT (k1 I1 H1 σ D (g.step f) (PostB.up p f.i))
    | false => exact iteF (k2 I1 H1 σ D (g.step f) (PostB.up p f.i))
  | err e => exact fun I' H' c d f x => p I' H' σ c d (hx _ _ _ _ (g.step f) (x.1.back g.fm.h)) x.2
  | stuck => exact p
theorem J1.set (i : Nat) {r : Rp α} [Mo r] {m : Res α} (j : JE X I0 H0 W ctx mem e m (rp r)) (hx : ∀ I H σ d, Stt I0 H0 ctx mem I H σ → Fr H0 d → Kx I H σ d) (hN : X.N.Nodup) (hi : X.N[i]? = some n := by rfl) (hl : Loc X.env.scope n := by first | exact Or.inl rfl | exact Or.inr rfl) (hs : swapsWith e (some (.Name n pos')) pos.line X.env = pure false := by rfl)
    (hf : X.fn n = true ∨ X.env.scope.names.lookup n = some .local := by first | exact .inl rfl | exact .inr rfl | assumption) : J1 X W Kx (Stt I0 H0 ctx mem) (.Assign [.Name n pos'] e pos) m (fun x => Stt I0 H0 (ctx.set i (some ⟨r, x⟩)) mem) := fun I H σ D g p => by
  refine s_set i (j I H σ _ g ?_) hN hi hl hs hf
  cases m with
  | ok x => exact fun I' H' v f h => p I' H' _ f.i ((g.step f).set i h)
  | err e => exact fun I' H' c d f x => p I' H' σ c d (hx _ _ _ _ (g.step f) (x.1.back g.fm.h)) x.2
  | stuck => exact p
theorem J1.expr {m : Res α} (j : JE X I0 H0 W ctx mem e m ra) (hx : ∀ I H σ d, Stt I0 H0 ctx mem I H σ → Fr H0 d → Kx I H σ d) (hs : swapsWith e none pos.line X.env = pure false := by rfl) : J1 X W Kx (Stt I0 H0 ctx mem) (.Expr e pos) m (fun _ => Stt I0 H0 ctx mem) := fun I H σ D g p => by
  refine s_expr (j I H σ _ g ?_) hs
  cases m with
  | ok x => exact fun I' H' v f h => p I' H' σ f.i (g.step f)
  | err e => exact fun I' H' c d f x => p I' H' σ c d (hx _ _ _ _ (g.step f) (x.1.back g.fm.h)) x.2
  | stuck => exact p
/-- a block that ends by itself: the def hands back None -/
theorem JR.end {m : Res S} {G' : S → Knows} {f : S → Res γ} (j : JN X W Kx G ss m G') : True := trivial
end
end L2.Tr

namespace L2.Tr
open PySem PySem.Spec PyProof.Rows
section
variable {α β γ δ S : Type} {X : Cx} {W : WX}
/-! ### ints -/
def mulI (x y : Int) : Res Int := Res.guard (x.natAbs.log2 + y.natAbs.log2 < 1000000) (.ok (x * y))
def modI (x y : Int) : Res Int := Res.guard (y ≠ 0) (.ok (x.fmod y))
def fdivI (x y : Int) : Res Int := Res.guard (y ≠ 0 ∧ y.natAbs.log2 < 9000) (.ok (x.fdiv y))
def powI (x y : Int) : Res Int := Res.guard (0 ≤ y ∧ (y ≤ 1000000 ∧ x.natAbs < 2 ^ 64 ∨ (x.natAbs.log2 + 1) * y.toNat ≤ 2 ^ 27)) (.ok (x ^ y.toNat))
theorem post_guard {p : Prop} [Decidable p] {m : Res α} {K : PySem.W.Frag} {r : Ra α} {I H : Hp} {E : XK} {Q : VK} (h : PostE K (Res.guard p m) r I H E Q) : p ∧ PostE K m r I H E Q := by
  unfold Res.guard at h
  by_cases q : p
  · rw [if_pos q] at h; exact ⟨q, h⟩
  · rw [if_neg q] at h; exact False.elim h
theorem op_fdivV : OpR X (binaryOp .FloorDiv) (rI (fun _ j => j ≠ 0 ∧ j.natAbs.log2 < 9000) fun i j => .int (i.fdiv j)) := opI fun i j _ _ _ _ _ hc q => floordiv_int hc.1 q (.inl (PyProof.noPylong_of_log2 hc.2))
theorem opj_add : OpJ X W (binaryOp .Add) (rp rInt) (rp rInt) (fun x y => .ok (x + y)) (rp rInt) := fun I H σ Q u v x y s a b p => OpR.w op_add ⟨x, y, a, b, p I H _ (Fm.refl s) rfl⟩
theorem opj_sub : OpJ X W (binaryOp .Sub) (rp rInt) (rp rInt) (fun x y => .ok (x - y)) (rp rInt) := fun I H σ Q u v x y s a b p => OpR.w op_sub ⟨x, y, a, b, p I H _ (Fm.refl s) rfl⟩
theorem opj_mul : OpJ X W (binaryOp .Mult) (rp rInt) (rp rInt) (fun x y => mulI x y) (rp rInt) := fun I H σ Q u v x y s a b p => OpR.w op_mulW ⟨x, y, a, b, (post_guard p).1, (post_guard p).2 I H _ (Fm.refl s) rfl⟩
theorem opj_mod : OpJ X W (binaryOp .Mod) (rp rInt) (rp rInt) (fun x y => modI x y) (rp rInt) := fun I H σ Q u v x y s a b p => OpR.w op_modN ⟨x, y, a, b, (post_guard p).1, (post_guard p).2 I H _ (Fm.refl s) rfl⟩
theorem opj_fdiv : OpJ X W (binaryOp .FloorDiv) (rp rInt) (rp rInt) (fun x y => fdivI x y) (rp rInt) := fun I H σ Q u v x y s a b p => OpR.w op_fdivV ⟨x, y, a, b, (post_guard p).1, (post_guard p).2 I H _ (Fm.refl s) rfl⟩
theorem op_powV : OpR X (binaryOp .Pow) (rI (fun x y => 0 ≤ y ∧ (y ≤ 1000000 ∧ x.natAbs < 2 ^ 64 ∨ (x.natAbs.log2 + 1) * y.toNat ≤ 2 ^ 27)) fun i j => .int (i ^ j.toNat)) := opI fun x y _ _ _ _ _ hc q => by
  rcases hc.2 with h | h
  · exact pow_int_small hc.1 h.1 h.2 q
  · refine pow_int hc.1 ?_ q
    have b : Builtin.Int.intBits x ≤ x.natAbs.log2 + 1 := by
      unfold Builtin.Int.intBits
      split <;> omega
    have e : y = (y.toNat : Int) := (Int.toNat_of_nonneg hc.1).symm
    rw [e]
    have := Nat.mul_le_mul_right y.toNat b
    have h2 : Builtin.Int.intBits x * y.toNat ≤ 2 ^ 27 := Nat.le_trans this h
    exact_mod_cast h2
theorem opj_pow : OpJ X W (binaryOp .Pow) (rp rInt) (rp rInt) (fun x y => powI x y) (rp rInt) := fun I H σ Q u v x y s a b p => OpR.w op_powV ⟨x, y, a, b, (post_guard p).1, (post_guard p).2 I H _ (Fm.refl s) rfl⟩
theorem opj_lt : OpJ X W (compareOp .Lt) (rp rInt) (rp rInt) (fun x y => .ok (decide (x < y))) (rp rBl) := fun I H σ Q u v x y s a b p => OpR.w op_lt ⟨x, y, a, b, p I H _ (Fm.refl s) rfl⟩
theorem opj_le : OpJ X W (compareOp .LtE) (rp rInt) (rp rInt) (fun x y => .ok (decide (x ≤ y))) (rp rBl) := fun I H σ Q u v x y s a b p => OpR.w op_le ⟨x, y, a, b, p I H _ (Fm.refl s) rfl⟩
theorem opj_gt : OpJ X W (compareOp .Gt) (rp rInt) (rp rInt) (fun x y => .ok (decide (y < x))) (rp rBl) := fun I H σ Q u v x y s a b p => OpR.w op_gt ⟨x, y, a, b, p I H _ (Fm.refl s) rfl⟩
theorem opj_ge : OpJ X W (compareOp .GtE) (rp rInt) (rp rInt) (fun x y => .ok (decide (y ≤ x))) (rp rBl) := fun I H σ Q u v x y s a b p => OpR.w op_ge ⟨x, y, a, b, p I H _ (Fm.refl s) rfl⟩
theorem decV {a b : Int} : decide (V.int a = V.int b) = decide (a = b) := by by_cases h : a = b <;> simp [h]
theorem decB {a b : Bool} : decide (V.bl a = V.bl b) = decide (a = b) := by by_cases h : a = b <;> simp [h]
theorem decS {a b : Str} : decide (V.str a = V.str b) = decide (a = b) := by by_cases h : a = b <;> simp [h]
theorem opj_eq : OpJ X W (compareOp .Eq) (rp rInt) (rp rInt) (fun x y => .ok (decide (x = y))) (rp rBl) := fun I H σ Q u v x y s a b p => by
  cases a; cases b
  exact OpR.w op_eq ⟨rfl, p I H _ (Fm.refl s) (by rw [decV]; rfl)⟩
theorem opj_ne : OpJ X W (compareOp .NotEq) (rp rInt) (rp rInt) (fun x y => .ok (!decide (x = y))) (rp rBl) := fun I H σ Q u v x y s a b p => by
  cases a; cases b
  exact OpR.w op_ne ⟨rfl, p I H _ (Fm.refl s) (by rw [decV]; rfl)⟩
theorem opj_eqB : OpJ X W (compareOp .Eq) (rp rBl) (rp rBl) (fun x y => .ok (decide (x = y))) (rp rBl) := fun I H σ Q u v x y s a b p => by
  cases a; cases b
  exact OpR.w op_eq ⟨rfl, p I H _ (Fm.refl s) (by rw [decB]; rfl)⟩
theorem opj_neB : OpJ X W (compareOp .NotEq) (rp rBl) (rp rBl) (fun x y => .ok (!decide (x = y))) (rp rBl) := fun I H σ Q u v x y s a b p => by
  cases a; cases b
  exact OpR.w op_ne ⟨rfl, p I H _ (Fm.refl s) (by rw [decB]; rfl)⟩
theorem opj_eqS : OpJ X W (compareOp .Eq) (rp rStr) (rp rStr) (fun x y => .ok (decide (x = y))) (rp rBl) := fun I H σ Q u v x y s a b p => by
  cases a; cases b
  exact OpR.w op_eq ⟨rfl, p I H _ (Fm.refl s) (by rw [decS]; rfl)⟩
theorem opj_neS : OpJ X W (compareOp .NotEq) (rp rStr) (rp rStr) (fun x y => .ok (!decide (x = y))) (rp rBl) := fun I H σ Q u v x y s a b p => by
  cases a; cases b
  exact OpR.w op_ne ⟨rfl, p I H _ (Fm.refl s) (by rw [decS]; rfl)⟩
theorem unj_neg : UnJ X W (unaryOp .USub) (rp rInt) (fun x => .ok (-x)) (rp rInt) := fun I H σ Q u x s a p => UnR.w un_neg ⟨x, a, p I H _ (Fm.refl s) rfl⟩
abbrev R1 (r : Ra α) := aCons r aNil
abbrev R2' (r : Ra α) (r' : Ra β) := aCons r (aCons r' aNil)
theorem cj_abs : CallJ X W (.builtin "abs") (R1 (rp rInt)) (fun d => .ok (if d.1 < 0 then -d.1 else d.1)) (rp rInt) := fun I H σ Q vs x s a p => by
  obtain ⟨v, ws, rfl, h, rfl⟩ := a
  exact CallR.w call_abs ⟨x.1, by rw [show v = _ from h], p I H _ (Fm.refl s) rfl⟩
theorem cj_int : CallJ X W (.type "int") (R1 (rp rInt)) (fun d => .ok d.1) (rp rInt) := fun I H σ Q vs x s a p => by
  obtain ⟨v, ws, rfl, h, rfl⟩ := a
  exact CallR.w call_int1 (.inl ⟨x.1, by rw [show v = _ from h], p I H _ (Fm.refl s) rfl⟩)
theorem cj_intB : CallJ X W (.type "int") (R1 (rp rBl)) (fun d => .ok (if d.1 = true then 1 else 0)) (rp rInt) := fun I H σ Q vs x s a p => by
  obtain ⟨v, ws, rfl, h, rfl⟩ := a
  exact CallR.w call_int1 (.inr ⟨x.1, by rw [show v = _ from h], p I H _ (Fm.refl s) rfl⟩)
theorem cj_bool : CallJ X W (.type "bool") (R1 (rp rBl)) (fun d => .ok d.1) (rp rBl) := fun I H σ Q vs x s a p => by
  obtain ⟨v, ws, rfl, h, rfl⟩ := a
  exact CallR.w call_bool1 (.inr ⟨x.1, by rw [show v = _ from h], p I H _ (Fm.refl s) rfl⟩)
theorem cj_max (hc : X.calm = true) : CallJ X W (.builtin "max") (R2' (rp rInt) (rp rInt)) (fun d => .ok (if d.2.1 > d.1 then d.2.1 else d.1)) (rp rInt) := fun I H σ Q vs x s a p => by
  obtain ⟨v, ws, rfl, h, v', ws', rfl, h', rfl⟩ := a
  exact CallR.w (call_max2 hc) ⟨x.1, x.2.1, by rw [show v = _ from h, show v' = _ from h'], p I H _ (Fm.refl s) rfl⟩
theorem cj_min (hc : X.calm = true) : CallJ X W (.builtin "min") (R2' (rp rInt) (rp rInt)) (fun d => .ok (if d.2.1 < d.1 then d.2.1 else d.1)) (rp rInt) := fun I H σ Q vs x s a p => by
  obtain ⟨v, ws, rfl, h, v', ws', rfl, h', rfl⟩ := a
  exact CallR.w (call_min2 hc) ⟨x.1, x.2.1, by rw [show v = _ from h, show v' = _ from h'], p I H _ (Fm.refl s) rfl⟩
theorem cj_len {r : Ra α} : CallJ X W (.builtin "len") (R1 (rdL X.K r)) (fun d => .ok (d.1.length : Int)) (rp rInt) := fun I H σ Q vs x s a p => by
  obtain ⟨v, ws, rfl, ⟨l, vs, rfl, hl, pr⟩, rfl⟩ := a
  exact CallR.w call_len ⟨_, vs.length, rfl, .inl ⟨vs, hl, rfl⟩, by rw [Paired.length pr]; exact p I H _ (Fm.refl s) rfl⟩

/-! ### lists -/
/-- a frozen list, a parameter's list: readable -/
theorem rL_rd {r : Rp α} {K : PySem.W.Frag} {I H : Hp} {v : V} {xs : List α} (s : Same I H) (h : rL r I v xs) : rdL K (rp r) I H v xs := by
  obtain ⟨l, vs, rfl, e, p⟩ := h
  exact ⟨l, vs, rfl, SqL.of (s _ _ e), p⟩
/-- the index i of a list, any sign -/
def atM (xs : List α) (i : Int) : Res α := match atI xs i with
  | some x => .ok x
  | none => .stuck
theorem paired_get {F : α → β → Prop} : ∀ {xs : List α} {ys : List β} {i : Nat} {y : β}, Paired F xs ys → ys[i]? = some y → ∃ x, xs[i]? = some x ∧ F x y
  | _, _, _, _, .nil, e => by simp at e
  | _, _, 0, _, .cons r _, e => by simp at e; subst e; exact ⟨_, rfl, r⟩
  | _, _, i + 1, y, .cons _ t, e => by
    obtain ⟨u, h1, h2⟩ := paired_get (i := i) (y := y) t (by simpa using e)
    exact ⟨u, by simpa using h1, h2⟩
end
end L2.Tr

namespace L2.Tr
open PySem PySem.Spec PyProof.Rows
section
variable {α β γ δ S : Type} {X : Cx} {I0 H0 : Hp} {W : WX} {ctx : List (Option SF)} {mem : List MF} {e a b c o : Expr} {es bs : List Expr} {pos pos' : Pos} {n : Str} {ra : Ra α} {rb : Ra β} {rc : Ra γ} {ma : Res α} {mb : Res β}
/-! ### subscripts, displays -/
theorem atI_pair {F : α → β → Prop} {xs : List α} {ys : List β} {i : Int} {y : β} (p : Paired F xs ys) (h : atI ys i = some y) : ∃ x, atI xs i = some x ∧ F x y := by
  unfold atI at h ⊢
  rw [Paired.length p]
  cases e : ixN ys.length i with
  | none => rw [e] at h; cases h
  | some j => rw [e] at h; exact paired_get p h
theorem JE.ix {r : Ra α} {m : Res (List α)} {mi : Res Int} [MoA r] (ja : JE X I0 H0 W ctx mem a m (rdL X.K r)) (jb : JE X I0 H0 W ctx mem b mi (rp rInt)) (hs : PlainIx b := by exact fun _ _ => rfl) :
    JE X I0 H0 W ctx mem (.Subscript a b pos) (m.bind fun xs => mi.bind fun i => atM xs i) r := fun I H σ Q st p => by
  refine PE.w (pe_ix ix_list pe_W pe_W hs) (ja I H σ _ st ?_)
  cases m with
  | ok xs =>
    intro I1 H1 u f1 r1
    refine jb I1 H1 σ _ (st.step f1) ?_
    have p1 := PostE.up p f1
    cases mi with
    | ok i =>
      intro I2 H2 v f2 r2
      obtain ⟨l, vs, rfl, hl, pr⟩ := MoA.up (r := rdL X.K r) f2.i f2.h r1
      have p2 : PostE X.K (atM xs i) r I2 H2 _ Q := PostE.up p1 f2
      unfold atM at p2
      cases e : atI xs i with
      | none => rw [e] at p2; exact p2.elim
      | some x =>
        rw [e] at p2
        obtain ⟨w, ew, hw⟩ := atI_pair pr e
        exact ⟨l, vs, i, w, rfl, r2, hl, ew, p2 I2 H2 w (Fm.refl f2.ih) hw⟩
    | err e => exact p1
    | stuck => exact p1
  | err e => exact p
  | stuck => exact p
def lR (n : Nat) (r : Ra α) : Hp → Hp → List V → List α → Prop := fun I H vs xs => vs.length = n ∧ Paired (r I H) vs xs
theorem JA.nilL {r : Ra α} : JA X I0 H0 W ctx mem [] (.ok []) (lR 0 r) := fun I H σ Q st p => w_nil (p I H [] (Fm.refl st.same) ⟨rfl, .nil⟩)
theorem JA.consL {k : Nat} {r : Ra α} {m : Res (List α)} [MoA r] (j : JE X I0 H0 W ctx mem e ma r) (jk : JA X I0 H0 W ctx mem es m (lR k r)) (hs : starEach (e :: es) X.env = (false, eval e X.env) :: starEach es X.env := by rfl) :
    JA X I0 H0 W ctx mem (e :: es) (ma.bind fun x => m.bind fun y => .ok (x :: y)) (lR (k + 1) r) := fun I H σ Q st p => by
  refine Tr.w_cons (j I H σ _ st ?_) hs
  cases ma with
  | ok x =>
    intro I1 H1 v f1 r1
    refine jk I1 H1 σ _ (st.step f1) ?_
    cases m with
    | ok y => exact fun I2 H2 vs f2 r2 => p I2 H2 _ (f1.trans f2) ⟨by rw [List.length_cons, r2.1], .cons (MoA.up f2.i f2.h r1) r2.2⟩
    | err e => exact fun I2 H2 c d f2 x => p I2 H2 c d (f1.trans f2) ⟨x.1.back f1.h, x.2⟩
    | stuck => exact p
  | err e => exact p
  | stuck => exact p
/-- [..], frozen at once -/
theorem JE.lst {k : Nat} {r : Rp α} {m : Res (List α)} [mo : Mo r] (j : JA X I0 H0 W ctx mem es m (lR k (rp r))) (hk : k ≤ sizeLine := by decide) : JE X I0 H0 W ctx mem (.List es pos) m (rp (rL r)) := fun I H σ Q st p => by
  refine w_lst (j I H σ _ st ?_)
  cases m with
  | ok xs => exact fun I1 H1 vs f1 r1 => ⟨by rw [r1.1]; exact hk, fun q hq => p _ _ _ (f1.trans (Fm.new f1.ih hq)) ⟨q, vs, rfl, upd_same, Paired.mapP r1.2 fun _ _ z => mo.up (Fm.new (o := .lst vs) f1.ih hq).i z⟩⟩
  | err e => exact p
  | stuck => exact p
theorem JE.tup {k : Nat} {r : Rp α} {m : Res (List α)} {x1} [mo : Mo r] (j : JA X I0 H0 W ctx mem es m (lR k (rp r))) (hk : k ≤ sizeLine := by decide) : JE X I0 H0 W ctx mem (.Tuple es x1 pos) m (rp (rT r)) := fun I H σ Q st p => by
  refine w_tup (j I H σ _ st ?_)
  cases m with
  | ok xs => exact fun I1 H1 vs f1 r1 => ⟨by rw [r1.1]; exact hk, fun q hq => p _ _ _ (f1.trans (Fm.new f1.ih hq)) ⟨q, vs, rfl, upd_same, Paired.mapP r1.2 fun _ _ z => mo.up (Fm.new (o := .tup vs) f1.ih hq).i z⟩⟩
  | err e => exact p
  | stuck => exact p
/-- a frozen list as a readable one -/
theorem JE.rd {r : Rp α} {m : Res (List α)} (j : JE X I0 H0 W ctx mem e m (rp (rL r))) : JE X I0 H0 W ctx mem e m (rdL X.K (rp r)) := j.co fun _ _ _ _ s h => rL_rd s h
/-! ### lists of ints compared -/
theorem eqvAll_ints : ∀ xs ys : List Int, PyData.eqvAll (xs.map .int) (ys.map .int) = decide (xs = ys)
  | [], [] => rfl
  | [], _ :: _ => rfl
  | _ :: _, [] => rfl
  | x :: xs, y :: ys => by
    show (PyData.eqv (.int x) (.int y) && PyData.eqvAll (xs.map .int) (ys.map .int)) = _
    rw [eqvAll_ints xs ys]
    show ((x == y) && _) = _
    by_cases h : x = y <;> by_cases h' : xs = ys <;> simp [h, h']
theorem dpAll_ints {K : PySem.W.Frag} {I H : Hp} : ∀ {vs : List V} {xs : List Int}, Paired (rp rInt I H) vs xs → DpAll K H vs (xs.map .int)
  | _, _, .nil => .nil
  | _, _, .cons h t => .cons (by rw [show _ = V.int _ from h]; exact .int _) (dpAll_ints t)
theorem shaped_ints (xs : List Int) : SeqAt.shaped (.list (xs.map .int)) = true := by
  have h1 : ∀ xs : List Int, PyData.canLayAll0 (xs.map .int) = true := fun xs => by
    induction xs with
    | nil => rfl
    | cons x xs ih => show (true && _) = true; rw [ih]; rfl
  have h2 : PyData.depth (.list (xs.map .int)) ≤ 64 := by
    have : ∀ xs : List Int, PyData.depthAll (xs.map .int) ≤ 1 := fun xs => by
      induction xs with
      | nil => exact Nat.zero_le _
      | cons x xs ih =>
        show max _ _ ≤ 1
        exact Nat.max_le.mpr ⟨by first | exact Nat.le_refl _ | exact Nat.zero_le _ | (simp [PyData.depth]), ih⟩
    have := this xs
    first | (show _ + 1 ≤ 64; omega) | (simp [PyData.depth]; omega)
  unfold SeqAt.shaped
  rw [decide_eq_true h2]
  show (PyData.canLayAll0 _ && true) = true
  rw [h1]; rfl
end
end L2.Tr

namespace L2.Tr
open PySem PySem.Spec PyProof.Rows
section
variable {α β γ δ S : Type} {X : Cx} {I0 H0 : Hp} {W : WX} {ctx : List (Option SF)} {mem : List MF} {e a b c o : Expr} {es bs : List Expr} {pos pos' : Pos} {n : Str} {ra : Ra α} {rb : Ra β} {rc : Ra γ} {ma : Res α} {mb : Res β}
theorem opj_eqL (hu : X.A.units + 64 < cLine) : OpJ X W (compareOp .Eq) (rdL X.K (rp rInt)) (rdL X.K (rp rInt)) (fun x y => .ok (decide (x = y))) (rp rBl) := fun I H σ Q u v x y s ⟨l, vs, e1, h1, p1⟩ ⟨l', vs', e2, h2, p2⟩ p => by
  subst e1; subst e2
  exact OpR.w (op_eqD hu) ⟨.list (x.map .int), .list (y.map .int), .lst h1 (dpAll_ints p1), .lst h2 (dpAll_ints p2), shaped_ints _, shaped_ints _, p I H _ (Fm.refl s) (by show V.bl (PyData.eqvAll _ _) = _; rw [eqvAll_ints])⟩
theorem opj_neL (hu : X.A.units + 64 < cLine) : OpJ X W (compareOp .NotEq) (rdL X.K (rp rInt)) (rdL X.K (rp rInt)) (fun x y => .ok (!decide (x = y))) (rp rBl) := fun I H σ Q u v x y s ⟨l, vs, e1, h1, p1⟩ ⟨l', vs', e2, h2, p2⟩ p => by
  subst e1; subst e2
  exact OpR.w (op_neD hu) ⟨.list (x.map .int), .list (y.map .int), .lst h1 (dpAll_ints p1), .lst h2 (dpAll_ints p2), shaped_ints _, shaped_ints _, p I H _ (Fm.refl s) (by show V.bl (!PyData.eqvAll _ _) = _; rw [eqvAll_ints])⟩

/-! ### own operators -/
/-- facts of an own class for its operators and isinstance -/
structure OCls (K : PySem.W.Frag) (C : Addr) : Prop where
  cl : Cls K C
  sf : PySem.W.selfFirst K C = true
  ca : PySem.W.findIn K (.ref C) "__class__" = some (some (.builtin "object.__class__"))
  cn : PySem.W.specialIn K (.builtin "object.__class__") "__get__" = some (some (.builtin "getset_descriptor.__get__"))
  ct : PySem.W.takesIn K (.builtin "object.__class__") = some true
  cm : PySem.W.mroIn K C (.type "object") = some true
  ni : PySem.W.subIn K (.ref C) (.type "int") = some false
  in_ : PySem.W.subIn K (.type "int") (.ref C) = some false
  ne : PySem.W.findIn K (.ref C) "__ne__" = some (some (.builtin "object.__ne__"))
structure OMet (K : PySem.W.Frag) (C : Addr) (m : Str) (f : Addr) : Prop where
  at_ : PySem.W.findIn K (.ref C) m = some (some (.ref f))
  fn : PySem.W.isFn K (.ref f) = true
def InsR (C : Addr) (r : Ra α) : Prop := ∀ I H v x, Same I H → r I H v x → ∃ a dx fs, v = .ref a ∧ H a = some (.ins C dx fs)
theorem insAt {pins : List (Addr × Obj)} {σ : St} {H : Hp} {s : Shared} {x C dx : Addr} {fs : List (Str × V)} (I : Inv X pins σ H s) (h : H x = some (.ins C dx fs)) : ∃ od, PySem.W.InstAt s.heap x (PySem.W.instObj C dx) C (some od) := by
  obtain ⟨mA, O, _⟩ := ins_get I.hok h
  obtain ⟨od, J, _⟩ := O.look
  exact ⟨od, J⟩
theorem cmpback' {v : V} {u : Value} {s : Shared} {Q : Value → Shared → Prop} (r : RelV v u) (h : Q u s) : PySem.W.CmpBack Q u s := by
  cases v with
  | non => cases (show u = Value.none from r); exact h
  | bl b => cases (show u = Value.bool b from r); exact h
  | int i => obtain ⟨t, e⟩ := (show ∃ t, u = Value.int i t from r); cases e; exact h
  | str x => obtain ⟨t, e⟩ := (show ∃ t, u = Value.str x t from r); cases e; exact h
  | byt b => obtain ⟨t, e⟩ := (show ∃ t, u = Value.bytes b t from r); cases e; exact h
  | flt b => obtain ⟨t, e⟩ := (show ∃ t, u = Value.float b t from r); cases e; exact h
  | ref a => cases (show u = Value.ref a from r); exact h
  | ty n => cases (show u = Value.type n from r); exact h
theorem back_W {f : Addr} {σ : St} {vs : List V} {H : Hp} {Q : VK} (h : callW X (.ref f) σ vs H Q) {pins : List (Addr × Obj)} {s : Shared} {us : List Value} (I : Inv X pins σ H s) (r : Vals vs us) :
    wpAny (model X.prog X.w) X.A (call (.ref f) us) (PySem.W.CmpBack (EP X pins σ Q)) X.xe s := thn (h pins s us I r) fun u s' ⟨v, H', I', rv, q⟩ => cmpback' rv ⟨v, H', I', rv, q⟩
/-- x op y, both of the class -/
theorem opj_own {op : Operator} {C f : Addr} {g : α × β × Unit → Res γ} (hc : OCls X.K C) (hm : OMet X.K C (PySem.dunder op.info.2) f) (ia : InsR C ra) (ib : InsR C rb) (cj : CallJ X W (.ref f) (R2' ra rb) g rc) :
    OpJ X W (binaryOp op) ra rb (fun x y => g (x, y, ())) rc := fun I H σ Q u v x y s a b p pins sh uu vv Iv ru rv => by
  obtain ⟨au, dx, fs, rfl, hu⟩ := ia I H u x s a
  obtain ⟨av, dy, gs, rfl, hv⟩ := ib I H v y s b
  cases (show uu = Value.ref au from ru)
  cases (show vv = Value.ref av from rv)
  obtain ⟨od, J⟩ := insAt Iv hu
  obtain ⟨od', J'⟩ := insAt Iv hv
  obtain ⟨m, hF⟩ := Iv.fr
  exact PySem.W.binop_K hF Iv.ok.mod.kin J J'.type hc.sf hm.at_ hm.fn (back_W (cj I H σ Q [.ref au, .ref av] (x, y, ()) s ⟨_, _, rfl, a, _, _, rfl, b, rfl⟩ p) Iv (.cons rfl (.cons rfl .nil)))
/-- x op n, n an int -/
theorem opj_ownI {op : Operator} {C f f' : Addr} {g : α × Int × Unit → Res γ} {fo ro : Option Value} (hc : OCls X.K C) (hm : OMet X.K C (PySem.dunder op.info.2) f) (hr : OMet X.K C (dunderR op.info.2) f') (h1 : PySem.W.findIn X.K (.type "int") (PySem.dunder op.info.2) = some fo) (h2 : PySem.W.findIn X.K (.type "int") (dunderR op.info.2) = some ro)
    (ia : InsR C ra) (cj : CallJ X W (.ref f) (R2' ra (rp rInt)) g rc) : OpJ X W (binaryOp op) ra (rp rInt) (fun x y => g (x, y, ())) rc := fun I H σ Q u v x y s a b p pins sh uu vv Iv ru rv => by
  obtain ⟨au, dx, fs, rfl, hu⟩ := ia I H u x s a
  cases (show uu = Value.ref au from ru)
  cases (show v = V.int y from b)
  obtain ⟨t, e⟩ := (show ∃ t, vv = Value.int y t from rv)
  cases e
  obtain ⟨od, J⟩ := insAt Iv hu
  obtain ⟨m, hF⟩ := Iv.fr
  exact PySem.W.ksp_binT (T := "int") hF Iv.ok.mod.kin J rfl hc.sf hm.at_ hm.fn hr.at_ (.inr ⟨_, rfl⟩) h1 h2 hc.in_ (back_W (cj I H σ Q [.ref au, .int y] (x, y, ()) s ⟨_, _, rfl, a, _, _, rfl, rfl, rfl⟩ p) Iv (.cons rfl (.cons ⟨_, rfl⟩ .nil)))
/-- n op x, n an int: the reflected method -/
theorem opj_ownR {op : Operator} {C f f' : Addr} {g : α × Int × Unit → Res γ} {sl id : String} {gi : Int → Int → Sem Fin} (hc : OCls X.K C) (hm : OMet X.K C (PySem.dunder op.info.2) f) (hr : OMet X.K C (dunderR op.info.2) f')
    (fills : fillsNumberSlot (.type "int") op.info.2 = pure true) (slot : Slot "int" (PySem.dunder op.info.2) id) (entry : entryFor table id = some (Builtin.Int.intBinary sl gi)) (args : ∀ a b, argsOk id ⟨[a, b], []⟩)
    (ia : InsR C ra) (cj : CallJ X W (.ref f') (R2' ra (rp rInt)) g rc) : OpJ X W (binaryOp op) (rp rInt) ra (fun x y => g (y, x, ())) rc := fun I H σ Q u v x y s a b p pins sh uu vv Iv ru rv => by
  obtain ⟨av, dx, fs, rfl, hv⟩ := ia I H v y s b
  cases (show vv = Value.ref av from rv)
  cases (show u = V.int x from a)
  obtain ⟨t, e⟩ := (show ∃ t, uu = Value.int x t from ru)
  cases e
  obtain ⟨od, J⟩ := insAt Iv hv
  exact PySem.W.tr_binR (fo := .none) Iv.kIn J hc.sf hm.at_ hr.at_ hr.fn fills hc.ni slot entry args (back_W (cj I H σ Q [.ref av, .int x] (y, x, ()) s ⟨_, _, rfl, b, _, _, rfl, rfl, rfl⟩ p) Iv (.cons rfl (.cons ⟨_, rfl⟩ .nil)))
theorem opj_addR {C f f' : Addr} {g : α × Int × Unit → Res γ} (hc : OCls X.K C) (hm : OMet X.K C "__add__" f) (hr : OMet X.K C "__radd__" f') (ia : InsR C ra) (cj : CallJ X W (.ref f') (R2' ra (rp rInt)) g rc) : OpJ X W (binaryOp .Add) (rp rInt) ra (fun x y => g (y, x, ())) rc :=
  opj_ownR (op := .Add) (sl := "__add__") hc hm hr F.fills_int_add F.slot_int_add F.entry_int_add F.args_int_add_2 ia cj
theorem opj_subR {C f f' : Addr} {g : α × Int × Unit → Res γ} (hc : OCls X.K C) (hm : OMet X.K C "__sub__" f) (hr : OMet X.K C "__rsub__" f') (ia : InsR C ra) (cj : CallJ X W (.ref f') (R2' ra (rp rInt)) g rc) : OpJ X W (binaryOp .Sub) (rp rInt) ra (fun x y => g (y, x, ())) rc :=
  opj_ownR (op := .Sub) (sl := "__sub__") hc hm hr F.fills_int_sub F.slot_int_sub F.entry_int_sub F.args_int_sub_2 ia cj
theorem opj_mulR {C f f' : Addr} {g : α × Int × Unit → Res γ} (hc : OCls X.K C) (hm : OMet X.K C "__mul__" f) (hr : OMet X.K C "__rmul__" f') (ia : InsR C ra) (cj : CallJ X W (.ref f') (R2' ra (rp rInt)) g rc) : OpJ X W (binaryOp .Mult) (rp rInt) ra (fun x y => g (y, x, ())) rc :=
  opj_ownR (op := .Mult) (sl := "__mul__") hc hm hr F.fills_int_mul F.slot_int_mul F.entry_int_mul F.args_int_mul_2 ia cj
/-! comparisons -/
theorem opj_cmp {op : CmpOp} {C f : Addr} {g : α × β × Unit → Res γ} (hop : ∀ a b, compareOp op a b = richCompare op a b) (hc : OCls X.K C) (hm : OMet X.K C (cmpInfo op).2.1 f) (hu : X.A.units < cLine) (hn : PySem.W.notFirst X.K C (.ref C) = true) (ia : InsR C ra) (ib : InsR C rb) (cj : CallJ X W (.ref f) (R2' ra rb) g rc) :
    OpJ X W (compareOp op) ra rb (fun x y => g (x, y, ())) rc := fun I H σ Q u v x y s a b p pins sh uu vv Iv ru rv => by
  obtain ⟨au, dx, fs, rfl, hu'⟩ := ia I H u x s a
  obtain ⟨av, dy, gs, rfl, hv⟩ := ib I H v y s b
  cases (show uu = Value.ref au from ru)
  cases (show vv = Value.ref av from rv)
  obtain ⟨od, J⟩ := insAt Iv hu'
  obtain ⟨od', J'⟩ := insAt Iv hv
  obtain ⟨m, hF⟩ := Iv.fr
  rw [hop]
  exact PySem.W.cmp_K hu hF Iv.ok.mod.kin J J'.type hn hm.at_ hm.fn (back_W (cj I H σ Q [.ref au, .ref av] (x, y, ()) s ⟨_, _, rfl, a, _, _, rfl, b, rfl⟩ p) Iv (.cons rfl (.cons rfl .nil)))
theorem opj_cmpI {op : CmpOp} {C f : Addr} {g : α × Int × Unit → Res γ} (hop : ∀ a b, compareOp op a b = richCompare op a b) (hc : OCls X.K C) (hm : OMet X.K C (cmpInfo op).2.1 f) (hu : X.A.units < cLine) (hn : PySem.W.notFirst X.K C (.type "int") = true) (ia : InsR C ra) (cj : CallJ X W (.ref f) (R2' ra (rp rInt)) g rc) :
    OpJ X W (compareOp op) ra (rp rInt) (fun x y => g (x, y, ())) rc := fun I H σ Q u v x y s a b p pins sh uu vv Iv ru rv => by
  obtain ⟨au, dx, fs, rfl, hu'⟩ := ia I H u x s a
  cases (show uu = Value.ref au from ru)
  cases (show v = V.int y from b)
  obtain ⟨t, e⟩ := (show ∃ t, vv = Value.int y t from rv)
  cases e
  obtain ⟨od, J⟩ := insAt Iv hu'
  obtain ⟨m, hF⟩ := Iv.fr
  rw [hop]
  exact PySem.W.cmp_K (tb := .type "int") hu hF Iv.ok.mod.kin J (PySem.W.Looks.of_pure rfl) hn hm.at_ hm.fn (back_W (cj I H σ Q [.ref au, .int y] (x, y, ()) s ⟨_, _, rfl, a, _, _, rfl, rfl, rfl⟩ p) Iv (.cons rfl (.cons ⟨_, rfl⟩ .nil)))
theorem opj_cmpR {op : CmpOp} {C f : Addr} {g : α × Int × Unit → Res γ} {sl id : String} {gi : Int → Int → Sem Fin} (hop : ∀ a b, compareOp op a b = richCompare op a b) (hc : OCls X.K C) (hr : OMet X.K C (cmpInfo op).2.2 f) (hu : X.A.units < cLine)
    (slot : Slot "int" (cmpInfo op).2.1 id) (entry : entryFor table id = some (Builtin.Int.intBinary sl gi)) (args : ∀ a b, argsOk id ⟨[a, b], []⟩) (ia : InsR C ra) (cj : CallJ X W (.ref f) (R2' ra (rp rInt)) g rc) :
    OpJ X W (compareOp op) (rp rInt) ra (fun x y => g (y, x, ())) rc := fun I H σ Q u v x y s a b p pins sh uu vv Iv ru rv => by
  obtain ⟨av, dx, fs, rfl, hv⟩ := ia I H v y s b
  cases (show vv = Value.ref av from rv)
  cases (show u = V.int x from a)
  obtain ⟨t, e⟩ := (show ∃ t, uu = Value.int x t from ru)
  cases e
  obtain ⟨od, J⟩ := insAt Iv hv
  rw [hop]
  exact PySem.W.tr_cmpR hu Iv.kIn J hr.at_ hr.fn hc.ni slot entry args (back_W (cj I H σ Q [.ref av, .int x] (y, x, ()) s ⟨_, _, rfl, b, _, _, rfl, rfl, rfl⟩ p) Iv (.cons rfl (.cons ⟨_, rfl⟩ .nil)))
/-- the callee at one level below -/
theorem run_W1 {k : Nat} {f : Addr} {sp : Sp} {vs : List V} {H : Hp} {σ : St} {Q : VK} (F : FnR X.prog X.w X.K X.mg X.base (L2.CX X.prog X.w) k f sp) (hr : Room (k + 1) X.A) (tk : Takes X W) (h : sp vs H Q fun cls d H' => W cls d σ H') {pins : List (Addr × Obj)} {s : Shared} {us : List Value} (I : Inv X pins σ H s) (r : Vals vs us) :
    wpAny (model X.prog X.w) X.A.in1 (call (.ref f) us) (EP X pins σ Q) X.xe s := by
  refine wpAny_call (codeAny_mono (F X.A.in1 X.stack s H us vs Q _ hr.in1 I.env0.in1 r h) fun r s' hq => ?_)
  cases r with
  | error e => exact passAt tk σ pins H s e s' I hq
  | ok fl =>
    cases fl with
    | ret u => exact I.after hq
    | next => exact False.elim hq
    | brk => exact False.elim hq
    | cont => exact False.elim hq
end
end L2.Tr

namespace L2.Tr
open PySem PySem.Spec PyProof.Rows
section
variable {α β γ δ S : Type} {X : Cx} {I0 H0 : Hp} {W : WX} {Kx : KnowsX} {G : Knows} {ctx : List (Option SF)} {mem : List MF} {e a b c o : Expr} {es bs : List Expr} {st : Stmt} {ss s1 s2 : List Stmt} {pos pos' : Pos} {n : Str} {ra : Ra α} {rb : Ra β} {rc : Ra γ} {ma : Res α} {mb : Res β}

/-! ### promises -/
def spF (K : PySem.W.Frag) (R : Hp → Hp → List V → δ → Prop) (m : δ → Res γ) (r : Ra γ) : Sp := fun vs H Q E => ∃ I d, Same I H ∧ R I H vs d ∧ PostE K (m d) r I H E Q
theorem cj_of {k : Nat} {f : Addr} {R : Hp → Hp → List V → δ → Prop} {m : δ → Res γ} (F : FnR X.prog X.w X.K X.mg X.base (L2.CX X.prog X.w) k f (spF X.K R m rc)) (hr : Room k X.A) (tk : Takes X W) : CallJ X W (.ref f) R m rc := fun I H σ Q vs d s h p => run_W F hr tk ⟨I, d, s, h, p⟩
/-- arguments by another reading -/
theorem CallJ.co {δ' : Type} {f : Value} {R : Hp → Hp → List V → δ → Prop} {R' : Hp → Hp → List V → δ' → Prop} {m : δ → Res γ} {h : δ' → δ} (cj : CallJ X W f R m rc) (c : ∀ I H vs x, Same I H → R' I H vs x → R I H vs (h x)) : CallJ X W f R' (fun x => m (h x)) rc := fun I H σ Q vs x s r p => cj I H σ Q vs (h x) s (c I H vs x s r) p

/-! ### x != y by an own __eq__ -/
theorem opj_neO {k : Nat} {C f : Addr} {g : α × β × Unit → Res Bool} (hc : OCls X.K C) (hm : OMet X.K C "__eq__" f) (hr : Room (k + 1) X.A) (tk : Takes X W) (hn : PySem.W.notFirst X.K C (.ref C) = true) (ia : InsR C ra) (ib : InsR C rb)
    (F : FnR X.prog X.w X.K X.mg X.base (L2.CX X.prog X.w) k f (spF X.K (R2' ra rb) g (rp rBl))) : OpJ X W (compareOp .NotEq) ra rb (fun x y => (g (x, y, ())).bind fun z => .ok (!z)) (rp rBl) := fun I H σ Q u v x y s a b p pins sh uu vv Iv ru rv => by
  obtain ⟨au, dx, fs, rfl, hu'⟩ := ia I H u x s a
  obtain ⟨av, dy, gs, rfl, hv⟩ := ib I H v y s b
  cases (show uu = Value.ref au from ru)
  cases (show vv = Value.ref av from rv)
  obtain ⟨od, J⟩ := insAt Iv hu'
  obtain ⟨od', J'⟩ := insAt Iv hv
  show wpAny _ _ (richCompare .NotEq _ _) _ _ _
  have hu1 : X.A.in1.units < cLine := by have := hr.un; show X.A.units + 1 < _; omega
  refine PySem.W.tr_ne hu1 hr.units0 Iv.kIn J J'.type hn hc.cm hc.ne hm.at_ hm.fn (thn (run_W1 (vs := [.ref au, .ref av]) (Q := fun z H' => ∃ k, z = .bl k ∧ Q (.bl (!k)) H') F hr tk ⟨I, (x, y, ()), s, ⟨_, _, rfl, a, _, _, rfl, b, rfl⟩, ?_⟩ Iv (.cons rfl (.cons rfl .nil))) fun w s' ⟨z, H', I', rz, k, ez, q⟩ => ?_)
  · show PostE _ (g (x, y, ())) _ _ _ _ _
    revert p
    show PostE _ ((g (x, y, ())).bind _) _ _ _ _ _ → _
    generalize g (x, y, ()) = z
    intro p
    cases z with
    | ok k => exact fun I' H' v f r => ⟨k, r, p I' H' _ f rfl⟩
    | err e => exact p
    | stuck => exact p
  · subst ez
    cases (show w = Value.bool k from rz)
    exact ⟨k, rfl, .bl (!k), H', I', rfl, q⟩
theorem opj_neI {k : Nat} {C f : Addr} {g : α × Int × Unit → Res Bool} (hc : OCls X.K C) (hm : OMet X.K C "__eq__" f) (hr : Room (k + 1) X.A) (tk : Takes X W) (hn : PySem.W.notFirst X.K C (.type "int") = true) (ia : InsR C ra)
    (F : FnR X.prog X.w X.K X.mg X.base (L2.CX X.prog X.w) k f (spF X.K (R2' ra (rp rInt)) g (rp rBl))) : OpJ X W (compareOp .NotEq) ra (rp rInt) (fun x y => (g (x, y, ())).bind fun z => .ok (!z)) (rp rBl) := fun I H σ Q u v x y s a b p pins sh uu vv Iv ru rv => by
  obtain ⟨au, dx, fs, rfl, hu'⟩ := ia I H u x s a
  cases (show uu = Value.ref au from ru)
  cases (show v = V.int y from b)
  obtain ⟨t, e⟩ := (show ∃ t, vv = Value.int y t from rv)
  cases e
  obtain ⟨od, J⟩ := insAt Iv hu'
  show wpAny _ _ (richCompare .NotEq _ _) _ _ _
  have hu1 : X.A.in1.units < cLine := by have := hr.un; show X.A.units + 1 < _; omega
  refine PySem.W.tr_ne (tb := .type "int") hu1 hr.units0 Iv.kIn J (PySem.W.Looks.of_pure rfl) hn hc.cm hc.ne hm.at_ hm.fn (thn (run_W1 (vs := [.ref au, .int y]) (Q := fun z H' => ∃ k, z = .bl k ∧ Q (.bl (!k)) H') F hr tk ⟨I, (x, y, ()), s, ⟨_, _, rfl, a, _, _, rfl, rfl, rfl⟩, ?_⟩ Iv (.cons rfl (.cons ⟨_, rfl⟩ .nil))) fun w s' ⟨z, H', I', rz, k, ez, q⟩ => ?_)
  · show PostE _ (g (x, y, ())) _ _ _ _ _
    revert p
    show PostE _ ((g (x, y, ())).bind _) _ _ _ _ _ → _
    generalize g (x, y, ()) = z
    intro p
    cases z with
    | ok k => exact fun I' H' v f r => ⟨k, r, p I' H' _ f rfl⟩
    | err e => exact p
    | stuck => exact p
  · subst ez
    cases (show w = Value.bool k from rz)
    exact ⟨k, rfl, .bl (!k), H', I', rfl, q⟩
theorem opj_neRI {k : Nat} {C f : Addr} {g : α × Int × Unit → Res Bool} (hc : OCls X.K C) (hm : OMet X.K C "__eq__" f) (hr : Room (k + 1) X.A) (tk : Takes X W) (ia : InsR C ra)
    (F : FnR X.prog X.w X.K X.mg X.base (L2.CX X.prog X.w) k f (spF X.K (R2' ra (rp rInt)) g (rp rBl))) : OpJ X W (compareOp .NotEq) (rp rInt) ra (fun x y => (g (y, x, ())).bind fun z => .ok (!z)) (rp rBl) := fun I H σ Q u v x y s a b p pins sh uu vv Iv ru rv => by
  obtain ⟨av, dx, fs, rfl, hv⟩ := ia I H v y s b
  cases (show vv = Value.ref av from rv)
  cases (show u = V.int x from a)
  obtain ⟨t, e⟩ := (show ∃ t, uu = Value.int x t from ru)
  cases e
  obtain ⟨od, J⟩ := insAt Iv hv
  show wpAny _ _ (richCompare .NotEq _ _) _ _ _
  have hu1 : X.A.in1.units < cLine := by have := hr.un; show X.A.units + 1 < _; omega
  refine PySem.W.tr_neR (sl := "") (id := "") (g := fun _ _ => pure default) hu1 hr.units0 Iv.kIn J hc.cm hc.ne hm.at_ hm.fn hc.ni (thn (run_W1 (vs := [.ref av, .int x]) (Q := fun z H' => ∃ k, z = .bl k ∧ Q (.bl (!k)) H') F hr tk ⟨I, (y, x, ()), s, ⟨_, _, rfl, b, _, _, rfl, rfl, rfl⟩, ?_⟩ Iv (.cons rfl (.cons ⟨_, rfl⟩ .nil))) fun w s' ⟨z, H', I', rz, k, ez, q⟩ => ?_)
  · show PostE _ (g (y, x, ())) _ _ _ _ _
    revert p
    show PostE _ ((g (y, x, ())).bind _) _ _ _ _ _ → _
    generalize g (y, x, ()) = z
    intro p
    cases z with
    | ok k => exact fun I' H' v f r => ⟨k, r, p I' H' _ f rfl⟩
    | err e => exact p
    | stuck => exact p
  · subst ez
    cases (show w = Value.bool k from rz)
    exact ⟨k, rfl, .bl (!k), H', I', rfl, q⟩
/-- -x -/
theorem unj_own {C f : Addr} {g : α × Unit → Res γ} (hm : OMet X.K C "__neg__" f) (ia : InsR C ra) (cj : CallJ X W (.ref f) (R1 ra) g rc) : UnJ X W (unaryOp .USub) ra (fun x => g (x, ())) rc := fun I H σ Q u x s a p pins sh uu Iv ru => by
  obtain ⟨au, dx, fs, rfl, hu'⟩ := ia I H u x s a
  cases (show uu = Value.ref au from ru)
  obtain ⟨od, J⟩ := insAt Iv hu'
  obtain ⟨m, hF⟩ := Iv.fr
  exact PySem.W.ksp_neg hF Iv.ok.mod.kin J hm.at_ hm.fn (cj I H σ Q [.ref au] (x, ()) s ⟨_, _, rfl, a, rfl⟩ p pins sh _ Iv (.cons rfl .nil))
/-- isinstance(x, T) -/
def TyR (K : PySem.W.Frag) (r : Ra α) (u : Value) (g : α → Bool) : Prop := ∀ I H v x, Same I H → r I H v x → ∃ t, TyX K H v t ∧ PySem.W.kitOne K t u = some (g x)
theorem JE.isi {u : Value} {cv : V} {g : α → Bool} [MoA ra] (j : JE X I0 H0 W ctx mem a ma ra) (jc : ∀ σ H Q, Q cv H → wE X b σ H Q) (hc : ClsV cv u) (ty : TyR X.K ra u g) (hm : X.mg "isinstance" = none) (hg : Gl X "isinstance" := by rfl)
    (hs : starEach [a, b] X.env = (false, eval a X.env) :: starEach [b] X.env := by rfl) (hs2 : starEach [b] X.env = (false, eval b X.env) :: starEach [] X.env := by rfl) (hpl : (backTo pos (starEach [b] X.env)).any (·.1) = false := by rfl) :
    JE X I0 H0 W ctx mem (.Call (.Name "isinstance" pos') [a, b] [] pos) (ma.bind fun x => .ok (g x)) (rp rBl) := fun I H σ Q st p => by
  refine w_callB (id := "isinstance") (Tr.w_cons (j I H σ _ st ?_) hs) hm (by decide +kernel) hg (by decide) (by decide) hs hpl
  cases ma with
  | ok x =>
    intro I1 H1 v f1 r1
    refine Tr.w_cons (jc σ H1 _ (w_nil ?_)) hs2
    obtain ⟨t, ty1, k⟩ := ty I1 H1 v x f1.ih r1
    exact CallR.w call_isi ⟨v, cv, t, u, g x, rfl, hc, ty1, k, p I1 H1 _ f1 rfl⟩
  | err e => exact p
  | stuck => exact p
/-- raise X('..'), an own class without __init__ over ValueError -/
structure ExcP (K : PySem.W.Frag) (mg : Str → Option Value) (x : Str) : Prop where
  ex : PySem.W.excIn K (He.ga K x) He.veBase "ValueError.__new__" = true
  kp : PySem.W.keepIn K (.ref (He.ga K x)) = true
  bs : PySem.W.subIn K (.ref (He.ga K x)) (.type "BaseException") = some true
  ty : PySem.W.typeIn K (.ref (He.ga K x)) = some (.type "type")
  gl : mg x = some (.ref (He.ga K x))
theorem JR.raiseP {x m : Str} {j : Nat} {p1 p2 p3 : Pos} (hc : X.calm = true) (tk : Takes X W) (ep : ExcP X.K X.mg x) (hx : ∀ I H σ d, Stt I0 H0 ctx mem I H σ → Fr H0 d → Kx I H σ d) (hg : Gl X x := by rfl) (hdb : (x == ("__debug__" : Str)) = false := by decide) :
    JR X I0 H0 W Kx (Stt I0 H0 ctx mem) (.Raise (some (.Call (.Name x p1) [.Constant (.str m) j p2] [] p3)) none pos :: ss) (.err ⟨x, []⟩ : Res γ) rc := fun I H σ D g p => by
  refine b_cons (s_raise hc tk (pmk_own PySem.F.excBase_ValueError ep.ex ep.gl ep.kp (raises_own ep.bs ep.ty) hg hdb) ?_)
  exact p I H σ _ none (hx _ _ _ _ g fun _ z => nomatch z) ⟨rfl, rfl⟩
/-! ### while -/
def whileM (c : S → Res Bool) (f : S → Res S) : Nat → S → Res S
  | 0, _ => .stuck
  | n + 1, s => (c s).bind fun b => if b = true then (f s).bind fun s' => whileM c f n s' else .ok s
theorem J1.while {fuel : Nat} {s0 : S} {cx : S → List (Option SF)} {me : S → List MF} {mc : S → Res Bool} {mf : S → Res S} (hp : PassesOwn (model X.prog X.w) X.A X.env X.xe) (jc : ∀ s, JT X I0 H0 W (cx s) (me s) c (mc s)) (jb : ∀ s, JN X W Kx (Stt I0 H0 (cx s) (me s)) ss (mf s) fun s' => Stt I0 H0 (cx s') (me s'))
    (hx : ∀ s I H σ d, Stt I0 H0 (cx s) (me s) I H σ → Fr H0 d → Kx I H σ d) : J1 X W Kx (Stt I0 H0 (cx s0) (me s0)) (.While c ss [] pos) (whileM mc mf fuel s0) (fun s => Stt I0 H0 (cx s) (me s)) := fun I H σ D g p => by
  refine PS.w (ps_while hp pt_W pss_W) ⟨fun k σ' H' => ∃ I' s, Stt I0 H0 (cx s) (me s) I' H' σ' ∧ PostB X W Kx I' (whileM mc mf k s) (fun s => Stt I0 H0 (cx s) (me s)) D, ⟨fuel, I, s0, g, p⟩, ?_⟩
  rintro k σ' H' ⟨I', s, g', p'⟩
  cases k with
  | zero => exact p'.elim
  | succ k =>
    refine jc s I' H' σ' _ g' ?_
    have p2 : PostB X W Kx I' ((mc s).bind fun b => if b = true then (mf s).bind fun s' => whileM mc mf k s' else .ok s) _ D := p'
    revert p2
    generalize mc s = z
    intro p2
    cases z with
    | ok x =>
      intro I1 H1 v f r y hy
      cases r; cases hy
      cases x with
      | true =>
        refine iteT ⟨fun σ2 H2 => ∃ I2 s', Stt I0 H0 (cx s') (me s') I2 H2 σ2 ∧ PostB X W Kx I2 (whileM mc mf k s') (fun s => Stt I0 H0 (cx s) (me s)) D, fun σ2 H2 h => ⟨k, Nat.lt_succ_self _, h⟩, ?_⟩
        refine jb s I1 H1 σ' _ (g'.step f) ?_
        have p3 : PostB X W Kx I1 ((mf s).bind fun s' => whileM mc mf k s') _ D := PostB.up p2 f.i
        revert p3
        generalize mf s = z
        intro p3
        cases z with
        | ok s' => exact fun I2 H2 σ2 si g2 => ⟨I2, s', g2, PostB.up p3 si⟩
        | err e => exact p3
        | stuck => exact p3
      | false => exact iteF (p2 I1 H1 σ' f.i (g'.step f))
    | err e => exact fun I' H' c d f x => p2 I' H' σ' c d (hx _ _ _ _ _ (g'.step f) (x.1.back g'.fm.h)) x.2
    | stuck => exact p2.elim
/-- a, b = e1, e2 -/
theorem J1.par (i j : Nat) {x y : Str} {r1 : Rp α} {r2 : Rp β} [Mo r1] [mo : Mo r2] {px py pt : Pos} {kt k2 pt2} (ja : JE X I0 H0 W ctx mem a ma (rp r1)) (jb : JE X I0 H0 W ctx mem b mb (rp r2)) (hx : ∀ I H σ d, Stt I0 H0 ctx mem I H σ → Fr H0 d → Kx I H σ d)
    (hN : X.N.Nodup) (hc : X.calm = true := by rfl) (hi : X.N[i]? = some x := by rfl) (hj : X.N[j]? = some y := by rfl) (hij : i ≠ j := by decide) (hlx : X.env.scope.names.lookup x = some .local := by rfl) (hly : X.env.scope.names.lookup y = some .local := by rfl)
    (hw : swappedStores [.Tuple [.Name x px, .Name y py] kt pt] (.Tuple [a, b] k2 pt2) X.env = pure (some [x, y]) := by rfl)
    (hs : swapsWithSole [.Tuple [.Name x px, .Name y py] kt pt] (.Tuple [a, b] k2 pt2) pos.line X.env = pure false := by rfl)
    (e1 : starEach [a, b] X.env = (false, eval a X.env) :: starEach [b] X.env := by rfl) (e2 : starEach [b] X.env = (false, eval b X.env) :: starEach [] X.env := by rfl) :
    J1 X W Kx (Stt I0 H0 ctx mem) (.Assign [.Tuple [.Name x px, .Name y py] kt pt] (.Tuple [a, b] k2 pt2) pos) (ma.bind fun u => mb.bind fun v => .ok (u, v)) (fun s => Stt I0 H0 ((ctx.set i (some ⟨r1, s.1⟩)).set j (some ⟨r2, s.2⟩)) mem) := fun I H σ D g p => by
  refine PS.w (ps_par hc hN hi hj hij hlx hly pa_W hw hs) (Tr.w_cons (ja I H σ _ g ?_) e1)
  cases ma with
  | ok u =>
    intro I1 H1 v1 f1 h1
    refine Tr.w_cons (jb I1 H1 σ _ (g.step f1) ?_) e2
    cases mb with
    | ok v => exact fun I2 H2 v2 f2 h2 => w_nil ⟨v1, v2, rfl, p I2 H2 _ (f1.i.trans f2.i) ((((g.step f1).step f2).set i (Mo.up f2.i h1)).set j h2)⟩
    | err e => exact fun I' H' c d f x => p I' H' σ c d (hx _ _ _ _ ((g.step f1).step f) (x.1.back (g.step f1).fm.h)) x.2
    | stuck => exact p.elim
  | err e => exact fun I' H' c d f x => p I' H' σ c d (hx _ _ _ _ (g.step f) (x.1.back g.fm.h)) x.2
  | stuck => exact p.elim
end
/-! ### defs -/
section
variable {γ δ : Type} {P : Program} {w : World} {K : PySem.W.Frag} {mg : Str → Option Value} {base : Heap} {x qual : Str} {params : Arguments} {body : List Stmt} {scope : Scope} {dvs : List V} {kws : List (Str × V)} {f : Addr} {fd : FuncData} {N ps : List Str} {k : Nat} {R : Hp → Hp → List V → δ → Prop} {m : δ → Res γ} {r : Ra γ}
abbrev bx (P : Program) (w : World) (K : PySem.W.Frag) (mg : Str → Option Value) (base : Heap) (N : List Str) (qual : Str) (scope : Scope) (f : Addr) (cdv : Value) (A : Around) (outer : List Env) (s : Shared) (H : Hp) (E : XK) : Cx := cxOf (L2.CX P w) P w K mg base N qual scope f cdv A outer s H E
abbrev bW (E : XK) : WX := fun cls d _ H => E cls d H
abbrev bK (I0 H0 : Hp) : KnowsX := fun I H _ d => Fm I0 H0 I H ∧ Fr H0 d
theorem FunD.fn (F : FunD K x qual params body scope dvs kws f fd) (S : FnScope N ps scope) (len : ∀ I H vs d, R I H vs d → vs.length = ps.length)
    (hb : ∀ (cdv : Value) (A : Around) (outer : List Env) (s : Shared) (I0 H0 : Hp) (E : XK) (vs : List V) (d : δ), Room k (A.deeper (envOfC qual scope s.heap.objs.size f cdv)) → Same I0 H0 → R I0 H0 vs d →
      ∃ G : Knows, G I0 H0 (start N vs) ∧ JR (bx P w K mg base N qual scope f cdv A outer s H0 E) I0 H0 (bW E) (bK I0 H0) G body (m d) r) : FnOk P w K mg base (L2.CX P w) (k + 1) f fd ps (spF K R m r) := by
  refine F.ok S (fun vs H Q E ⟨I, d, _, h, _⟩ => len I H vs d h) fun cdv A outer s H vs Q E hr ⟨I, d, sm, h, p⟩ => ⟨_, pss_W, ?_⟩
  obtain ⟨G, g, j⟩ := hb cdv A outer s I H E vs d hr sm h
  refine j I H _ _ g ?_
  revert p
  show PostE K (m d) r I H E Q → PostR _ _ _ _ _ (m d) _ _
  generalize m d = z
  intro p
  cases z with
  | ok y => exact p
  | err e => exact fun I' H' _ c d f x => p I' H' c d f.1 ⟨f.2, x⟩
  | stuck => exact p
end
end L2.Tr

namespace L2.Tr
open PySem PySem.Spec PyProof.Rows
section
variable {α β γ δ S : Type} {X : Cx} {I0 H0 : Hp} {W : WX} {Kx : KnowsX} {G : Knows} {ctx : List (Option SF)} {mem : List MF} {e a b c o : Expr} {es bs : List Expr} {st : Stmt} {ss s1 s2 : List Stmt} {pos pos' : Pos} {n : Str} {ra : Ra α} {rb : Ra β} {rc : Ra γ} {ma : Res α} {mb : Res β}
def rRef (x : Addr) : Rp Unit := fun _ v _ => v = .ref x
instance {x : Addr} : Mo (rRef x) := ⟨fun _ h => h⟩
def putG (f : Str) (s : SF) : List (Str × SF) → List (Str × SF)
  | [] => [(f, s)]
  | q :: gs => if q.1 = f then (f, s) :: gs else q :: putG f s gs
theorem FldR.put {I : Hp} {f : Str} {v : V} {s : SF} (h : s.r I v s.x) : ∀ {fs : List (Str × V)} {gs : List (Str × SF)}, FldR I fs gs → FldR I (putF f v fs) (putG f s gs)
  | [], [], _ => ⟨rfl, h, True.intro⟩
  | p :: fs, q :: gs, ⟨a, b, c⟩ => by
    show FldR I (if p.1 = f then _ else _) (if q.1 = f then _ else _)
    rw [← a]
    by_cases e : p.1 = f
    · rw [if_pos e, if_pos e]; exact ⟨e, h, c⟩
    · rw [if_neg e, if_neg e]; exact ⟨a, b, FldR.put h c⟩
  | [], _ :: _, h => h.elim
  | _ :: _, [], h => h.elim
theorem FldR.length {I : Hp} : ∀ {fs : List (Str × V)} {gs : List (Str × SF)}, FldR I fs gs → fs.length = gs.length
  | [], [], _ => rfl
  | _ :: _, _ :: _, ⟨_, _, c⟩ => congrArg Nat.succ (FldR.length c)
  | [], _ :: _, h => h.elim
  | _ :: _, [], h => h.elim
/-! ### regions -/
theorem Regs.split {I H : Hp} : ∀ {mem : List MF} {fps : List (List Addr)} {j : Nat} {c : MF}, Regs I H mem fps → mem[j]? = some c → ∃ M1 M2 A fp B, mem = M1 ++ c :: M2 ∧ fps = A ++ fp :: B ∧ M1.length = j ∧ Regs I H M1 A ∧ c.Q I H fp ∧ Regs I H M2 B
  | [], _, _, _, _, e => by simp at e
  | d :: mem, fp :: fps, 0, c, ⟨a, b⟩, e => by
    have : d = c := by simpa using e
    subst this
    exact ⟨[], mem, [], fp, fps, rfl, rfl, rfl, True.intro, a, b⟩
  | d :: mem, fp :: fps, j + 1, c, ⟨a, b⟩, e => by
    have e' : mem[j]? = some c := by simpa using e
    obtain ⟨M1, M2, A, fq, B, e1, e2, e3, h1, h2, h3⟩ := Regs.split b e'
    exact ⟨d :: M1, M2, fp :: A, fq, B, by rw [e1]; rfl, by rw [e2]; rfl, by rw [List.length_cons, e3], ⟨a, h1⟩, h2, h3⟩
  | _ :: _, [], _, _, h, _ => h.elim
theorem Regs.join {I H : Hp} : ∀ {M1 M2 : List MF} {A B : List (List Addr)}, Regs I H M1 A → Regs I H M2 B → Regs I H (M1 ++ M2) (A ++ B)
  | [], _, [], _, _, h => h
  | _ :: _, _, _ :: _, _, ⟨a, b⟩, h => ⟨a, Regs.join b h⟩
  | [], _, _ :: _, _, h, _ => h.elim
  | _ :: _, _, [], _, h, _ => h.elim
theorem set_mid {α : Type} {M1 M2 : List α} {c c' : α} {j : Nat} (h : M1.length = j) : (M1 ++ c :: M2).set j c' = M1 ++ c' :: M2 := by
  subst h; induction M1 with
  | nil => rfl
  | cons d M ih => rw [List.cons_append, List.length_cons, List.set_cons_succ, ih]; rfl
theorem erase_mid {α : Type} {M1 M2 : List α} {c : α} {j : Nat} (h : M1.length = j) : (M1 ++ c :: M2).eraseIdx j = M1 ++ M2 := by
  subst h; induction M1 with
  | nil => rfl
  | cons d M ih => rw [List.cons_append, List.length_cons, List.eraseIdx_cons_succ, ih]; rfl
theorem flat_mid {A B : List (List Addr)} {fp : List Addr} : (A ++ fp :: B).flatten = A.flatten ++ (fp ++ B.flatten) := by rw [List.flatten_append, List.flatten_cons]
/-- the heap without a region -/
def rm (H : Hp) (fp : List Addr) : Hp := fun a => if a ∈ fp then none else H a
theorem rm_in {H : Hp} {fp : List Addr} {a : Addr} (h : a ∈ fp) : rm H fp a = none := if_pos h
theorem rm_out {H : Hp} {fp : List Addr} {a : Addr} (h : a ∉ fp) : rm H fp a = H a := if_neg h
theorem Stt.change {I0 H0 I H : Hp} {c : MF} {σ : St} {j : Nat} (s : Stt I0 H0 ctx mem I H σ) (hj : mem[j]? = some c) : ∃ fp, c.Q I H fp ∧ fp.Nodup ∧ (∀ a, a ∈ fp → H0 a = none ∧ I a = none ∧ H a ≠ none) ∧
    ∀ (I' H' : Hp) (c' : MF) (fp' : List Addr), Fm I (rm H fp) I' H' → fp'.Nodup → (∀ a, a ∈ fp' → rm H fp a = none ∧ I' a = none ∧ H' a ≠ none) → c'.Q I' H' fp' → Stt I0 H0 ctx (mem.set j c') I' H' σ := by
  obtain ⟨fps, rg, nd, k⟩ := s.me
  obtain ⟨M1, M2, A, fp, B, e1, e2, e3, h1, h2, h3⟩ := rg.split hj
  subst e1; subst e2
  rw [flat_mid] at nd k
  have ndA := List.nodup_append.mp nd
  have ndB := List.nodup_append.mp ndA.2.1
  have kf : ∀ a, a ∈ fp → H0 a = none ∧ I a = none ∧ H a ≠ none := fun a ha => k a (List.mem_append_right _ (List.mem_append_left _ ha))
  refine ⟨fp, h2, ndB.1, kf, fun I' H' c' fp' f nd' k' q' => ?_⟩
  have oth : ∀ a, a ∈ A.flatten ∨ a ∈ B.flatten → a ∉ fp ∧ H0 a = none ∧ I a = none ∧ H a ≠ none := fun a ha => by
    rcases ha with ha | ha
    · exact ⟨fun z => ndA.2.2 a ha a (List.mem_append_left _ z) rfl, k a (List.mem_append_left _ ha)⟩
    · exact ⟨fun z => ndB.2.2 a z a ha rfl, k a (List.mem_append_right _ (List.mem_append_right _ ha))⟩
  have stay : ∀ a, a ∈ A.flatten ∨ a ∈ B.flatten → H' a = H a := fun a ha => by
    obtain ⟨n, _, _, z⟩ := oth a ha
    cases e : H a with
    | none => exact absurd e z
    | some o => exact f.h a o (by rw [rm_out n]; exact e)
  have out : ∀ a, a ∈ fp' → ¬ (a ∈ A.flatten ∨ a ∈ B.flatten) := fun a ha z => by
    obtain ⟨n, _, _, y⟩ := oth a z
    have := (k' a ha).1
    rw [rm_out n] at this
    exact y this
  have hm : ∀ a, H0 a ≠ none → a ∉ fp := fun a z y => z (kf a y).1
  refine ⟨⟨s.fm.i.trans f.i, fun b u e => f.h b u (by rw [rm_out (hm b (by rw [e]; intro z; cases z))]; exact s.fm.h b u e), f.ih, fun l e n => f.mu l (s.fm.mu l e n) ?_⟩, s.len, fun i sf e => ?_, A ++ fp' :: B, ?_, ?_, ?_⟩
  · rw [rm_out (hm l n)]
    cases z : H0 l with
    | none => exact absurd z n
    | some o => rw [s.fm.h l o z]; intro y; cases y
  · obtain ⟨v, e1, q⟩ := s.sl i sf e
    exact ⟨v, e1, sf.mo.up f.i q⟩
  · rw [set_mid e3]
    exact (h1.up f.i fun a ha => stay a (.inl ha)).join ⟨q', h3.up f.i fun a ha => stay a (.inr ha)⟩
  · rw [flat_mid]
    refine List.nodup_append.mpr ⟨ndA.1, List.nodup_append.mpr ⟨nd', ndB.2.1, fun a ha b hb e => out a ha (.inr (e ▸ hb))⟩, fun a ha b hb e => ?_⟩
    subst e
    rcases List.mem_append.mp hb with z | z
    · exact out a z (.inl ha)
    · exact ndA.2.2 a ha a (List.mem_append_right _ z) rfl
  · rw [flat_mid]
    have go : ∀ a, a ∈ A.flatten ∨ a ∈ B.flatten → H0 a = none ∧ I' a = none ∧ H' a ≠ none := fun a ha => by
      obtain ⟨n, x, y, z⟩ := oth a ha
      exact ⟨x, f.mu a y (by rw [rm_out n]; exact z), by rw [stay a ha]; exact z⟩
    intro a ha
    rcases List.mem_append.mp ha with z | z
    · exact go a (.inl z)
    · rcases List.mem_append.mp z with z | z
      · refine ⟨?_, (k' a z).2⟩
        cases e : H0 a with
        | none => rfl
        | some o =>
          have := (k' a z).1
          rw [rm_out (hm a (by rw [e]; intro y; cases y)), s.fm.h a o e] at this
          cases this
      · exact go a (.inr z)
theorem Fm.rmUpd {I H : Hp} {l : Addr} {o : HO} (s : Same I H) (hI : I l = none) : Fm I (rm H [l]) I (upd H l o) :=
  ⟨Same.refl _, fun b u e => by
    by_cases hb : b = l
    · subst hb; rw [rm_in (List.mem_singleton_self b)] at e; cases e
    · rw [rm_out (fun z => hb (List.mem_singleton.mp z))] at e; rw [upd_ne hb]; exact e, fun b u e => by
    have : b ≠ l := fun q => by rw [q, hI] at e; cases e
    rw [upd_ne this]; exact s b u e, fun _ e _ => e⟩
/-- the one object of cell j is changed -/
theorem Stt.cellAt {I0 H0 I H : Hp} {σ : St} {l : Addr} {c c' : MF} {o : HO} (s : Stt I0 H0 ctx mem I H σ) (j : Nat) (hj : mem[j]? = some c) (hc : ∀ {I H : Hp} {fp : List Addr}, c.Q I H fp → fp = [l]) (h : c'.Q I (upd H l o) [l]) :
    Stt I0 H0 ctx (mem.set j c') I (upd H l o) σ := by
  obtain ⟨fp, q, nd, k, go⟩ := s.change hj
  cases hc q
  obtain ⟨_, kI, _⟩ := k l (List.mem_singleton_self l)
  refine go I (upd H l o) _ [l] (Fm.rmUpd s.same kI) nd (fun a ha => ?_) h
  rw [List.mem_singleton.mp ha]
  exact ⟨rm_in (List.mem_singleton_self l), kI, by rw [upd_same]; intro z; cases z⟩
/-- a heap with a region added -/
def ice (I H : Hp) (fp : List Addr) : Hp := fun a => if a ∈ fp then H a else I a
theorem ice_in {I H : Hp} {fp : List Addr} {a : Addr} (h : a ∈ fp) : ice I H fp a = H a := if_pos h
theorem ice_out {I H : Hp} {fp : List Addr} {a : Addr} (h : a ∉ fp) : ice I H fp a = I a := if_neg h
theorem ice_same {I H : Hp} {fp : List Addr} (h : ∀ a, a ∈ fp → I a = none) : Same I (ice I H fp) := fun b u e => by
  rw [ice_out fun z => by rw [h b z] at e; cases e]; exact e
/-- a region is frozen -/
theorem Stt.freezeAt {I0 H0 I H : Hp} {c : MF} {σ : St} (s : Stt I0 H0 ctx mem I H σ) (j : Nat) (hj : mem[j]? = some c) : ∃ fp, c.Q I H fp ∧ (∀ a, a ∈ fp → I a = none) ∧ Same I (ice I H fp) ∧ Stt I0 H0 ctx (mem.eraseIdx j) (ice I H fp) H σ := by
  obtain ⟨fps, rg, nd, k⟩ := s.me
  obtain ⟨M1, M2, A, fp, B, e1, e2, e3, h1, h2, h3⟩ := rg.split hj
  subst e1; subst e2
  rw [flat_mid] at nd k
  have ndA := List.nodup_append.mp nd
  have ndB := List.nodup_append.mp ndA.2.1
  have kf : ∀ a, a ∈ fp → H0 a = none ∧ I a = none ∧ H a ≠ none := fun a ha => k a (List.mem_append_right _ (List.mem_append_left _ ha))
  have oth : ∀ a, a ∈ A.flatten ∨ a ∈ B.flatten → a ∉ fp ∧ H0 a = none ∧ I a = none ∧ H a ≠ none := fun a ha => by
    rcases ha with ha | ha
    · exact ⟨fun z => ndA.2.2 a ha a (List.mem_append_left _ z) rfl, k a (List.mem_append_left _ ha)⟩
    · exact ⟨fun z => ndB.2.2 a z a ha rfl, k a (List.mem_append_right _ (List.mem_append_right _ ha))⟩
  have sm : Same I (ice I H fp) := ice_same fun a ha => (kf a ha).2.1
  refine ⟨fp, h2, fun a ha => (kf a ha).2.1, sm, ⟨s.fm.i.trans sm, s.fm.h, fun b u e => ?_, fun l e n => ?_⟩, s.len, fun i sf e => ?_, A ++ B, ?_, ?_, fun a ha => ?_⟩
  · by_cases hb : b ∈ fp
    · rw [ice_in hb] at e; exact e
    · rw [ice_out hb] at e; exact s.fm.ih _ _ e
  · rw [ice_out fun z => n (kf l z).1]; exact s.fm.mu l e n
  · obtain ⟨v, e1, q⟩ := s.sl i sf e
    exact ⟨v, e1, sf.mo.up sm q⟩
  · rw [erase_mid e3]
    exact (h1.up sm fun _ _ => rfl).join (h3.up sm fun _ _ => rfl)
  · rw [List.flatten_append]
    exact List.nodup_append.mpr ⟨ndA.1, ndB.2.1, fun a ha b hb => ndA.2.2 a ha b (List.mem_append_right _ hb)⟩
  · rw [List.flatten_append] at ha
    obtain ⟨n, x, y, z⟩ := oth a (List.mem_append.mp ha)
    exact ⟨x, by rw [ice_out n]; exact y, z⟩
/-- a region that stands is taken up -/
theorem Stt.adoptR {I0 H0 I H I1 H1 : Hp} {c : MF} {σ : St} {fp : List Addr} (s : Stt I0 H0 ctx mem I H σ) (f : Fm I H I1 H1) (nd : fp.Nodup) (hk : ∀ a, a ∈ fp → H a = none ∧ I1 a = none ∧ H1 a ≠ none) (h : c.Q I1 H1 fp) : Stt I0 H0 ctx (c :: mem) I1 H1 σ := by
  have s2 := s.step f
  obtain ⟨fps, rg, nd0, k0⟩ := s.me
  obtain ⟨fm, len, sl, _⟩ := s2
  have key : ∀ a, a ∈ fps.flatten → H1 a = H a := fun a ha => by
    obtain ⟨_, _, h3⟩ := k0 a ha
    cases e : H a with
    | none => exact absurd e h3
    | some o => exact f.h _ _ e
  refine ⟨fm, len, sl, fp :: fps, ⟨h, rg.up f.i key⟩, ?_, fun a ha => ?_⟩
  · rw [List.flatten_cons]
    exact List.nodup_append.mpr ⟨nd, nd0, fun a ha b hb e => (k0 b hb).2.2 (e ▸ (hk a ha).1)⟩
  · rw [List.flatten_cons] at ha
    rcases List.mem_append.mp ha with z | z
    · exact ⟨s.fm.h.free (hk a z).1, (hk a z).2⟩
    · obtain ⟨h1, h2, h3⟩ := k0 a z
      exact ⟨h1, f.mu _ h2 h3, by rw [key a z]; exact h3⟩
theorem Stt.forgetAt {I0 H0 I H : Hp} {c : MF} {σ : St} (s : Stt I0 H0 ctx mem I H σ) (j : Nat) (hj : mem[j]? = some c) : Stt I0 H0 ctx (mem.eraseIdx j) I H σ := by
  obtain ⟨fps, rg, nd, k⟩ := s.me
  obtain ⟨M1, M2, A, fp, B, e1, e2, e3, h1, h2, h3⟩ := rg.split hj
  subst e1; subst e2
  rw [flat_mid] at nd k
  refine ⟨s.fm, s.len, s.sl, A ++ B, by rw [erase_mid e3]; exact h1.join h3, ?_, fun a ha => ?_⟩
  · have ndA := List.nodup_append.mp nd
    have ndB := List.nodup_append.mp ndA.2.1
    rw [List.flatten_append]
    exact List.nodup_append.mpr ⟨ndA.1, ndB.2.1, fun a ha b hb => ndA.2.2 a ha b (List.mem_append_right _ hb)⟩
  · rw [List.flatten_append] at ha
    rcases List.mem_append.mp ha with z | z
    · exact k a (List.mem_append_left _ z)
    · exact k a (List.mem_append_right _ (List.mem_append_right _ z))
/-- self.f = e within __init__ -/
theorem J1.sfld (i : Nat) {x C dx : Addr} {f sn : Str} {p1 : Pos} {gs : List (Str × SF)} {r : Rp α} [mo : Mo r] {m : Res α} (j : JE X I0 H0 W ctx (.ins x C dx gs :: mem) e m (rp r)) (cl : Cls X.K C) (hn : NoAttr X.K C f) (hg : gs.length < 1000) (hx : ∀ I H σ d, Stt I0 H0 ctx (.ins x C dx gs :: mem) I H σ → Fr H0 d → Kx I H σ d)
    (hc : ctx[i]? = some (some (SF.mk (rRef x) ())) := by rfl) (hN : X.N[i]? = some sn := by rfl) (hv : Vis X.env.scope sn := by first | exact Or.inl rfl | exact Or.inr (Or.inl rfl) | exact Or.inr (Or.inr rfl)) (hd : (sn == ("__debug__" : Str)) = false := by decide)
    (hcd : (sn == ("__classdict__" : Str)) = false := by decide) (hs : swapsWith e (some (.Attribute (.Name sn p1) f pos')) pos.line X.env = pure false := by rfl) :
    J1 X W Kx (Stt I0 H0 ctx (.ins x C dx gs :: mem)) (.Assign [.Attribute (.Name sn p1) f pos'] e pos) m (fun y => Stt I0 H0 ctx (.ins x C dx (putG f ⟨r, y⟩ gs) :: mem)) := fun I H σ D g p => by
  refine s_fld (j I H σ _ g ?_) hs
  cases m with
  | ok y =>
    intro I1 H1 v f1 h1
    have g1 := g.step f1
    obtain ⟨u, eu, hu⟩ := g1.sl i _ hc
    cases (show u = V.ref x from hu)
    obtain ⟨_, _, oo, zH, fs, eo, hf⟩ := g1.insAt (j := 0) (l := x) rfl
    subst eo
    refine w_var i ⟨x, C, dx, fs, rfl, zH, cl, hn, ?_, ?_⟩ eu hN hv hd hcd
    · rw [hf.length]; exact hg
    · exact p I1 _ σ f1.i (g1.cellAt (l := x) (c' := .ins x C dx (putG f ⟨r, y⟩ gs)) 0 rfl (fun q => q.1) ⟨rfl, _, upd_same, _, rfl, hf.put h1⟩)
  | err e => exact fun I' H' c d f x => p I' H' σ c d (hx _ _ _ _ (g.step f) (x.1.back g.fm.h)) x.2
  | stuck => exact p
/-- the object at the head of mem is frozen -/
theorem Stt.freeze {I0 H0 I H : Hp} {σ : St} {l C dx : Addr} {gs : List (Str × SF)} (s : Stt I0 H0 ctx (.ins l C dx gs :: mem) I H σ) : ∃ fs I', H l = some (.ins C dx fs) ∧ FldR I fs gs ∧ Stt I0 H0 ctx mem I' H σ ∧ Same I I' ∧ I' l = some (.ins C dx fs) := by
  obtain ⟨fp, ⟨e, o, h, fs, eo, p⟩, _, sm, s2⟩ := s.freezeAt 0 rfl
  subst e; subst eo
  exact ⟨fs, _, h, p, s2, sm, by rw [ice_in (List.mem_singleton_self l)]; exact h⟩

/-! ### C(..) -/
def spI (K : PySem.W.Frag) (C : Addr) (R : Hp → Hp → List V → δ → Prop) (m : δ → Res γ) (r : Ra γ) : Sp := fun vs H Q E => ∃ x dx ws H0 I d, vs = .ref x :: ws ∧ H0 x = none ∧ H0 dx = none ∧ dx ≠ x ∧ H = upd (upd H0 dx (.own x)) x (.ins C dx []) ∧ Same I H0 ∧ R I H0 ws d ∧
  PostE K (m d) r I H0 E (fun u H2 => u = .ref x → Q .non H2)
theorem cj_make {k : Nat} {C f : Addr} {fd : FuncData} {ps : List Str} {ds : List Value} {dvs : List V} {R R' : Hp → Hp → List V → δ → Prop} {m : δ → Res γ} (M : Mk X.K C f) (F : FnOk X.prog X.w X.K X.mg X.base (L2.CX X.prog X.w) k f fd ps (spI X.K C R m rc)) (hr : Room (k + 1) X.A) (hb : Binds X.K fd ps ds) (hd : Vals dvs ds) (tk : Takes X W)
    (hR : ∀ I H vs d, R' I H vs d → R I H (vs ++ dvs) d) : CallJ X W (.ref C) R' m rc := fun I H σ Q vs d sm h p pins s us Iv r => by
  have n1 := Iv.hok.fresh (Nat.le_succ s.heap.objs.size)
  have n2 := Iv.hok.fresh (Nat.le_refl s.heap.objs.size)
  have n3 := Nat.ne_of_lt (Nat.lt_succ_self s.heap.objs.size)
  have hq : spI X.K C R m rc (.ref (s.heap.objs.size + 1) :: (vs ++ dvs)) (upd (upd H s.heap.objs.size (.own (s.heap.objs.size + 1))) (s.heap.objs.size + 1) (.ins C s.heap.objs.size [])) (fun v H2 => v = .non ∧ Q (.ref (s.heap.objs.size + 1)) H2) (fun cls d H' => W cls d σ H') :=
    ⟨s.heap.objs.size + 1, s.heap.objs.size, vs ++ dvs, H, I, d, rfl, n1, n2, n3, rfl, sm, hR _ _ _ _ h, p.imp fun v H' q e => ⟨rfl, e ▸ q⟩⟩
  have I2 := Inv.made (C := C) Iv
  have r2 : Vals (V.ref (s.heap.objs.size + 1) :: (vs ++ dvs)) (Value.ref (s.heap.objs.size + 1) :: (us ++ ds)) := .cons rfl (r.append hd)
  have hl : (Value.ref (s.heap.objs.size + 1) :: us ++ ds).length = ps.length := by
    have e := r2.length
    rw [F.len _ _ _ _ hq] at e
    exact e.symm
  refine wpAny_call (make_map (f := f) Iv.kIn M.makes M.init (beq_iff_eq.mp M.fn) (codeAny_mono (F.run _ X.stack _ _ ⟨Value.ref (s.heap.objs.size + 1) :: us, []⟩ (Value.ref (s.heap.objs.size + 1) :: (us ++ ds)) _ _ _ (hr.make C us [])
    (I2.env0.make C us []) (hb _ (Value.ref (s.heap.objs.size + 1) :: us) I2.kIn hl) r2 hq) fun r s' hq' => ?_))
  cases r with
  | error e => exact passAt tk σ pins _ _ e s' I2 hq'
  | ok fl =>
    cases fl with
    | ret u =>
      obtain ⟨v, H', I3, rv, ev, q3⟩ := I2.after hq'
      subst ev
      exact ⟨rv, ⟨V.ref (s.heap.objs.size + 1), H', I3, rfl, q3⟩⟩
    | next => exact False.elim hq'
    | brk => exact False.elim hq'
    | cont => exact False.elim hq'
end
section
variable {γ δ : Type} {P : Program} {w : World} {K : PySem.W.Frag} {mg : Str → Option Value} {base : Heap} {x qual : Str} {params : Arguments} {body : List Stmt} {scope : Scope} {dvs : List V} {kws : List (Str × V)} {f C : Addr} {fd : FuncData} {N ps : List Str} {k : Nat} {R : Hp → Hp → List V → δ → Prop} {m : δ → Res γ} {r : Ra γ}
/-- the cell of a new instance -/
theorem Stt.fresh {I0 H0 : Hp} {y dx : Addr} {σ : St} {ctx : List (Option SF)} (sm : Same I0 H0) (n1 : H0 y = none) (n2 : H0 dx = none) (n3 : dx ≠ y) (hl : σ.length = ctx.length) (hs : ∀ (i : Nat) (sf : SF), ctx[i]? = some (some sf) → ∃ v, σ[i]? = some (some v) ∧ sf.r I0 v sf.x) :
    Stt I0 H0 ctx [.ins y C dx []] I0 (upd (upd H0 dx (.own y)) y (.ins C dx [])) σ := by
  have e1 : Same H0 (upd (upd H0 dx (.own y)) y (.ins C dx [])) := fun b u e => by rw [upd_ne (ne_of_none e n1), upd_ne (ne_of_none e n2)]; exact e
  exact ⟨⟨Same.refl _, e1, sm.trans e1, fun _ e _ => e⟩, hl, hs, [[y]], ⟨⟨rfl, _, upd_same, [], rfl, True.intro⟩, True.intro⟩, by simp, fun a ha => by
    cases List.mem_singleton.mp (show a ∈ [y] by simpa using ha)
    exact ⟨n1, sm.free n1, by rw [upd_same]; intro z; cases z⟩⟩
/-- an __init__ that makes its object whole -/
theorem FunD.init {S : Type} (F : FunD K x qual params body scope dvs kws f fd) (Sc : FnScope N ps scope) (len : ∀ I H vs d, R I H vs d → vs.length + 1 = ps.length)
    (hb : ∀ (cdv : Value) (A : Around) (outer : List Env) (s : Shared) (I0 H0 H1 : Hp) (E : XK) (vs : List V) (d : δ) (y dx : Addr), Room k (A.deeper (envOfC qual scope s.heap.objs.size f cdv)) → Same I0 H0 → R I0 H0 vs d → H0 y = none → H0 dx = none → dx ≠ y → H1 = upd (upd H0 dx (.own y)) y (.ins C dx []) →
      ∃ (G : Knows) (S : Type) (mm : Res S) (G' : S → Knows), G I0 H1 (start N (.ref y :: vs)) ∧ JN (bx P w K mg base N qual scope f cdv A outer s H1 E) (bW E) (bK I0 H0) G body mm G' ∧
        (match mm with
         | .ok s => ∃ z, m d = .ok z ∧ ∀ I' H' σ', G' s I' H' σ' → ∃ I'', Fm I0 H0 I'' H' ∧ r I'' H' (.ref y) z
         | .err e => m d = .err e
         | .stuck => m d = .stuck)) : FnOk P w K mg base (L2.CX P w) (k + 1) f fd ps (spI K C R m r) := by
  refine F.ok Sc (fun vs H Q E ⟨y, dx, ws, H0, I, d, e, _, _, _, _, _, h, _⟩ => by rw [e, List.length_cons]; exact len I H0 ws d h) fun cdv A outer s H vs Q E hr ⟨y, dx, ws, H0, I, d, e, n1, n2, n3, eH, sm, h, p⟩ => ⟨_, pss_W, ?_⟩
  subst e
  obtain ⟨G, S, mm, G', g, j, fin⟩ := hb cdv A outer s I H0 H E ws d y dx hr sm h n1 n2 n3 eH
  refine j I H _ _ g ?_
  cases mm with
  | ok z =>
    obtain ⟨y', e1, h1⟩ := fin
    intro I' H' σ' _ g'
    obtain ⟨I'', f1, r1⟩ := h1 I' H' σ' g'
    rw [e1] at p
    exact p I'' H' _ f1 r1 rfl
  | err e =>
    rw [show m d = _ from fin] at p
    exact fun I' H' _ c d f x => p I' H' c d f.1 ⟨f.2, x⟩
  | stuck =>
    rw [show m d = _ from fin] at p
    exact p
end
end L2.Tr

namespace L2.Tr
open PySem PySem.Spec PyProof.Rows He
/-! ### the head's facts -/
abbrev FB := PySem.W.Frag → Bool
abbrev AlX : Type := Bool × List FnW
def obsX (fs : List FB) (fn : List DefD) (K : PySem.W.Frag) : AlX := ((fs.all fun f => f K) && fn.all fun d => d.ok K, fn.map fun d => fnW K d.at_)
def valX (fn : List DefD) : AlX := (true, fn.map DefD.val)
def SaysX (fs : List FB) (fn : List DefD) (K : PySem.W.Frag) : Prop := obsX fs fn K = valX fn
def obsXG (n : Nat) (fs : List FB) (fn : List DefD) (g : Addr → Option Obj) : AlX := obsX fs fn (frG g (asD g n))
def hookX (n : Nat) (fs : List FB) (fn : List DefD) : PySem.W.Hook where
  α := AlX
  obs := fun s => obsXG n fs fn s.heap.get?
  val := fun _ => valX fn
  says := fun _ h => ∃ K : PySem.W.Frag, K.In h ∧ SaysX fs fn K
  of := fun _ _ e => ⟨_, frG_in, e⟩
  keeps := fun _ _ _ ⟨K, hK, c⟩ k => ⟨K, PySem.W.Frag.In.keeps hK k, c⟩
theorem obsXG_eq {n : Nat} {fs : List FB} {fn : List DefD} {g : Addr → Option Obj} {s : Shared} (h : ∀ a, g a = s.heap.get? a) : obsXG n fs fn g = (hookX n fs fn).obs s := by
  have e : g = s.heap.get? := funext h
  rw [e] <;> rfl
section
variable {fs : List FB} {fn : List DefD} {K : PySem.W.Frag} {mg : Str → Option Value} {h : Heap}
theorem SaysX.fact (c : SaysX fs fn K) (i : Nat) {f : FB} (h : fs[i]? = some f := by rfl) : f K = true := by
  have c1 := (ba (show ((fs.all fun f => f K) && fn.all fun d => d.ok K) = true from congrArg (fun z : AlX => z.1) c)).1
  exact List.all_eq_true.mp c1 f (List.mem_of_getElem? h)
theorem SaysX.def_ (c : SaysX fs fn K) (i : Nat) {d : DefD} (h : fn[i]? = some d := by rfl) : ∃ fd, FunD K d.name d.qual d.params d.body d.scope (d.dvs K) (d.kws K) (fAd K d.at_) fd := by
  have c2 := (ba (show ((fs.all fun f => f K) && fn.all fun d => d.ok K) = true from congrArg (fun z : AlX => z.1) c)).2
  have e : fn.map (fun d => fnW K d.at_) = fn.map DefD.val := congrArg (fun z : AlX => z.2) c
  have e2 : (fn.map fun d => fnW K d.at_)[i]? = (fn.map DefD.val)[i]? := by rw [e]
  rw [List.getElem?_map, List.getElem?_map, h] at e2
  exact DefD.funD (Option.some.inj e2) (List.all_eq_true.mp c2 d (List.mem_of_getElem? h))
def fGlo (x : Str) : FB := fun K => (Fa.glo x).ok K
def fFree (x : Str) : FB := fun K => (Fa.free x).ok K
def fKeep (x : Str) : FB := fun K => PySem.W.keepIn K (.ref (ga K x))
def fCls (x : Str) : FB := fun K => (Fa.cls x).ok K
def fNoat (x f : Str) : FB := fun K => (Fa.noat x f).ok K
def fMeth (x m : Str) : FB := fun K => (Fa.meth x m).ok K
def fMkr (x : Str) : FB := fun K => (Fa.mkr x).ok K
def fExc (x : Str) : FB := fun K => (Fa.exc x).ok K && (Fa.glo x).ok K
def fOcl (x : Str) : FB := fun K => (Fa.cls x).ok K && (PySem.W.selfFirst K (ga K x) && (eqO (PySem.W.findIn K (.ref (ga K x)) "__class__") (some (some (.builtin "object.__class__"))) && (eqO (PySem.W.specialIn K (.builtin "object.__class__") "__get__") (some (some (.builtin "getset_descriptor.__get__"))) &&
  (decide (PySem.W.takesIn K (.builtin "object.__class__") = some true) && (decide (PySem.W.mroIn K (ga K x) (.type "object") = some true) && (decide (PySem.W.subIn K (.ref (ga K x)) (.type "int") = some false) && (decide (PySem.W.subIn K (.type "int") (.ref (ga K x)) = some false) &&
  eqO (PySem.W.findIn K (.ref (ga K x)) "__ne__") (some (some (.builtin "object.__ne__"))))))))))
def fOMet (x m : Str) : FB := fun K => eqO (PySem.W.findIn K (.ref (ga K x)) m) (some (some (.ref (ma K (ga K x) m)))) && PySem.W.isFn K (.ref (ma K (ga K x) m))
def fNf (x : Str) : FB := fun K => PySem.W.notFirst K (ga K x) (.ref (ga K x)) && PySem.W.notFirst K (ga K x) (.type "int")
def fIntM (m : Str) : FB := fun K => (PySem.W.findIn K (.type "int") m).isSome
def fKit (x y : Str) (b : Bool) : FB := fun K => decide (PySem.W.kitOne K (.ref (ga K x)) (.ref (ga K y)) = some b)
def fKitT (x : Str) (t : String) (b : Bool) : FB := fun K => decide (PySem.W.kitOne K (.ref (ga K x)) (.type t) = some b)
def fKitI (t : String) (x : Str) (b : Bool) : FB := fun K => decide (PySem.W.kitOne K (.type t) (.ref (ga K x)) = some b)
theorem glo_of (X : K.In h) (G : h.Ns mainGlobals mg) {x : Str} (c : fGlo x K = true) : mg x = some (.ref (ga K x)) := glo_ok X G c
theorem free_of (X : K.In h) (G : h.Ns mainGlobals mg) {x : Str} (c : fFree x K = true) : mg x = none := free_ok X G c
theorem cls_of {x : Str} (c : fCls x K = true) : Cls K (ga K x) := cls_ok c
theorem noat_of {x f : Str} (c : fNoat x f K = true) : NoAttr K (ga K x) f := noat_ok c
theorem meth_of {x m : Str} (c : fMeth x m K = true) : Meth K (ga K x) m (ma K (ga K x) m) := meth_ok c
theorem mkr_of {x : Str} (c : fMkr x K = true) : Mk K (ga K x) (ma K (ga K x) "__init__") := mkr_ok c
theorem exc_of (X : K.In h) (G : h.Ns mainGlobals mg) {x : Str} (c : fExc x K = true) : ExcP K mg x := by
  obtain ⟨c1, c2⟩ := ba c
  obtain ⟨a, b, d, e⟩ := exc_ok c1
  exact ⟨a, b, d, e, glo_ok X G c2⟩
theorem ocl_of {x : Str} (c : fOcl x K = true) : OCls K (ga K x) := by
  obtain ⟨c0, c⟩ := ba c
  obtain ⟨c1, c⟩ := ba c
  obtain ⟨c2, c⟩ := ba c
  obtain ⟨c3, c⟩ := ba c
  obtain ⟨c4, c⟩ := ba c
  obtain ⟨c5, c⟩ := ba c
  obtain ⟨c6, c⟩ := ba c
  obtain ⟨c7, c8⟩ := ba c
  exact ⟨cls_ok c0, c1, eqO_ok c2, eqO_ok c3, of_decide_eq_true c4, of_decide_eq_true c5, of_decide_eq_true c6, of_decide_eq_true c7, eqO_ok c8⟩
theorem omet_of {x m : Str} (c : fOMet x m K = true) : OMet K (ga K x) m (ma K (ga K x) m) := by
  obtain ⟨a, b⟩ := ba c
  exact ⟨eqO_ok a, b⟩
theorem nf_of {x : Str} (c : fNf x K = true) : PySem.W.notFirst K (ga K x) (.ref (ga K x)) = true ∧ PySem.W.notFirst K (ga K x) (.type "int") = true := ba c
theorem intM_of {m : Str} (c : fIntM m K = true) : ∃ fo, PySem.W.findIn K (.type "int") m = some fo := Option.isSome_iff_exists.mp c
theorem kit_of' {x y : Str} {b : Bool} (c : fKit x y b K = true) : PySem.W.kitOne K (.ref (ga K x)) (.ref (ga K y)) = some b := of_decide_eq_true c
theorem kitT_of {x : Str} {t : String} {b : Bool} (c : fKitT x t b K = true) : PySem.W.kitOne K (.ref (ga K x)) (.type t) = some b := of_decide_eq_true c
theorem kitI_of {x : Str} {t : String} {b : Bool} (c : fKitI t x b K = true) : PySem.W.kitOne K (.type t) (.ref (ga K x)) = some b := of_decide_eq_true c
end
end L2.Tr

namespace L2.Tr
open PySem PySem.Spec PyProof.Rows
section
variable {α β γ δ S : Type} {X : Cx} {I0 H0 : Hp} {W : WX} {Kx : KnowsX} {G : Knows} {ctx cw : List (Option SF)} {mem : List MF} {e a b c o : Expr} {es bs : List Expr} {st b₀ : Stmt} {ss s1 s2 body suite : List Stmt} {pos pos' np : Pos} {n x : Str} {ra : Ra α} {rb : Ra β} {rr : Ra γ} {ma : Res α} {mb : Res β}
/-- what is known of fewer slots -/
def weakC : List (Option SF) → List (Option SF) → Prop
  | [], [] => True
  | _ :: c, none :: d => weakC c d
  | a :: c, some b :: d => a = some b ∧ weakC c d
  | _, _ => False
theorem weakC.len : ∀ {c d : List (Option SF)}, weakC c d → c.length = d.length
  | [], [], _ => rfl
  | _ :: _, none :: _, h => congrArg Nat.succ (weakC.len (c := _) h)
  | _ :: _, some _ :: _, h => congrArg Nat.succ (weakC.len (c := _) h.2)
  | [], _ :: _, h => h.elim
  | _ :: _, [], h => h.elim
theorem weakC.get : ∀ {c d : List (Option SF)} {i : Nat} {sf : SF}, weakC c d → d[i]? = some (some sf) → c[i]? = some (some sf)
  | [], [], _, _, _, e => by simp at e
  | _ :: _, none :: _, 0, _, _, e => by simp at e
  | _ :: c, none :: d, i + 1, sf, h, e => by
    have e' : d[i]? = some (some sf) := by simpa using e
    have := weakC.get (c := c) h e'
    simpa using this
  | _ :: _, some _ :: _, 0, _, h, e => by
    have e' : some _ = some (some _) := e
    rw [h.1]; simpa using e
  | _ :: c, some _ :: d, i + 1, sf, h, e => by
    have e' : d[i]? = some (some sf) := by simpa using e
    have := weakC.get (c := c) h.2 e'
    simpa using this
  | [], _ :: _, _, _, h, _ => h.elim
  | _ :: _, [], _, _, h, _ => h.elim
theorem Stt.weak {I H : Hp} {σ : St} (s : Stt I0 H0 ctx mem I H σ) (h : weakC ctx cw) : Stt I0 H0 cw mem I H σ := ⟨s.fm, by rw [s.len, h.len], fun i sf e => s.sl i sf (h.get e), s.me⟩
theorem Stt.unset {I H : Hp} {σ : St} (s : Stt I0 H0 ctx mem I H σ) (i : Nat) {u : Option V} : Stt I0 H0 (ctx.set i none) mem I H (σ.set i u) := by
  refine ⟨s.fm, by rw [List.length_set, List.length_set]; exact s.len, fun j sf e => ?_, s.me⟩
  by_cases hj : j = i
  · subst hj
    rw [List.getElem?_set] at e
    by_cases hl : j < ctx.length
    · simp [hl] at e
    · simp [hl] at e
  · rw [List.getElem?_set_ne (Ne.symm hj)] at e
    obtain ⟨w, e1, q⟩ := s.sl j sf e
    exact ⟨w, by rw [List.getElem?_set_ne (Ne.symm hj)]; exact e1, q⟩

/-! ### try -/
def tryM (m : Res S) (L : List (Str × Bool)) (h : Exn → Res γ) (f : S → Res γ) : Res γ := match m with
  | .ok s => f s
  | .err e => (match L.lookup e.cls with
    | some true => (match h e with
      | .ok y => .ok y
      | _ => .stuck)
    | some false => .err e
    | none => .stuck)
  | .stuck => .stuck
theorem lookup_mem {L : List (Str × Bool)} {x : Str} {b : Bool} (h : L.lookup x = some b) : (x, b) ∈ L := by
  induction L with
  | nil => cases h
  | cons p L ih =>
    obtain ⟨y, c⟩ := p
    have h' : (match x == y with | true => some c | false => L.lookup x) = some b := h
    cases q : (x == y) with
    | true =>
      rw [q] at h'
      cases h'
      rw [beq_iff_eq.mp q]; exact List.mem_cons_self
    | false => rw [q] at h'; exact List.mem_cons_of_mem _ (ih h')
def rExc (a : Addr) : Rp Unit := fun _ v _ => v = .ref a
instance {a : Addr} : Mo (rExc a) := ⟨fun _ h => h⟩
def MF.xd (K : PySem.W.Frag) (l : Addr) (ps : List (Str × Pay)) : MF := .one l (fun I o => ∃ fs, o = .xd fs ∧ Paired (fun (p : Str × V) (q : Str × Pay) => p.1 = q.1 ∧ PayR K I p.2 q.2) fs ps) (fun s ⟨fs, e, p⟩ => ⟨fs, e, Paired.mapP p fun _ q h => ⟨h.1, by
  obtain ⟨h1, h2⟩ := h
  cases hq : q.2 with
  | int i => rw [hq] at h2; exact h2
  | str i => rw [hq] at h2; exact h2
  | bl i => rw [hq] at h2; exact h2
  | non => rw [hq] at h2; exact h2
  | frac i => rw [hq] at h2; exact Mo.up (r := rFrac K) s h2
  | obj i j => exact True.intro⟩⟩)
def exm (K : PySem.W.Frag) (d : Option Addr) (e : Exn) : List MF := match d with
  | none => []
  | some a => [.xd K a e.pay]
/-- regions without an error's dict -/
def NoXd : List MF → Prop
  | [] => True
  | c :: m => (∀ (I H : Hp) (fp : List Addr) (a : Addr) (fs : List (Str × V)), c.Q I H fp → a ∈ fp → H a ≠ some (.xd fs)) ∧ NoXd m
theorem noxd_lst {α : Type} {l : Addr} {r : Rp α} {mo : Mo r} {xs : List α} : ∀ (I H : Hp) (fp : List Addr) (a : Addr) (fs : List (Str × V)), (MF.lst l r xs).Q I H fp → a ∈ fp → H a ≠ some (.xd fs) := fun I H fp a fs ⟨e, o, h, vs, eo, _⟩ ha z => by
  subst e; subst eo
  rw [List.mem_singleton.mp ha, h] at z; cases z
theorem noxd_ins {l C dx : Addr} {gs : List (Str × SF)} : ∀ (I H : Hp) (fp : List Addr) (a : Addr) (fs : List (Str × V)), (MF.ins l C dx gs).Q I H fp → a ∈ fp → H a ≠ some (.xd fs) := fun I H fp a fs ⟨e, o, h, vs, eo, _⟩ ha z => by
  subst e; subst eo
  rw [List.mem_singleton.mp ha, h] at z; cases z
theorem NoXd.at {I H : Hp} : ∀ {mem : List MF} {fps : List (List Addr)}, NoXd mem → Regs I H mem fps → ∀ (a : Addr) (fs : List (Str × V)), a ∈ fps.flatten → H a ≠ some (.xd fs)
  | [], [], _, _, a, fs, ha => by simp at ha
  | _ :: _, fp :: fps, ⟨n, m⟩, ⟨q, r⟩, a, fs, ha => by
    rw [List.flatten_cons] at ha
    rcases List.mem_append.mp ha with z | z
    · exact n I H fp a fs q z
    · exact NoXd.at m r a fs z
  | [], _ :: _, _, h, _, _, _ => h.elim
  | _ :: _, [], _, h, _, _, _ => h.elim
theorem Stt.exm {K : PySem.W.Frag} {I H : Hp} {σ : St} {ee : Exn} {cls : Value} {d : Option Addr} (s : Stt I0 H0 ctx mem I H σ) (f : Fr H0 d) (x : ExR K I H ee cls d) (hm : NoXd mem) : Stt I0 H0 ctx (Tr.exm K d ee ++ mem) I H σ := by
  cases d with
  | none => exact s
  | some a =>
    obtain ⟨_, _, fs, e1, e2, pr⟩ := x
    obtain ⟨fps, rg, nd, k⟩ := s.me
    have out : a ∉ fps.flatten := fun z => hm.at rg a fs z e1
    refine ⟨s.fm, s.len, s.sl, [a] :: fps, ⟨⟨rfl, _, e1, fs, rfl, pr⟩, rg⟩, ?_, fun b hb => ?_⟩
    · rw [List.flatten_cons]; exact List.nodup_cons.mpr ⟨out, nd⟩
    · rw [List.flatten_cons] at hb
      rcases List.mem_cons.mp hb with z | z
      · rw [z]; exact ⟨f a rfl, e2, by rw [e1]; intro y; cases y⟩
      · exact k b z
/-- try: body except x as n: suite; the suite ends the def -/
theorem JR.tryAs (i : Nat) {cv : Value} {L : List (Str × Bool)} {mb : Res S} {G' : S → Knows} {f : S → Res γ} {mh : Exn → Res γ} (tk : Takes X W)
    (jb : ∀ (W' : WX) (pn : List (Addr × Obj)) (xe : Value → Shared → Prop), Takes (X.tr pn xe) W' → PassesOwn (model X.prog X.w) X.A X.env xe → JN (X.tr pn xe) W' (fun I H σ d => Stt I0 H0 cw mem I H σ ∧ Fr H0 d) (Stt I0 H0 ctx mem) body mb G')
    (js : ∀ (a : Addr) (oe : Obj) (ee : Exn) (d : Option Addr) (pn : List (Addr × Obj)), Zc (.ref (He.ga X.K ee.cls)) d oe → (∃ vs, oe.data = .fields vs) → (ee.cls, true) ∈ L → (d = none → ee.pay = []) → (∀ q, d = some q → ee.pay ≠ []) → JR (X.suite a ((a, oe) :: pn)) I0 H0 (fun _ _ _ _ => False) (fun _ _ _ _ => True) (Stt I0 H0 (cw.set i (some ⟨rExc a, ()⟩)) (exm X.K d ee ++ mem)) (b₀ :: suite) (mh ee) rr)
    (k : ∀ s, JR X I0 H0 W Kx (G' s) ss (f s) rr) (hL : ∀ y b, (y, b) ∈ L → PySem.W.exmOne X.K (.ref (He.ga X.K y)) cv = some b) (hc : Names X x cv) (hx : ∀ I H σ d, Stt I0 H0 cw mem I H σ → Fr H0 d → Kx I H σ d) (hN : X.N.Nodup)
    (hs : X.stack = X.env :: X.outer := by rfl) (hf : X.env.frame = some X.env.locals := by rfl) (hi : X.N[i]? = some n := by rfl) (hln : X.env.kindOf n = some .local := by rfl) (hmx : NoXd mem := by exact True.intro) :
    JR X I0 H0 W Kx (Stt I0 H0 ctx mem) (.Try body [.ExceptHandler (some (.Name x np)) (some n) (b₀ :: suite) pos'] [] [] pos :: ss) (tryM mb L mh f) rr := fun I H σ D g p => by
  refine b_cons (PS.w (ps_try_as (i := i) (tb := fun W' D σ H => ∀ pn xe, Takes (X.tr pn xe) W' → PassesOwn (model X.prog X.w) X.A X.env xe → wB (X.tr pn xe) body D σ H) (ts := fun a cls d D σ H => ∀ oe pn, Zc cls d oe → (∃ vs, oe.data = .fields vs) → wB (X.suite a ((a, oe) :: pn)) (b₀ :: suite) D σ H) hs hf hN hi hln hc tk
    (fun W' pn xe t1 t2 => ⟨fun pins s σ H D Iv h => h pn xe t1 t2 pins s Iv⟩) (fun a oe cls d pn hz hf => ⟨fun pins s σ H D Iv h => h oe pn hz hf pins s Iv⟩)) ?_)
  intro pn xe t1 t2
  refine jb _ pn xe t1 t2 I H σ _ g ?_
  cases mb with
  | ok s => exact fun I' H' σ' _ g' => k s I' H' σ' D g' p
  | stuck => exact p.elim
  | err ee =>
    intro I' H' σ' cls d hk hxr
    obtain ⟨g1, fr⟩ := hk
    obtain ⟨ec, hxr2⟩ := id hxr
    have p1 : PostR X I0 H0 W Kx (match L.lookup ee.cls with
      | some true => (match mh ee with
        | .ok y => .ok y
        | _ => .stuck)
      | some false => .err ee
      | none => .stuck) rr D := p
    cases hl : L.lookup ee.cls with
    | none => rw [hl] at p1; exact p1.elim
    | some bb =>
      rw [hl] at p1
      refine ⟨bb, by rw [ec]; exact hL _ _ (lookup_mem hl), fun hb a ha oe pn' hz hf' => ?_, fun hb => ?_⟩
      · subst hb
        rw [ec] at hz
        refine b_mono (js a oe ee d pn' hz hf' (lookup_mem hl) (fun z => by subst z; exact hxr2) (fun q z => by subst z; exact hxr2.1) I' H' _ { nx := fun _ _ => False, rt := D.rt } ((g1.set i (r := rExc a) (x := ()) rfl).exm fr hxr hmx) ?_) (fun _ _ z => z.elim) (fun _ _ z => z) (fun _ _ z => z.elim) (fun _ _ z => z.elim)
        have p2 : PostR X I0 H0 W Kx (match mh ee with
          | .ok y => .ok y
          | _ => .stuck) rr D := p1
        revert p2
        generalize mh ee = z
        intro p2
        cases z with
        | ok y => exact p2
        | err _ => exact p2.elim
        | stuck => exact p2.elim
      · subst hb
        exact p1 I' H' σ' cls d (hx _ _ _ _ g1 fr) hxr
theorem JR.tryOnly {cv : Value} {L : List (Str × Bool)} {mb : Res S} {G' : S → Knows} {f : S → Res γ} {mh : Exn → Res γ} (tk : Takes X W)
    (jb : ∀ (W' : WX) (pn : List (Addr × Obj)) (xe : Value → Shared → Prop), Takes (X.tr pn xe) W' → PassesOwn (model X.prog X.w) X.A X.env xe → JN (X.tr pn xe) W' (fun I H σ d => Stt I0 H0 cw mem I H σ ∧ Fr H0 d) (Stt I0 H0 ctx mem) body mb G')
    (js : ∀ (a : Addr) (oe : Obj) (ee : Exn) (d : Option Addr) (pn : List (Addr × Obj)), Zc (.ref (He.ga X.K ee.cls)) d oe → (∃ vs, oe.data = .fields vs) → (ee.cls, true) ∈ L → (d = none → ee.pay = []) → (∀ q, d = some q → ee.pay ≠ []) → JR (X.suite a ((a, oe) :: pn)) I0 H0 (fun _ _ _ _ => False) (fun _ _ _ _ => True) (Stt I0 H0 cw (exm X.K d ee ++ mem)) (b₀ :: suite) (mh ee) rr)
    (k : ∀ s, JR X I0 H0 W Kx (G' s) ss (f s) rr) (hL : ∀ y b, (y, b) ∈ L → PySem.W.exmOne X.K (.ref (He.ga X.K y)) cv = some b) (hc : Names X x cv) (hx : ∀ I H σ d, Stt I0 H0 cw mem I H σ → Fr H0 d → Kx I H σ d)
    (hs : X.stack = X.env :: X.outer := by rfl) (hf : X.env.frame = some X.env.locals := by rfl) (hmx : NoXd mem := by exact True.intro) :
    JR X I0 H0 W Kx (Stt I0 H0 ctx mem) (.Try body [.ExceptHandler (some (.Name x np)) none (b₀ :: suite) pos'] [] [] pos :: ss) (tryM mb L mh f) rr := fun I H σ D g p => by
  refine b_cons (PS.w (ps_try_only (tb := fun W' D σ H => ∀ pn xe, Takes (X.tr pn xe) W' → PassesOwn (model X.prog X.w) X.A X.env xe → wB (X.tr pn xe) body D σ H) (ts := fun a cls d D σ H => ∀ oe pn, Zc cls d oe → (∃ vs, oe.data = .fields vs) → wB (X.suite a ((a, oe) :: pn)) (b₀ :: suite) D σ H) hs hf hc tk
    (fun W' pn xe t1 t2 => ⟨fun pins s σ H D Iv h => h pn xe t1 t2 pins s Iv⟩) (fun a oe cls d pn hz hf => ⟨fun pins s σ H D Iv h => h oe pn hz hf pins s Iv⟩)) ?_)
  intro pn xe t1 t2
  refine jb _ pn xe t1 t2 I H σ _ g ?_
  cases mb with
  | ok s => exact fun I' H' σ' _ g' => k s I' H' σ' D g' p
  | stuck => exact p.elim
  | err ee =>
    intro I' H' σ' cls d hk hxr
    obtain ⟨g1, fr⟩ := hk
    obtain ⟨ec, hxr2⟩ := id hxr
    have p1 : PostR X I0 H0 W Kx (match L.lookup ee.cls with
      | some true => (match mh ee with
        | .ok y => .ok y
        | _ => .stuck)
      | some false => .err ee
      | none => .stuck) rr D := p
    cases hl : L.lookup ee.cls with
    | none => rw [hl] at p1; exact p1.elim
    | some bb =>
      rw [hl] at p1
      refine ⟨bb, by rw [ec]; exact hL _ _ (lookup_mem hl), fun hb a ha oe pn' hz hf' => ?_, fun hb => ?_⟩
      · subst hb
        rw [ec] at hz
        refine b_mono (js a oe ee d pn' hz hf' (lookup_mem hl) (fun z => by subst z; exact hxr2) (fun q z => by subst z; exact hxr2.1) I' H' _ { nx := fun _ _ => False, rt := D.rt } (g1.exm fr hxr hmx) ?_) (fun _ _ z => z.elim) (fun _ _ z => z) (fun _ _ z => z.elim) (fun _ _ z => z.elim)
        have p2 : PostR X I0 H0 W Kx (match mh ee with
          | .ok y => .ok y
          | _ => .stuck) rr D := p1
        revert p2
        generalize mh ee = z
        intro p2
        cases z with
        | ok y => exact p2
        | err _ => exact p2.elim
        | stuck => exact p2.elim
      · subst hb
        exact p1 I' H' σ' cls d (hx _ _ _ _ g1 fr) hxr
/-- .. where the errors have no fields -/
theorem JR.tryAsP (i : Nat) {cv : Value} {L : List (Str × Bool)} {mb : Res S} {G' : S → Knows} {f : S → Res γ} {mh : Str → Res γ} (tk : Takes X W)
    (jb : ∀ (W' : WX) (pn : List (Addr × Obj)) (xe : Value → Shared → Prop), Takes (X.tr pn xe) W' → PassesOwn (model X.prog X.w) X.A X.env xe → JN (X.tr pn xe) W' (fun I H σ d => Stt I0 H0 cw mem I H σ ∧ Fr H0 d) (Stt I0 H0 ctx mem) body mb G')
    (js : ∀ cls, (cls, true) ∈ L → ∀ (a : Addr) (oe : Obj) (pn : List (Addr × Obj)), Zc (.ref (He.ga X.K cls)) none oe → (∃ vs, oe.data = .fields vs) → JR (X.suite a ((a, oe) :: pn)) I0 H0 (fun _ _ _ _ => False) (fun _ _ _ _ => True) (Stt I0 H0 (cw.set i (some ⟨rExc a, ()⟩)) mem) (b₀ :: suite) (mh cls) rr)
    (k : ∀ s, JR X I0 H0 W Kx (G' s) ss (f s) rr) (hL : ∀ y b, (y, b) ∈ L → PySem.W.exmOne X.K (.ref (He.ga X.K y)) cv = some b) (hc : Names X x cv) (hx : ∀ I H σ d, Stt I0 H0 cw mem I H σ → Fr H0 d → Kx I H σ d) (hN : X.N.Nodup)
    (hs : X.stack = X.env :: X.outer := by rfl) (hf : X.env.frame = some X.env.locals := by rfl) (hi : X.N[i]? = some n := by rfl) (hln : X.env.kindOf n = some .local := by rfl) (hmx : NoXd mem := by exact True.intro) :
    JR X I0 H0 W Kx (Stt I0 H0 ctx mem) (.Try body [.ExceptHandler (some (.Name x np)) (some n) (b₀ :: suite) pos'] [] [] pos :: ss) (tryM mb L (fun ee => if ee.pay.isEmpty = true then mh ee.cls else .stuck) f) rr :=
  JR.tryAs i tk jb (fun a oe ee d pn hz hf hm h0 h1 => by
    cases d with
    | none =>
      have e : ee.pay.isEmpty = true := by rw [h0 rfl]; rfl
      rw [if_pos e]
      exact js ee.cls hm a oe pn hz hf
    | some q =>
      have e : ¬ ee.pay.isEmpty = true := fun z => h1 q rfl (List.isEmpty_iff.mp z)
      rw [if_neg e]
      exact fun _ _ _ _ _ p => p.elim) k hL hc hx hN hs hf hi hln hmx
theorem JR.tryOnlyP {cv : Value} {L : List (Str × Bool)} {mb : Res S} {G' : S → Knows} {f : S → Res γ} {mh : Str → Res γ} (tk : Takes X W)
    (jb : ∀ (W' : WX) (pn : List (Addr × Obj)) (xe : Value → Shared → Prop), Takes (X.tr pn xe) W' → PassesOwn (model X.prog X.w) X.A X.env xe → JN (X.tr pn xe) W' (fun I H σ d => Stt I0 H0 cw mem I H σ ∧ Fr H0 d) (Stt I0 H0 ctx mem) body mb G')
    (js : ∀ cls, (cls, true) ∈ L → ∀ (a : Addr) (oe : Obj) (pn : List (Addr × Obj)), Zc (.ref (He.ga X.K cls)) none oe → (∃ vs, oe.data = .fields vs) → JR (X.suite a ((a, oe) :: pn)) I0 H0 (fun _ _ _ _ => False) (fun _ _ _ _ => True) (Stt I0 H0 cw mem) (b₀ :: suite) (mh cls) rr)
    (k : ∀ s, JR X I0 H0 W Kx (G' s) ss (f s) rr) (hL : ∀ y b, (y, b) ∈ L → PySem.W.exmOne X.K (.ref (He.ga X.K y)) cv = some b) (hc : Names X x cv) (hx : ∀ I H σ d, Stt I0 H0 cw mem I H σ → Fr H0 d → Kx I H σ d)
    (hs : X.stack = X.env :: X.outer := by rfl) (hf : X.env.frame = some X.env.locals := by rfl) (hmx : NoXd mem := by exact True.intro) :
    JR X I0 H0 W Kx (Stt I0 H0 ctx mem) (.Try body [.ExceptHandler (some (.Name x np)) none (b₀ :: suite) pos'] [] [] pos :: ss) (tryM mb L (fun ee => if ee.pay.isEmpty = true then mh ee.cls else .stuck) f) rr :=
  JR.tryOnly tk jb (fun a oe ee d pn hz hf hm h0 h1 => by
    cases d with
    | none =>
      have e : ee.pay.isEmpty = true := by rw [h0 rfl]; rfl
      rw [if_pos e]
      exact js ee.cls hm a oe pn hz hf
    | some q =>
      have e : ¬ ee.pay.isEmpty = true := fun z => h1 q rfl (List.isEmpty_iff.mp z)
      rw [if_neg e]
      exact fun _ _ _ _ _ p => p.elim) k hL hc hx hs hf hmx
end
end L2.Tr

namespace L2.Tr
open PySem PySem.Spec PyProof.Rows
section
variable {α β γ δ S : Type} {X : Cx} {I0 H0 : Hp} {W : WX} {Kx : KnowsX} {G : Knows} {ctx cw : List (Option SF)} {mem : List MF} {e a b c o : Expr} {es bs : List Expr} {pos pos' np : Pos} {n x : Str} {ra : Ra α} {rb : Ra β} {rc : Ra γ} {ma : Res α} {mb : Res β}
/-! ### the start of a def -/
def IniR (I : Hp) : List V → List (Option SF) → Prop
  | [], c => ∀ (i : Nat) (sf : SF), c[i]? ≠ some (some sf)
  | v :: vs, some sf :: c => sf.r I v sf.x ∧ IniR I vs c
  | _ :: _, _ => False
theorem IniR.get {I : Hp} : ∀ {vs : List V} {c : List (Option SF)} {n : Nat}, IniR I vs c → ∀ (i : Nat) (sf : SF), c[i]? = some (some sf) → ∃ v, (vs.map some ++ List.replicate n none)[i]? = some (some v) ∧ sf.r I v sf.x
  | [], c, n, h, i, sf, e => (h i sf e).elim
  | v :: vs, some sf' :: c, n, ⟨a, b⟩, 0, sf, e => by
    have e' : sf' = sf := by simpa using e
    subst e'
    exact ⟨v, by simp, a⟩
  | v :: vs, some sf' :: c, n, ⟨a, b⟩, i + 1, sf, e => by
    have e' : c[i]? = some (some sf) := by simpa using e
    obtain ⟨u, h1, h2⟩ := IniR.get (n := n) b i sf e'
    exact ⟨u, by simpa using h1, h2⟩
  | _ :: _, none :: _, _, h, _, _, _ => h.elim
  | _ :: _, [], _, h, _, _, _ => h.elim
theorem Stt.start {N : List Str} {vs : List V} (sm : Same I0 H0) (h : IniR I0 vs ctx) (hl : ctx.length = N.length) (hv : vs.length ≤ N.length) : Stt I0 H0 ctx [] I0 H0 (L2.start N vs) := by
  refine ⟨Fm.refl sm, ?_, fun i sf e => IniR.get h i sf e, [], True.intro, by simp, fun a ha => by simp at ha⟩
  unfold L2.start
  rw [List.length_append, List.length_map, List.length_replicate, hl]
  omega
theorem ini_nil {I : Hp} {c : List (Option SF)} (h : c.all (·.isNone) = true) : IniR I [] c := fun i sf e => by
  have := List.all_eq_true.mp h _ (List.mem_of_getElem? e)
  cases this
/-! ### promises, once more -/
theorem FnR.nice {P : Program} {w : World} {K : PySem.W.Frag} {mg : Str → Option Value} {base : Heap} {k : Nat} {f : Addr} {R : Hp → Hp → List V → δ → Prop} {m m' : δ → Res γ} (F : FnR P w K mg base (L2.CX P w) k f (spF K R m rc)) (h : ∀ d, m' d = .stuck ∨ m' d = m d) :
    FnR P w K mg base (L2.CX P w) k f (spF K R m' rc) := F.imp fun vs H Q E ⟨I, d, s, r, p⟩ => ⟨I, d, s, r, by
  rcases h d with e | e
  · rw [show m' d = _ from e] at p; exact p.elim
  · rw [← e]; exact p⟩
theorem FnOk.fr {P : Program} {w : World} {K : PySem.W.Frag} {mg : Str → Option Value} {base : Heap} {k : Nat} {f : Addr} {fd : FuncData} {ps : List Str} {ds : List Value} {dvs : List V} {δ' : Type} {R : Hp → Hp → List V → δ → Prop} {R' : Hp → Hp → List V → δ' → Prop} {m : δ → Res γ} {h : δ' → δ} (F : FnOk P w K mg base (L2.CX P w) k f fd ps (spF K R m rc)) (hb : Binds K fd ps ds) (hd : Vals dvs ds)
    (hR : ∀ I H vs d, R' I H vs d → R I H (vs ++ dvs) (h d)) : FnR P w K mg base (L2.CX P w) k f (spF K R' (fun d => m (h d)) rc) := (FnOk.raw F hb hd).imp fun vs H Q E ⟨I, d, s, r, p⟩ => ⟨I, h d, s, hR _ _ _ _ r, p⟩
theorem FnOk.fr0 {P : Program} {w : World} {K : PySem.W.Frag} {mg : Str → Option Value} {base : Heap} {k : Nat} {f : Addr} {fd : FuncData} {ps : List Str} {R : Hp → Hp → List V → δ → Prop} {m : δ → Res γ} (F : FnOk P w K mg base (L2.CX P w) k f fd ps (spF K R m rc)) (hb : Binds K fd ps []) :
    FnR P w K mg base (L2.CX P w) k f (spF K R m rc) := (FnOk.raw F hb .nil).imp fun vs H Q E h => by rw [List.append_nil]; exact h
/-! ### the types of things -/
theorem tyr_int {K : PySem.W.Frag} {t : String} {g : Bool} (h : kitB "int" t = some g) : TyR K (rp rInt) (.type t) (fun _ => g) := fun I H v x _ e => ⟨.type "int", by rw [show v = _ from e]; exact .base (.int _), kit_ty h⟩
theorem tyr_intC {K : PySem.W.Frag} {C : Addr} {g : Bool} (h : PySem.W.kitOne K (.type "int") (.ref C) = some g) : TyR K (rp rInt) (.ref C) (fun _ => g) := fun I H v x _ e => ⟨.type "int", by rw [show v = _ from e]; exact .base (.int _), h⟩
theorem tyr_ins {K : PySem.W.Frag} {C : Addr} {u : Value} {g : Bool} (hc : OCls K C) (ia : InsR C ra) (h : PySem.W.kitOne K (.ref C) u = some g) : TyR K ra u (fun _ => g) := fun I H v x s e => by
  obtain ⟨a, dx, fs, rfl, ha⟩ := ia I H v x s e
  exact ⟨.ref C, .base (.ins ha hc.cl hc.ca hc.cn hc.ct hc.cm), h⟩
theorem insF {K : PySem.W.Frag} : InsR (He.ga K "Fraction") (rp (rFrac K)) := fun I H v x s ⟨a, dx, e, h⟩ => ⟨a, dx, _, e, s _ _ h⟩
theorem tyr_num {K : PySem.W.Frag} {u : Value} {g1 g2 : Bool} (h1 : TyR K (rp rInt) u fun _ => g1) (h2 : TyR K (rp (rFrac K)) u fun _ => g2) : TyR K (rp (rNum K)) u (fun x => match x with | .i _ => g1 | .q _ => g2) := fun I H v x s e => by
  cases x with
  | i n => exact h1 I H v n s e
  | q r => exact h2 I H v r s e
theorem w_glob_at {C : Addr} (hm : X.mg n = some (.ref C)) (hg : Gl X n) (hd : (n == ("__debug__" : Str)) = false) (σ : St) (H : Hp) (Q : VK) (h : Q (.ref C) H) : wE X (.Name n pos) σ H Q := w_glob h hm rfl hg hd
theorem w_type_at {t : String} (hm : X.mg n = none) (hv : bootBuiltins n = some (.type t)) (hg : Gl X n) (hn : n ≠ "__name__") (hd : (n == ("__debug__" : Str)) = false) (σ : St) (H : Hp) (Q : VK) (h : Q (.ty t) H) : wE X (.Name n pos) σ H Q := w_bltn h hm hv rfl hg hn hd
/-! ### fields of a Fraction -/
theorem fld_top {K : PySem.W.Frag} : FldOf K (He.ga K "Fraction") (rp (rFrac K)) "top" (fun q => q.num) (rp rInt) := fun I H v x s ⟨a, dx, e, h⟩ => ⟨a, dx, _, .int x.num, e, s _ _ h, rfl, rfl⟩
theorem fld_bottom {K : PySem.W.Frag} : FldOf K (He.ga K "Fraction") (rp (rFrac K)) "bottom" (fun q => (q.den : Int)) (rp rInt) := fun I H v x s ⟨a, dx, e, h⟩ => ⟨a, dx, _, .int (x.den : Int), e, s _ _ h, rfl, rfl⟩
theorem insOfF {K : PySem.W.Frag} {m : Str} (h1 : (m == ("top" : Str)) = false := by decide +kernel) (h2 : (m == ("bottom" : Str)) = false := by decide +kernel) : InsOf (He.ga K "Fraction") (rp (rFrac K)) m := fun I H v x s ⟨a, dx, e, h⟩ => ⟨a, dx, _, e, s _ _ h, by
  show (match m == ("top" : Str) with | true => _ | false => (match m == ("bottom" : Str) with | true => _ | false => none)) = none
  rw [h1, h2]⟩
/-! ### operators of Fractions, ints and both -/
variable {f f' : Addr} {k k' : Nat} {g : Rat × Num × Unit → Res γ} {g' : Rat × Int × Unit → Res γ}
theorem opj_qq {op : Operator} (hc : OCls X.K (He.ga X.K "Fraction")) (hm : OMet X.K (He.ga X.K "Fraction") (PySem.dunder op.info.2) f) (F : FnR X.prog X.w X.K X.mg X.base (L2.CX X.prog X.w) k f (spF X.K (R2' (rp (rFrac X.K)) (rp (rNum X.K))) g rc)) (hr : Room k X.A) (tk : Takes X W) :
    OpJ X W (binaryOp op) (rp (rFrac X.K)) (rp (rFrac X.K)) (fun x y => g (x, .q y, ())) rc := opj_own (g := fun d => g (d.1, .q d.2.1, ())) hc hm insF insF ((cj_of F hr tk).co fun I H vs d _ h => h)
theorem opj_qi {op : Operator} {fo ro : Option Value} (hc : OCls X.K (He.ga X.K "Fraction")) (hm : OMet X.K (He.ga X.K "Fraction") (PySem.dunder op.info.2) f) (hm' : OMet X.K (He.ga X.K "Fraction") (dunderR op.info.2) f') (h1 : PySem.W.findIn X.K (.type "int") (PySem.dunder op.info.2) = some fo) (h2 : PySem.W.findIn X.K (.type "int") (dunderR op.info.2) = some ro)
    (F : FnR X.prog X.w X.K X.mg X.base (L2.CX X.prog X.w) k f (spF X.K (R2' (rp (rFrac X.K)) (rp (rNum X.K))) g rc)) (hr : Room k X.A) (tk : Takes X W) :
    OpJ X W (binaryOp op) (rp (rFrac X.K)) (rp rInt) (fun x y => g (x, .i y, ())) rc := opj_ownI (g := fun d => g (d.1, .i d.2.1, ())) hc hm hm' h1 h2 insF ((cj_of F hr tk).co fun I H vs d _ h => h)
theorem opj_qn {f : Value → Value → Sem Value} {g : Rat × Num × Unit → Res γ} (h1 : OpJ X W f (rp (rFrac X.K)) (rp (rFrac X.K)) (fun x y => g (x, .q y, ())) rc) (h2 : OpJ X W f (rp (rFrac X.K)) (rp rInt) (fun x y => g (x, .i y, ())) rc) :
    OpJ X W f (rp (rFrac X.K)) (rp (rNum X.K)) (fun x y => g (x, y, ())) rc := fun I H σ Q u v x y s a b p => by
  cases y with
  | i n => exact h2 I H σ Q u v x n s a b p
  | q r => exact h1 I H σ Q u v x r s a b p
theorem opj_cqq {op : CmpOp} (hop : ∀ a b, compareOp op a b = richCompare op a b) (hc : OCls X.K (He.ga X.K "Fraction")) (hm : OMet X.K (He.ga X.K "Fraction") (cmpInfo op).2.1 f) (hn : PySem.W.notFirst X.K (He.ga X.K "Fraction") (.ref (He.ga X.K "Fraction")) = true) (F : FnR X.prog X.w X.K X.mg X.base (L2.CX X.prog X.w) k f (spF X.K (R2' (rp (rFrac X.K)) (rp (rNum X.K))) g rc)) (hr : Room k X.A) (tk : Takes X W) :
    OpJ X W (compareOp op) (rp (rFrac X.K)) (rp (rFrac X.K)) (fun x y => g (x, .q y, ())) rc := opj_cmp (g := fun d => g (d.1, .q d.2.1, ())) hop hc hm hr.units0 hn insF insF ((cj_of F hr tk).co fun I H vs d _ h => h)
theorem opj_cqi {op : CmpOp} (hop : ∀ a b, compareOp op a b = richCompare op a b) (hc : OCls X.K (He.ga X.K "Fraction")) (hm : OMet X.K (He.ga X.K "Fraction") (cmpInfo op).2.1 f) (hn : PySem.W.notFirst X.K (He.ga X.K "Fraction") (.type "int") = true) (F : FnR X.prog X.w X.K X.mg X.base (L2.CX X.prog X.w) k f (spF X.K (R2' (rp (rFrac X.K)) (rp (rNum X.K))) g rc)) (hr : Room k X.A) (tk : Takes X W) :
    OpJ X W (compareOp op) (rp (rFrac X.K)) (rp rInt) (fun x y => g (x, .i y, ())) rc := opj_cmpI (g := fun d => g (d.1, .i d.2.1, ())) hop hc hm hr.units0 hn insF ((cj_of F hr tk).co fun I H vs d _ h => h)
theorem opj_ciq {op : CmpOp} {sl id : String} {gi : Int → Int → Sem Fin} (hop : ∀ a b, compareOp op a b = richCompare op a b) (hc : OCls X.K (He.ga X.K "Fraction")) (hm : OMet X.K (He.ga X.K "Fraction") (cmpInfo op).2.2 f) (slot : Slot "int" (cmpInfo op).2.1 id) (entry : entryFor table id = some (Builtin.Int.intBinary sl gi)) (args : ∀ a b, argsOk id ⟨[a, b], []⟩)
    (F : FnR X.prog X.w X.K X.mg X.base (L2.CX X.prog X.w) k f (spF X.K (R2' (rp (rFrac X.K)) (rp (rNum X.K))) g rc)) (hr : Room k X.A) (tk : Takes X W) :
    OpJ X W (compareOp op) (rp rInt) (rp (rFrac X.K)) (fun x y => g (y, .i x, ())) rc := opj_cmpR (g := fun d => g (d.1, .i d.2.1, ())) hop hc hm hr.units0 slot entry args insF ((cj_of F hr tk).co fun I H vs d _ h => h)
variable {gb : Rat × Num × Unit → Res Bool}
theorem opj_neqq (hc : OCls X.K (He.ga X.K "Fraction")) (hm : OMet X.K (He.ga X.K "Fraction") "__eq__" f) (hn : PySem.W.notFirst X.K (He.ga X.K "Fraction") (.ref (He.ga X.K "Fraction")) = true) (F : FnR X.prog X.w X.K X.mg X.base (L2.CX X.prog X.w) k f (spF X.K (R2' (rp (rFrac X.K)) (rp (rNum X.K))) gb (rp rBl))) (hr : Room (k + 1) X.A) (tk : Takes X W) :
    OpJ X W (compareOp .NotEq) (rp (rFrac X.K)) (rp (rFrac X.K)) (fun x y => (gb (x, .q y, ())).bind fun z => .ok (!z)) (rp rBl) := opj_neO (g := fun d => gb (d.1, .q d.2.1, ())) hc hm hr tk hn insF insF (F.imp fun vs H Q E ⟨I, d, s, r, p⟩ => ⟨I, (d.1, .q d.2.1, ()), s, r, p⟩)
theorem opj_neqi (hc : OCls X.K (He.ga X.K "Fraction")) (hm : OMet X.K (He.ga X.K "Fraction") "__eq__" f) (hn : PySem.W.notFirst X.K (He.ga X.K "Fraction") (.type "int") = true) (F : FnR X.prog X.w X.K X.mg X.base (L2.CX X.prog X.w) k f (spF X.K (R2' (rp (rFrac X.K)) (rp (rNum X.K))) gb (rp rBl))) (hr : Room (k + 1) X.A) (tk : Takes X W) :
    OpJ X W (compareOp .NotEq) (rp (rFrac X.K)) (rp rInt) (fun x y => (gb (x, .i y, ())).bind fun z => .ok (!z)) (rp rBl) := opj_neI (g := fun d => gb (d.1, .i d.2.1, ())) hc hm hr tk hn insF (F.imp fun vs H Q E ⟨I, d, s, r, p⟩ => ⟨I, (d.1, .i d.2.1, ()), s, r, p⟩)
theorem opj_neiq (hc : OCls X.K (He.ga X.K "Fraction")) (hm : OMet X.K (He.ga X.K "Fraction") "__eq__" f) (F : FnR X.prog X.w X.K X.mg X.base (L2.CX X.prog X.w) k f (spF X.K (R2' (rp (rFrac X.K)) (rp (rNum X.K))) gb (rp rBl))) (hr : Room (k + 1) X.A) (tk : Takes X W) :
    OpJ X W (compareOp .NotEq) (rp rInt) (rp (rFrac X.K)) (fun x y => (gb (y, .i x, ())).bind fun z => .ok (!z)) (rp rBl) := opj_neRI (g := fun d => gb (d.1, .i d.2.1, ())) hc hm hr tk insF (F.imp fun vs H Q E ⟨I, d, s, r, p⟩ => ⟨I, (d.1, .i d.2.1, ()), s, r, p⟩)
/-! ### isinstance of a caught error without fields, within the suite -/
theorem JE.isE {ad : Addr} {oe : Obj} {pn : List (Addr × Obj)} {D : Addr} {u : Value} {cv : V} {bb : Bool} (hz : Zc (.ref D) none oe) (hf : ∃ vs, oe.data = .fields vs) (C : ExcC X.K D) (hk : PySem.W.kitOne X.K (.ref D) u = some bb) (j : JE (X.suite ad ((ad, oe) :: pn)) I0 H0 W ctx mem a (.ok ()) (rp (rExc ad))) (jc : ∀ σ H Q, Q cv H → wE (X.suite ad ((ad, oe) :: pn)) b σ H Q) (hc : ClsV cv u) (hm : X.mg "isinstance" = none) (hg : Gl (X.suite ad ((ad, oe) :: pn)) "isinstance" := by rfl)
    (hs : starEach [a, b] X.env = (false, eval a X.env) :: starEach [b] X.env := by rfl) (hs2 : starEach [b] X.env = (false, eval b X.env) :: starEach [] X.env := by rfl) (hpl : (backTo pos (starEach [b] X.env)).any (·.1) = false := by rfl) :
    JE (X.suite ad ((ad, oe) :: pn)) I0 H0 W ctx mem (.Call (.Name "isinstance" pos') [a, b] [] pos) (.ok bb) (rp rBl) := fun I H σ Q st p => by
  refine w_callB (id := "isinstance") (Tr.w_cons (j I H σ _ st ?_) hs) hm (by decide +kernel) hg (by decide) (by decide) hs hpl
  intro I1 H1 v f1 r1
  cases (show v = V.ref ad from r1)
  refine Tr.w_cons (jc σ H1 _ (w_nil ?_)) hs2
  exact CallR.w (call_isE C hz hf) ⟨cv, u, bb, rfl, fun w hw => hc.eq hw, hk, p I1 H1 _ f1 rfl⟩
end
/-! ### C(..) as a promise -/
def MkR {γ δ : Type} (P : Program) (w : World) (K : PySem.W.Frag) (mg : Str → Option Value) (base : Heap) (k : Nat) (C : Addr) (R : Hp → Hp → List V → δ → Prop) (m : δ → Res γ) (r : Ra γ) : Prop :=
  ∀ (X : Cx) (W : WX), X.prog = P → X.w = w → X.K = K → X.mg = mg → X.base = base → Room k X.A → Takes X W → CallJ X W (.ref C) R m r
theorem MkR.nice {γ δ : Type} {P : Program} {w : World} {K : PySem.W.Frag} {mg : Str → Option Value} {base : Heap} {k : Nat} {C : Addr} {R : Hp → Hp → List V → δ → Prop} {m m' : δ → Res γ} {r : Ra γ} (F : MkR P w K mg base k C R m r) (h : ∀ d, m' d = .stuck ∨ m' d = m d) : MkR P w K mg base k C R m' r := fun X W e1 e2 e3 e4 e5 hr tk I H σ Q vs d s a p => by
  refine F X W e1 e2 e3 e4 e5 hr tk I H σ Q vs d s a ?_
  rcases h d with e | e
  · rw [show m' d = _ from e] at p; exact p.elim
  · rw [← e]; exact p
theorem MkR.mono {γ δ : Type} {P : Program} {w : World} {K : PySem.W.Frag} {mg : Str → Option Value} {base : Heap} {j k : Nat} {C : Addr} {R : Hp → Hp → List V → δ → Prop} {m : δ → Res γ} {r : Ra γ} (F : MkR P w K mg base j C R m r) (h : j ≤ k) : MkR P w K mg base k C R m r := fun X W e1 e2 e3 e4 e5 hr tk => F X W e1 e2 e3 e4 e5 (hr.mono h) tk
theorem mkR_of {γ δ δ' : Type} {P : Program} {w : World} {K : PySem.W.Frag} {mg : Str → Option Value} {base : Heap} {k : Nat} {C f : Addr} {fd : FuncData} {ps : List Str} {ds : List Value} {dvs : List V} {R : Hp → Hp → List V → δ → Prop} {R' : Hp → Hp → List V → δ' → Prop} {m : δ → Res γ} {h : δ' → δ} {r : Ra γ} (M : Mk K C f) (F : FnOk P w K mg base (L2.CX P w) k f fd ps (spI K C R m r)) (hb : Binds K fd ps ds) (hd : Vals dvs ds)
    (hR : ∀ I H vs d, R' I H vs d → R I H (vs ++ dvs) (h d)) : MkR P w K mg base (k + 1) C R' (fun d => m (h d)) r := fun X W e1 e2 e3 e4 e5 hr tk => by
  subst e1; subst e2; subst e3; subst e4; subst e5
  exact cj_make (R' := R') (m := fun d => m (h d)) (R := fun I H vs d => R I H vs (h d)) M (F.imp fun vs H Q E ⟨x, dx, ws, H0, I, d, a1, a2, a3, a4, a5, a6, a7, a8⟩ => ⟨x, dx, ws, H0, I, h d, a1, a2, a3, a4, a5, a6, a7, a8⟩) hr hb hd tk hR
def fExm (x y : Str) (b : Bool) : FB := fun K => (He.Fa.exm x y b).ok K
theorem exm_of {K : PySem.W.Frag} {x y : Str} {b : Bool} (c : fExm x y b K = true) : PySem.W.exmOne K (.ref (He.ga K x)) (.ref (He.ga K y)) = some b := He.exm_ok c
def fExcC (x : Str) : FB := fun K => He.eqO (PySem.W.findIn K (.ref (He.ga K x)) "__getattribute__") (some (some (.builtin "BaseException.__getattribute__"))) && (He.eqO (PySem.W.findIn K (.ref (He.ga K x)) "__getattr__") (some none) && (decide (PySem.W.subIn K (.ref (He.ga K x)) (.type "BaseException") = some true) && (PySem.W.hasDictIn K (He.ga K x) &&
  (He.eqO (PySem.W.findIn K (.ref (He.ga K x)) "__class__") (some (some (.builtin "object.__class__"))) && (He.eqO (PySem.W.specialIn K (.builtin "object.__class__") "__get__") (some (some (.builtin "getset_descriptor.__get__"))) && (decide (PySem.W.takesIn K (.builtin "object.__class__") = some true) && decide (PySem.W.mroIn K (He.ga K x) (.type "object") = some true)))))))
theorem excC_of {K : PySem.W.Frag} {x : Str} (c : fExcC x K = true) : ExcC K (He.ga K x) := by
  obtain ⟨c1, c⟩ := He.ba c
  obtain ⟨c2, c⟩ := He.ba c
  obtain ⟨c3, c⟩ := He.ba c
  obtain ⟨c4, c⟩ := He.ba c
  obtain ⟨c5, c⟩ := He.ba c
  obtain ⟨c6, c⟩ := He.ba c
  obtain ⟨c7, c8⟩ := He.ba c
  exact ⟨He.eqO_ok c1, He.eqO_ok c2, of_decide_eq_true c3, c4, He.eqO_ok c5, He.eqO_ok c6, of_decide_eq_true c7, of_decide_eq_true c8⟩
section
variable {S γ : Type} {X : Cx} {I0 H0 : Hp} {W : WX} {Kx : KnowsX} {ctx : List (Option SF)} {mem : List MF} {pos : Pos}
theorem J1.raiseP {x m : Str} {j : Nat} {p1 p2 p3 : Pos} {G' : S → Knows} (hc : X.calm = true) (tk : Takes X W) (ep : ExcP X.K X.mg x) (hx : ∀ I H σ d, Stt I0 H0 ctx mem I H σ → Fr H0 d → Kx I H σ d) (hg : Gl X x := by rfl) (hdb : (x == ("__debug__" : Str)) = false := by decide) :
    J1 X W Kx (Stt I0 H0 ctx mem) (.Raise (some (.Call (.Name x p1) [.Constant (.str m) j p2] [] p3)) none pos) (.err ⟨x, []⟩ : Res S) G' := fun I H σ D g p => by
  refine s_raise hc tk (pmk_own PySem.F.excBase_ValueError ep.ex ep.gl ep.kp (raises_own ep.bs ep.ty) hg hdb) ?_
  exact p I H σ _ none (hx _ _ _ _ g fun _ z => nomatch z) ⟨rfl, rfl⟩
end
end L2.Tr

namespace L2.Tr
open PySem PySem.Spec PyProof.Rows
section
variable {α β γ δ ε : Type} {X : Cx} {I0 H0 : Hp} {W : WX} {ctx : List (Option SF)} {mem : List MF} {e a b c o : Expr} {es bs : List Expr} {kws : List Keyword} {pos pos' kpos : Pos} {n x : Str} {nm : Option Str} {ra : Ra α} {rb : Ra β} {rc : Ra γ} {ma : Res α} {mb : Res β}
/-! ### keywords -/
def JK (X : Cx) (I0 H0 : Hp) (W : WX) (ctx : List (Option SF)) (mem : List MF) (kws : List Keyword) (m : Res δ) (R : Hp → Hp → List V → δ → Prop) : Prop :=
  ∀ (pos : Pos) (I H : Hp) (σ : St) (Q : List V → Hp → Prop), Stt I0 H0 ctx mem I H σ → (match m with
    | .ok a => ∀ I' H' vs, Fm I H I' H' → R I' H' vs a → Q vs H'
    | .err e => ∀ I' H' cls d, Fm I H I' H' → Fr H d ∧ ExR X.K I' H' e cls d → W cls d σ H'
    | .stuck => False) → ∀ (pins : List (Addr × Obj)) (s : Shared), Inv X pins σ H s → wpAny (model X.prog X.w) X.A (evalAll ((backToKw pos (keywordEach kws X.env)).map (·.2))) (AP X pins σ Q) X.xe s
theorem JK.nil : JK X I0 H0 W ctx mem [] (.ok ()) aNil := fun pos I H σ Q st p pins s Iv => wpAny_evalAll_nil ⟨[], H, Iv, .nil, p I H [] (Fm.refl st.same) rfl⟩
theorem JK.cons {R : Hp → Hp → List V → δ → Prop} {m : Res δ} [MoA ra] (j : JE X I0 H0 W ctx mem e ma ra) (k : JK X I0 H0 W ctx mem kws m R) : JK X I0 H0 W ctx mem (⟨nm, e, kpos⟩ :: kws) (ma.bind fun x => m.bind fun y => .ok (x, y)) (aCons ra R) := fun pos I H σ Q st p pins s Iv => by
  show wpAny _ _ (evalAll ((do let v ← eval e X.env; standAt pos; pure v) :: (backToKw pos (keywordEach kws X.env)).map (·.2))) _ _ s
  refine wpAny_evalAll_cons (wpAny_bind (thn (j I H σ (fun v H1 => ∀ pins s1 u, Inv X pins σ H1 s1 → RelV v u → wpAny (model X.prog X.w) X.A (evalAll ((backToKw pos (keywordEach kws X.env)).map (·.2))) (fun us s2 => AP X pins σ Q (u :: us) s2) X.xe s1) st ?_ pins s Iv) fun u s1 ⟨v, H1, I1, r1, q1⟩ => wpAny_bind (wpAny_standAt (wpAny_pure (q1 pins s1 u I1 r1)))))
  cases ma with
  | ok x =>
    intro I1 H1 v f1 r1 pins s1 u Iv1 ru
    refine thn (k pos I1 H1 σ (fun vs H2 => Q (v :: vs) H2) (st.step f1) ?_ pins s1 Iv1) fun us s2 ⟨vs, H2, I2, r2, q2⟩ => ⟨v :: vs, H2, I2, .cons ru r2, q2⟩
    cases m with
    | ok y => exact fun I2 H2 vs f2 r2 => p I2 H2 _ (f1.trans f2) ⟨v, vs, rfl, MoA.up f2.i f2.h r1, r2⟩
    | err e => exact fun I2 H2 c d f2 x => p I2 H2 c d (f1.trans f2) ⟨x.1.back f1.h, x.2⟩
    | stuck => exact p
  | err e => exact p
  | stuck => exact p
def callKW (X : Cx) (f : Value) (ks : List Str) (σ : St) (xs zs : List V) (H : Hp) (Q : VK) : Prop := ∀ (pins : List (Addr × Obj)) (s : Shared) (us ws : List Value), Inv X pins σ H s → Vals xs us → Vals zs ws → wpAny (model X.prog X.w) X.A (call f us (ks.zip ws)) (EP X pins σ Q) X.xe s
def CallKJ (X : Cx) (W : WX) (f : Value) (ks : List Str) (R : Hp → Hp → List V → δ → Prop) (R' : Hp → Hp → List V → ε → Prop) (g : δ → ε → Res γ) (rc : Ra γ) : Prop :=
  ∀ (I H : Hp) (σ : St) (Q : VK) (vs zs : List V) (x : δ) (y : ε), Same I H → R I H vs x → R' I H zs y → PostE X.K (g x y) rc I H (fun cls d H' => W cls d σ H') Q → callKW X f ks σ vs zs H Q
class MoR {δ : Type} (R : Hp → Hp → List V → δ → Prop) : Prop where
  up : ∀ {I H I' H' : Hp} {vs : List V} {x : δ}, Same I I' → Same H H' → R I H vs x → R I' H' vs x
instance : MoR aNil := ⟨fun _ _ h => h⟩
instance {r : Ra α} {R : Hp → Hp → List V → δ → Prop} [m : MoA r] [m' : MoR R] : MoR (aCons r R) := ⟨fun a b ⟨v, ws, e, h, h'⟩ => ⟨v, ws, e, m.up a b h, m'.up a b h'⟩⟩
variable {R : Hp → Hp → List V → δ → Prop} {R' : Hp → Hp → List V → ε → Prop} {md : Res δ} {me : Res ε} {g : δ → ε → Res γ} {ks : List Str}
theorem JE.callK {f : Addr} [MoR R] (ja : JA X I0 H0 W ctx mem (e :: es) md R) (jk : JK X I0 H0 W ctx mem kws me R') (cj : CallKJ X W (.ref f) ks R R' g rc) (hm : X.mg n = some (.ref f)) (hk : PySem.W.keepIn X.K (.ref f) = true) (hg : Gl X n := by rfl) (hdb : (n == ("__debug__" : Str)) = false := by decide)
    (hall : (backToKw pos (keywordEach kws X.env)).all (·.1.isSome) = true := by rfl) (hks : (backToKw pos (keywordEach kws X.env)).filterMap (·.1) = ks := by rfl) (he : starEach (e :: es) X.env = (false, eval e X.env) :: starEach es X.env := by rfl)
    (hpl : ((backTo pos (starEach (e :: es) X.env)).any (·.1) || (backToKw pos (keywordEach kws X.env)).any (·.1.isNone)) = false := by rfl) : JE X I0 H0 W ctx mem (.Call (.Name n pos') (e :: es) kws pos) (md.bind fun x => me.bind fun y => g x y) rc := fun I H σ Q st p pins s Iv => by
  refine wpAny_Call_Name_kw (ld_glob Iv hg hm ?_ hdb)
  refine PySem.W.callWith_KW (h₀ := X.base) Iv.ok.mod.kin hk hall (thn (ja I H σ (fun vs H1 => ∀ pins s1 us, Inv X pins σ H1 s1 → Vals vs us → wpAny (model X.prog X.w) X.A (evalAll ((backToKw pos (keywordEach kws X.env)).map (·.2))) (fun ws s2 => X.K.In s2.heap ∧ wpAny (model X.prog X.w) X.A (PySem.call (.ref f) us (ks.zip ws)) (EP X pins σ Q) X.xe s2) X.xe s1) st ?_ pos pins s Iv) fun us s1 ⟨vs, H1, I1, r1, q1⟩ => ?_) hpl he
  · cases md with
    | ok x =>
      intro I1 H1 vs f1 r1 pins s1 us Iv1 ru
      have p1 := PostE.up p f1
      refine thn (jk pos I1 H1 σ (fun zs H2 => callKW X (.ref f) ks σ vs zs H2 Q) (st.step f1) ?_ pins s1 Iv1) fun ws s2 ⟨zs, H2, I2, r2, q2⟩ => ⟨I2.kIn, q2 pins s2 us ws I2 ru r2⟩
      cases me with
      | ok y => exact fun I2 H2 zs f2 r2 => cj I2 H2 σ Q vs zs x y f2.ih (MoR.up f2.i f2.h r1) r2 (PostE.up p1 f2)
      | err e => exact p1
      | stuck => exact p1
    | err e => exact p
    | stuck => exact p
  · refine thn (q1 pins s1 us I1 r1) fun ws s2 h => ?_
    rw [hks]
    exact h
theorem JE.callK0 {f : Addr} {g : Unit → ε → Res γ} (jk : JK X I0 H0 W ctx mem kws me R') (cj : CallKJ X W (.ref f) ks aNil R' g rc) (hm : X.mg n = some (.ref f)) (hk : PySem.W.keepIn X.K (.ref f) = true) (hg : Gl X n := by rfl) (hdb : (n == ("__debug__" : Str)) = false := by decide)
    (hall : (backToKw pos (keywordEach kws X.env)).all (·.1.isSome) = true := by rfl) (hks : (backToKw pos (keywordEach kws X.env)).filterMap (·.1) = ks := by rfl)
    (hpl : ((backTo pos (starEach [] X.env)).any (·.1) || (backToKw pos (keywordEach kws X.env)).any (·.1.isNone)) = false := by rfl) : JE X I0 H0 W ctx mem (.Call (.Name n pos') [] kws pos) (me.bind fun y => g () y) rc := fun I H σ Q st p pins s Iv => by
  refine wpAny_Call_Name_kw (ld_glob Iv hg hm ?_ hdb)
  refine PySem.W.callWith_KW0 (h₀ := X.base) Iv.ok.mod.kin hk hall ?_ hpl
  rw [hks]
  refine thn (jk pos I H σ (fun zs H2 => callKW X (.ref f) ks σ [] zs H2 Q) st ?_ pins s Iv) fun ws s2 ⟨zs, H2, I2, r2, q2⟩ => ⟨I2.kIn, q2 pins s2 [] ws I2 .nil r2⟩
  cases me with
  | ok y => exact fun I2 H2 zs f2 r2 => cj I2 H2 σ Q [] zs () y f2.ih rfl r2 (PostE.up p f2)
  | err e => exact p
  | stuck => exact p
/-- C(.., k = v): how it binds gives the promise of __init__ -/
theorem cjk_make {k n : Nat} {C f : Addr} {fd : FuncData} {ps : List Str} {gg : List Value → List Value → List Value} {gV : List V → List V → List V} {η : Type} {Ri : Hp → Hp → List V → η → Prop} {m : η → Res γ} {h : δ → ε → η} (M : Mk X.K C f) (F : FnOk X.prog X.w X.K X.mg X.base (L2.CX X.prog X.w) k f fd ps (spI X.K C Ri m rc)) (hr : Room (k + 1) X.A)
    (hb : KBn X.K fd ps (n + 1) ks gg gV) (tk : Takes X W) (hR : ∀ I H vs zs x y, R I H vs x → R' I H zs y → vs.length = n ∧ zs.length = ks.length ∧ ∀ v, ∃ ws, gV (v :: vs) zs = v :: ws ∧ Ri I H ws (h x y)) : CallKJ X W (.ref C) ks R R' (fun x y => m (h x y)) rc := fun I H σ Q vs zs x y sm r r' p pins s us ws Iv rv rz => by
  obtain ⟨l1, l2, hw⟩ := hR I H vs zs x y r r'
  have n1 := Iv.hok.fresh (Nat.le_succ s.heap.objs.size)
  have n2 := Iv.hok.fresh (Nat.le_refl s.heap.objs.size)
  have n3 := Nat.ne_of_lt (Nat.lt_succ_self s.heap.objs.size)
  obtain ⟨wv, ew, hRi⟩ := hw (.ref (s.heap.objs.size + 1))
  have hq : spI X.K C Ri m rc (gV (.ref (s.heap.objs.size + 1) :: vs) zs) (upd (upd H s.heap.objs.size (.own (s.heap.objs.size + 1))) (s.heap.objs.size + 1) (.ins C s.heap.objs.size [])) (fun v H2 => v = .non ∧ Q (.ref (s.heap.objs.size + 1)) H2) (fun cls d H' => W cls d σ H') :=
    ⟨s.heap.objs.size + 1, s.heap.objs.size, wv, H, I, h x y, ew, n1, n2, n3, rfl, sm, hRi, p.imp fun v H' q e => ⟨rfl, e ▸ q⟩⟩
  have I2 := Inv.made (C := C) Iv
  have r1 : Vals (V.ref (s.heap.objs.size + 1) :: vs) (Value.ref (s.heap.objs.size + 1) :: us) := .cons rfl rv
  have r2 := hb.rel r1 rz
  have nl : (Value.ref (s.heap.objs.size + 1) :: us).length = n + 1 := by rw [List.length_cons, ← rv.length, l1]
  refine wpAny_call (make_map (f := f) Iv.kIn M.makes M.init (beq_iff_eq.mp M.fn) (codeAny_mono (F.run _ X.stack _ _ ⟨Value.ref (s.heap.objs.size + 1) :: us, ks.zip ws⟩ (gg (Value.ref (s.heap.objs.size + 1) :: us) ws) _ _ _ (hr.make C us (ks.zip ws))
    (I2.env0.make C us (ks.zip ws)) (hb.to _ (Value.ref (s.heap.objs.size + 1) :: us) ws I2.kIn nl (rz.length.symm.trans l2)) r2 hq) fun r s' hq' => ?_))
  cases r with
  | error e => exact passAt tk σ pins _ _ e s' I2 hq'
  | ok fl =>
    cases fl with
    | ret u =>
      obtain ⟨v, H', I3, rv, ev, q3⟩ := I2.after hq'
      subst ev
      exact ⟨rv, ⟨V.ref (s.heap.objs.size + 1), H', I3, rfl, q3⟩⟩
    | next => exact False.elim hq'
    | brk => exact False.elim hq'
    | cont => exact False.elim hq'
theorem cx_false {P : Program} {w : World} {l : List Env} {H : Hp} {s : Shared} {e : Value} {s' : Shared} (h : L2.CX P w l H s (fun _ _ _ => False) e s') : False := by
  obtain ⟨_, _, _, _, _, _, _, _, _, _, _, _, z⟩ := h
  exact z.elim
end
def MkK {γ δ ε : Type} (P : Program) (w : World) (K : PySem.W.Frag) (mg : Str → Option Value) (base : Heap) (k : Nat) (C : Addr) (ks : List Str) (R : Hp → Hp → List V → δ → Prop) (R' : Hp → Hp → List V → ε → Prop) (m : δ → ε → Res γ) (r : Ra γ) : Prop :=
  ∀ (X : Cx) (W : WX), X.prog = P → X.w = w → X.K = K → X.mg = mg → X.base = base → Room k X.A → Takes X W → CallKJ X W (.ref C) ks R R' m r
theorem MkK.nice {γ δ ε : Type} {P : Program} {w : World} {K : PySem.W.Frag} {mg : Str → Option Value} {base : Heap} {k : Nat} {C : Addr} {ks : List Str} {R : Hp → Hp → List V → δ → Prop} {R' : Hp → Hp → List V → ε → Prop} {m m' : δ → ε → Res γ} {r : Ra γ} (F : MkK P w K mg base k C ks R R' m r) (h : ∀ d e, m' d e = .stuck ∨ m' d e = m d e) : MkK P w K mg base k C ks R R' m' r := fun X W e1 e2 e3 e4 e5 hr tk I H σ Q vs zs d ee s a b p => by
  refine F X W e1 e2 e3 e4 e5 hr tk I H σ Q vs zs d ee s a b ?_
  rcases h d ee with e | e
  · rw [show m' d ee = _ from e] at p; exact p.elim
  · rw [← e]; exact p
end L2.Tr

namespace L2.Tr
open PySem PySem.Spec PyProof.Rows
/-! ### the greatest common divisor -/
abbrev absI (x : Int) : Int := if x < 0 then -x else x
theorem absI_eq (x : Int) : absI x = (x.natAbs : Int) := by unfold absI; split <;> omega
theorem modI_ok {x y : Int} (h : y ≠ 0) : modI x y = .ok (x.fmod y) := Res.guard_pos h _
theorem cd_loop {c : Int × Int → Res Bool} {f : Int × Int → Res (Int × Int)} (hc : ∀ s, c s = .ok (!decide (s.2 = 0))) (hf : ∀ s, s.2 ≠ 0 → f s = .ok (s.2, s.1.fmod s.2)) : ∀ (k : Nat) (a b : Nat), b < k → whileM c f k ((a : Int), (b : Int)) = .ok ((Nat.gcd b a : Int), 0)
  | 0, _, _, h => by omega
  | k + 1, a, b, h => by
    show (c _).bind _ = _
    rw [hc]
    by_cases hb : b = 0
    · subst hb
      simp
    · have hb' : ¬ ((b : Int) = 0) := by omega
      simp only [Res.ok_bind, decide_eq_false hb', Bool.not_false, if_true]
      rw [hf _ hb', Int.fmod_eq_emod_of_nonneg _ (by omega)]
      show whileM c f k (((b : Nat) : Int), (((a % b : Nat)) : Int)) = _
      rw [cd_loop hc hf k b (a % b) (by have := Nat.mod_lt a (Nat.pos_of_ne_zero hb); omega)]
      rw [Nat.gcd_rec b a]
/-! ### Fraction(t, b) -/
def eBF : Exn := ⟨"BadFraction", []⟩
def qRaw (t b : Int) : Res Rat := if b = 0 then .err eBF else Res.guard ((Int.gcd t b).log2 < 9000) (.ok (Rat.divInt t b))
def qMk (t b : Int) : Res Rat := if b = 0 then .err eBF else Res.guard (b.natAbs.log2 < 9000) (.ok (Rat.divInt t b))
theorem log2_mono {a b : Nat} (h : a ≤ b) : a.log2 ≤ b.log2 := by
  by_cases ha : a = 0
  · subst ha; simp
  · have hb : b ≠ 0 := by omega
    exact (Nat.le_log2 hb).mpr (Nat.le_trans (Nat.log2_self_le ha) h)
theorem qMk_raw (t b : Int) : qMk t b = .stuck ∨ qMk t b = qRaw t b := by
  unfold qMk qRaw
  by_cases hb : b = 0
  · simp [hb]
  · rw [if_neg hb, if_neg hb]
    by_cases h : b.natAbs.log2 < 9000
    · right
      have : (Int.gcd t b).log2 ≤ b.natAbs.log2 := log2_mono (Int.gcd_le_natAbs_right t hb)
      rw [Res.guard_pos h, Res.guard_pos (by omega)]
    · left; unfold Res.guard; rw [if_neg h]
theorem div_num {t b : Int} (hb : b ≠ 0) (dv : Int) (hd : dv = if b < 0 then -(Int.gcd t b : Int) else (Int.gcd t b : Int)) : t.fdiv dv = (Rat.divInt t b).num ∧ b.fdiv dv = ((Rat.divInt t b).den : Int) := by
  have hg : (Int.gcd t b : Int) ≠ 0 := by
    intro h
    have := Int.gcd_eq_zero_iff.mp (by exact_mod_cast h : Int.gcd t b = 0)
    exact hb this.2
  obtain ⟨x, hx⟩ : (Int.gcd t b : Int) ∣ t := Int.gcd_dvd_left t b
  obtain ⟨y, hy⟩ : (Int.gcd t b : Int) ∣ b := Int.gcd_dvd_right t b
  have hgp : (0 : Int) < (Int.gcd t b : Int) := by omega
  rw [Rat.num_divInt, Rat.den_divInt, if_neg hb, Int.gcd_comm b t]
  generalize hG : (Int.gcd t b) = G at *
  have e1 : ∀ z : Int, ((G : Int) * z).fdiv G = z := fun z => by rw [Int.mul_comm]; exact Int.mul_fdiv_cancel z hg
  have e2 : ∀ z : Int, ((G : Int) * z).fdiv (-G) = -z := fun z => by
    have : (G : Int) * z = (-z) * (-(G : Int)) := by rw [Int.neg_mul_neg, Int.mul_comm]
    rw [this]; exact Int.mul_fdiv_cancel _ (by omega)
  have e3 : ∀ z : Int, ((G : Int) * z) / G = z := fun z => Int.mul_ediv_cancel_left z hg
  by_cases h : b < 0
  · rw [if_pos h] at hd
    subst hd
    have sg : b.sign = -1 := Int.sign_eq_neg_one_of_neg h
    refine ⟨?_, ?_⟩
    · rw [sg, hx, e2, show (-1 : Int) * ((G : Int) * x) = (G : Int) * (-x) from by rw [Int.mul_neg, Int.neg_mul, Int.one_mul], e3]
    · have e4 : ((b.natAbs / G : Nat) : Int) = -y := by
        rw [Int.natCast_ediv, show (b.natAbs : Int) = (G : Int) * (-y) from by rw [Int.mul_neg, ← hy]; omega, e3]
      rw [e4]
      conv => lhs; rw [hy]
      exact e2 y
  · rw [if_neg h] at hd
    subst hd
    have sg : b.sign = 1 := Int.sign_eq_one_of_pos (by omega)
    refine ⟨?_, ?_⟩
    · rw [sg, Int.one_mul]
      conv => lhs; rw [hx]
      conv => rhs; rw [hx]
      rw [e1, e3]
    · have e4 : ((b.natAbs / G : Nat) : Int) = y := by
        rw [Int.natCast_ediv, show (b.natAbs : Int) = (G : Int) * y from by rw [← hy]; omega, e3]
      rw [e4]
      conv => lhs; rw [hy]
      exact e1 y
theorem frF_of {I : Hp} {fs : List (Str × V)} {q : Rat} {n d : Int} (hn : n = q.num) (hd : d = q.den) (h : FldR I fs [("top", ⟨rInt, n⟩), ("bottom", ⟨rInt, d⟩)]) : fs = frF q := by
  subst hn; subst hd
  match fs, h with
  | [(a, u), (b, v)], ⟨e1, e2, e3, e4, _⟩ =>
    cases (show a = _ from e1); cases (show u = _ from e2); cases (show b = _ from e3); cases (show v = _ from e4)
    rfl
/-! ### the defs of exact.py -/
def n_cd (a b : Int) : Res Int := .ok (Int.gcd a b : Int)
def qInt (n : Int) : Res Rat := .ok (n : Rat)
theorem qInt_raw (n : Int) : qInt n = .stuck ∨ qInt n = qRaw n 1 := by
  right
  unfold qInt qRaw
  rw [if_neg (by decide), Res.guard_pos (by rw [Int.gcd_one]; decide)]
  congr 1
  exact Rat.ext (by rw [Rat.num_divInt]; simp) (by rw [Rat.den_divInt]; simp)
theorem vals_rev : ∀ {vs : List V} {us : List Value}, Vals vs us → Vals vs.reverse us.reverse
  | _, _, .nil => .nil
  | _, _, .cons a b => by
    rw [List.reverse_cons, List.reverse_cons]
    exact (vals_rev b).append (.cons a .nil)
theorem weak_refl : ∀ c : List (Option SF), weakC c c
  | [] => True.intro
  | none :: c => weak_refl c
  | some _ :: c => ⟨rfl, weak_refl c⟩
theorem weak_nil : weakC [] [] := True.intro
theorem weak_some {a : SF} {c d : List (Option SF)} (h : weakC c d) : weakC (some a :: c) (some a :: d) := ⟨rfl, h⟩
theorem weak_none {a : Option SF} {c d : List (Option SF)} (h : weakC c d) : weakC (a :: c) (none :: d) := h
theorem Stt.recast {I0 H0 I H : Hp} {ctx : List (Option SF)} {mem : List MF} {σ : L2.St} (s : Stt I0 H0 ctx mem I H σ) (i : Nat) {a b : SF} (hc : ctx[i]? = some (some a)) (h : ∀ v, a.r I v a.x → b.r I v b.x) : Stt I0 H0 (ctx.set i (some b)) mem I H σ := by
  refine ⟨s.fm, by rw [List.length_set]; exact s.len, fun j sf e => ?_, s.me⟩
  by_cases hj : j = i
  · subst hj
    rw [List.getElem?_set] at e
    have hl : j < ctx.length := (List.getElem?_eq_some_iff.mp hc).1
    simp only [hl, if_true] at e
    cases e
    obtain ⟨v, e1, q⟩ := s.sl j a hc
    exact ⟨v, e1, h v q⟩
  · rw [List.getElem?_set_ne (Ne.symm hj)] at e
    exact s.sl j sf e
theorem JR.num {γ : Type} {X : Cx} {I0 H0 : Hp} {W : WX} {Kx : KnowsX} {ctx : List (Option SF)} {mem : List MF} {ss : List Stmt} {rr : Ra γ} {K : PySem.W.Frag} (i : Nat) {x : Num} {f1 : Int → Res γ} {f2 : Rat → Res γ} (k1 : ∀ n, JR X I0 H0 W Kx (Stt I0 H0 (ctx.set i (some ⟨rInt, n⟩)) mem) ss (f1 n) rr) (k2 : ∀ r, JR X I0 H0 W Kx (Stt I0 H0 (ctx.set i (some ⟨rFrac K, r⟩)) mem) ss (f2 r) rr)
    (hc : ctx[i]? = some (some ⟨rNum K, x⟩) := by rfl) : JR X I0 H0 W Kx (Stt I0 H0 ctx mem) ss (match x with | .i n => f1 n | .q r => f2 r) rr := fun I H σ D g p => by
  cases x with
  | i n => exact k1 n I H σ D (g.recast i (b := ⟨rInt, n⟩) hc fun v h => h) p
  | q r => exact k2 r I H σ D (g.recast i (b := ⟨rFrac K, r⟩) hc fun v h => h) p
theorem JR.dead {γ : Type} {X : Cx} {I0 H0 : Hp} {W : WX} {Kx : KnowsX} {G : Knows} {ss : List Stmt} {rr : Ra γ} : JR X I0 H0 W Kx G ss (.stuck : Res γ) rr := fun _ _ _ _ _ p => p.elim
theorem JN.dead {S : Type} {X : Cx} {W : WX} {Kx : KnowsX} {G : Knows} {ss : List Stmt} {G' : S → Knows} : JN X W Kx G ss (.stuck : Res S) G' := fun _ _ _ _ _ p => p.elim
theorem paired_ints (I H : Hp) : ∀ ns : List Int, Paired (rp rInt I H) (ns.map V.int) ns
  | [] => .nil
  | _ :: ns => .cons rfl (paired_ints I H ns)
/-! ### a law's cell -/
def cellAt (ns : List Int) (k : Nat) : Int := ns.getD k 0
theorem atM_nat {α : Type} {xs : List α} {k : Nat} {x : α} (h : xs[k]? = some x) : atM xs (k : Int) = .ok x := by unfold atM; rw [atI_nat h]
theorem powI_ok {x : Int} {y : Nat} (h1 : y ≤ 1000000) (h2 : x.natAbs < 2 ^ 64) : powI x (y : Int) = .ok (x ^ y) := by
  unfold powI; rw [Res.guard_pos ⟨by omega, .inl ⟨by omega, h2⟩⟩]; rfl
theorem mulI_ok {x y : Int} (h : x.natAbs.log2 + y.natAbs.log2 < 1000000) : mulI x y = .ok (x * y) := Res.guard_pos h _
theorem fdivI_ok {x y : Int} (h0 : y ≠ 0) (h : y.natAbs.log2 < 9000) : fdivI x y = .ok (x.fdiv y) := Res.guard_pos ⟨h0, h⟩ _
theorem log2_lt {x n : Nat} (h : x < 2 ^ (n + 1)) : x.log2 < n + 1 := by
  by_cases hx : x = 0
  · subst hx; simp
  · exact (Nat.log2_lt hx).mpr h
theorem FnOk.no {P : Program} {w : World} {K : PySem.W.Frag} {mg : Str → Option Value} {base : Heap} {k : Nat} {f : Addr} {fd : FuncData} {ps : List Str} {sp : Sp} (F : FnOk P w K mg base (L2.CX P w) k f fd ps sp) : FnOk P w K mg base CX0 k f fd ps (fun vs H Q _ => sp vs H Q fun _ _ _ => False) :=
  ⟨fun vs H Q _ h => F.len vs H Q _ h, fun A outer s H args us vs Q E hr e0 hb hv h => codeAny_mono (F.run A outer s H args us vs Q _ hr e0 hb hv h) fun r s' hq => by
    cases r with
    | error e => exact cx_false hq
    | ok fl => cases fl <;> exact hq⟩
end L2.Tr

namespace L2.Tr
open PySem PySem.Spec PyProof.Rows
/-! ### what is walked -/
/-- J walks the values vs while ok holds of the heap -/
def ItR (J : It) (vs : List V) (ok : Hp → Prop) : Prop := ∀ (i : Nat) (H : Hp), ok H → (i < vs.length → J.go i H ∧ ∀ x H', J.yld i H x H' → H' = H ∧ vs[i]? = some x) ∧ (vs.length ≤ i → J.stop i H)
theorem itr_list {K : PySem.W.Frag} {l : Addr} {vs : List V} : ItR (Itl K l) vs (fun H => SqL K H l vs) := fun i H q => ⟨fun h => ⟨⟨vs, vs[i], q, by simp [h]⟩, fun x H' y => ⟨y.1, y.2 vs q⟩⟩, fun h => ⟨vs, q, h⟩⟩
theorem itr_tup {K : PySem.W.Frag} {l : Addr} {vs : List V} : ItR (Itt K l) vs (fun H => SqT K H l vs) := fun i H q => ⟨fun h => ⟨⟨vs, vs[i], q, by simp [h]⟩, fun x H' y => ⟨y.1, y.2 vs q⟩⟩, fun h => ⟨vs, q, h⟩⟩
def rngV (lo : Int) (n : Nat) : List V := (List.range n).map fun (i : Nat) => .int (lo + (i : Int))
def rngI (lo : Int) (n : Nat) : List Int := (List.range n).map fun (i : Nat) => lo + (i : Int)
theorem itr_rng {lo : Int} {n : Nat} : ItR (Itr lo n) (rngV lo n) (fun _ => True) := fun i H _ => by
  have e : (rngV lo n).length = n := by simp [rngV]
  rw [e]
  exact ⟨fun h => ⟨h, fun x H' y => ⟨y.1, by rw [y.2]; simp [rngV, h]⟩⟩, fun h => h⟩
theorem rng_pair {I : Hp} {lo : Int} {n : Nat} : Paired (rInt I) (rngV lo n) (rngI lo n) := by
  unfold rngV rngI
  generalize List.range n = l
  induction l with
  | nil => exact .nil
  | cons a l ih => exact .cons rfl ih
def rngCV (lo c : Int) (n : Nat) : List V := (List.range n).map fun (i : Nat) => .int (lo + (i : Int) * c)
def rngCI (lo c : Int) (n : Nat) : List Int := (List.range n).map fun (i : Nat) => lo + (i : Int) * c
theorem itr_rngC {lo c : Int} {n : Nat} : ItR (Itc lo c n) (rngCV lo c n) (fun _ => True) := fun i H _ => by
  have e : (rngCV lo c n).length = n := by simp [rngCV]
  rw [e]
  exact ⟨fun h => ⟨h, fun x H' y => ⟨y.1, by rw [y.2]; simp [rngCV, h]⟩⟩, fun h => h⟩
theorem rngC_pair {I : Hp} {lo c : Int} {n : Nat} : Paired (rInt I) (rngCV lo c n) (rngCI lo c n) := by
  unfold rngCV rngCI
  generalize List.range n = l
  induction l with
  | nil => exact .nil
  | cons a l ih => exact .cons rfl ih
section
variable {α β γ δ S : Type} {X : Cx} {I0 H0 : Hp} {W : WX} {Kx : KnowsX} {G : Knows} {ctx cw : List (Option SF)} {mem : List MF} {e a b c o tg iter : Expr} {es bs : List Expr} {ss body : List Stmt} {pos pos' : Pos} {n : Str} {ra : Ra α} {rr : Ra γ} {ma : Res α}
def wI (X : Cx) (tg iter : Expr) : TI := fun σ H R => ∀ (pins : List (Addr × Obj)) (s : Shared), Inv X pins σ H s → wpAny (model X.prog X.w) X.A (eval iter X.env) (fun v s1 => wpAny (model X.prog X.w) X.A (pyIter v) (PIE X pins σ tg R) X.xe s1) X.xe s
theorem pi_W : PI X tg iter (wI X tg iter) := ⟨fun pins s _ _ _ I h => h pins s I⟩
theorem PI.w {t : TI} {σ : St} {H : Hp} {R : It → Hp → Prop} (p : PI X tg iter t) (h : t σ H R) : wI X tg iter σ H R := fun pins s I => p.run pins s σ H R I h
/-- what an iterable is worth: its items -/
def JI (X : Cx) (I0 H0 : Hp) (W : WX) (ctx : List (Option SF)) (mem : List MF) (tg iter : Expr) (m : Res (List β)) (r : Rp β) : Prop :=
  ∀ (I H : Hp) (σ : St) (R : It → Hp → Prop), Stt I0 H0 ctx mem I H σ → (match m with
    | .ok xs => ∀ I' H' J vs (okp : Hp → Prop), Fm I H I' H' → ItR J vs okp → (∀ I'' H'', Same I' I'' → Same I'' H'' → Same H0 H'' → okp H'') → Paired (r I') vs xs → R J H'
    | .err e => ∀ I' H' cls d, Fm I H I' H' → Fr H d ∧ ExR X.K I' H' e cls d → W cls d σ H'
    | .stuck => False) → wI X tg iter σ H R
theorem JI.list {r : Rp β} {m : Res (List β)} (j : JE X I0 H0 W ctx mem iter m (rp (rL r))) : JI X I0 H0 W ctx mem tg iter m r := fun I H σ R st p => by
  refine PI.w (pi_list pe_W) (j I H σ _ st ?_)
  cases m with
  | ok xs =>
    rintro I1 H1 v f1 ⟨l, vs, rfl, hl, pr⟩
    exact ⟨l, rfl, ⟨vs, SqL.of (f1.ih _ _ hl)⟩, p I1 H1 _ vs _ f1 itr_list (fun I2 H2 s1 s2 _ => SqL.of (s2 _ _ (s1 _ _ hl))) pr⟩
  | err e => exact p
  | stuck => exact p
theorem JI.tup {r : Rp β} {m : Res (List β)} (j : JE X I0 H0 W ctx mem iter m (rp (rT r))) : JI X I0 H0 W ctx mem tg iter m r := fun I H σ R st p => by
  refine PI.w (pi_tup pe_W) (j I H σ _ st ?_)
  cases m with
  | ok xs =>
    rintro I1 H1 v f1 ⟨l, vs, rfl, hl, pr⟩
    exact ⟨l, rfl, ⟨vs, SqT.of (f1.ih _ _ hl)⟩, p I1 H1 _ vs _ f1 itr_tup (fun I2 H2 s1 s2 _ => SqT.of (s2 _ _ (s1 _ _ hl))) pr⟩
  | err e => exact p
  | stuck => exact p
/-- a parameter's list -/
theorem JI.par (i : Nat) {r : Rp β} {mo : Mo (fun I v x => rdL X.K (rp r) I H0 v x)} {x : List β} [m : Mo r] (hc : ctx[i]? = some (some (@SF.mk (List β) (fun I v x => rdL X.K (rp r) I H0 v x) mo x)) := by rfl) (hN : X.N[i]? = some n := by rfl) (hv : Vis X.env.scope n := by first | exact Or.inl rfl | exact Or.inr (Or.inl rfl) | exact Or.inr (Or.inr rfl)) (hd : (n == ("__debug__" : Str)) = false := by decide)
    (hcd : (n == ("__classdict__" : Str)) = false := by decide) : JI X I0 H0 W ctx mem tg (.Name n pos) (.ok x) r := fun I H σ R st p => by
  obtain ⟨v, e, l, vs, ev, hl, pr⟩ := st.sl i _ hc
  subst ev
  refine PI.w (pi_list pe_W) (w_var i ⟨l, rfl, ⟨vs, st.fm.h.seq hl⟩, ?_⟩ e hN hv hd hcd)
  exact p I H _ vs _ (Fm.refl st.same) itr_list (fun I2 H2 s1 s2 s3 => s3.seq hl) pr
def rangeM (lo hi : Int) : Res (List Int) := Res.guard (-(2 ^ 62) ≤ lo ∧ lo < 2 ^ 62 ∧ -(2 ^ 62) ≤ hi ∧ hi < 2 ^ 62) (.ok (rngI lo (hi - lo).toNat))
def rangeM1 (hi : Int) : Res (List Int) := Res.guard (-(2 ^ 62) ≤ hi ∧ hi < 2 ^ 62) (.ok (rngI 0 hi.toNat))
theorem JI.range1 {m : Res Int} (j : JE X I0 H0 W ctx mem a m (rp rInt)) (hm : X.mg "range" = none) (hg : Gl X "range" := by rfl) (hs : starEach [a] X.env = (false, eval a X.env) :: starEach [] X.env := by rfl) : JI X I0 H0 W ctx mem tg (.Call (.Name "range" pos') [a] [] pos) (m.bind fun x => rangeM1 x) rInt := fun I H σ R st p => by
  refine PI.w (pi_range1 hg hm (pa_cons pe_W pa_nil hs) hs) (j I H σ _ st ?_)
  cases m with
  | ok x =>
    intro I1 H1 v f1 r1
    cases (show v = V.int x from r1)
    by_cases hh : -(2 ^ 62) ≤ x ∧ x < 2 ^ 62
    · have e : ((Res.ok x).bind fun x => rangeM1 x) = .ok (rngI 0 x.toNat) := Res.guard_pos hh _
      rw [e] at p
      exact ⟨x, rfl, hh.1, hh.2, p I1 H1 _ _ _ f1 itr_rng (fun _ _ _ _ _ => True.intro) rng_pair⟩
    · have e : ((Res.ok x).bind fun x => rangeM1 x) = .stuck := if_neg hh
      rw [e] at p
      exact p.elim
  | err e => exact p
  | stuck => exact p
theorem JI.range2 {m m' : Res Int} (j : JE X I0 H0 W ctx mem a m (rp rInt)) (j' : JE X I0 H0 W ctx mem b m' (rp rInt)) (hm : X.mg "range" = none) (hg : Gl X "range" := by rfl) (hs : starEach [a, b] X.env = (false, eval a X.env) :: starEach [b] X.env := by rfl) (hs2 : starEach [b] X.env = (false, eval b X.env) :: starEach [] X.env := by rfl) :
    JI X I0 H0 W ctx mem tg (.Call (.Name "range" pos') [a, b] [] pos) (m.bind fun x => m'.bind fun y => rangeM x y) rInt := fun I H σ R st p => by
  refine PI.w (pi_range2 hg hm (pa_cons pe_W (pa_cons pe_W pa_nil hs2) hs) (by rw [hs, hs2]; rfl) (by rw [hs2]; rfl)) (j I H σ _ st ?_)
  cases m with
  | ok x =>
    intro I1 H1 v f1 r1
    refine j' I1 H1 σ _ (st.step f1) ?_
    cases m' with
    | ok y =>
      intro I2 H2 v2 f2 r2
      cases (show v = V.int x from r1)
      cases (show v2 = V.int y from r2)
      by_cases hh : -(2 ^ 62) ≤ x ∧ x < 2 ^ 62 ∧ -(2 ^ 62) ≤ y ∧ y < 2 ^ 62
      · have e : ((Res.ok x).bind fun x => (Res.ok y).bind fun y => rangeM x y) = .ok (rngI x (y - x).toNat) := Res.guard_pos hh _
        rw [e] at p
        exact ⟨x, y, rfl, hh, p I2 H2 _ _ _ (f1.trans f2) itr_rng (fun _ _ _ _ _ => True.intro) rng_pair⟩
      · have e : ((Res.ok x).bind fun x => (Res.ok y).bind fun y => rangeM x y) = .stuck := if_neg hh
        rw [e] at p
        exact p.elim
    | err e => exact fun I2 H2 c d f2 x => p I2 H2 c d (f1.trans f2) ⟨x.1.back f1.h, x.2⟩
    | stuck => exact p
  | err e => exact p
  | stuck => exact p

/-! ### for: a body that goes on -/
def forS (f : β → S → Res S) : List β → S → Res S
  | [], s => .ok s
  | x :: xs, s => (f x s).bind fun s' => forS f xs s'
theorem paired_drop {F : α → β → Prop} {xs : List α} {ys : List β} (p : Paired F xs ys) (i : Nat) {x : α} (h : xs[i]? = some x) : ∃ y, ys[i]? = some y ∧ F x y := by
  have hl := Paired.length p
  have hi : i < ys.length := by rw [← hl]; exact (List.getElem?_eq_some_iff.mp h).1
  obtain ⟨x', e1, e2⟩ := paired_get p (List.getElem?_eq_getElem hi)
  rw [h] at e1
  cases e1
  exact ⟨_, List.getElem?_eq_getElem hi, e2⟩
theorem forS_drop {f : β → S → Res S} {xs : List β} {i : Nat} {x : β} (h : xs[i]? = some x) (s : S) : forS f (xs.drop i) s = (f x s).bind fun s' => forS f (xs.drop (i + 1)) s' := by
  have hi := (List.getElem?_eq_some_iff.mp h).1
  rw [List.drop_eq_getElem_cons hi]
  have : xs[i] = x := (List.getElem?_eq_some_iff.mp h).2
  rw [this]
  rfl
theorem J1.forS (j : Nat) {r : Rp β} [mo : Mo r] {m : Res (List β)} {cx : S → List (Option SF)} {me : S → List MF} {f : β → S → Res S} {s0 : S} (hp : PassesOwn (model X.prog X.w) X.A X.env X.xe) (ji : JI X I0 H0 W ctx (me s0) (.Name n pos') iter m r)
    (jb : ∀ x s, JN X W Kx (Stt I0 H0 ((cx s).set j (some ⟨r, x⟩)) (me s)) body (f x s) fun s' => Stt I0 H0 (cx s') (me s')) (hx : ∀ I H σ d, Stt I0 H0 ctx (me s0) I H σ → Fr H0 d → Kx I H σ d) (hw : weakC ctx (cx s0)) (hN : X.N.Nodup) (hc : X.calm = true := by rfl)
    (hj : X.N[j]? = some n := by rfl) (hl : Loc X.env.scope n := by first | exact Or.inl rfl | exact Or.inr rfl) (hf : X.fn n = true ∨ X.env.scope.names.lookup n = some .local := by first | exact .inl rfl | exact .inr rfl | assumption) (hs : ∀ x, foldedSetIterable iter X.env x = pure x := by intro _; rfl) :
    J1 X W Kx (Stt I0 H0 ctx (me s0)) (.For (.Name n pos') iter body [] pos) (m.bind fun xs => Tr.forS f xs s0) (fun s => Stt I0 H0 (cx s) (me s)) := fun I H σ D g p => by
  refine PS.w (ps_for hp hc pi_W (pg_name (i := j) hN hj hl hf) pss_W hs) (ji I H σ _ g ?_)
  cases m with
  | ok xs =>
    intro I1 H1 J vs okp f1 itr stay pr
    have p0 : PostB X W Kx I1 (Tr.forS f xs s0) (fun s => Stt I0 H0 (cx s) (me s)) D := PostB.up p f1.i
    have hlen := Paired.length pr
    refine ⟨fun i k σ' H' => k + i = vs.length ∧ ∃ I' s, Same I1 I' ∧ Stt I0 H0 (cx s) (me s) I' H' σ' ∧ PostB X W Kx I' (Tr.forS f (xs.drop i) s) (fun s => Stt I0 H0 (cx s) (me s)) D, ⟨vs.length, rfl, I1, s0, Same.refl _, (g.step f1).weak hw, p0⟩, ?_⟩
    rintro i k σ' H' ⟨hk, I', s, si, g', p'⟩
    have hok := stay I' H' si g'.same g'.fm.h
    by_cases hi : i < vs.length
    · obtain ⟨go, yl⟩ := (itr i H' hok).1 hi
      refine .inr ⟨go, fun σ2 H2 => ∃ I2 s2, Same I1 I2 ∧ Stt I0 H0 (cx s2) (me s2) I2 H2 σ2 ∧ PostB X W Kx I2 (Tr.forS f (xs.drop (i + 1)) s2) (fun s => Stt I0 H0 (cx s) (me s)) D, fun σ2 H2 h => ⟨k - 1, by omega, by omega, h⟩, fun v H2 hy => ?_⟩
      obtain ⟨rfl, ev⟩ := yl v H2 hy
      obtain ⟨x, ex, hr⟩ := paired_drop pr i ev
      rw [forS_drop ex] at p'
      have key := jb x s I' H2 (σ'.set j (some v)) { D with nx := fun σ2 H2 => ∃ I2 s2, Same I' I2 ∧ Stt I0 H0 (cx s2) (me s2) I2 H2 σ2 ∧ PostB X W Kx I2 (Tr.forS f (xs.drop (i + 1)) s2) (fun s => Stt I0 H0 (cx s) (me s)) D, ct := fun _ _ => False, bk := fun _ _ => False } (g'.set j (mo.up si hr)) ?_
      · refine b_mono key (fun σ2 H2 ⟨I2, s2, q1, q2, q3⟩ => ⟨I2, s2, si.trans q1, q2, q3⟩) (fun _ _ z => z) (fun _ _ z => z.elim) (fun _ _ z => z.elim)
      · revert p'
        generalize f x s = z
        intro p'
        cases z with
        | ok s2 => exact fun I2 H2 σ2 q1 q2 => ⟨I2, s2, q1, q2, PostB.up p' q1⟩
        | err e => exact p'
        | stuck => exact p'.elim
    · refine .inl ⟨(itr i H' hok).2 (by omega), ?_⟩
      have : xs.drop i = [] := List.drop_eq_nil_of_le (by omega)
      rw [this] at p'
      exact p' I' H' σ' (Same.refl _) g'
  | err e => exact fun I' H' c d f x => p I' H' σ c d (hx _ _ _ _ (g.step f) (x.1.back g.fm.h)) x.2
  | stuck => exact p.elim
end
end L2.Tr

namespace L2.Tr
open PySem PySem.Spec PyProof.Rows
/-! ### general flow: a block may go on, return, break or continue -/
inductive Fl (S L γ : Type)
  | nx (s : S)
  | rt (y : γ)
  | bk (l : L)
  | ct (l : L)
section
variable {α β γ δ S T L L' : Type}
def Fl.then (f : S → Res (Fl T L γ)) : Fl S L γ → Res (Fl T L γ)
  | .nx s => f s
  | .rt y => .ok (.rt y)
  | .bk l => .ok (.bk l)
  | .ct l => .ok (.ct l)
def Fl.out (f : S → Res γ) : Fl S L γ → Res γ
  | .nx s => f s
  | .rt y => .ok y
  | .bk _ => .stuck
  | .ct _ => .stuck
@[simp] theorem Fl.then_nx (f : S → Res (Fl T L γ)) (s : S) : Fl.then f (.nx s) = f s := rfl
@[simp] theorem Fl.then_rt (f : S → Res (Fl T L γ)) (y : γ) : Fl.then f (.rt y) = .ok (.rt y) := rfl
@[simp] theorem Fl.then_bk (f : S → Res (Fl T L γ)) (y : L) : Fl.then f (.bk y) = .ok (.bk y) := rfl
@[simp] theorem Fl.then_ct (f : S → Res (Fl T L γ)) (y : L) : Fl.then f (.ct y) = .ok (.ct y) := rfl
@[simp] theorem Fl.out_nx (f : S → Res γ) (s : S) : Fl.out (L := L) f (.nx s) = f s := rfl
@[simp] theorem Fl.out_rt (f : S → Res γ) (y : γ) : Fl.out (L := L) f (.rt y) = .ok y := rfl
def forG (f : β → S → Res (Fl S S γ)) : List β → S → Res (Fl S L γ)
  | [], s => .ok (.nx s)
  | x :: xs, s => (f x s).bind fun
    | .nx s' => forG f xs s'
    | .ct s' => forG f xs s'
    | .bk s' => .ok (.nx s')
    | .rt y => .ok (.rt y)
def whileG (c : S → Res Bool) (f : S → Res (Fl S S γ)) : Nat → S → Res (Fl S L γ)
  | 0, _ => .stuck
  | n + 1, s => (c s).bind fun b => if b = true then (f s).bind fun
    | .nx s' => whileG c f n s'
    | .ct s' => whileG c f n s'
    | .bk s' => .ok (.nx s')
    | .rt y => .ok (.rt y) else .ok (.nx s)
def PostG (X : Cx) (I0 H0 : Hp) (W : WX) (Kx : KnowsX) (I : Hp) (m : Res (Fl S L γ)) (G : S → Knows) (GL : L → Knows) (r : Ra γ) (D : Ends) : Prop := match m with
  | .ok (.nx s) => ∀ I' H' σ', Same I I' → G s I' H' σ' → D.nx σ' H'
  | .ok (.bk s) => ∀ I' H' σ', Same I I' → GL s I' H' σ' → D.bk σ' H'
  | .ok (.ct s) => ∀ I' H' σ', Same I I' → GL s I' H' σ' → D.ct σ' H'
  | .ok (.rt y) => ∀ I' H' v, Fm I0 H0 I' H' → r I' H' v y → D.rt v H'
  | .err e => ∀ I' H' σ' cls d, Kx I' H' σ' d → ExR X.K I' H' e cls d → W cls d σ' H'
  | .stuck => False
theorem PostG.up {X : Cx} {I0 H0 : Hp} {W : WX} {Kx : KnowsX} {I I1 : Hp} {m : Res (Fl S L γ)} {G : S → Knows} {GL : L → Knows} {r : Ra γ} {D : Ends} (p : PostG X I0 H0 W Kx I m G GL r D) (s : Same I I1) : PostG X I0 H0 W Kx I1 m G GL r D := by
  cases m with
  | ok a => cases a with
    | nx s => exact fun I' H' σ' q => p I' H' σ' (Same.trans ‹Same I I1› q)
    | bk s => exact fun I' H' σ' q => p I' H' σ' (Same.trans ‹Same I I1› q)
    | ct s => exact fun I' H' σ' q => p I' H' σ' (Same.trans ‹Same I I1› q)
    | rt y => exact p
  | err e => exact p
  | stuck => exact p
def J1G (X : Cx) (I0 H0 : Hp) (W : WX) (Kx : KnowsX) (G : Knows) (st : Stmt) (m : Res (Fl S L γ)) (G' : S → Knows) (GL : L → Knows) (r : Ra γ) : Prop := ∀ (I H : Hp) (σ : St) (D : Ends), G I H σ → PostG X I0 H0 W Kx I m G' GL r D → wS X st D σ H
def JG (X : Cx) (I0 H0 : Hp) (W : WX) (Kx : KnowsX) (G : Knows) (ss : List Stmt) (m : Res (Fl S L γ)) (G' : S → Knows) (GL : L → Knows) (r : Ra γ) : Prop := ∀ (I H : Hp) (σ : St) (D : Ends), G I H σ → PostG X I0 H0 W Kx I m G' GL r D → wB X ss D σ H
variable {X : Cx} {I0 H0 : Hp} {W : WX} {Kx : KnowsX} {G : Knows} {ctx : List (Option SF)} {mem : List MF} {e a b c o iter : Expr} {es bs : List Expr} {st : Stmt} {ss s1 s2 body : List Stmt} {pos pos' : Pos} {n : Str} {ra : Ra α} {rr : Ra γ} {ma : Res α} {mc : Res Bool} {GL : L → Knows}
theorem JG.nil {s : S} {G' : S → Knows} (h : ∀ I H σ, G I H σ → G' s I H σ) : JG X I0 H0 W Kx G [] (.ok (.nx s)) G' GL rr := fun I H σ D g p => b_nil (p I H σ (Same.refl _) (h _ _ _ g))
theorem JG.seq {m : Res S} {G1 : S → Knows} {f : S → Res (Fl T L γ)} {G2 : T → Knows} (j : J1 X W Kx G st m G1) (k : ∀ s, JG X I0 H0 W Kx (G1 s) ss (f s) G2 GL rr) : JG X I0 H0 W Kx G (st :: ss) (m.bind f) G2 GL rr := fun I H σ D g p => by
  refine b_cons (j I H σ _ g ?_)
  cases m with
  | ok s => exact fun I' H' σ' si g' => k s I' H' σ' D g' (PostG.up p si)
  | err e => exact p
  | stuck => exact p
theorem JG.seqG {m : Res (Fl S L γ)} {G1 : S → Knows} {f : S → Res (Fl T L γ)} {G2 : T → Knows} (j : J1G X I0 H0 W Kx G st m G1 GL rr) (k : ∀ s, JG X I0 H0 W Kx (G1 s) ss (f s) G2 GL rr) : JG X I0 H0 W Kx G (st :: ss) (m.bind (Fl.then f)) G2 GL rr := fun I H σ D g p => by
  refine b_cons (j I H σ _ g ?_)
  cases m with
  | ok a => cases a with
    | nx s => exact fun I' H' σ' si g' => k s I' H' σ' D g' (PostG.up p si)
    | bk s => exact p
    | ct s => exact p
    | rt s => exact p
  | err e => exact p
  | stuck => exact p
theorem JR.seqG {m : Res (Fl S L γ)} {G1 : S → Knows} {f : S → Res γ} (j : J1G X I0 H0 W Kx G st m G1 GL rr) (k : ∀ s, JR X I0 H0 W Kx (G1 s) ss (f s) rr) : JR X I0 H0 W Kx G (st :: ss) (m.bind (Fl.out f)) rr := fun I H σ D g p => by
  refine b_cons (j I H σ _ g ?_)
  cases m with
  | ok a => cases a with
    | nx s => exact fun I' H' σ' si g' => k s I' H' σ' D g' p
    | bk s => exact p.elim
    | ct s => exact p.elim
    | rt s => exact p
  | err e => exact p
  | stuck => exact p
theorem JG.rt {m : Res γ} {G' : S → Knows} (j : JR X I0 H0 W Kx G ss m rr) : JG X I0 H0 W Kx G ss (m.bind fun y => .ok (.rt y)) G' GL rr := fun I H σ D g p => by
  refine j I H σ D g ?_
  cases m with
  | ok y => exact p
  | err e => exact p
  | stuck => exact p
theorem J1G.of {m : Res S} {G' : S → Knows} (j : J1 X W Kx G st m G') : J1G X I0 H0 W Kx G st (m.bind fun s => .ok (.nx s)) G' GL rr := fun I H σ D g p => by
  refine j I H σ D g ?_
  cases m with
  | ok y => exact p
  | err e => exact p
  | stuck => exact p
theorem JG.ifT {m1 m2 : Res (Fl S L γ)} {G' : S → Knows} (j : JT X I0 H0 W ctx mem c mc) (k1 : JG X I0 H0 W Kx (Stt I0 H0 ctx mem) s1 m1 (fun _ _ _ _ => False) GL rr) (k2 : JG X I0 H0 W Kx (Stt I0 H0 ctx mem) ss m2 G' GL rr) (hx : ∀ I H σ d, Stt I0 H0 ctx mem I H σ → Fr H0 d → Kx I H σ d) :
    JG X I0 H0 W Kx (Stt I0 H0 ctx mem) (.If c s1 [] pos :: ss) (mc.bind fun x => if x = true then m1 else m2) G' GL rr := fun I H σ D g p => by
  refine b_cons (s_if (j I H σ _ g ?_))
  cases mc with
  | ok x =>
    intro I1 H1 v f r y hy
    cases r; cases hy
    cases x with
    | true =>
      refine iteT (b_mono (k1 I1 H1 σ { D with nx := fun _ _ => False } (g.step f) ?_) (fun _ _ z => z.elim) (fun _ _ z => z) (fun _ _ z => z) (fun _ _ z => z))
      have p1 : PostG X I0 H0 W Kx I1 m1 _ _ _ _ := PostG.up p f.i
      cases m1 with
      | ok a => cases a with
        | nx s => exact fun _ _ _ _ z => z
        | bk s => exact p1
        | ct s => exact p1
        | rt s => exact p1
      | err e => exact p1
      | stuck => exact p1
    | false => exact iteF (b_nil (k2 I1 H1 σ D (g.step f) (PostG.up p f.i)))
  | err e => exact fun I' H' c d f x => p I' H' σ c d (hx _ _ _ _ (g.step f) (x.1.back g.fm.h)) x.2
  | stuck => exact p
theorem J1G.if {m1 m2 : Res (Fl S L γ)} {G' : S → Knows} (j : JT X I0 H0 W ctx mem c mc) (k1 : JG X I0 H0 W Kx (Stt I0 H0 ctx mem) s1 m1 G' GL rr) (k2 : JG X I0 H0 W Kx (Stt I0 H0 ctx mem) s2 m2 G' GL rr) (hx : ∀ I H σ d, Stt I0 H0 ctx mem I H σ → Fr H0 d → Kx I H σ d) :
    J1G X I0 H0 W Kx (Stt I0 H0 ctx mem) (.If c s1 s2 pos) (mc.bind fun x => if x = true then m1 else m2) G' GL rr := fun I H σ D g p => by
  refine s_if (j I H σ _ g ?_)
  cases mc with
  | ok x =>
    intro I1 H1 v f r y hy
    cases r; cases hy
    cases x with
    | true => exact iteT (k1 I1 H1 σ D (g.step f) (PostG.up p f.i))
    | false => exact iteF (k2 I1 H1 σ D (g.step f) (PostG.up p f.i))
  | err e => exact fun I' H' c d f x => p I' H' σ c d (hx _ _ _ _ (g.step f) (x.1.back g.fm.h)) x.2
  | stuck => exact p
theorem JG.bk {l : L} {G' : S → Knows} (h : ∀ I H σ, G I H σ → GL l I H σ) : JG X I0 H0 W Kx G (.Break pos :: ss) (.ok (.bk l)) G' GL rr := fun I H σ D g p => b_cons (PS.w ps_break (p I H σ (Same.refl _) (h _ _ _ g)))
theorem JG.ct {l : L} {G' : S → Knows} (h : ∀ I H σ, G I H σ → GL l I H σ) : JG X I0 H0 W Kx G (.Continue pos :: ss) (.ok (.ct l)) G' GL rr := fun I H σ D g p => b_cons (PS.w ps_continue (p I H σ (Same.refl _) (h _ _ _ g)))
theorem JG.pre {G1 : Knows} {m : Res (Fl S L γ)} {G' : S → Knows} (h : ∀ I H σ, G I H σ → G1 I H σ) (j : JG X I0 H0 W Kx G1 ss m G' GL rr) : JG X I0 H0 W Kx G ss m G' GL rr := fun I H σ D g p => j I H σ D (h _ _ _ g) p
theorem JR.pre {G1 : Knows} {m : Res γ} (h : ∀ I H σ, G I H σ → G1 I H σ) (j : JR X I0 H0 W Kx G1 ss m rr) : JR X I0 H0 W Kx G ss m rr := fun I H σ D g p => j I H σ D (h _ _ _ g) p
theorem forG_drop {f : β → S → Res (Fl S S γ)} {xs : List β} {i : Nat} {x : β} (h : xs[i]? = some x) (s : S) : (forG f (xs.drop i) s : Res (Fl S L γ)) = (f x s).bind fun
    | .nx s' => forG f (xs.drop (i + 1)) s'
    | .ct s' => forG f (xs.drop (i + 1)) s'
    | .bk s' => .ok (.nx s')
    | .rt y => .ok (.rt y) := by
  have hi := (List.getElem?_eq_some_iff.mp h).1
  rw [List.drop_eq_getElem_cons hi]
  have : xs[i] = x := (List.getElem?_eq_some_iff.mp h).2
  rw [this]
  rfl
theorem J1G.forG (j : Nat) {r : Rp β} [mo : Mo r] {m : Res (List β)} {cx : S → List (Option SF)} {me : S → List MF} {f : β → S → Res (Fl S S γ)} {s0 : S} (hp : PassesOwn (model X.prog X.w) X.A X.env X.xe) (ji : JI X I0 H0 W ctx (me s0) (.Name n pos') iter m r)
    (jb : ∀ x s, JG X I0 H0 W Kx (Stt I0 H0 ((cx s).set j (some ⟨r, x⟩)) (me s)) body (f x s) (fun s' => Stt I0 H0 (cx s') (me s')) (fun s' => Stt I0 H0 (cx s') (me s')) rr) (hx : ∀ I H σ d, Stt I0 H0 ctx (me s0) I H σ → Fr H0 d → Kx I H σ d) (hw : weakC ctx (cx s0)) (hN : X.N.Nodup) (hc : X.calm = true := by rfl)
    (hj : X.N[j]? = some n := by rfl) (hl : Loc X.env.scope n := by first | exact Or.inl rfl | exact Or.inr rfl) (hf : X.fn n = true ∨ X.env.scope.names.lookup n = some .local := by first | exact .inl rfl | exact .inr rfl | assumption) (hs : ∀ x, foldedSetIterable iter X.env x = pure x := by intro _; rfl) :
    J1G X I0 H0 W Kx (Stt I0 H0 ctx (me s0)) (.For (.Name n pos') iter body [] pos) (m.bind fun xs => (Tr.forG f xs s0 : Res (Fl S L γ))) (fun s => Stt I0 H0 (cx s) (me s)) GL rr := fun I H σ D g p => by
  refine PS.w (ps_for hp hc pi_W (pg_name (i := j) hN hj hl hf) pss_W hs) (ji I H σ _ g ?_)
  cases m with
  | ok xs =>
    intro I1 H1 J vs okp f1 itr stay pr
    have p0 : PostG X I0 H0 W Kx I1 (Tr.forG f xs s0) (fun s => Stt I0 H0 (cx s) (me s)) GL rr D := PostG.up p f1.i
    have hlen := Paired.length pr
    refine ⟨fun i k σ' H' => k + i = vs.length ∧ ∃ I' s, Same I1 I' ∧ Stt I0 H0 (cx s) (me s) I' H' σ' ∧ PostG X I0 H0 W Kx I' (Tr.forG f (xs.drop i) s) (fun s => Stt I0 H0 (cx s) (me s)) GL rr D, ⟨vs.length, rfl, I1, s0, Same.refl _, (g.step f1).weak hw, p0⟩, ?_⟩
    rintro i k σ' H' ⟨hk, I', s, si, g', p'⟩
    have hok := stay I' H' si g'.same g'.fm.h
    by_cases hi : i < vs.length
    · obtain ⟨go, yl⟩ := (itr i H' hok).1 hi
      refine .inr ⟨go, fun σ2 H2 => ∃ I2 s2, Same I1 I2 ∧ Stt I0 H0 (cx s2) (me s2) I2 H2 σ2 ∧ PostG X I0 H0 W Kx I2 (Tr.forG f (xs.drop (i + 1)) s2) (fun s => Stt I0 H0 (cx s) (me s)) GL rr D, fun σ2 H2 h => ⟨k - 1, by omega, by omega, h⟩, fun v H2 hy => ?_⟩
      obtain ⟨rfl, ev⟩ := yl v H2 hy
      obtain ⟨x, ex, hr⟩ := paired_drop pr i ev
      rw [forG_drop ex] at p'
      refine jb x s I' H2 (σ'.set j (some v)) _ (g'.set j (mo.up si hr)) ?_
      revert p'
      generalize f x s = z
      intro p'
      cases z with
      | ok a => cases a with
        | nx s2 => exact fun I2 H2 σ2 q1 q2 => ⟨I2, s2, si.trans q1, q2, PostG.up p' q1⟩
        | ct s2 => exact fun I2 H2 σ2 q1 q2 => ⟨I2, s2, si.trans q1, q2, PostG.up p' q1⟩
        | bk s2 => exact p'
        | rt y => exact p'
      | err e => exact p'
      | stuck => exact p'.elim
    · refine .inl ⟨(itr i H' hok).2 (by omega), ?_⟩
      have : xs.drop i = [] := List.drop_eq_nil_of_le (by omega)
      rw [this] at p'
      exact p' I' H' σ' (Same.refl _) g'
  | err e => exact fun I' H' c d f x => p I' H' σ c d (hx _ _ _ _ (g.step f) (x.1.back g.fm.h)) x.2
  | stuck => exact p.elim
theorem J1G.whileG {fuel : Nat} {s0 : S} {cx : S → List (Option SF)} {me : S → List MF} {mc : S → Res Bool} {mf : S → Res (Fl S S γ)} (hp : PassesOwn (model X.prog X.w) X.A X.env X.xe) (jc : ∀ s, JT X I0 H0 W (cx s) (me s) c (mc s)) (jb : ∀ s, JG X I0 H0 W Kx (Stt I0 H0 (cx s) (me s)) ss (mf s) (fun s' => Stt I0 H0 (cx s') (me s')) (fun s' => Stt I0 H0 (cx s') (me s')) rr)
    (hx : ∀ s I H σ d, Stt I0 H0 (cx s) (me s) I H σ → Fr H0 d → Kx I H σ d) : J1G X I0 H0 W Kx (Stt I0 H0 (cx s0) (me s0)) (.While c ss [] pos) (Tr.whileG mc mf fuel s0 : Res (Fl S L γ)) (fun s => Stt I0 H0 (cx s) (me s)) GL rr := fun I H σ D g p => by
  refine PS.w (ps_while hp pt_W pss_W) ⟨fun k σ' H' => ∃ I' s, Stt I0 H0 (cx s) (me s) I' H' σ' ∧ PostG X I0 H0 W Kx I' (Tr.whileG mc mf k s) (fun s => Stt I0 H0 (cx s) (me s)) GL rr D, ⟨fuel, I, s0, g, p⟩, ?_⟩
  rintro k σ' H' ⟨I', s, g', p'⟩
  cases k with
  | zero => exact p'.elim
  | succ k =>
    refine jc s I' H' σ' _ g' ?_
    have p2 : PostG X I0 H0 W Kx I' ((mc s).bind fun b => if b = true then (mf s).bind fun
      | .nx s' => Tr.whileG mc mf k s'
      | .ct s' => Tr.whileG mc mf k s'
      | .bk s' => .ok (.nx s')
      | .rt y => .ok (.rt y) else .ok (.nx s)) _ GL rr D := p'
    revert p2
    generalize mc s = z
    intro p2
    cases z with
    | ok x =>
      intro I1 H1 v f r y hy
      cases r; cases hy
      cases x with
      | true =>
        refine iteT ⟨fun σ2 H2 => ∃ I2 s', Stt I0 H0 (cx s') (me s') I2 H2 σ2 ∧ PostG X I0 H0 W Kx I2 (Tr.whileG mc mf k s') (fun s => Stt I0 H0 (cx s) (me s)) GL rr D, fun σ2 H2 h => ⟨k, Nat.lt_succ_self _, h⟩, ?_⟩
        refine jb s I1 H1 σ' _ (g'.step f) ?_
        have p3 : PostG X I0 H0 W Kx I1 ((mf s).bind fun
          | .nx s' => Tr.whileG mc mf k s'
          | .ct s' => Tr.whileG mc mf k s'
          | .bk s' => .ok (.nx s')
          | .rt y => .ok (.rt y)) _ GL rr D := PostG.up p2 f.i
        revert p3
        generalize mf s = z
        intro p3
        cases z with
        | ok a => cases a with
          | nx s' => exact fun I2 H2 σ2 si g2 => ⟨I2, s', g2, PostG.up p3 si⟩
          | ct s' => exact fun I2 H2 σ2 si g2 => ⟨I2, s', g2, PostG.up p3 si⟩
          | bk s' => exact p3
          | rt y => exact p3
        | err e => exact p3
        | stuck => exact p3
      | false => exact iteF (p2 I1 H1 σ' f.i (g'.step f))
    | err e => exact fun I' H' c d f x => p2 I' H' σ' c d (hx _ _ _ _ _ (g'.step f) (x.1.back g'.fm.h)) x.2
    | stuck => exact p2.elim
end
end L2.Tr
namespace L2.Tr
open PySem PySem.Spec PyProof.Rows
def Fl.get {S L γ : Type} : Fl S L γ → Res S
  | .nx s => .ok s
  | _ => .stuck
theorem J1.ofG {S L γ : Type} {X : Cx} {I0 H0 : Hp} {W : WX} {Kx : KnowsX} {G : Knows} {st : Stmt} {m : Res (Fl S L γ)} {G' : S → Knows} {rr : Ra γ} (j : J1G X I0 H0 W Kx G st m G' (fun _ _ _ _ => False) rr) : J1 X W Kx G st (m.bind Fl.get) G' := fun I H σ D g p => by
  refine j I H σ D g ?_
  cases m with
  | ok a => cases a with
    | nx s => exact p
    | bk s => exact p.elim
    | ct s => exact p.elim
    | rt s => exact p.elim
  | err e => exact p
  | stuck => exact p
theorem tyr_bool {K : PySem.W.Frag} {t : String} {g : Bool} (h : kitB "bool" t = some g) : TyR K (rp rBl) (.type t) (fun _ => g) := fun I H v x _ e => ⟨.type "bool", by rw [show v = _ from e]; exact .base (.bl _), kit_ty h⟩
end L2.Tr

namespace L2.Tr
open PySem PySem.Spec PyProof.Rows
/-! ### fractions in plain Lean -/
abbrev big : Nat := 2 ^ 4000
def fitI (n : Int) : Prop := n.natAbs ≤ big
def fits (q : Rat) : Prop := q.num.natAbs ≤ big ∧ q.den ≤ big
instance (n : Int) : Decidable (fitI n) := inferInstanceAs (Decidable (_ ≤ _))
instance (q : Rat) : Decidable (fits q) := inferInstanceAs (Decidable (_ ∧ _))
theorem log_big {n : Nat} (h : n ≤ big) : n.log2 ≤ 4000 := by
  have := log2_mono h
  have e : big.log2 = 4000 := Nat.log2_two_pow
  omega
theorem big_mul {a b : Nat} (ha : a ≤ big) (hb : b ≤ big) : (a * b).log2 < 9000 := by
  have h1 : a * b ≤ 2 ^ 8000 := by
    have := Nat.mul_le_mul ha hb
    rwa [show big * big = 2 ^ 8000 from by rw [← Nat.pow_add]] at this
  have := log2_mono h1
  rw [Nat.log2_two_pow] at this
  omega
theorem mul_fit {a b : Int} (ha : a.natAbs ≤ big) (hb : b.natAbs ≤ big) : mulI a b = .ok (a * b) := mulI_ok (by have := log_big ha; have := log_big hb; omega)
theorem fits_int {n : Int} : fits (n : Rat) ↔ fitI n := by
  unfold fits fitI
  rw [Rat.num_intCast, Rat.den_intCast]
  exact ⟨fun h => h.1, fun h => ⟨h, Nat.one_le_two_pow⟩⟩
theorem den_nz (x : Rat) : (x.den : Int) ≠ 0 := by have := x.den_nz; omega
theorem qMk_ok {t b : Int} (hb : b ≠ 0) (hl : b.natAbs.log2 < 9000) : qMk t b = .ok (Rat.divInt t b) := by unfold qMk; rw [if_neg hb, Res.guard_pos hl]
def gQ (x : Rat) (y : Num) (r : Rat) : Res Rat := Res.guard (fits x ∧ fits y.val) (.ok r)
def gB (x : Rat) (y : Num) (r : Bool) : Res Bool := Res.guard (fits x ∧ fits y.val) (.ok r)
def qAdd (x : Rat) (y : Num) : Res Rat := gQ x y (x + y.val)
def qSub (x : Rat) (y : Num) : Res Rat := gQ x y (x - y.val)
def qMul (x : Rat) (y : Num) : Res Rat := gQ x y (x * y.val)
def qRadd (x : Rat) (y : Int) : Res Rat := gQ x (.i y) ((y : Rat) + x)
def qRsub (x : Rat) (y : Int) : Res Rat := gQ x (.i y) ((y : Rat) - x)
def qRmul (x : Rat) (y : Int) : Res Rat := gQ x (.i y) ((y : Rat) * x)
def qNeg (x : Rat) : Res Rat := Res.guard (fits x) (.ok (-x))
def qAbs (x : Rat) : Res Rat := Res.guard (fits x) (.ok (if x < 0 then -x else x))
def qBool (x : Rat) : Res Bool := .ok (!decide (x = 0))
def qEq (x : Rat) (y : Num) : Res Bool := .ok (decide (x = y.val))
def qLt (x : Rat) (y : Num) : Res Bool := gB x y (decide (x < y.val))
def qLe (x : Rat) (y : Num) : Res Bool := gB x y (decide (x ≤ y.val))
def qGt (x : Rat) (y : Num) : Res Bool := gB x y (decide (y.val < x))
def qGe (x : Rat) (y : Num) : Res Bool := gB x y (decide (y.val ≤ x))
def qAs (y : Num) : Res Rat := .ok y.val
def qOver (x : Rat) (y : Num) : Res Rat := Res.guard (fits x ∧ fits y.val) (if y.val = 0 then .err eBF else .ok (x / y.val))
theorem stuck_or {α : Type} {p : Prop} [Decidable p] {m r : Res α} (h : p → m = r) : Res.guard p m = .stuck ∨ Res.guard p m = r := by
  by_cases hp : p
  · exact .inr (by rw [Res.guard_pos hp, h hp])
  · exact .inl (if_neg hp)
theorem fd {x : Rat} (h : fits x) : ((x.den : Int)).natAbs ≤ big := by rw [Int.natAbs_natCast]; exact h.2
theorem qMk_dd {x y : Rat} (hx : fits x) (hy : fits y) (t : Int) : qMk t ((x.den : Int) * (y.den : Int)) = .ok (Rat.divInt t ((x.den : Int) * (y.den : Int))) :=
  qMk_ok (Int.mul_ne_zero (den_nz x) (den_nz y)) (by rw [Int.natAbs_mul, Int.natAbs_natCast, Int.natAbs_natCast]; exact big_mul hx.2 hy.2)
theorem qMk_d {x : Rat} (hx : fits x) (t : Int) : qMk t (x.den : Int) = .ok (Rat.divInt t (x.den : Int)) :=
  qMk_ok (den_nz x) (by rw [Int.natAbs_natCast]; have := log_big hx.2; omega)
theorem add_divs (x y : Rat) : Rat.divInt (x.num * (y.den : Int) + y.num * (x.den : Int)) ((x.den : Int) * (y.den : Int)) = x + y := by
  conv => rhs; rw [← Rat.num_divInt_den x, ← Rat.num_divInt_den y, Rat.divInt_add_divInt _ _ (den_nz x) (den_nz y)]
theorem sub_divs (x y : Rat) : Rat.divInt (x.num * (y.den : Int) - y.num * (x.den : Int)) ((x.den : Int) * (y.den : Int)) = x - y := by
  conv => rhs; rw [← Rat.num_divInt_den x, ← Rat.num_divInt_den y, Rat.divInt_sub_divInt _ _ (den_nz x) (den_nz y)]
theorem mul_divs (x y : Rat) : Rat.divInt (x.num * y.num) ((x.den : Int) * (y.den : Int)) = x * y := by
  conv => rhs; rw [← Rat.num_divInt_den x, ← Rat.num_divInt_den y, Rat.divInt_mul_divInt _ _]
theorem add_div1 (x : Rat) (n : Int) : Rat.divInt (x.num + n * (x.den : Int)) (x.den : Int) = x + (n : Rat) := by
  have := add_divs x (n : Rat)
  rw [Rat.num_intCast, Rat.den_intCast] at this
  simpa using this
theorem sub_div1 (x : Rat) (n : Int) : Rat.divInt (x.num - n * (x.den : Int)) (x.den : Int) = x - (n : Rat) := by
  have := sub_divs x (n : Rat)
  rw [Rat.num_intCast, Rat.den_intCast] at this
  simpa using this
theorem mul_div1 (x : Rat) (n : Int) : Rat.divInt (x.num * n) (x.den : Int) = x * (n : Rat) := by
  have := mul_divs x (n : Rat)
  rw [Rat.num_intCast, Rat.den_intCast] at this
  simpa using this
theorem neg_div1 (x : Rat) : Rat.divInt (-x.num) (x.den : Int) = -x := by
  conv => rhs; rw [← Rat.num_divInt_den x, Rat.neg_divInt]
theorem eq_dec (x y : Rat) : (if decide (x.num = y.num) = true then Res.ok (decide ((x.den : Int) = (y.den : Int))) else .ok false) = .ok (decide (x = y)) := by
  by_cases h : x = y
  · subst h; simp
  · rw [decide_eq_false h]
    by_cases h1 : x.num = y.num
    · rw [decide_eq_true h1, if_pos rfl, decide_eq_false]
      intro h2
      exact h (Rat.ext h1 (by exact_mod_cast h2))
    · rw [decide_eq_false h1, if_neg (by decide)]
theorem eq_dec1 (x : Rat) (n : Int) : (if decide ((x.den : Int) = 1) = true then Res.ok (decide (x.num = n)) else .ok false) = .ok (decide (x = (n : Rat))) := by
  have h := eq_dec x (n : Rat)
  rw [Rat.num_intCast, Rat.den_intCast] at h
  rw [← h]
  by_cases h1 : (x.den : Int) = 1 <;> by_cases h2 : x.num = n <;> simp [h1, h2]
theorem lt_int (x : Rat) (n : Int) : x < (n : Rat) ↔ x.num < n * (x.den : Int) := by
  rw [Rat.lt_iff, Rat.num_intCast, Rat.den_intCast]; simp
theorem le_int (x : Rat) (n : Int) : x ≤ (n : Rat) ↔ x.num ≤ n * (x.den : Int) := by
  rw [Rat.le_iff, Rat.num_intCast, Rat.den_intCast]; simp
theorem gt_int (x : Rat) (n : Int) : (n : Rat) < x ↔ n * (x.den : Int) < x.num := by
  rw [Rat.lt_iff, Rat.num_intCast, Rat.den_intCast]; simp
theorem ge_int (x : Rat) (n : Int) : (n : Rat) ≤ x ↔ n * (x.den : Int) ≤ x.num := by
  rw [Rat.le_iff, Rat.num_intCast, Rat.den_intCast]; simp
/-! ### sizes -/
def Sz (s : Nat) (q : Rat) : Prop := q.num.natAbs ≤ 2 ^ s ∧ q.den ≤ 2 ^ s
theorem Sz.fits {s : Nat} {q : Rat} (h : Sz s q) (hs : s ≤ 4000 := by decide) : fits q := ⟨Nat.le_trans h.1 (Nat.pow_le_pow_right (by decide) hs), Nat.le_trans h.2 (Nat.pow_le_pow_right (by decide) hs)⟩
theorem Sz.mono {s t : Nat} {q : Rat} (h : Sz s q) (hs : s ≤ t) : Sz t q := ⟨Nat.le_trans h.1 (Nat.pow_le_pow_right (by decide) hs), Nat.le_trans h.2 (Nat.pow_le_pow_right (by decide) hs)⟩
theorem sz_divInt {t b : Int} {s : Nat} (h1 : t.natAbs ≤ 2 ^ s) (h2 : b.natAbs ≤ 2 ^ s) : Sz s (Rat.divInt t b) := by
  by_cases hb : b = 0
  · subst hb
    rw [Rat.divInt_zero]
    exact ⟨by simp, Nat.one_le_two_pow⟩
  · refine ⟨?_, ?_⟩
    · obtain ⟨m, m0, e1, _⟩ := Rat.divInt_num_den hb (show Rat.divInt t b = ⟨(Rat.divInt t b).num, (Rat.divInt t b).den, (Rat.divInt t b).den_nz, (Rat.divInt t b).reduced⟩ from rfl)
      have h3 : t.natAbs = (Rat.divInt t b).num.natAbs * m.natAbs := by rw [← Int.natAbs_mul, ← e1]
      refine Nat.le_trans ?_ h1
      rw [h3]
      exact Nat.le_mul_of_pos_right _ (by omega)
    · rw [Rat.den_divInt, if_neg hb]
      exact Nat.le_trans (Nat.div_le_self _ _) h2
theorem sz_int {n : Int} {s : Nat} (h : n.natAbs ≤ 2 ^ s) : Sz s (n : Rat) := by
  unfold Sz
  rw [Rat.num_intCast, Rat.den_intCast]
  exact ⟨h, Nat.one_le_two_pow⟩
theorem pow2_mul {a b s t : Nat} (ha : a ≤ 2 ^ s) (hb : b ≤ 2 ^ t) : a * b ≤ 2 ^ (s + t) := by
  rw [Nat.pow_add]; exact Nat.mul_le_mul ha hb
theorem Sz.mul {s t : Nat} {x y : Rat} (hx : Sz s x) (hy : Sz t y) : Sz (s + t) (x * y) := by
  rw [← mul_divs]
  refine sz_divInt ?_ ?_
  · rw [Int.natAbs_mul]; exact pow2_mul hx.1 hy.1
  · rw [Int.natAbs_mul, Int.natAbs_natCast, Int.natAbs_natCast]; exact pow2_mul hx.2 hy.2
theorem Sz.add {s t : Nat} {x y : Rat} (hx : Sz s x) (hy : Sz t y) : Sz (s + t + 1) (x + y) := by
  rw [← add_divs]
  have a1 := pow2_mul hx.1 hy.2
  have a2 := pow2_mul hx.2 hy.1
  have a3 := pow2_mul hx.2 hy.2
  have e : 2 ^ (s + t + 1) = 2 ^ (s + t) + 2 ^ (s + t) := by rw [Nat.pow_succ]; omega
  refine sz_divInt ?_ ?_
  · refine Nat.le_trans (Int.natAbs_add_le _ _) ?_
    rw [Int.natAbs_mul, Int.natAbs_mul, Int.natAbs_natCast, Int.natAbs_natCast, Nat.mul_comm y.num.natAbs]
    omega
  · rw [Int.natAbs_mul, Int.natAbs_natCast, Int.natAbs_natCast]; omega
theorem Sz.neg {s : Nat} {x : Rat} (hx : Sz s x) : Sz s (-x) := by
  refine ⟨?_, ?_⟩
  · show (-x.num).natAbs ≤ _; rw [Int.natAbs_neg]; exact hx.1
  · exact hx.2
theorem Sz.sub {s t : Nat} {x y : Rat} (hx : Sz s x) (hy : Sz t y) : Sz (s + t + 1) (x - y) := by
  rw [Rat.sub_eq_add_neg]; exact hx.add hy.neg
theorem Sz.inv {s : Nat} {x : Rat} (hx : Sz s x) : Sz s x⁻¹ := by
  rw [Rat.inv_def]
  exact sz_divInt (by rw [Int.natAbs_natCast]; exact hx.2) hx.1
theorem Sz.div {s t : Nat} {x y : Rat} (hx : Sz s x) (hy : Sz t y) : Sz (s + t) (x / y) := by
  rw [Rat.div_def]; exact hx.mul hy.inv
theorem div_divs (x y : Rat) (h : y ≠ 0) : Rat.divInt (x.num * (y.den : Int)) ((x.den : Int) * y.num) = x / y := by
  rw [Rat.div_def, Rat.inv_def]
  conv => rhs; rw [← Rat.num_divInt_den x, Rat.divInt_mul_divInt]
theorem num_zero {y : Rat} : y.num = 0 ↔ y = 0 := Rat.num_eq_zero
theorem qMk_dn {x y : Rat} (hx : fits x) (hy : fits y) (h : y ≠ 0) (t : Int) : qMk t ((x.den : Int) * y.num) = .ok (Rat.divInt t ((x.den : Int) * y.num)) :=
  qMk_ok (Int.mul_ne_zero (den_nz x) (fun e => h (num_zero.mp e))) (by rw [Int.natAbs_mul, Int.natAbs_natCast]; exact big_mul hx.2 hy.1)
/-- m answers something that P holds of, and so the rest answers r -/
theorem bind_to {α β : Type} {m : Res α} {f : α → Res β} {r : Res β} (P : α → Prop) (h : ∃ v, m = .ok v ∧ P v) (k : ∀ v, P v → f v = r) : m.bind f = r := by
  obtain ⟨v, rfl, p⟩ := h
  exact k v p
theorem divs_lt {a b c d : Int} (hb : 0 < b) (hd : 0 < d) : Rat.divInt a b < Rat.divInt c d ↔ a * d - c * b < 0 := by
  rw [← Rat.not_le, Rat.le_iff_sub_nonneg, Rat.divInt_sub_divInt _ _ (by omega) (by omega), Rat.divInt_nonneg_iff_of_pos_right (Int.mul_pos hb hd)]
  omega
theorem int_divs {b : Int} (n : Int) (hb : b ≠ 0) : (n : Rat) = Rat.divInt (n * b) b := by
  have := Rat.divInt_mul_right (n := n) (d := 1) (a := b) hb
  rw [Int.one_mul] at this
  rw [this]
  exact Rat.ext (by rw [Rat.num_divInt]; simp) (by rw [Rat.den_divInt]; simp)
theorem divs_lt_int {a b n : Int} (hb : 0 < b) : Rat.divInt a b < (n : Rat) ↔ a - n * b < 0 := by
  have e : (n : Rat) = Rat.divInt n 1 := by have := int_divs (b := 1) n (by decide); rwa [Int.mul_one] at this
  rw [e, divs_lt hb (by decide), Int.mul_one]
theorem int_lt_divs {a b n : Int} (hb : 0 < b) : (n : Rat) < Rat.divInt a b ↔ n * b - a < 0 := by
  have e : (n : Rat) = Rat.divInt n 1 := by have := int_divs (b := 1) n (by decide); rwa [Int.mul_one] at this
  rw [e, divs_lt (by decide) hb, Int.mul_one]
theorem absN (v : Int) : (if v < 0 then -v else v) = (v.natAbs : Int) := by split <;> omega
/-! ### the guards, passed -/
theorem qAdd_ok {x : Rat} {y : Num} (hx : fits x) (hy : fits y.val) : qAdd x y = .ok (x + y.val) := Res.guard_pos ⟨hx, hy⟩ _
theorem qSub_ok {x : Rat} {y : Num} (hx : fits x) (hy : fits y.val) : qSub x y = .ok (x - y.val) := Res.guard_pos ⟨hx, hy⟩ _
theorem qMul_ok {x : Rat} {y : Num} (hx : fits x) (hy : fits y.val) : qMul x y = .ok (x * y.val) := Res.guard_pos ⟨hx, hy⟩ _
theorem qRadd_ok {x : Rat} {y : Int} (hx : fits x) (hy : fits (y : Rat)) : qRadd x y = .ok ((y : Rat) + x) := Res.guard_pos ⟨hx, hy⟩ _
theorem qRsub_ok {x : Rat} {y : Int} (hx : fits x) (hy : fits (y : Rat)) : qRsub x y = .ok ((y : Rat) - x) := Res.guard_pos ⟨hx, hy⟩ _
theorem qRmul_ok {x : Rat} {y : Int} (hx : fits x) (hy : fits (y : Rat)) : qRmul x y = .ok ((y : Rat) * x) := Res.guard_pos ⟨hx, hy⟩ _
theorem qNeg_ok {x : Rat} (hx : fits x) : qNeg x = .ok (-x) := Res.guard_pos hx _
theorem qAbs_ok {x : Rat} (hx : fits x) : qAbs x = .ok (if x < 0 then -x else x) := Res.guard_pos hx _
theorem qLt_ok {x : Rat} {y : Num} (hx : fits x) (hy : fits y.val) : qLt x y = .ok (decide (x < y.val)) := Res.guard_pos ⟨hx, hy⟩ _
theorem qLe_ok {x : Rat} {y : Num} (hx : fits x) (hy : fits y.val) : qLe x y = .ok (decide (x ≤ y.val)) := Res.guard_pos ⟨hx, hy⟩ _
theorem qGt_ok {x : Rat} {y : Num} (hx : fits x) (hy : fits y.val) : qGt x y = .ok (decide (y.val < x)) := Res.guard_pos ⟨hx, hy⟩ _
theorem qGe_ok {x : Rat} {y : Num} (hx : fits x) (hy : fits y.val) : qGe x y = .ok (decide (y.val ≤ x)) := Res.guard_pos ⟨hx, hy⟩ _
theorem qOver_ok {x : Rat} {y : Num} (hx : fits x) (hy : fits y.val) (h : y.val ≠ 0) : qOver x y = .ok (x / y.val) := by unfold qOver; rw [Res.guard_pos ⟨hx, hy⟩, if_neg h]
theorem qOver_err {x : Rat} {y : Num} (hx : fits x) (hy : fits y.val) (h : y.val = 0) : qOver x y = .err eBF := by unfold qOver; rw [Res.guard_pos ⟨hx, hy⟩, if_pos h]
end L2.Tr

/-! in-place operators of an own class without in-place methods; abs and bool of an own class -/
namespace PySem.W
open PySem PySem.Calls PyProof.Rows
section
variable {prog : Program} {w : World} {A : Around} {E : Value → Shared → Prop} {s : Shared} {K : Frag} {x C dx L f : Addr} {h₀ : Heap} {m : Str → Option Value} {ox : Obj} {od : Option Obj} {nm : String}
def noIpl (K : Frag) (C : Addr) (nm : String) : Bool := match clsIn K C with
  | some cd => cd.mro.all fun c => He.eqO (findIn K c (dunderI nm)) (some none)
  | none => false
theorem tr_fillsNo {add : Bool} (X : K.In s.heap) (h : noIpl K C nm = true) : Looks (model prog w) s.heap (fillsInplaceSlot (.ref C) nm add) false := by
  unfold noIpl at h
  split at h
  · rename_i cd hc
    intro A Q E s' k q
    have Lm : Looks (model prog w) s.heap (mroOf (.ref C)) cd.mro := (looks_clsIn X hc).andThen (f := fun cd => pure cd.mro) .now
    unfold fillsInplaceSlot
    refine wpAny_bind ((Lm.keeps k).at ?_)
    have X' := X.keeps k
    generalize cd.mro = l at h
    clear Lm
    induction l with
    | nil => exact wpAny_pure q
    | cons c l ih =>
      rw [List.all_cons] at h
      obtain ⟨h1, h2⟩ := (Bool.and_eq_true _ _ ▸ h : _ ∧ _)
      rw [List.anyM_cons]
      refine wpAny_bind (wpAny_bind ((looks_findIn X' (He.eqO_ok h1)).at ?_))
      dsimp only
      refine wpAny_pure ?_
      simp only [Bool.false_eq_true, if_false]
      exact ih h2
  · cases h
theorem tr_bin1K {b : Value} {nm : String} {Q : Value → Shared → Prop} (X : K.In s.heap) (I : InstAt s.heap x ox C od) (hb : Looks (model prog w) s.heap (typeOf b) (.ref C)) (hc : selfFirst K C = true)
    (hs : findIn K (.ref C) (PySem.dunder nm) = some (some (.ref f))) (hf : isFn K (.ref f) = true)
    (h : wpAny (model prog w) A (call (.ref f) [.ref x, b]) (CmpBack Q) E s) : wpAny (model prog w) A (binaryOp1 nm (.ref x) b) (fun r s' => ∃ v, r = some v ∧ Q v s') E s := by
  obtain ⟨cd, rest, hcd, hm⟩ := ksp_first hc
  unfold binaryOp1
  refine wpAny_bind (I.type.here (wpAny_bind (hb.here (wpAny_bind ((fills_K X hcd hm hs).here ?_)))))
  simp only [beq_self_eq_true, if_true]
  refine wpAny_bind (wpAny_pure ?_)
  simp only [Bool.and_false, Bool.false_eq_true, if_false, Bool.false_and]
  refine wpAny_bind (wpAny_pure ?_)
  simp only [Bool.false_eq_true, if_false]
  refine wpAny_bind (m := tryMethod (.ref x) _ b) ?_
  unfold tryMethod
  refine wpAny_bind (special_fn X I hs (beq_iff_eq.mp hf) (wpAny_mono h (fun v s' hv => ?_) fun _ _ e => e))
  cases v <;> first | exact hv.elim | exact wpAny_pure (wpAny_pure ⟨_, rfl, hv⟩)
theorem tr_bin1T {T : String} {nm' : String} {b : Value} {fo ro rc : Option Value} {Q : Value → Shared → Prop} (X : K.In s.heap) (I : InstAt s.heap x ox C od) (hb : typeOf b = pure (.type T)) (hc : selfFirst K C = true)
    (hs : findIn K (.ref C) (PySem.dunder nm') = some (some (.ref f))) (hf : isFn K (.ref f) = true) (hr : findIn K (.ref C) (dunderR nm') = some rc) (hp : rc = none ∨ ∃ g : Addr, rc = some (.ref g))
    (h1 : findIn K (.type T) (PySem.dunder nm') = some fo) (h2 : findIn K (.type T) (dunderR nm') = some ro) (hsub : subIn K (.type T) (.ref C) = some false)
    (h : wpAny (model prog w) A (call (.ref f) [.ref x, b]) (CmpBack Q) E s) : wpAny (model prog w) A (binaryOp1 nm' (.ref x) b) (fun r s' => ∃ v, r = some v ∧ Q v s') E s := by
  obtain ⟨cd, rest, hcd, hm⟩ := ksp_first hc
  have one := ksp_try X I hs hf h
  obtain ⟨hh, g, d, tt, os⟩ := s
  have L1 : Looks (model prog w) hh (typeOf (.ref x)) (.ref C) := I.type
  have L2 : Looks (model prog w) hh (typeOf b) (.type T) := Looks.of_pure hb
  have L3 : Looks (model prog w) hh (fillsNumberSlot (.ref C) nm') true := fills_K X hcd hm hs
  have L4 : Looks (model prog w) hh (fillsNumberSlot (.type T) nm') ((fo.isSome && !isSeqSlot fo) || (ro.isSome && !isSeqSlot ro)) := ksp_fillsT X h1 h2
  have L5 : Looks (model prog w) hh (isSubtype (.type T) (.ref C)) false := looks_subIn X hsub
  have L6 : Looks (model prog w) hh (numberSlotInPython (.ref C) nm') true := ksp_inPy X hs hr hp
  have L7 : Looks (model prog w) hh (numberSlotInPython (.type T) nm') false := Looks.of_pure rfl
  have L8 : Looks (model prog w) hh (typeLookup (.type T) (dunderR nm')) ro := looks_findIn X h2
  generalize ((fo.isSome && !isSeqSlot fo) || (ro.isSome && !isSeqSlot ro)) = right at L4
  have hne : (Value.ref C == Value.type T) = false := Bool.eq_false_iff.mpr fun q => by cases beq_iff_eq.mp q
  unfold binaryOp1
  refine wpAny_bind (L1.at (wpAny_bind (L2.at (wpAny_bind (L3.at ?_)))))
  simp only [hne, Bool.false_eq_true, if_false]
  cases right with
  | false =>
    ksp_lk
    refine wpAny_mono one (fun r s' hr' => ?_) fun _ _ e => e
    obtain ⟨v, rfl, hq⟩ := hr'
    ksp_lk
    exact ⟨_, rfl, hq⟩
  | true =>
    ksp_lk
    refine wpAny_mono one (fun r s' hr' => ?_) fun _ _ e => e
    obtain ⟨v, rfl, hq⟩ := hr'
    ksp_lk
    exact ⟨_, rfl, hq⟩
theorem tr_ipl {op : Operator} {b : Value} {Q : Value → Shared → Prop} (X : K.In s.heap) (I : InstAt s.heap x ox C od) (hn : noIpl K C op.info.2 = true)
    (h : wpAny (model prog w) A (binaryOp1 op.info.2 (.ref x) b) (fun r s' => ∃ v, r = some v ∧ Q v s') E s) : wpAny (model prog w) A (inplaceOp op (.ref x) b) Q E s := by
  have L2 : Looks (model prog w) s.heap (fillsInplaceSlot (.ref C) op.info.2 (op == .Add)) false := tr_fillsNo X hn
  unfold inplaceOp
  refine wpAny_holding (wpAny_bind (I.type.here (wpAny_bind (L2.here ?_))))
  simp only [Bool.false_eq_true, if_false]
  refine wpAny_bind (m := binaryOp1 _ _ _) (wpAny_mono h (fun r s' z => ?_) fun _ _ e => e)
  obtain ⟨v, rfl, hq⟩ := z
  exact wpAny_pure hq
theorem tr_abs {Q : Value → Shared → Prop} (X : K.In s.heap) (I : InstAt s.heap x ox C od) (hs : findIn K (.ref C) "__abs__" = some (some (.ref f))) (hf : isFn K (.ref f) = true)
    (h : wpAny (model prog w) A.in1 (call (.ref f) [.ref x]) Q E s) : wpAny (model prog w) A (call (.builtin "abs") [.ref x]) Q E s := by
  refine call_function_entry kind_abs plain_abs entry_abs (args_abs _) ?_
  unfold Builtin.«abs»
  refine wpAny_bind (m := oneArg "abs" _) (wpAny_pure ?_)
  refine wpAny_bind (m := callSpecial? (.ref x) (Str.ofString "__abs__")) (special_fn X I hs (beq_iff_eq.mp hf) (wpAny_mono h (fun r s' hr => ?_) fun _ _ y => y))
  exact wpAny_pure ⟨_, rfl, hr⟩
theorem meets_bool_own (prog : Program) (w : World) (x : Addr) : MeetsIn prog w (Builtin.«bool.__new__» ⟨[.type "bool", .ref x], []⟩) (fun A R s => wpAny (model prog w) A.in1 (truthy (.ref x)) (fun b s' => R (.ok (.ret (.bool b))) s') (fun e s' => R (.error e) s') s) := fun A R s hs => by
  unfold Builtin.«bool.__new__»
  dsimp only
  refine wpAny_bind (m := isType (.type "bool")) (wpAny_pure ?_)
  simp only [Bool.not_true, Bool.false_eq_true, if_false]
  rw [F.conv_sub_bool]
  refine wpAny_bind (wpAny_pure ?_)
  simp only [Bool.not_true, Bool.false_eq_true, if_false]
  refine wpAny_bind (m := someArgs "bool" 0 1 _) (wpAny_pure ?_)
  refine wpAny_bind (m := truthy (.ref x)) (wpAny_mono hs (fun b s' h => wpAny_pure h) fun _ _ h => h)
theorem tr_bool {Q : Value → Shared → Prop} (X : K.In s.heap) (I : InstAt s.heap x ox C od) (hs : findIn K (.ref C) "__bool__" = some (some (.ref f))) (hf : isFn K (.ref f) = true)
    (h : wpAny (model prog w) A.in1.in1 (call (.ref f) [.ref x]) (fun r s' => ∃ b, r = .bool b ∧ Q (.bool b) s') E s) : wpAny (model prog w) A (call (.type "bool") [.ref x]) Q E s := by
  refine callType_newIn PySem.F.called_bool PySem.F.newNe_bool (PySem.F.typeCall_bool_1 _) (PySem.F.newCall_bool_1 _) (fun obj => PySem.F.args_object_init_2 obj _) PySem.F.entry_bool_new (meets_bool_own prog w x) ?_
  unfold truthy
  refine wpAny_bind (m := callSpecial? (.ref x) (Str.ofString "__bool__")) (special_fn X I hs (beq_iff_eq.mp hf) (wpAny_mono h (fun r s' hr => ?_) fun _ _ y => y))
  obtain ⟨b, rfl, q⟩ := hr
  exact wpAny_pure ⟨rfl, q⟩
theorem tr_truthy {Q : Bool → Shared → Prop} (X : K.In s.heap) (I : InstAt s.heap x ox C od) (hs : findIn K (.ref C) "__bool__" = some (some (.ref f))) (hf : isFn K (.ref f) = true)
    (h : wpAny (model prog w) A (call (.ref f) [.ref x]) (fun r s' => ∃ b, r = .bool b ∧ Q b s') E s) : wpAny (model prog w) A (truthy (.ref x)) Q E s := by
  unfold truthy
  refine wpAny_bind (m := callSpecial? (.ref x) (Str.ofString "__bool__")) (special_fn X I hs (beq_iff_eq.mp hf) (wpAny_mono h (fun r s' hr => ?_) fun _ _ y => y))
  obtain ⟨b, rfl, q⟩ := hr
  exact wpAny_pure q
end
end PySem.W
namespace L2.Tr
open PySem PySem.Spec PyProof.Rows He
section
variable {α β γ δ S : Type} {X : Cx} {I0 H0 : Hp} {W : WX} {Kx : KnowsX} {ctx : List (Option SF)} {mem : List MF} {e a b c o : Expr} {es bs : List Expr} {pos pos' : Pos} {n : Str} {ra : Ra α} {rb : Ra β} {rc : Ra γ} {ma : Res α} {mb : Res β}
def fNoIpl (x : Str) (nm : String) : FB := fun K => PySem.W.noIpl K (ga K x) nm
theorem noIpl_of {K : PySem.W.Frag} {x : Str} {nm : String} (c : fNoIpl x nm K = true) : PySem.W.noIpl K (ga K x) nm = true := c
/-- x op= y, both of the class -/
theorem opi_own {op : Operator} {C f : Addr} {g : α × β × Unit → Res γ} (hc : OCls X.K C) (hn : PySem.W.noIpl X.K C op.info.2 = true) (hm : OMet X.K C (PySem.dunder op.info.2) f) (ia : InsR C ra) (ib : InsR C rb) (cj : CallJ X W (.ref f) (R2' ra rb) g rc) :
    OpJ X W (inplaceOp op) ra rb (fun x y => g (x, y, ())) rc := fun I H σ Q u v x y s a b p pins sh uu vv Iv ru rv => by
  obtain ⟨au, dx, fs, rfl, hu⟩ := ia I H u x s a
  obtain ⟨av, dy, gs, rfl, hv⟩ := ib I H v y s b
  cases (show uu = Value.ref au from ru)
  cases (show vv = Value.ref av from rv)
  obtain ⟨od, J⟩ := insAt Iv hu
  obtain ⟨od', J'⟩ := insAt Iv hv
  exact PySem.W.tr_ipl Iv.kIn J hn (PySem.W.tr_bin1K Iv.kIn J J'.type hc.sf hm.at_ hm.fn (back_W (cj I H σ Q [.ref au, .ref av] (x, y, ()) s ⟨_, _, rfl, a, _, _, rfl, b, rfl⟩ p) Iv (.cons rfl (.cons rfl .nil))))
theorem opi_ownI {op : Operator} {C f f' : Addr} {g : α × Int × Unit → Res γ} {fo ro : Option Value} (hc : OCls X.K C) (hn : PySem.W.noIpl X.K C op.info.2 = true) (hm : OMet X.K C (PySem.dunder op.info.2) f) (hr : OMet X.K C (dunderR op.info.2) f') (h1 : PySem.W.findIn X.K (.type "int") (PySem.dunder op.info.2) = some fo) (h2 : PySem.W.findIn X.K (.type "int") (dunderR op.info.2) = some ro)
    (ia : InsR C ra) (cj : CallJ X W (.ref f) (R2' ra (rp rInt)) g rc) : OpJ X W (inplaceOp op) ra (rp rInt) (fun x y => g (x, y, ())) rc := fun I H σ Q u v x y s a b p pins sh uu vv Iv ru rv => by
  obtain ⟨au, dx, fs, rfl, hu⟩ := ia I H u x s a
  cases (show uu = Value.ref au from ru)
  cases (show v = V.int y from b)
  obtain ⟨t, e⟩ := (show ∃ t, vv = Value.int y t from rv)
  cases e
  obtain ⟨od, J⟩ := insAt Iv hu
  exact PySem.W.tr_ipl Iv.kIn J hn (PySem.W.tr_bin1T (T := "int") Iv.kIn J rfl hc.sf hm.at_ hm.fn hr.at_ (.inr ⟨_, rfl⟩) h1 h2 hc.in_ (back_W (cj I H σ Q [.ref au, .int y] (x, y, ()) s ⟨_, _, rfl, a, _, _, rfl, rfl, rfl⟩ p) Iv (.cons rfl (.cons ⟨_, rfl⟩ .nil))))
variable {f f' : Addr} {k k' : Nat} {g : Rat × Num × Unit → Res γ} {g' : Rat × Int × Unit → Res γ}
theorem opi_qq {op : Operator} (hn : PySem.W.noIpl X.K (He.ga X.K "Fraction") op.info.2 = true) (hc : OCls X.K (He.ga X.K "Fraction")) (hm : OMet X.K (He.ga X.K "Fraction") (PySem.dunder op.info.2) f) (F : FnR X.prog X.w X.K X.mg X.base (L2.CX X.prog X.w) k f (spF X.K (R2' (rp (rFrac X.K)) (rp (rNum X.K))) g rc)) (hr : Room k X.A) (tk : Takes X W) :
    OpJ X W (inplaceOp op) (rp (rFrac X.K)) (rp (rFrac X.K)) (fun x y => g (x, .q y, ())) rc := opi_own (g := fun d => g (d.1, .q d.2.1, ())) hc hn hm insF insF ((cj_of F hr tk).co fun I H vs d _ h => h)
theorem opi_qi {op : Operator} {fo ro : Option Value} (hn : PySem.W.noIpl X.K (He.ga X.K "Fraction") op.info.2 = true) (hc : OCls X.K (He.ga X.K "Fraction")) (hm : OMet X.K (He.ga X.K "Fraction") (PySem.dunder op.info.2) f) (hm' : OMet X.K (He.ga X.K "Fraction") (dunderR op.info.2) f') (h1 : PySem.W.findIn X.K (.type "int") (PySem.dunder op.info.2) = some fo) (h2 : PySem.W.findIn X.K (.type "int") (dunderR op.info.2) = some ro)
    (F : FnR X.prog X.w X.K X.mg X.base (L2.CX X.prog X.w) k f (spF X.K (R2' (rp (rFrac X.K)) (rp (rNum X.K))) g rc)) (hr : Room k X.A) (tk : Takes X W) :
    OpJ X W (inplaceOp op) (rp (rFrac X.K)) (rp rInt) (fun x y => g (x, .i y, ())) rc := opi_ownI (g := fun d => g (d.1, .i d.2.1, ())) hc hn hm hm' h1 h2 insF ((cj_of F hr tk).co fun I H vs d _ h => h)
theorem opi_add : OpJ X W (inplaceOp .Add) (rp rInt) (rp rInt) (fun x y => .ok (x + y)) (rp rInt) := fun I H σ Q u v x y s a b p => OpR.w iop_add ⟨x, y, a, b, p I H _ (Fm.refl s) rfl⟩
theorem opi_sub : OpJ X W (inplaceOp .Sub) (rp rInt) (rp rInt) (fun x y => .ok (x - y)) (rp rInt) := fun I H σ Q u v x y s a b p => OpR.w iop_sub ⟨x, y, a, b, p I H _ (Fm.refl s) rfl⟩
/-- x op= e, x a local name -/
theorem J1.aug (i : Nat) {op : Operator} {r1 : Rp α} {r2 : Rp β} {r3 : Rp γ} [mo1 : Mo r1] [Mo r3] {mo : Mo r1} {m : Res β} {x : α} {h : α → β → Res γ} (j : JE X I0 H0 W ctx mem e m (rp r2)) (op_ : OpJ X W (inplaceOp op) (rp r1) (rp r2) h (rp r3)) (hx : ∀ I H σ d, Stt I0 H0 ctx mem I H σ → Fr H0 d → Kx I H σ d) (hN : X.N.Nodup)
    (hc : ctx[i]? = some (some (@SF.mk α r1 mo x)) := by rfl) (hi : X.N[i]? = some n := by rfl) (hl : Loc X.env.scope n := by first | exact Or.inl rfl | exact Or.inr rfl)
    (hf : X.fn n = true ∨ X.env.scope.names.lookup n = some .local := by first | exact .inl rfl | exact .inr rfl | assumption) : J1 X W Kx (Stt I0 H0 ctx mem) (.AugAssign (.Name n pos') op e pos) (m.bind fun y => h x y) (fun z => Stt I0 H0 (ctx.set i (some ⟨r3, z⟩)) mem) := fun I H σ D g p => by
  obtain ⟨v, e1, rv⟩ := g.sl i _ hc
  intro pins sh Iv
  obtain ⟨m', hn, hl'⟩ := Iv.loc
  have vis : Vis X.env.scope n := by rcases hl with k | k; exact .inl k; exact .inr (.inl k)
  obtain ⟨u, r, l⟩ := hl' i n v hi e1 vis
  refine wpAny_AugAssign_Name ?_
  have go : wpAny (model X.prog X.w) X.A (eval e X.env) (fun w s₂ => wpAny (model X.prog X.w) X.A (inplaceOp op u w) (fun r s₃ => wpAny (model X.prog X.w) X.A (storeName X.env n r) (fun _ => SP X pins D .next) X.xe s₃) X.xe s₂) X.xe sh := by
    refine thn (j I H σ (fun y H1 => opW X (inplaceOp op) σ v y H1 fun z H2 => D.nx (σ.set i (some z)) H2) g ?_ pins sh Iv) fun w s1 ⟨y, H1, I1, r1, q1⟩ => ?_
    · cases m with
      | ok y =>
        intro I1 H1 vy f1 ry
        refine op_ I1 H1 σ _ v vy x y f1.ih (mo1.up f1.i rv) ry ?_
        revert p
        show PostB X W Kx I (h x y) _ D → _
        generalize h x y = z
        intro p
        cases z with
        | ok z => exact fun I2 H2 vz f2 rz => p I2 H2 _ (f1.i.trans f2.i) (((g.step f1).step f2).set i rz)
        | err e => exact fun I' H' c d f x => p I' H' σ c d (hx _ _ _ _ ((g.step f1).step f) (x.1.back (g.step f1).fm.h)) x.2
        | stuck => exact p
      | err e => exact fun I' H' c d f x => p I' H' σ c d (hx _ _ _ _ (g.step f) (x.1.back g.fm.h)) x.2
      | stuck => exact p
    refine thn (q1 pins s1 u w I1 r r1) fun z s2 ⟨zv, H2, I2, r2, q2⟩ => ?_
    exact store_ok I2 hN hi hl r2 (fun s3 I3 => ⟨_, H2, I3, q2⟩) hf
  rcases l with ⟨hk, hm⟩ | ⟨hk, c, hc', hcell⟩
  · exact wpAny_loadName_local Iv.ok.kind hk hn hm go
  · rcases hk with hk | hk
    · exact wpAny_loadName_cell Iv.ok.kind hk hc' hcell go
    · rcases hl with k | k
      · have : X.env.scope.names.lookup n = some .free := hk
        rw [k] at this; cases this
      · have : X.env.scope.names.lookup n = some .free := hk
        rw [k] at this; cases this
/-- abs(x), x of an own class -/
theorem cj_absO {k : Nat} {C f : Addr} {g : α × Unit → Res γ} (hm : OMet X.K C "__abs__" f) (ia : InsR C ra) (hr : Room (k + 1) X.A) (tk : Takes X W) (F : FnR X.prog X.w X.K X.mg X.base (L2.CX X.prog X.w) k f (spF X.K (R1 ra) g rc)) : CallJ X W (.builtin "abs") (R1 ra) g rc := fun I H σ Q vs x s h p pins sh us Iv r => by
  obtain ⟨v, ws, rfl, h1, rfl⟩ := h
  obtain ⟨au, dx, fs, rfl, hu⟩ := ia I H v x.1 s h1
  obtain rfl := Vals.ref1 r
  obtain ⟨od, J⟩ := insAt Iv hu
  exact PySem.W.tr_abs Iv.kIn J hm.at_ hm.fn (run_W1 (vs := [.ref au]) F hr tk ⟨I, x, s, ⟨_, _, rfl, h1, rfl⟩, p⟩ Iv r)
theorem run_W2 {k : Nat} {f : Addr} {sp : Sp} {vs : List V} {H : Hp} {σ : St} {Q : VK} (F : FnR X.prog X.w X.K X.mg X.base (L2.CX X.prog X.w) k f sp) (hr : Room (k + 2) X.A) (tk : Takes X W) (h : sp vs H Q fun cls d H' => W cls d σ H') {pins : List (Addr × Obj)} {s : Shared} {us : List Value} (I : Inv X pins σ H s) (r : Vals vs us) :
    wpAny (model X.prog X.w) X.A.in1.in1 (call (.ref f) us) (EP X pins σ Q) X.xe s := by
  refine wpAny_call (codeAny_mono (F X.A.in1.in1 X.stack s H us vs Q _ (Room.in1 (k := k) (Room.in1 (k := k + 1) hr)) I.env0.in1.in1 r h) fun r s' hq => ?_)
  cases r with
  | error e => exact passAt tk σ pins H s e s' I hq
  | ok fl =>
    cases fl with
    | ret u => exact I.after hq
    | next => exact False.elim hq
    | brk => exact False.elim hq
    | cont => exact False.elim hq
theorem cj_boolO {k : Nat} {C f : Addr} {g : α × Unit → Res Bool} (hm : OMet X.K C "__bool__" f) (ia : InsR C ra) (hr : Room (k + 2) X.A) (tk : Takes X W) (F : FnR X.prog X.w X.K X.mg X.base (L2.CX X.prog X.w) k f (spF X.K (R1 ra) g (rp rBl))) : CallJ X W (.type "bool") (R1 ra) g (rp rBl) := fun I H σ Q vs x s h p pins sh us Iv r => by
  obtain ⟨v, ws, rfl, h1, rfl⟩ := h
  obtain ⟨au, dx, fs, rfl, hu⟩ := ia I H v x.1 s h1
  obtain rfl := Vals.ref1 r
  obtain ⟨od, J⟩ := insAt Iv hu
  refine PySem.W.tr_bool Iv.kIn J hm.at_ hm.fn (thn (run_W2 (vs := [.ref au]) (Q := fun z H' => (∃ b, z = .bl b) ∧ Q z H') F hr tk ⟨I, x, s, ⟨_, _, rfl, h1, rfl⟩, ?_⟩ Iv r) fun w s' ⟨z, H', I', rz, ⟨b, ez⟩, q⟩ => ?_)
  · revert p
    generalize g x = z
    intro p
    cases z with
    | ok y => exact fun I' H' v f r => ⟨⟨y, r⟩, p I' H' v f r⟩
    | err e => exact p
    | stuck => exact p
  · subst ez
    cases (show w = Value.bool b from rz)
    exact ⟨b, rfl, .bl b, H', I', rfl, q⟩
/-- if x:, x of an own class with __bool__ -/
theorem unused_ : True := trivial
end
end L2.Tr

namespace L2.Tr
open PySem PySem.Spec PyProof.Rows
section
variable {K : PySem.W.Frag} {x qual : Str} {params : Arguments} {body : List Stmt} {scope : Scope} {kws : List (Str × V)} {f : Addr} {fd : FuncData} {ps : List Str}
/-- keywords at a def without defaults -/
theorem kbindsN (F : FunD K x qual params body scope [] kws f fd) (n : Nat) (ks : List Str) (g : {α : Type} → List α → List α → List α) (hrel : ∀ {vs zs : List V} {us ws : List Value}, Vals vs us → Vals zs ws → Vals (g vs zs) (g us ws))
    (h : ∀ (kV doc pm : Value) (an : Option Addr) (cdv ct : Value) (us ws : List Value), us.length = n → ws.length = ks.length → bindArgs (PySem.W.fnOf x qual params body scope .none kV doc pm an cdv ct) ⟨us, ks.zip ws⟩ = pure (ps.zip (g us ws))) : KBn K fd ps n ks g g := by
  obtain ⟨oc, od, dV, kV, doc, pm, an, cdv, ct, osl, rfl, lk, hcd, hD, hK⟩ := F.ex
  rcases hD with ⟨_, rfl⟩ | ⟨e, _⟩
  · exact ⟨fun s us ws _ l1 l2 => .of_eq (h kV doc pm an cdv ct us ws l1 l2), hrel⟩
  · exact absurd rfl e
end
section
variable {α β γ δ ε : Type} {X : Cx} {I0 H0 : Hp} {W : WX} {ctx : List (Option SF)} {mem : List MF} {e a b c o : Expr} {es bs : List Expr} {kws : List Keyword} {pos pos' kpos : Pos} {n x : Str} {nm : Option Str} {ra : Ra α} {rb : Ra β} {rc : Ra γ} {ma : Res α} {mb : Res β}
variable {R : Hp → Hp → List V → δ → Prop} {R' : Hp → Hp → List V → ε → Prop} {md : Res δ} {me : Res ε} {g : δ → ε → Res γ} {ks : List Str}
theorem cjk_fn {k n : Nat} {f : Addr} {fd : FuncData} {ps : List Str} {gg : List Value → List Value → List Value} {gV : List V → List V → List V} {η : Type} {Ri : Hp → Hp → List V → η → Prop} {m : η → Res γ} {h : δ → ε → η} (F : FnOk X.prog X.w X.K X.mg X.base (L2.CX X.prog X.w) k f fd ps (spF X.K Ri m rc)) (hr : Room k X.A)
    (hb : KBn X.K fd ps n ks gg gV) (tk : Takes X W) (hR : ∀ I H vs zs x y, R I H vs x → R' I H zs y → vs.length = n ∧ zs.length = ks.length ∧ Ri I H (gV vs zs) (h x y)) : CallKJ X W (.ref f) ks R R' (fun x y => m (h x y)) rc := fun I H σ Q vs zs x y sm r r' p pins s us ws Iv rv rz => by
  obtain ⟨l1, l2, hRi⟩ := hR I H vs zs x y r r'
  refine wpAny_call (codeAny_mono (F.run X.A X.stack s H ⟨us, ks.zip ws⟩ (gg us ws) (gV vs zs) Q _ hr Iv.env0 (hb.to s us ws Iv.kIn (rv.length.symm.trans l1) (rz.length.symm.trans l2)) (hb.rel rv rz) ⟨I, h x y, sm, hRi, p⟩) fun r s' hq => ?_)
  cases r with
  | error e => exact passAt tk σ pins H s e s' Iv hq
  | ok fl =>
    cases fl with
    | ret u => exact Iv.after hq
    | next => exact False.elim hq
    | brk => exact False.elim hq
    | cont => exact False.elim hq
/-- o.m(k = v, ..) -/
theorem JE.methK0 {pl : Sem Bool} {m : Str} {C f : Addr} {apos : Pos} {g : α × Unit → ε → Res γ} [MoA ra] (j : JE X I0 H0 W ctx mem o ma ra) (hi : InsOf C ra m) (jk : JK X I0 H0 W ctx mem kws me R') (cj : CallKJ X W (.ref f) ks (aCons ra aNil) R' g rc) (c : Cls X.K C) (hm : Meth X.K C m f)
    (hall : (backToKw pos (keywordEach kws X.env)).all (·.1.isSome) = true := by rfl) (hks : (backToKw pos (keywordEach kws X.env)).filterMap (·.1) = ks := by rfl)
    (hpl : ((backTo pos (starEach [] X.env)).any (·.1) || (backToKw pos (keywordEach kws X.env)).any (·.1.isNone)) = false := by rfl)
    (ht : eval (.Call (.Attribute o m apos) [] kws pos) X.env = (do
      let ov ← eval o X.env
      standAt apos.atName
      let (f, first) ← holding [ov] (getMethod ov m pl)
      callWith pos f first (backTo pos (starEach [] X.env)) (backToKw pos (keywordEach kws X.env))) := by rfl) : JE X I0 H0 W ctx mem (.Call (.Attribute o m apos) [] kws pos) (ma.bind fun x => me.bind fun y => g (x, ()) y) rc := fun I H σ Q st p pins s Iv => by
  refine PySem.W.methodCall_KW (pl := pl) (thn (j I H σ (fun v H1 => ∃ a dx fs, v = .ref a ∧ H1 a = some (.ins C dx fs) ∧ fs.lookup m = none ∧ ∀ pins s1, Inv X pins σ H1 s1 → wpAny (model X.prog X.w) X.A (evalAll ((backToKw pos (keywordEach kws X.env)).map (·.2))) (fun ws s2 => X.K.In s2.heap ∧ wpAny (model X.prog X.w) X.A (PySem.call (.ref f) ([.ref a] ++ []) (ks.zip ws)) (EP X pins σ Q) X.xe s2) X.xe s1) st ?_ pins s Iv) fun u s1 ⟨v, H1, I1, rx, a, dx, fs, ex, ea, l, q⟩ => ?_) ht
  · cases ma with
    | ok x =>
      intro I1 H1 v f1 r1
      obtain ⟨a, dx, fs, ev, ha, hl⟩ := hi I1 H1 v x f1.ih r1
      have p1 := PostE.up p f1
      refine ⟨a, dx, fs, ev, ha, hl, fun pins s1 Iv1 => ?_⟩
      refine thn (jk pos I1 H1 σ (fun zs H2 => callKW X (.ref f) ks σ [v] zs H2 Q) (st.step f1) ?_ pins s1 Iv1) fun ws s2 ⟨zs, H2, I2, r2, q2⟩ => ⟨I2.kIn, q2 pins s2 [.ref a] ws I2 (by rw [ev]; exact .cons rfl .nil) r2⟩
      cases me with
      | ok y => exact fun I2 H2 zs f2 r2 => cj I2 H2 σ Q [v] zs (x, ()) y f2.ih ⟨v, [], rfl, MoA.up f2.i f2.h r1, rfl⟩ r2 (PostE.up p1 f2)
      | err e => exact p1
      | stuck => exact p1
    | err e => exact p
    | stuck => exact p
  · subst ex
    obtain rfl : u = Value.ref a := rx
    refine getmeth_ok I1 ea c hm l ?_
    refine PySem.W.callWith_KW0 (h₀ := X.base) (first := [.ref a]) I1.ok.mod.kin hm.kp hall ?_ hpl
    rw [hks]
    exact q pins s1 I1
end
end L2.Tr
namespace L2.Tr
open PySem PySem.Spec PyProof.Rows
/-! ### contexts written out -/
section
variable {γ S L : Type} {X : Cx} {I0 H0 : Hp} {W : WX} {Kx : KnowsX} {G : Knows} {st : Stmt} {ss : List Stmt} {mem : List MF} {rr : Ra γ}
theorem J1.cx {m : Res S} {c c' : S → List (Option SF)} {me : S → List MF} (j : J1 X W Kx G st m (fun s => Stt I0 H0 (c s) (me s))) (h : ∀ s, c s = c' s := by intro _; rfl) : J1 X W Kx G st m (fun s => Stt I0 H0 (c' s) (me s)) := by
  have e : c = c' := funext h
  rw [← e]; exact j
theorem JN.at {m : Res S} {G' : S → Knows} {c c' : List (Option SF)} (j : JN X W Kx (Stt I0 H0 c' mem) ss m G') (h : c = c' := by rfl) : JN X W Kx (Stt I0 H0 c mem) ss m G' := by
  rw [h]; exact j
theorem JG.at {m : Res (Fl S L γ)} {G' : S → Knows} {GL : L → Knows} {c c' : List (Option SF)} (j : JG X I0 H0 W Kx (Stt I0 H0 c' mem) ss m G' GL rr) (h : c = c' := by rfl) : JG X I0 H0 W Kx (Stt I0 H0 c mem) ss m G' GL rr := by
  rw [h]; exact j
theorem JR.at {m : Res γ} {c c' : List (Option SF)} (j : JR X I0 H0 W Kx (Stt I0 H0 c' mem) ss m rr) (h : c = c' := by rfl) : JR X I0 H0 W Kx (Stt I0 H0 c mem) ss m rr := by
  rw [h]; exact j
end
end L2.Tr

namespace L2.Tr
open PySem PySem.Spec PyProof.Rows
/-! ### sizes by instances -/
class Bd (x : Int) (s : outParam Nat) : Prop where
  le : x.natAbs ≤ 2 ^ s
class NZ (x : Int) : Prop where
  ne : x ≠ 0
class SzC (q : Rat) (s : outParam Nat) : Prop where
  sz : Sz s q
instance {x y : Int} {s t : Nat} [h : Bd x s] [k : Bd y t] : Bd (x * y) (s + t) := ⟨by rw [Int.natAbs_mul]; exact pow2_mul h.le k.le⟩
theorem pow_add1 (s t : Nat) : 2 ^ s + 2 ^ t ≤ 2 ^ (s + t + 1) := by
  have a := Nat.pow_le_pow_right (show 0 < 2 by decide) (show s ≤ s + t by omega)
  have b := Nat.pow_le_pow_right (show 0 < 2 by decide) (show t ≤ s + t by omega)
  rw [Nat.pow_succ]; omega
instance {x y : Int} {s t : Nat} [h : Bd x s] [k : Bd y t] : Bd (x + y) (s + t + 1) := ⟨by
  have := Int.natAbs_add_le x y; have := h.le; have := k.le; have := pow_add1 s t; omega⟩
instance {x y : Int} {s t : Nat} [h : Bd x s] [k : Bd y t] : Bd (x - y) (s + t + 1) := ⟨by
  have := Int.natAbs_sub_le x y; have := h.le; have := k.le; have := pow_add1 s t; omega⟩
instance {x : Int} {s : Nat} [h : Bd x s] : Bd (-x) s := ⟨by rw [Int.natAbs_neg]; exact h.le⟩
instance {x : Int} {s : Nat} [h : Bd x s] : Bd (x.natAbs : Int) s := ⟨by rw [Int.natAbs_natCast]; exact h.le⟩
instance : Bd 0 0 := ⟨by decide⟩
instance : Bd 1 0 := ⟨by decide⟩
instance {x y : Int} [h : NZ x] [k : NZ y] : NZ (x * y) := ⟨Int.mul_ne_zero h.ne k.ne⟩
instance {x : Int} [h : NZ x] : NZ (-x) := ⟨Int.neg_ne_zero.mpr h.ne⟩
instance {x y : Rat} {s t : Nat} [h : SzC x s] [k : SzC y t] : SzC (x + y) (s + t + 1) := ⟨h.sz.add k.sz⟩
instance {x y : Rat} {s t : Nat} [h : SzC x s] [k : SzC y t] : SzC (x - y) (s + t + 1) := ⟨h.sz.sub k.sz⟩
instance {x y : Rat} {s t : Nat} [h : SzC x s] [k : SzC y t] : SzC (x * y) (s + t) := ⟨h.sz.mul k.sz⟩
instance {x y : Rat} {s t : Nat} [h : SzC x s] [k : SzC y t] : SzC (x / y) (s + t) := ⟨h.sz.div k.sz⟩
instance {x : Rat} {s : Nat} [h : SzC x s] : SzC (-x) s := ⟨h.sz.neg⟩
instance {n : Int} {s : Nat} [h : Bd n s] : SzC (n : Rat) s := ⟨sz_int h.le⟩
instance {n : Int} {m : Int} {s t : Nat} [h : Bd n s] [k : Bd m t] : SzC (Rat.divInt n m) (s + t) := ⟨sz_divInt (Nat.le_trans h.le (Nat.pow_le_pow_right (by decide) (by omega))) (Nat.le_trans k.le (Nat.pow_le_pow_right (by decide) (by omega)))⟩
instance : SzC 0 0 := ⟨⟨by decide, by decide⟩⟩
instance : SzC 1 0 := ⟨⟨by decide, by decide⟩⟩
theorem Bd.big {x : Int} {s : Nat} (b : Bd x s) (h : s ≤ 4000) : x.natAbs ≤ big := Nat.le_trans b.le (Nat.pow_le_pow_right (by decide) h)
theorem mulI_bd {x y : Int} {s t : Nat} [h : Bd x s] [k : Bd y t] (hs : s ≤ 4000) (ht : t ≤ 4000) : mulI x y = .ok (x * y) := mul_fit (h.big hs) (k.big ht)
theorem qMk_bd {x y : Int} {t : Nat} [k : Bd y t] [z : NZ y] (ht : t ≤ 4000) : qMk x y = .ok (Rat.divInt x y) := qMk_ok z.ne (by have := log_big (k.big ht); omega)
theorem fdivI_bd {x y : Int} {t : Nat} [k : Bd y t] [z : NZ y] (ht : t ≤ 4000) : fdivI x y = .ok (x.fdiv y) := fdivI_ok z.ne (by have := log_big (k.big ht); omega)
section
variable {x y : Rat} {n : Int} {s t : Nat} [h : SzC x s]
theorem qAdd_q [k : SzC y t] (hs : s ≤ 4000) (ht : t ≤ 4000) : qAdd x (.q y) = .ok (x + y) := qAdd_ok (h.sz.fits hs) (show fits y from k.sz.fits ht)
theorem qAdd_i [k : Bd n t] (hs : s ≤ 4000) (ht : t ≤ 4000) : qAdd x (.i n) = .ok (x + (n : Rat)) := qAdd_ok (h.sz.fits hs) (show fits (n : Rat) from (sz_int k.le).fits ht)
theorem qSub_q [k : SzC y t] (hs : s ≤ 4000) (ht : t ≤ 4000) : qSub x (.q y) = .ok (x - y) := qSub_ok (h.sz.fits hs) (show fits y from k.sz.fits ht)
theorem qSub_i [k : Bd n t] (hs : s ≤ 4000) (ht : t ≤ 4000) : qSub x (.i n) = .ok (x - (n : Rat)) := qSub_ok (h.sz.fits hs) (show fits (n : Rat) from (sz_int k.le).fits ht)
theorem qMul_q [k : SzC y t] (hs : s ≤ 4000) (ht : t ≤ 4000) : qMul x (.q y) = .ok (x * y) := qMul_ok (h.sz.fits hs) (show fits y from k.sz.fits ht)
theorem qMul_i [k : Bd n t] (hs : s ≤ 4000) (ht : t ≤ 4000) : qMul x (.i n) = .ok (x * (n : Rat)) := qMul_ok (h.sz.fits hs) (show fits (n : Rat) from (sz_int k.le).fits ht)
theorem qRadd_b [k : Bd n t] (hs : s ≤ 4000) (ht : t ≤ 4000) : qRadd x n = .ok ((n : Rat) + x) := qRadd_ok (h.sz.fits hs) ((sz_int k.le).fits ht)
theorem qRsub_b [k : Bd n t] (hs : s ≤ 4000) (ht : t ≤ 4000) : qRsub x n = .ok ((n : Rat) - x) := qRsub_ok (h.sz.fits hs) ((sz_int k.le).fits ht)
theorem qRmul_b [k : Bd n t] (hs : s ≤ 4000) (ht : t ≤ 4000) : qRmul x n = .ok ((n : Rat) * x) := qRmul_ok (h.sz.fits hs) ((sz_int k.le).fits ht)
theorem qNeg_b (hs : s ≤ 4000) : qNeg x = .ok (-x) := qNeg_ok (h.sz.fits hs)
theorem qAbs_b (hs : s ≤ 4000) : qAbs x = .ok (if x < 0 then -x else x) := qAbs_ok (h.sz.fits hs)
end
theorem divInt_neg2 (t b : Int) : Rat.divInt (-t) (-b) = Rat.divInt t b := Rat.neg_divInt_neg t b
/-! ### divInt as a quotient -/
theorem nz_cast {b : Int} (h : b ≠ 0) : (b : Rat) ≠ 0 := fun e => h (Rat.intCast_eq_zero_iff.mp e)
end L2.Tr

namespace L2.Tr
open PySem PySem.Spec PyProof.Rows
section
variable {α β γ δ S L : Type} {X : Cx} {I0 H0 I H : Hp} {W : WX} {Kx : KnowsX} {G : Knows} {ctx : List (Option SF)} {mem : List MF} {e a b c o : Expr} {es bs : List Expr} {st : Stmt} {ss s1 s2 : List Stmt} {pos pos' : Pos} {n : Str} {ra : Ra α} {rb : Ra β} {rr : Ra γ} {ma : Res α} {mb : Res β} {σ : St}
/-- a cell that stands is taken up -/
theorem Stt.adopt {I1 H1 : Hp} {l : Addr} {r : Rp α} {mo : Mo r} {xs : List α} {vs : List V} (s : Stt I0 H0 ctx mem I H σ) (f : Fm I H I1 H1) (hl : H l = none) (hI : I1 l = none) (h1 : H1 l = some (.lst vs)) (h : Paired (r I1) vs xs) : Stt I0 H0 ctx (MF.lst l r xs :: mem) I1 H1 σ :=
  s.adoptR (fp := [l]) f (by simp) (fun a ha => by rw [List.mem_singleton.mp ha]; exact ⟨hl, hI, by rw [h1]; intro z; cases z⟩) ⟨rfl, _, h1, vs, rfl, h⟩
/-- a new cell -/
theorem Stt.push {l : Addr} {r : Rp α} {mo : Mo r} {xs : List α} {vs : List V} (s : Stt I0 H0 ctx mem I H σ) (hl : H l = none) (h : Paired (r I) vs xs) : Stt I0 H0 ctx (MF.lst l r xs :: mem) I (upd H l (.lst vs)) σ :=
  s.adopt (Fm.newM s.same hl) hl (s.same.free hl) upd_same h
/-- the list of cell j is changed -/
theorem Stt.relst {l : Addr} {r : Rp α} {mo : Mo r} {xs zs : List α} {vs : List V} (s : Stt I0 H0 ctx mem I H σ) (j : Nat) (hj : mem[j]? = some (MF.lst l r xs)) (h : Paired (r I) vs zs) : Stt I0 H0 ctx (mem.set j (MF.lst l r zs)) I (upd H l (.lst vs)) σ :=
  s.cellAt (c' := MF.lst l r zs) j hj (fun q => q.1) ⟨rfl, _, upd_same, vs, rfl, h⟩
/-! ### expressions that make a new list -/
def JM (X : Cx) (I0 H0 : Hp) (W : WX) (ctx : List (Option SF)) (mem : List MF) (e : Expr) (m : Res (List α)) (r : Rp α) : Prop :=
  ∀ (I H : Hp) (σ : St) (Q : VK), Stt I0 H0 ctx mem I H σ → (match m with
    | .ok xs => ∀ I1 H1 l vs, Fm I H I1 H1 → H l = none → I1 l = none → H1 l = some (.lst vs) → Paired (r I1) vs xs → Q (.ref l) H1
    | .err e => ∀ I' H' cls d, Fm I H I' H' → Fr H d ∧ ExR X.K I' H' e cls d → W cls d σ H'
    | .stuck => False) → wE X e σ H Q
/-- the list is laid now -/
theorem mpost {Q : VK} {I H I1 H1 : Hp} {r : Rp α} {xs : List α} (p : ∀ I1 H1 l vs, Fm I H I1 H1 → H l = none → I1 l = none → H1 l = some (.lst vs) → Paired (r I1) vs xs → Q (.ref l) H1) {l : Addr} {vs : List V} (f : Fm I H I1 H1) (hl : H1 l = none) (pr : Paired (r I1) vs xs) : Q (.ref l) (upd H1 l (.lst vs)) :=
  p I1 (upd H1 l (.lst vs)) l vs (f.trans (Fm.newM f.ih hl)) (f.h.free hl) (f.ih.free hl) upd_same pr
/-- a cell that stands unfrozen is frozen -/
theorem Fm.ice {I H I1 H1 : Hp} {l : Addr} {o : HO} (f : Fm I H I1 H1) (hl : H l = none) (hI : I1 l = none) (h : H1 l = some o) : Fm I H (upd I1 l o) H1 ∧ Same I1 (upd I1 l o) := by
  have sm : Same I1 (upd I1 l o) := fun b u e => by
    have : b ≠ l := fun q => by rw [q, hI] at e; cases e
    rw [upd_ne this]; exact e
  refine ⟨⟨f.i.trans sm, f.h, fun b u e => ?_, fun b e nn => ?_⟩, sm⟩
  · by_cases hb : b = l
    · subst hb; rw [upd_same] at e; cases e; exact h
    · rw [upd_ne hb] at e; exact f.ih _ _ e
  · have : b ≠ l := fun q => nn (q ▸ hl)
    rw [upd_ne this]; exact f.mu b e nn
theorem JE.ofM {r : Rp α} [mo : Mo r] {m : Res (List α)} (j : JM X I0 H0 W ctx mem e m r) : JE X I0 H0 W ctx mem e m (rp (rL r)) := fun I H σ Q st p => by
  refine j I H σ Q st ?_
  cases m with
  | ok xs =>
    intro I1 H1 l vs f hl hI h1 pr
    obtain ⟨f2, sm⟩ := f.ice hl hI h1
    exact p _ H1 _ f2 ⟨l, vs, rfl, upd_same, Paired.mapP pr fun _ _ z => mo.up sm z⟩
  | err e => exact p
  | stuck => exact p
theorem JM.lst {k : Nat} {r : Rp α} {m : Res (List α)} (j : JA X I0 H0 W ctx mem es m (lR k (rp r))) (hk : k ≤ sizeLine := by decide) : JM X I0 H0 W ctx mem (.List es pos) m r := fun I H σ Q st p => by
  refine w_lst (j I H σ _ st ?_)
  cases m with
  | ok xs => exact fun I1 H1 vs f1 r1 => ⟨by rw [r1.1]; exact hk, fun q hq => mpost p f1 hq r1.2⟩
  | err e => exact p
  | stuck => exact p
/-- x = [..], the list may still be changed -/
theorem J1.setM (i : Nat) {r : Rp α} [Mo r] {m : Res (List α)} (j : JM X I0 H0 W ctx mem e m r) (hx : ∀ I H σ d, Stt I0 H0 ctx mem I H σ → Fr H0 d → Kx I H σ d) (hN : X.N.Nodup) (hi : X.N[i]? = some n := by rfl) (hl : Loc X.env.scope n := by first | exact Or.inl rfl | exact Or.inr rfl) (hs : swapsWith e (some (.Name n pos')) pos.line X.env = pure false := by rfl)
    (hf : X.fn n = true ∨ X.env.scope.names.lookup n = some .local := by first | exact .inl rfl | exact .inr rfl | assumption) : J1 X W Kx (Stt I0 H0 ctx mem) (.Assign [.Name n pos'] e pos) m (fun xs I H σ => ∃ l, Stt I0 H0 (ctx.set i (some ⟨rRef l, ()⟩)) (MF.lst l r xs :: mem) I H σ) := fun I H σ D g p => by
  refine s_set i (j I H σ _ g ?_) hN hi hl hs hf
  cases m with
  | ok xs => exact fun I1 H1 l vs f hl hI h1 pr => p I1 _ _ f.i ⟨l, (g.adopt f hl hI h1 pr).set i rfl⟩
  | err e => exact fun I' H' c d f x => p I' H' σ c d (hx _ _ _ _ (g.step f) (x.1.back g.fm.h)) x.2
  | stuck => exact p
theorem JN.ex {ι : Type} {Gi : ι → Knows} {m : Res S} {G' : S → Knows} (j : ∀ l, JN X W Kx (Gi l) ss m G') : JN X W Kx (fun I H σ => ∃ l, Gi l I H σ) ss m G' := fun I H σ D ⟨l, g⟩ p => j l I H σ D g p
theorem JR.ex {ι : Type} {Gi : ι → Knows} {m : Res γ} (j : ∀ l, JR X I0 H0 W Kx (Gi l) ss m rr) : JR X I0 H0 W Kx (fun I H σ => ∃ l, Gi l I H σ) ss m rr := fun I H σ D ⟨l, g⟩ p => j l I H σ D g p
theorem JG.ex {ι : Type} {Gi : ι → Knows} {m : Res (Fl S L γ)} {G' : S → Knows} {GL : L → Knows} (j : ∀ l, JG X I0 H0 W Kx (Gi l) ss m G' GL rr) : JG X I0 H0 W Kx (fun I H σ => ∃ l, Gi l I H σ) ss m G' GL rr := fun I H σ D ⟨l, g⟩ p => j l I H σ D g p
/-- a list of the call's own is frozen: a ghost step -/
theorem Stt.frz {r : Rp α} [mo : Mo r] {l : Addr} {xs : List α} (s : Stt I0 H0 ctx mem I H σ) (i j : Nat) (hj : mem[j]? = some (MF.lst l r xs)) (hc : ctx[i]? = some (some (SF.mk (rRef l) ()))) : ∃ I', Same I I' ∧ Stt I0 H0 (ctx.set i (some ⟨rL r, xs⟩)) (mem.eraseIdx j) I' H σ := by
  obtain ⟨fp, ⟨e, o, hH, vs, eo, pr⟩, _, sm, s2⟩ := s.freezeAt j hj
  subst e; subst eo
  refine ⟨_, sm, s2.recast i (b := ⟨rL r, xs⟩) hc fun v h => ?_⟩
  exact ⟨l, vs, h, by rw [ice_in (List.mem_singleton_self l)]; exact hH, Paired.mapP pr fun _ _ z => mo.up sm z⟩
theorem JN.frz (i j : Nat) {r : Rp α} [mo : Mo r] {l : Addr} {xs : List α} {m : Res S} {G' : S → Knows} (k : JN X W Kx (Stt I0 H0 (ctx.set i (some ⟨rL r, xs⟩)) (mem.eraseIdx j)) ss m G') (hj : mem[j]? = some (MF.lst l r xs) := by rfl) (hc : ctx[i]? = some (some (SF.mk (rRef l) ())) := by rfl) : JN X W Kx (Stt I0 H0 ctx mem) ss m G' := fun I H σ D g p => by
  obtain ⟨I', sm, g'⟩ := g.frz i j hj hc
  exact k I' H σ D g' (PostB.up p sm)
theorem JR.frz (i j : Nat) {r : Rp α} [mo : Mo r] {l : Addr} {xs : List α} {m : Res γ} (k : JR X I0 H0 W Kx (Stt I0 H0 (ctx.set i (some ⟨rL r, xs⟩)) (mem.eraseIdx j)) ss m rr) (hj : mem[j]? = some (MF.lst l r xs) := by rfl) (hc : ctx[i]? = some (some (SF.mk (rRef l) ())) := by rfl) : JR X I0 H0 W Kx (Stt I0 H0 ctx mem) ss m rr := fun I H σ D g p => by
  obtain ⟨I', sm, g'⟩ := g.frz i j hj hc
  exact k I' H σ D g' p
theorem JG.frz (i j : Nat) {r : Rp α} [mo : Mo r] {l : Addr} {xs : List α} {m : Res (Fl S L γ)} {G' : S → Knows} {GL : L → Knows} (k : JG X I0 H0 W Kx (Stt I0 H0 (ctx.set i (some ⟨rL r, xs⟩)) (mem.eraseIdx j)) ss m G' GL rr) (hj : mem[j]? = some (MF.lst l r xs) := by rfl) (hc : ctx[i]? = some (some (SF.mk (rRef l) ())) := by rfl) : JG X I0 H0 W Kx (Stt I0 H0 ctx mem) ss m G' GL rr := fun I H σ D g p => by
  obtain ⟨I', sm, g'⟩ := g.frz i j hj hc
  exact k I' H σ D g' (PostG.up p sm)
/-- the name of such a list, to be read -/
theorem JE.rdM (i j : Nat) {r : Rp α} [mo : Mo r] {l : Addr} {xs : List α} (hj : mem[j]? = some (MF.lst l r xs) := by rfl) (hc : ctx[i]? = some (some (SF.mk (rRef l) ())) := by rfl) (hN : X.N[i]? = some n := by rfl) (hv : Vis X.env.scope n := by first | exact Or.inl rfl | exact Or.inr (Or.inl rfl) | exact Or.inr (Or.inr rfl)) (hd : (n == ("__debug__" : Str)) = false := by decide)
    (hcd : (n == ("__classdict__" : Str)) = false := by decide) : JE X I0 H0 W ctx mem (.Name n pos) (.ok xs) (rdL X.K (rp r)) := fun I H σ Q st p => by
  obtain ⟨u, eu, hu⟩ := st.sl i _ hc
  cases (show u = V.ref l from hu)
  obtain ⟨_, _, o, zH, vs, eo, pr⟩ := st.lstAt hj
  subst eo
  exact w_var i (p I H _ (Fm.refl st.same) ⟨l, vs, rfl, SqL.of zH, pr⟩) eu hN hv hd hcd
def appM (xs : List α) (y : α) : Res (List α) := Res.guard (xs.length < sizeLine) (.ok (xs ++ [y]))
theorem paired_app {F : α → β → Prop} : ∀ {xs xs' : List α} {ys ys' : List β}, Paired F xs ys → Paired F xs' ys' → Paired F (xs ++ xs') (ys ++ ys')
  | _, _, _, _, .nil, q => q
  | _, _, _, _, .cons h t, q => .cons h (paired_app t q)
/-- x.append(e) -/
theorem J1.app (i j : Nat) {r : Rp α} [mo : Mo r] {l : Addr} {xs : List α} {m : Res α} {p1 apos cpos : Pos} (je : JE X I0 H0 W ctx mem e m (rp r)) (hx : ∀ I H σ d, Stt I0 H0 ctx mem I H σ → Fr H0 d → Kx I H σ d)
    (hj : mem[j]? = some (MF.lst l r xs) := by rfl) (hc : ctx[i]? = some (some (SF.mk (rRef l) ())) := by rfl) (hN : X.N[i]? = some n := by rfl) (hv : Vis X.env.scope n := by first | exact Or.inl rfl | exact Or.inr (Or.inl rfl) | exact Or.inr (Or.inr rfl)) (hd : (n == ("__debug__" : Str)) = false := by decide)
    (hcd : (n == ("__classdict__" : Str)) = false := by decide) (hbase : attributeBase (.Name n p1) "append" X.env (eval (.Name n p1) X.env) = eval (.Name n p1) X.env := by rfl)
    (hfew : ((backTo cpos (starEach [e] X.env)).all (fun x => !x.1) && (backToKw cpos (keywordEach [] X.env)).all (fun x => x.1.isSome) && decide ([e].length + ([] : List Keyword).length + (if ([] : List Keyword).isEmpty then 0 else 1) < 30)) = true := by rfl)
    (hline : (apos.endLine == cpos.line) = true := by rfl) (hst : starEach [e] X.env = (false, eval e X.env) :: starEach [] X.env := by rfl) (hplain : (backTo cpos (starEach [] X.env)).any (·.1) = false := by rfl) (hs : swapsWith (.Call (.Attribute (.Name n p1) "append" apos) [e] [] cpos) none pos.line X.env = pure false := by rfl) :
    J1 X W Kx (Stt I0 H0 ctx mem) (.Expr (.Call (.Attribute (.Name n p1) "append" apos) [e] [] cpos) pos) (m.bind fun y => appM xs y) (fun zs => Stt I0 H0 ctx (mem.set j (MF.lst l r zs))) := fun I H σ D g p => by
  obtain ⟨u, eu, hu⟩ := g.sl i _ hc
  cases (show u = V.ref l from hu)
  obtain ⟨_, _, o, zH, vs, eo, pr⟩ := g.lstAt hj
  subst eo
  refine s_expr (PE.w (pe_bm PySem.F.plainAttrs_list PySem.F.slot_list_append PySem.F.type_list_append mt_append pe_W pa_W hbase hfew hline hst hplain) (w_var i ?_ eu hN hv hd hcd)) hs
  refine ⟨.inl ⟨rfl, vs, SqL.of zH⟩, ?_⟩
  refine Tr.w_cons (je I H σ _ g ?_) hst
  cases m with
  | ok y =>
    intro I1 H1 v f1 h1
    have g1 := g.step f1
    obtain ⟨_, _, o, zH1, vs1, eo, pr1⟩ := g1.lstAt hj
    subst eo
    by_cases hz : xs.length < sizeLine
    · refine w_nil ⟨l, vs1, v, rfl, rfl, zH1, by rw [Paired.length pr1]; exact hz, ?_⟩
      have e1 : ((Res.ok y).bind fun y => appM xs y) = .ok (xs ++ [y]) := Res.guard_pos hz _
      rw [e1] at p
      exact p I1 _ σ f1.i (g1.relst j hj (paired_app pr1 (.cons h1 .nil)))
    · have e1 : ((Res.ok y).bind fun y => appM xs y) = .stuck := if_neg hz
      rw [e1] at p
      exact p.elim
  | err e => exact fun I' H' c d f x => p I' H' σ c d (hx _ _ _ _ (g.step f) (x.1.back g.fm.h)) x.2
  | stuck => exact p.elim
end
end L2.Tr

namespace L2.Tr
open PySem PySem.Spec PyProof.Rows
section
variable {α β γ δ S L : Type} {X : Cx} {I0 H0 I H : Hp} {W : WX} {Kx : KnowsX} {G : Knows} {ctx : List (Option SF)} {mem : List MF} {e a b c o : Expr} {es bs : List Expr} {st : Stmt} {ss s1 s2 : List Stmt} {pos pos' p2 : Pos} {n : Str} {ra : Ra α} {rb : Ra β} {rr : Ra γ} {ma : Res α} {mb : Res β} {σ : St} {r : Rp α}
/-! ### lists of the heap, frozen or not -/
def rH (r : Rp α) : Ra (List α) := fun I H v xs => ∃ l vs, v = .ref l ∧ H l = some (.lst vs) ∧ Paired (r I) vs xs
instance [m : Mo r] : MoA (rH r) := ⟨fun s t ⟨l, vs, e, h, p⟩ => ⟨l, vs, e, t _ _ h, Paired.mapP p fun _ _ q => m.up s q⟩⟩
theorem JE.hp {m : Res (List α)} (j : JE X I0 H0 W ctx mem e m (rp (rL r))) : JE X I0 H0 W ctx mem e m (rH r) := j.co fun _ _ _ _ s ⟨l, vs, e, h, p⟩ => ⟨l, vs, e, s _ _ h, p⟩
theorem JE.hM (i j : Nat) [mo : Mo r] {l : Addr} {xs : List α} (hj : mem[j]? = some (MF.lst l r xs) := by rfl) (hc : ctx[i]? = some (some (SF.mk (rRef l) ())) := by rfl) (hN : X.N[i]? = some n := by rfl) (hv : Vis X.env.scope n := by first | exact Or.inl rfl | exact Or.inr (Or.inl rfl) | exact Or.inr (Or.inr rfl)) (hd : (n == ("__debug__" : Str)) = false := by decide)
    (hcd : (n == ("__classdict__" : Str)) = false := by decide) : JE X I0 H0 W ctx mem (.Name n pos) (.ok xs) (rH r) := fun I H σ Q st p => by
  obtain ⟨u, eu, hu⟩ := st.sl i _ hc
  cases (show u = V.ref l from hu)
  obtain ⟨_, _, o, zH, vs, eo, pr⟩ := st.lstAt hj
  subst eo
  exact w_var i (p I H _ (Fm.refl st.same) ⟨l, vs, rfl, zH, pr⟩) eu hN hv hd hcd
def catM (xs ys : List α) : Res (List α) := Res.guard (xs.length + ys.length ≤ sizeLine) (.ok (xs ++ ys))
def repM (xs : List α) (k : Int) : Res (List α) := Res.guard (-(2 ^ 63) ≤ k ∧ k < 2 ^ 63 ∧ xs.length * k.toNat ≤ sizeLine) (.ok (List.replicate k.toNat xs).flatten)
theorem paired_rep {F : α → β → Prop} {xs : List α} {ys : List β} (p : Paired F xs ys) : ∀ k : Nat, Paired F (List.replicate k xs).flatten (List.replicate k ys).flatten
  | 0 => .nil
  | k + 1 => by
    rw [List.replicate_succ, List.replicate_succ, List.flatten_cons, List.flatten_cons]
    exact paired_app p (paired_rep p k)
theorem JM.cat [mo : Mo r] {m m' : Res (List α)} (ja : JE X I0 H0 W ctx mem a m (rH r)) (jb : JE X I0 H0 W ctx mem b m' (rH r)) : JM X I0 H0 W ctx mem (.BinOp a .Add b pos) (m.bind fun xs => m'.bind fun ys => catM xs ys) r := fun I H σ Q st p => by
  refine w_bin (ja I H σ _ st ?_)
  cases m with
  | ok xs =>
    intro I1 H1 u f1 r1
    refine jb I1 H1 σ _ (st.step f1) ?_
    cases m' with
    | ok ys =>
      intro I2 H2 v f2 r2
      obtain ⟨l, vs, rfl, hl, pr⟩ := MoA.up (r := rH r) f2.i f2.h r1
      obtain ⟨l', vs', rfl, hl', pr'⟩ := r2
      by_cases hz : xs.length + ys.length ≤ sizeLine
      · have e1 : ((Res.ok xs).bind fun xs => (Res.ok ys).bind fun ys => catM xs ys) = .ok (xs ++ ys) := Res.guard_pos hz _
        rw [e1] at p
        exact OpR.w op_cat ⟨l, l', vs, vs', rfl, rfl, hl, hl', by rw [Paired.length pr, Paired.length pr']; exact hz, fun q hq => mpost p (f1.trans f2) hq (paired_app pr pr')⟩
      · have e1 : ((Res.ok xs).bind fun xs => (Res.ok ys).bind fun ys => catM xs ys) = .stuck := if_neg hz
        rw [e1] at p
        exact p.elim
    | err e => exact fun I2 H2 c d f2 x => p I2 H2 c d (f1.trans f2) ⟨x.1.back f1.h, x.2⟩
    | stuck => exact p
  | err e => exact p
  | stuck => exact p
theorem JM.rep [mo : Mo r] {m : Res (List α)} {mi : Res Int} (ja : JE X I0 H0 W ctx mem a m (rH r)) (jb : JE X I0 H0 W ctx mem b mi (rp rInt)) : JM X I0 H0 W ctx mem (.BinOp a .Mult b pos) (m.bind fun xs => mi.bind fun k => repM xs k) r := fun I H σ Q st p => by
  refine w_bin (ja I H σ _ st ?_)
  cases m with
  | ok xs =>
    intro I1 H1 u f1 r1
    refine jb I1 H1 σ _ (st.step f1) ?_
    cases mi with
    | ok k =>
      intro I2 H2 v f2 r2
      obtain ⟨l, vs, rfl, hl, pr⟩ := MoA.up (r := rH r) f2.i f2.h r1
      by_cases hz : -(2 ^ 63) ≤ k ∧ k < 2 ^ 63 ∧ xs.length * k.toNat ≤ sizeLine
      · have e1 : ((Res.ok xs).bind fun xs => (Res.ok k).bind fun k => repM xs k) = .ok (List.replicate k.toNat xs).flatten := Res.guard_pos hz _
        rw [e1] at p
        exact OpR.w op_rep ⟨l, k, vs, rfl, r2, hl, hz.1, hz.2.1, by rw [Paired.length pr]; exact hz.2.2, fun q hq => mpost p (f1.trans f2) hq (paired_rep pr _)⟩
      · have e1 : ((Res.ok xs).bind fun xs => (Res.ok k).bind fun k => repM xs k) = .stuck := if_neg hz
        rw [e1] at p
        exact p.elim
    | err e => exact fun I2 H2 c d f2 x => p I2 H2 c d (f1.trans f2) ⟨x.1.back f1.h, x.2⟩
    | stuck => exact p
  | err e => exact p
  | stuck => exact p
/-! ### slices -/
def cutL (xs : List α) (lo hi : Option Int) : List α := (xs.drop (HT.sIx xs.length 0 lo)).take (HT.sIx xs.length xs.length hi - HT.sIx xs.length 0 lo)
theorem paired_dropN {F : α → β → Prop} : ∀ {xs : List α} {ys : List β} (k : Nat), Paired F xs ys → Paired F (xs.drop k) (ys.drop k)
  | _, _, 0, p => p
  | _, _, _ + 1, .nil => .nil
  | _, _, k + 1, .cons _ t => paired_dropN k t
theorem paired_takeN {F : α → β → Prop} : ∀ {xs : List α} {ys : List β} (k : Nat), Paired F xs ys → Paired F (xs.take k) (ys.take k)
  | _, _, 0, _ => .nil
  | _, _, _ + 1, .nil => .nil
  | _, _, k + 1, .cons h t => .cons h (paired_takeN k t)
theorem paired_cut {F : V → β → Prop} {xs : List V} {ys : List β} (p : Paired F xs ys) (lo hi : Option Int) : Paired F (cutV xs lo hi) (cutL ys lo hi) := by
  unfold cutV cutL
  rw [Paired.length p]
  exact paired_takeN _ (paired_dropN _ p)
/-- a part of a slice -/
def JO (X : Cx) (I0 H0 : Hp) (W : WX) (ctx : List (Option SF)) (mem : List MF) (e : Option Expr) (m : Res (Option Int)) : Prop := match e with
  | none => m = .ok none
  | some e => ∃ mi : Res Int, m = mi.bind (fun i => .ok (some i)) ∧ JE X I0 H0 W ctx mem e mi (rp rInt)
theorem JO.no : JO X I0 H0 W ctx mem none (.ok none) := rfl
theorem JO.at {m : Res Int} (j : JE X I0 H0 W ctx mem e m (rp rInt)) : JO X I0 H0 W ctx mem (some e) (m.bind fun i => .ok (some i)) := ⟨m, rfl, j⟩
def PostO (X : Cx) (W : WX) (σ : St) (I H : Hp) (m : Res (Option Int)) (Q : Option Int → Hp → Prop) : Prop := match m with
  | .ok o => ∀ I' H', Fm I H I' H' → Q o H'
  | .err e => ∀ I' H' cls d, Fm I H I' H' → Fr H d ∧ ExR X.K I' H' e cls d → W cls d σ H'
  | .stuck => False
theorem JO.po {e : Option Expr} {m : Res (Option Int)} (j : JO X I0 H0 W ctx mem e m) : ∃ t, PO X e t ∧ ∀ (I H : Hp) (σ : St) (Q : Option Int → Hp → Prop), Stt I0 H0 ctx mem I H σ → PostO X W σ I H m Q → t σ H Q := by
  cases e with
  | none =>
    obtain rfl : m = .ok none := j
    exact ⟨_, po_none, fun I H σ Q st p => p I H (Fm.refl st.same)⟩
  | some e =>
    obtain ⟨mi, rfl, ji⟩ := j
    refine ⟨_, po_some pe_W, fun I H σ Q st p => ji I H σ _ st ?_⟩
    cases mi with
    | ok i => exact fun I1 H1 v f r => ⟨i, r, p I1 H1 f⟩
    | err e => exact p
    | stuck => exact p
theorem JM.sl [mo : Mo r] {lo hi : Option Expr} {m : Res (List α)} {ml mh : Res (Option Int)} (ja : JE X I0 H0 W ctx mem a m (rdL X.K (rp r))) (jl : JO X I0 H0 W ctx mem lo ml) (jh : JO X I0 H0 W ctx mem hi mh) :
    JM X I0 H0 W ctx mem (.Subscript a (.Slice lo hi none p2) pos) (m.bind fun xs => ml.bind fun x => mh.bind fun y => .ok (cutL xs x y)) r := fun I H σ Q st p => by
  obtain ⟨tl, pl, hl⟩ := jl.po
  obtain ⟨th, ph, hh⟩ := jh.po
  refine PE.w (pe_slice sl_list pe_W pl ph) (ja I H σ _ st ?_)
  cases m with
  | ok xs =>
    intro I1 H1 u f1 r1
    refine hl I1 H1 σ _ (st.step f1) ?_
    cases ml with
    | ok x =>
      intro I2 H2 f2
      refine hh I2 H2 σ _ ((st.step f1).step f2) ?_
      cases mh with
      | ok y =>
        intro I3 H3 f3
        obtain ⟨l, vs, rfl, hs, pr⟩ := MoA.up (r := rdL X.K (rp r)) (f2.trans f3).i (f2.trans f3).h r1
        exact ⟨l, vs, rfl, hs, fun q hq => mpost p (f1.trans (f2.trans f3)) hq (paired_cut pr x y)⟩
      | err e => exact fun I' H' c d f z => p I' H' c d (f1.trans (f2.trans f)) ⟨(z.1.back f2.h).back f1.h, z.2⟩
      | stuck => exact p
    | err e => exact fun I' H' c d f z => p I' H' c d (f1.trans f) ⟨z.1.back f1.h, z.2⟩
    | stuck => exact p
  | err e => exact p
  | stuck => exact p
theorem paired_rev {F : α → β → Prop} : ∀ {xs : List α} {ys : List β}, Paired F xs ys → Paired F xs.reverse ys.reverse
  | _, _, .nil => .nil
  | _, _, .cons h t => by
    rw [List.reverse_cons, List.reverse_cons]
    exact paired_app (paired_rev t) (.cons h .nil)
theorem JM.rev [mo : Mo r] {m : Res (List α)} {k : Nat} {q1 q2 q3 : Pos} (ja : JE X I0 H0 W ctx mem a m (rdL X.K (rp r))) : JM X I0 H0 W ctx mem (.Subscript a (.Slice none none (some (.UnaryOp .USub (.Constant (.int 1) k q1) q2)) q3) pos) (m.bind fun xs => .ok xs.reverse) r := fun I H σ Q st p => by
  refine PE.w (pe_revL pe_W) (ja I H σ _ st ?_)
  cases m with
  | ok xs =>
    rintro I1 H1 u f1 ⟨l, vs, rfl, hs, pr⟩
    exact ⟨l, vs, rfl, hs, fun q hq => mpost p f1 hq (paired_rev pr)⟩
  | err e => exact p
  | stuck => exact p
/-- list(x) of a list -/
theorem JM.list [mo : Mo r] {m : Res (List α)} (ja : JE X I0 H0 W ctx mem a m (rdL X.K (rp r))) (hm : X.mg "list" = none) (hg : Gl X "list" := by rfl) (hs : starEach [a] X.env = (false, eval a X.env) :: starEach [] X.env := by rfl) (hpl : (backTo pos (starEach [] X.env)).any (·.1) = false := by rfl) :
    JM X I0 H0 W ctx mem (.Call (.Name "list" pos') [a] [] pos) (m.bind fun xs => .ok xs) r := fun I H σ Q st p => by
  refine w_callTy (T := "list") (Tr.w_cons (ja I H σ _ st ?_) hs) hm (by decide +kernel) hg (by decide) (by decide) hs hpl
  cases m with
  | ok xs =>
    rintro I1 H1 u f1 ⟨l, vs, rfl, hs, pr⟩
    exact w_nil (CallR.w call_list_of ⟨l, vs, rfl, .inl hs, fun q hq => mpost p f1 hq pr⟩)
  | err e => exact p
  | stuck => exact p
/-- list(x) of a tuple -/
theorem JM.listT [mo : Mo r] {m : Res (List α)} (ja : JE X I0 H0 W ctx mem a m (rp (rT r))) (hm : X.mg "list" = none) (hg : Gl X "list" := by rfl) (hs : starEach [a] X.env = (false, eval a X.env) :: starEach [] X.env := by rfl) (hpl : (backTo pos (starEach [] X.env)).any (·.1) = false := by rfl) :
    JM X I0 H0 W ctx mem (.Call (.Name "list" pos') [a] [] pos) (m.bind fun xs => .ok xs) r := fun I H σ Q st p => by
  refine w_callTy (T := "list") (Tr.w_cons (ja I H σ _ st ?_) hs) hm (by decide +kernel) hg (by decide) (by decide) hs hpl
  cases m with
  | ok xs =>
    rintro I1 H1 u f1 ⟨l, vs, rfl, hs, pr⟩
    exact w_nil (CallR.w call_list_of ⟨l, vs, rfl, .inr (SqT.of (f1.ih _ _ hs)), fun q hq => mpost p f1 hq pr⟩)
  | err e => exact p
  | stuck => exact p
end
end L2.Tr

namespace L2.Tr
open PySem PySem.Spec PyProof.Rows
section
variable {α β γ δ S L : Type} {X : Cx} {I0 H0 I H : Hp} {W : WX} {Kx : KnowsX} {G : Knows} {ctx : List (Option SF)} {mem : List MF} {e a b c o ix : Expr} {es bs : List Expr} {st : Stmt} {ss s1 s2 : List Stmt} {pos pos' p2 : Pos} {n : Str} {ra : Ra α} {rb : Ra β} {rr : Ra γ} {ma : Res α} {mb : Res β} {σ : St} {r : Rp α}
def popM (xs : List α) : Res (List α) := Res.guard (0 < xs.length) (.ok xs.dropLast)
theorem paired_dropLast {F : α → β → Prop} : ∀ {xs : List α} {ys : List β}, Paired F xs ys → Paired F xs.dropLast ys.dropLast
  | _, _, .nil => .nil
  | _, _, .cons _ .nil => .nil
  | _, _, .cons h (.cons h' t) => .cons h (paired_dropLast (.cons h' t))
/-- x.pop() as a statement -/
theorem J1.pop (i j : Nat) [mo : Mo r] {l : Addr} {xs : List α} {p1 apos cpos : Pos} (hj : mem[j]? = some (MF.lst l r xs) := by rfl) (hc : ctx[i]? = some (some (SF.mk (rRef l) ())) := by rfl) (hN : X.N[i]? = some n := by rfl) (hv : Vis X.env.scope n := by first | exact Or.inl rfl | exact Or.inr (Or.inl rfl) | exact Or.inr (Or.inr rfl)) (hd : (n == ("__debug__" : Str)) = false := by decide)
    (hcd : (n == ("__classdict__" : Str)) = false := by decide) (hbase : attributeBase (.Name n p1) "pop" X.env (eval (.Name n p1) X.env) = eval (.Name n p1) X.env := by rfl) (hline : (apos.endLine == cpos.line) = true := by rfl) (hs : swapsWith (.Call (.Attribute (.Name n p1) "pop" apos) [] [] cpos) none pos.line X.env = pure false := by rfl) :
    J1 X W Kx (Stt I0 H0 ctx mem) (.Expr (.Call (.Attribute (.Name n p1) "pop" apos) [] [] cpos) pos) (popM xs) (fun zs => Stt I0 H0 ctx (mem.set j (MF.lst l r zs))) := fun I H σ D g p => by
  obtain ⟨u, eu, hu⟩ := g.sl i _ hc
  cases (show u = V.ref l from hu)
  obtain ⟨_, _, o, zH, vs, eo, pr⟩ := g.lstAt hj
  subst eo
  by_cases hz : 0 < xs.length
  · have e1 : popM xs = .ok xs.dropLast := Res.guard_pos hz _
    rw [e1] at p
    have hl := Paired.length pr
    refine s_expr (PE.w (pe_bm0 PySem.F.plainAttrs_list PySem.F.slot_list_pop PySem.F.type_list_pop mt_pop pe_W hbase hline) (w_var i ⟨(show tyV X.K "list" (.ref l) H from Or.inl ⟨rfl, vs, SqL.of zH⟩), l, vs, vs[vs.length - 1]'(by omega), rfl, rfl, zH, List.getElem?_eq_getElem _, ?_⟩ eu hN hv hd hcd)) hs
    exact p I _ σ (Same.refl _) (g.relst j hj (paired_dropLast pr))
  · have e1 : popM xs = .stuck := if_neg hz
    rw [e1] at p
    exact p.elim
def putM (xs : List α) (k : Int) (y : α) : Res (List α) := match ixN xs.length k with
  | some j => .ok (xs.set j y)
  | none => .stuck
theorem paired_set {F : α → β → Prop} {x : α} {y : β} (h : F x y) : ∀ {xs : List α} {ys : List β} (k : Nat), Paired F xs ys → Paired F (xs.set k x) (ys.set k y)
  | _, _, _, .nil => .nil
  | _, _, 0, .cons _ t => .cons h t
  | _, _, k + 1, .cons h' t => .cons h' (paired_set h k t)
/-- x[k] = e -/
theorem J1.put (i j : Nat) [mo : Mo r] {l : Addr} {xs : List α} {m : Res α} {mi : Res Int} {p1 : Pos} (je : JE X I0 H0 W ctx mem e m (rp r)) (ji : JE X I0 H0 W ctx mem ix mi (rp rInt)) (hx : ∀ I H σ d, Stt I0 H0 ctx mem I H σ → Fr H0 d → Kx I H σ d)
    (hj : mem[j]? = some (MF.lst l r xs) := by rfl) (hc : ctx[i]? = some (some (SF.mk (rRef l) ())) := by rfl) (hN : X.N[i]? = some n := by rfl) (hv : Vis X.env.scope n := by first | exact Or.inl rfl | exact Or.inr (Or.inl rfl) | exact Or.inr (Or.inr rfl)) (hd : (n == ("__debug__" : Str)) = false := by decide)
    (hcd : (n == ("__classdict__" : Str)) = false := by decide) (ha : ∀ v, assign (.Subscript (.Name n p1) ix pos') X.env v = (do
      let ov ← holding [v] (eval (.Name n p1) X.env)
      let iv ← holding [v, ov] (eval ix X.env)
      standAt pos'
      holding [v, ov, iv] (setItem ov iv v)
      release [v, ov, iv] []) := by intro _; rfl)
    (hs : swapsWithSole [.Subscript (.Name n p1) ix pos'] e pos.line X.env = pure false := by rfl) (hw : swappedStores [.Subscript (.Name n p1) ix pos'] e X.env = pure none := by rfl)
    (h1 : (assignEach [.Subscript (.Name n p1) ix pos'] X.env).map (·.2) = [assign (.Subscript (.Name n p1) ix pos') X.env] := by rfl) :
    J1 X W Kx (Stt I0 H0 ctx mem) (.Assign [.Subscript (.Name n p1) ix pos'] e pos) (m.bind fun y => mi.bind fun k => putM xs k y) (fun zs => Stt I0 H0 ctx (mem.set j (MF.lst l r zs))) := fun I H σ D g p => by
  refine PS.w (ps_asg pe_W (pg_sub pe_W pe_W set_list ha) hs hw h1) (je I H σ _ g ?_)
  cases m with
  | ok y =>
    intro I1 H1 v f1 r1
    have g1 := g.step f1
    obtain ⟨u, eu, hu⟩ := g1.sl i _ hc
    cases (show u = V.ref l from hu)
    refine w_var i (ji I1 H1 σ _ g1 ?_) eu hN hv hd hcd
    cases mi with
    | ok k =>
      intro I2 H2 vk f2 r2
      cases (show vk = V.int k from r2)
      have g2 := g1.step f2
      obtain ⟨_, _, o, zH, vs, eo, pr⟩ := g2.lstAt hj
      subst eo
      have p' : PostB X W Kx I (putM xs k y) _ D := p
      unfold putM at p'
      cases ek : ixN xs.length k with
      | none => rw [ek] at p'; exact p'.elim
      | some q =>
        rw [ek] at p'
        refine ⟨l, vs, k, q, rfl, rfl, zH, by rw [Paired.length pr]; exact ek, ?_⟩
        exact p' I2 _ σ (f1.i.trans f2.i) (g2.relst j hj (paired_set (mo.up f2.i r1) q pr))
    | err e => exact fun I' H' c d f x => p I' H' σ c d (hx _ _ _ _ (g1.step f) (x.1.back g1.fm.h)) x.2
    | stuck => exact p.elim
  | err e => exact fun I' H' c d f x => p I' H' σ c d (hx _ _ _ _ (g.step f) (x.1.back g.fm.h)) x.2
  | stuck => exact p.elim
end
end L2.Tr

namespace L2.Tr
open PySem PySem.Spec PyProof.Rows
/-! ### list comprehensions -/
def lcM {α β : Type} (f : β → Res α) : List β → Res (List α)
  | [] => .ok []
  | x :: xs => match f x with
    | .ok y => (lcM f xs).bind fun ys => .ok (y :: ys)
    | _ => .stuck
/-- with a test -/
def lcI {α β : Type} (t : β → Res Bool) (f : β → Res α) : List β → Res (List α)
  | [] => .ok []
  | x :: xs => match t x with
    | .ok true => (match f x with
      | .ok y => (lcI t f xs).bind fun ys => .ok (y :: ys)
      | _ => .stuck)
    | .ok false => lcI t f xs
    | _ => .stuck
abbrev W0 : WX := fun _ _ _ _ => False
theorem takes0 {X : Cx} : Takes X W0 := fun u s' ⟨_, _, _, _, _, _, _, _, _, _, _, _, _, _, _, _, w⟩ => w.elim
section
variable {α β γ δ S L : Type} {X : Cx} {I0 H0 I H : Hp} {W : WX} {Kx : KnowsX} {ctx : List (Option SF)} {mem : List MF} {e a b c o elt iter : Expr} {pos pos' p2 : Pos} {n : Str} {σ : St} {r : Rp α} {rb : Rp β}
theorem Stt.wipe1 (s : Stt I0 H0 ctx mem I H σ) (j : Nat) : Stt I0 H0 (ctx.set j none) mem I H (σ.set j none) := by
  refine ⟨s.fm, by rw [List.length_set, List.length_set]; exact s.len, fun k sf e => ?_, s.me⟩
  by_cases hk : k = j
  · subst hk
    rw [List.getElem?_set] at e
    by_cases hl : k < ctx.length
    · simp only [hl, if_true] at e; cases e
    · simp only [hl, if_true, if_false] at e; cases e
  · rw [List.getElem?_set_ne (Ne.symm hk)] at e
    obtain ⟨w, e1, q⟩ := s.sl k sf e
    exact ⟨w, by rw [List.getElem?_set_ne (Ne.symm hk)]; exact e1, q⟩
def wEb (X : Cx) (scope : Scope) (elt : Expr) : TE := fun σ H Q => ∀ (s : Shared) (H' : Hp) (C : Addr) (cl : List (Str × Addr)) (fp : List Addr), wE (X.blk s H' scope (compEnvC scope cl C X.env) fp) elt σ H Q
theorem pe_Wb (s : Shared) (H' : Hp) (C : Addr) (cl : List (Str × Addr)) (fp : List Addr) {scope : Scope} : PE (X.blk s H' scope (compEnvC scope cl C X.env) fp) elt (wEb X scope elt) := ⟨fun pins s1 _ _ _ I h => h s H' C cl fp pins s1 I⟩
theorem Fm.updNew {I1 H1 : Hp} {D : Addr} {o : HO} (f : Fm I H I1 H1) (hD : H D = none) (hI : I1 D = none) : Fm I H I1 (upd H1 D o) :=
  ⟨f.i, fun b u e => by rw [upd_ne (ne_of_none e hD)]; exact f.h _ _ e, fun b u e => by rw [upd_ne (ne_of_none e hI)]; exact f.ih _ _ e, f.mu⟩
def lcR (f : β → Res α) (xs : List β) : Res (List α) := Res.guard (xs.length ≤ sizeLine) (lcM f xs)
theorem lcM_drop {f : β → Res α} {xs : List β} {i : Nat} {x : β} (h : xs[i]? = some x) : lcM f (xs.drop i) = (match f x with
    | .ok y => (lcM f (xs.drop (i + 1))).bind fun ys => .ok (y :: ys)
    | _ => .stuck) := by
  have hi := (List.getElem?_eq_some_iff.mp h).1
  rw [List.drop_eq_getElem_cons hi]
  have : xs[i] = x := (List.getElem?_eq_some_iff.mp h).2
  rw [this]
  rfl
def PostM (X : Cx) (W : WX) (σ : St) (I H : Hp) (m : Res (List α)) (r : Rp α) (Q : VK) : Prop := match m with
  | .ok xs => ∀ I1 H1 l vs, Fm I H I1 H1 → H l = none → I1 l = none → H1 l = some (.lst vs) → Paired (r I1) vs xs → Q (.ref l) H1
  | .err e => ∀ I' H' cls d, Fm I H I' H' → Fr H d ∧ ExR X.K I' H' e cls d → W cls d σ H'
  | .stuck => False
theorem lc_post (j : Nat) [mo : Mo r] [mb : Mo rb] {m : Res (List β)} {f : β → Res α} {scope : Scope} (ji : JI X I0 H0 W ctx mem (.Name n pos') iter m rb)
    (je : ∀ (s : Shared) (H : Hp) (C : Addr) (cl : List (Str × Addr)) (fp : List Addr) (D : Addr) (acc : List α) (x : β), JE (X.blk s H scope (compEnvC scope cl C X.env) fp) I0 H0 W0 (ctx.set j (some ⟨rb, x⟩)) (MF.lst D r acc :: mem) elt (f x) (rp r))
    (I H : Hp) (σ : St) (Q : VK) (st : Stt I0 H0 ctx mem I H σ) (p : PostM X W σ I H (m.bind fun xs => lcR f xs) r Q) : tLc (wI X (.Name n pos') iter) (gName j) tYes (wEb X scope elt) [j] σ H Q := by
  refine ji I H σ _ st ?_
  cases m with
  | ok xs =>
    intro I1 H1 J vs okp f1 itr stay pr D hD
    have hlen := Paired.length pr
    by_cases hz : xs.length ≤ sizeLine
    · have e0 : ((Res.ok xs).bind fun xs => lcR f xs) = lcM f xs := Res.guard_pos hz _
      rw [e0] at p
      have hD0 : H D = none := f1.h.free hD
      cases et : lcM f xs with
      | ok tot =>
        rw [et] at p
        refine ⟨fun i k H' => k + i = vs.length ∧ ∃ I' acc ys, Same I1 I' ∧ Fm I H I' H' ∧ Stt I0 H0 ctx (MF.lst D r acc :: mem) I' H' σ ∧ acc.length ≤ i ∧ lcM f (xs.drop i) = .ok ys ∧ tot = acc ++ ys, ⟨vs.length, rfl, I1, [], tot, Same.refl _, f1.trans (Fm.newM f1.ih hD), (st.step f1).push hD .nil, Nat.le_refl _, et, rfl⟩, ?_⟩
        rintro i k H' ⟨hk, I', acc, ys, si, fm, g', ha, el, eq⟩
        have hok := stay I' H' si g'.same g'.fm.h
        by_cases hi : i < vs.length
        · obtain ⟨go, yl⟩ := (itr i H' hok).1 hi
          refine .inr ⟨go, fun H2 => ∃ I2 acc2 ys2, Same I1 I2 ∧ Fm I H I2 H2 ∧ Stt I0 H0 ctx (MF.lst D r acc2 :: mem) I2 H2 σ ∧ acc2.length ≤ i + 1 ∧ lcM f (xs.drop (i + 1)) = .ok ys2 ∧ tot = acc2 ++ ys2, fun H2 h => ⟨k - 1, by omega, by omega, h⟩, fun v H2 hy => ?_⟩
          obtain ⟨rfl, ev⟩ := yl v H2 hy
          obtain ⟨x, ex, hr⟩ := paired_drop pr i ev
          rw [lcM_drop ex] at el
          show (fun σ2 H2 => wipe σ2 [j] = wipe σ [j] ∧ _) (((σ.set j none)).set j (some v)) H2
          refine ⟨?_, ?_⟩
          · show ((σ.set j none).set j (some v)).set j none = σ.set j none
            rw [List.set_set, List.set_set]
          · show wEb X scope elt ((σ.set j none).set j (some v)) H2 _
            rw [List.set_set]
            intro s3 H3 C cl fp
            refine je s3 H3 C cl fp D acc x I' H2 (σ.set j (some v)) _ (g'.set j (mb.up si hr)) ?_
            revert el
            generalize f x = z
            intro el
            cases z with
            | ok y =>
              cases el2 : lcM f (xs.drop (i + 1)) with
              | ok ys2 =>
                dsimp only at el
                rw [el2] at el
                cases el
                intro I4 H4 vy f4 r4
                have g4 := g'.step f4
                obtain ⟨z0, zI, oo, zH, vacc, eo, pacc⟩ := g4.lstAt (j := 0) rfl
                subst eo
                have hla := Paired.length pacc
                have hlt := (List.getElem?_eq_some_iff.mp ex).1
                refine ⟨vacc, zH, by omega, I4, acc ++ [y], ys2, si.trans f4.i, (fm.trans f4).updNew hD0 zI, g4.relst 0 rfl (paired_app pacc (.cons r4 .nil)), by rw [List.length_append, List.length_singleton]; omega, rfl, by rw [eq, List.append_assoc]; rfl⟩
              | err e => dsimp only at el; rw [el2] at el; cases el
              | stuck => dsimp only at el; rw [el2] at el; cases el
            | err e => cases el
            | stuck => cases el
        · refine .inl ⟨(itr i H' hok).2 (by omega), ?_⟩
          have e1 : xs.drop i = [] := List.drop_eq_nil_of_le (by omega)
          rw [e1] at el
          cases el
          rw [List.append_nil] at eq
          subst eq
          obtain ⟨z0, zI, oo, zH, vacc, eo, pacc⟩ := g'.lstAt (j := 0) rfl
          subst eo
          exact p I' H' D vacc fm hD0 zI zH pacc
      | err e =>
        exfalso
        have : ∀ l : List β, lcM f l ≠ .err e := fun l => by
          induction l with
          | nil => intro h; cases h
          | cons x l ih =>
            intro h
            unfold lcM at h
            cases q : f x with
            | ok y =>
              rw [q] at h
              dsimp only at h
              cases q2 : lcM f l with
              | ok ys => rw [q2] at h; cases h
              | err e2 => rw [q2] at h ih; cases h; exact ih rfl
              | stuck => rw [q2] at h; cases h
            | err e2 => rw [q] at h; cases h
            | stuck => rw [q] at h; cases h
        exact this xs et
      | stuck => rw [et] at p; exact p.elim
    · have e0 : ((Res.ok xs).bind fun xs => lcR f xs) = .stuck := if_neg hz
      rw [e0] at p
      exact p.elim
  | err e => exact p
  | stuck => exact p
theorem JM.lc (j : Nat) [mo : Mo r] [mb : Mo rb] {m : Res (List β)} {f : β → Res α} {scope : Scope} (ji : JI X I0 H0 W ctx mem (.Name n pos') iter m rb)
    (je : ∀ (s : Shared) (H : Hp) (C : Addr) (cl : List (Str × Addr)) (fp : List Addr) (D : Addr) (acc : List α) (x : β), JE (X.blk s H scope (compEnvC scope cl C X.env) fp) I0 H0 W0 (ctx.set j (some ⟨rb, x⟩)) (MF.lst D r acc :: mem) elt (f x) (rp r))
    (hN : X.N.Nodup) (ok : BlkOk X.N X.env.scope scope [(n, j)]) (hj : X.N[j]? = some n := by rfl) (hc : X.calm = true := by rfl) (hsc : Loc (relabel scope X.env) n := by first | exact Or.inl rfl | exact Or.inr rfl) (hfn : (scope.names.lookup n == some .cell) = true ∨ (relabel scope X.env).names.lookup n = some .local := by first | exact .inr rfl | exact .inl rfl) (hs : ∀ x, foldedSetIterable iter X.env x = pure x := by intro _; rfl) :
    JM X I0 H0 W ctx mem (.ListComp elt [⟨.Name n pos', iter, [], 0⟩] scope pos) (m.bind fun xs => lcR f xs) r := fun I H σ Q st p =>
  PE.w (pe_lc (own := [(n, j)]) hc hN pi_W ok (fun s H C cl fp => pg_name (i := j) hN hj hsc hfn) (fun s H C cl fp => pts_nil) (fun s H C cl fp => pe_Wb s H C cl fp) hs) (lc_post j ji je I H σ Q st p)
/-- y = [.. for ..] on one line -/
theorem J1.setLc (i j : Nat) {y : Str} {py spos : Pos} [mo : Mo r] [mb : Mo rb] {m : Res (List β)} {f : β → Res α} {scope : Scope} (ji : JI X I0 H0 W ctx mem (.Name n pos') iter m rb)
    (je : ∀ (s : Shared) (H : Hp) (C : Addr) (cl : List (Str × Addr)) (fp : List Addr) (D : Addr) (acc : List α) (x : β), JE (X.blk s H scope (compEnvC scope cl C X.env) fp) I0 H0 W0 (ctx.set j (some ⟨rb, x⟩)) (MF.lst D r acc :: mem) elt (f x) (rp r))
    (hx : ∀ I H σ d, Stt I0 H0 ctx mem I H σ → Fr H0 d → Kx I H σ d) (hN : X.N.Nodup) (ok : BlkOk X.N X.env.scope scope [(n, j)]) (hi : X.N[i]? = some y := by rfl) (hyl : X.env.scope.names.lookup y = some .local := by rfl)
    (hsw : swapsWith (.ListComp elt [⟨.Name n pos', iter, [], 0⟩] scope pos) (some (.Name y py)) spos.line X.env = pure true := by rfl) (hj : X.N[j]? = some n := by rfl) (hc : X.calm = true := by rfl) (hsc : Loc (relabel scope X.env) n := by first | exact Or.inl rfl | exact Or.inr rfl) (hfn : (scope.names.lookup n == some .cell) = true ∨ (relabel scope X.env).names.lookup n = some .local := by first | exact .inr rfl | exact .inl rfl) (hs : ∀ x, foldedSetIterable iter X.env x = pure x := by intro _; rfl) :
    J1 X W Kx (Stt I0 H0 ctx mem) (.Assign [.Name y py] (.ListComp elt [⟨.Name n pos', iter, [], 0⟩] scope pos) spos) (m.bind fun xs => lcR f xs) (fun xs I H σ => ∃ l, Stt I0 H0 (ctx.set i (some ⟨rRef l, ()⟩)) (MF.lst l r xs :: mem) I H σ) := fun I H σ D g p => by
  refine PS.w (ps_setLc (own := [(n, j)]) hc hN hi hyl hsw pi_W ok (fun s H C cl fp => pg_name (i := j) hN hj hsc hfn) (fun s H C cl fp => pts_nil) (fun s H C cl fp => pe_Wb s H C cl fp) hs) (lc_post j ji je I H σ (fun x H1 => gName i x σ H1 D.nx) g ?_)
  revert p
  generalize (m.bind fun xs => lcR f xs) = z
  intro p
  cases z with
  | ok xs => exact fun I1 H1 l vs f hl hI h1 pr => p I1 _ _ f.i ⟨l, (g.adopt f hl hI h1 pr).set i rfl⟩
  | err e => exact fun I' H' c d f x => p I' H' σ c d (hx _ _ _ _ (g.step f) (x.1.back g.fm.h)) x.2
  | stuck => exact p
end
end L2.Tr

namespace L2.Tr
open PySem PySem.Spec PyProof.Rows
/-! ### contexts and cells written out -/
section
variable {α γ S L : Type} {X : Cx} {I0 H0 I H : Hp} {W : WX} {Kx : KnowsX} {G : Knows} {st : Stmt} {ss : List Stmt} {ctx ctx' : List (Option SF)} {mem mem' : List MF} {rr : Ra γ} {σ : St}
theorem Stt.forget {c : MF} (s : Stt I0 H0 ctx (c :: mem) I H σ) : Stt I0 H0 ctx mem I H σ :=
  s.forgetAt 0 rfl
theorem J1.cm {m : Res S} {c c' : S → List (Option SF)} {me me' : S → List MF} (j : J1 X W Kx G st m (fun s => Stt I0 H0 (c s) (me s))) (h : ∀ s, c s = c' s := by intro _; rfl) (h2 : ∀ s, me s = me' s := by intro _; rfl) : J1 X W Kx G st m (fun s => Stt I0 H0 (c' s) (me' s)) := by
  have e : c = c' := funext h
  have e2 : me = me' := funext h2
  rw [← e, ← e2]; exact j
/-- a new cell: its address is named -/
theorem J1.cn {ι : Type} {m : Res S} {c c' : S → ι → List (Option SF)} {me me' : S → ι → List MF} (j : J1 X W Kx G st m (fun s I H σ => ∃ l, Stt I0 H0 (c s l) (me s l) I H σ)) (h : ∀ s l, c s l = c' s l := by intro _ _; rfl) (h2 : ∀ s l, me s l = me' s l := by intro _ _; rfl) : J1 X W Kx G st m (fun s I H σ => ∃ l, Stt I0 H0 (c' s l) (me' s l) I H σ) := by
  have e : c = c' := funext fun s => funext fun l => h s l
  have e2 : me = me' := funext fun s => funext fun l => h2 s l
  rw [← e, ← e2]; exact j
variable (i j : Nat) {r : Rp α} [mo : Mo r] {l : Addr} {xs : List α}
theorem JN.fz {m : Res S} {G' : S → Knows} (k : JN X W Kx (Stt I0 H0 ctx' mem') ss m G') (hj : mem[j]? = some (MF.lst l r xs) := by rfl) (hc : ctx[i]? = some (some (SF.mk (rRef l) ())) := by rfl) (h1 : ctx.set i (some ⟨rL r, xs⟩) = ctx' := by rfl) (h2 : mem.eraseIdx j = mem' := by rfl) : JN X W Kx (Stt I0 H0 ctx mem) ss m G' :=
  JN.frz i j (by rw [h1, h2]; exact k) hj hc
theorem JR.fz {m : Res γ} (k : JR X I0 H0 W Kx (Stt I0 H0 ctx' mem') ss m rr) (hj : mem[j]? = some (MF.lst l r xs) := by rfl) (hc : ctx[i]? = some (some (SF.mk (rRef l) ())) := by rfl) (h1 : ctx.set i (some ⟨rL r, xs⟩) = ctx' := by rfl) (h2 : mem.eraseIdx j = mem' := by rfl) : JR X I0 H0 W Kx (Stt I0 H0 ctx mem) ss m rr :=
  JR.frz i j (by rw [h1, h2]; exact k) hj hc
theorem JG.fz {m : Res (Fl S L γ)} {G' : S → Knows} {GL : L → Knows} (k : JG X I0 H0 W Kx (Stt I0 H0 ctx' mem') ss m G' GL rr) (hj : mem[j]? = some (MF.lst l r xs) := by rfl) (hc : ctx[i]? = some (some (SF.mk (rRef l) ())) := by rfl) (h1 : ctx.set i (some ⟨rL r, xs⟩) = ctx' := by rfl) (h2 : mem.eraseIdx j = mem' := by rfl) : JG X I0 H0 W Kx (Stt I0 H0 ctx mem) ss m G' GL rr :=
  JG.frz i j (by rw [h1, h2]; exact k) hj hc
end
end L2.Tr

namespace L2.Tr
open PySem PySem.Spec PyProof.Rows
section
variable {α β γ δ S L : Type} {X : Cx} {I0 H0 I H : Hp} {W : WX} {Kx : KnowsX} {ctx : List (Option SF)} {mem : List MF} {e a b c o : Expr} {pos pos' p2 : Pos} {n : Str} {σ : St} {r : Rp α} {ra : Ra α}
theorem JE.at {m : Res α} {c c' : List (Option SF)} (j : JE X I0 H0 W c' mem e m ra) (h : c = c' := by rfl) : JE X I0 H0 W c mem e m ra := by rw [h]; exact j
/-! ### tuples of one kind -/
theorem JE.ixT {m : Res (List α)} {mi : Res Int} [mo : Mo r] (ja : JE X I0 H0 W ctx mem a m (rp (rT r))) (jb : JE X I0 H0 W ctx mem b mi (rp rInt)) (hs : PlainIx b := by exact fun _ _ => rfl) :
    JE X I0 H0 W ctx mem (.Subscript a b pos) (m.bind fun xs => mi.bind fun i => atM xs i) (rp r) := fun I H σ Q st p => by
  refine PE.w (pe_ix ix_tup pe_W pe_W hs) (ja I H σ _ st ?_)
  cases m with
  | ok xs =>
    intro I1 H1 u f1 r1
    refine jb I1 H1 σ _ (st.step f1) ?_
    have p1 := PostE.up p f1
    cases mi with
    | ok i =>
      intro I2 H2 v f2 r2
      obtain ⟨l, vs, rfl, hl, pr⟩ := Mo.up (r := rT r) f2.i r1
      have p2 : PostE X.K (atM xs i) (rp r) I2 H2 _ Q := PostE.up p1 f2
      unfold atM at p2
      cases e : atI xs i with
      | none => rw [e] at p2; exact p2.elim
      | some x =>
        rw [e] at p2
        obtain ⟨w, ew, hw⟩ := atI_pair pr e
        exact ⟨l, vs, i, w, rfl, r2, SqT.of (f2.ih _ _ hl), ew, p2 I2 H2 w (Fm.refl f2.ih) hw⟩
    | err e => exact p1
    | stuck => exact p1
  | err e => exact p
  | stuck => exact p
theorem cj_lenT : CallJ X W (.builtin "len") (R1 (rp (rT r))) (fun d => .ok (d.1.length : Int)) (rp rInt) := fun I H σ Q vs x s a p => by
  obtain ⟨v, ws, rfl, ⟨l, vs, rfl, hl, pr⟩, rfl⟩ := a
  exact CallR.w call_len_seq ⟨l, vs, rfl, .inr (SqT.of (s _ _ hl)), by rw [Paired.length pr]; exact p I H _ (Fm.refl s) rfl⟩
/-- tuple(x) of a list -/
theorem cj_tupL [mo : Mo r] : CallJ X W (.type "tuple") (R1 (rdL X.K (rp r))) (fun d => .ok d.1) (rp (rT r)) := fun I H σ Q vs x s a p => by
  obtain ⟨v, ws, rfl, ⟨l, vs, rfl, hl, pr⟩, rfl⟩ := a
  refine CallR.w call_tuple_of ⟨l, vs, rfl, .inl ⟨hl, fun q hq => ?_⟩⟩
  exact p (upd I q (.tup vs)) (upd H q (.tup vs)) _ (Fm.new s hq) ⟨q, vs, rfl, upd_same, Paired.mapP pr fun _ _ z => mo.up (Fm.new (o := .tup vs) s hq).i z⟩
/-- isinstance(x, list) of a frozen list -/
theorem unused2_ : True := trivial
end
end L2.Tr

namespace PySem.W
open PySem PySem.Spec PySem.Calls PyProof.Rows
section
variable {prog : Program} {w : World} {A : Around} {E : Value → Shared → Prop} {s : Shared} {K : Frag} {x C f : Addr} {ox : Obj} {od : Option Obj}
theorem tr_len {Q : Value → Shared → Prop} (X : K.In s.heap) (I : InstAt s.heap x ox C od) (hs : findIn K (.ref C) "__len__" = some (some (.ref f))) (hf : isFn K (.ref f) = true)
    (h : wpAny (model prog w) A.in1 (call (.ref f) [.ref x]) (fun r s' => ∃ n u, r = .int n u ∧ 0 ≤ n ∧ n < 2 ^ 63 ∧ Q (.int n s'.toks) { s' with toks := s'.toks + 1 }) E s) : wpAny (model prog w) A (call (.builtin "len") [.ref x]) Q E s := by
  refine call_function_entry kind_len plain_len entry_len (args_len1 _) ?_
  unfold Builtin.«len»
  refine wpAny_bind (m := oneArg "len" _) (wpAny_pure ?_)
  refine wpAny_bind (m := callSpecial? (.ref x) (Str.ofString "__len__")) (special_fn X I hs (beq_iff_eq.mp hf) (wpAny_mono h (fun r s' hr => ?_) fun _ _ y => y))
  obtain ⟨n, u, rfl, h0, h1, hq⟩ := hr
  refine wpAny_bind (wpAny_holding (wpAny_pure ?_))
  refine wpAny_bind (wpAny_letGo ?_)
  show wpAny _ _ (if n < 0 then _ else _) _ _ _
  rw [if_neg (by omega)]
  show wpAny _ _ (if n ≥ 2 ^ 63 then _ else _) _ _ _
  rw [if_neg (by omega)]
  exact wpAny_bind (wpAny_mkInt (wpAny_pure ⟨_, rfl, hq⟩))
theorem tr_sub {value slice : Expr} {i : Value} {Q : Value → Shared → Prop} (X : K.In s.heap) (I : InstAt s.heap x ox C od) (hs : findIn K (.ref C) "__getitem__" = some (some (.ref f))) (hf : fnIn K f = true) (hfn : isFn K (.ref f) = true)
    (h : wpAny (model prog w) A.in1 (call (.ref f) [.ref x, i]) Q E s) (hsl : subscripted slice true (.ref x) i = runValue (.builtin "lifetime.subscript" ⟨[.ref x, i], []⟩)) : wpAny (model prog w) A (subscriptTail value slice (.ref x) i) Q E s := by
  unfold fnIn at hf
  split at hf
  · rename_i e
    unfold subscriptTail getitemInPython
    refine wpAny_bind (wpAny_bind (wpAny_bind (I.type.here ((looks_findIn X hs).here ?_))))
    dsimp only
    refine wpAny_bind (wpAny_load (X _ _ e) (wpAny_pure ?_))
    dsimp only
    rw [hsl]
    refine wpAny_bind (wpAny_runValue (codeAny_builtin entry_sub ?_))
    unfold Builtin.«lifetime.subscript»
    refine wpAny_bind (special_fn X I hs (beq_iff_eq.mp hfn) (wpAny_mono h (fun v s' z => ?_) fun _ _ z => z))
    refine wpAny_pure ?_
    show wpAny (model prog w) A (letTemporaryGo value (.ref x) v >>= fun _ => pure v) Q E s'
    exact wpAny_bind (wpAny_letTemporaryGo (wpAny_pure z))
  · cases hf
theorem tr_callWith {env : Env} {pos : Pos} {M : Model} {e : Expr} {rest : List Expr} {Q : Value → Shared → Prop} (hd : ox.data = .plain) (h : wpAny M A (spliced (backTo pos (starEach (e :: rest) env))) (fun vs s₁ => s₁.heap.get? x = some ox ∧ wpAny M A (call (.ref x) vs) Q E s₁) E s)
    (he : starEach (e :: rest) env = (false, eval e env) :: starEach rest env) (hplain : (backTo pos (starEach rest env)).any (·.1) = false) : wpAny M A (callWith pos (.ref x) [] (backTo pos (starEach (e :: rest) env)) []) Q E s := by
  rw [he] at h ⊢
  unfold callWith
  have h' : wpAny M A (evalArgs (.ref x) true (backTo pos ((false, eval e env) :: starEach rest env)) []) (fun a s₁ => s₁.heap.get? x = some ox ∧ wpAny M A (call (.ref x) ([] ++ a.pos) a.kw) Q E s₁) E s := evalArgs_plain h
  refine wpAny_bind (wpAny_holding (wpAny_mono h' (fun a s₁ h₁ => wpAny_bind (wpAny_standAt ?_)) fun _ _ y => y))
  have L : Looks M s₁.heap (keeperOf (.ref x)) .caller := by
    refine (Looks.ld (part := none) h₁.1).andThen ?_
    simp only [hd]
    exact .now
  have hp : ((backTo pos ((false, eval e env) :: starEach rest env)).any (·.1) || ([] : List (Option Str × Sem Value)).any (·.1.isNone)) = false := by
    show ((false || (backTo pos (starEach rest env)).any (·.1)) || false) = false
    rw [hplain]; rfl
  simp only [hp]
  refine wpAny_bind (L.here ?_)
  have tail : ∀ {t : Sem Value}, wpAny M A t Q E s₁ → wpAny M A (t >>= fun r => holding [r] point >>= fun _ => pure r) Q E s₁ :=
    fun ht => wpAny_bind (wpAny_mono ht (fun r s₂ hr => wpAny_bind (wpAny_holding (wpAny_point (wpAny_pure hr)))) fun _ _ y => y)
  exact tail (wpAny_operateT h₁.2)
end
end PySem.W
namespace L2.Tr
open PySem PySem.Spec PyProof.Rows He
/-! ### objects of own classes, frozen -/
section
variable {α β γ δ S L : Type} {X : Cx} {I0 H0 I H : Hp} {W : WX} {Kx : KnowsX} {ctx : List (Option SF)} {mem : List MF} {e a b c o : Expr} {es : List Expr} {pos pos' p2 : Pos} {n : Str} {σ : St} {Q : VK} {r : Rp α} {ra : Ra α} {rb : Ra β} {rc : Ra γ} {ma : Res α} {mb : Res β} {md : Res δ}
def rIns (C : Addr) (gs : α → List (Str × SF)) : Rp α := fun I v x => ∃ a dx fs, v = .ref a ∧ I a = some (.ins C dx fs) ∧ FldR I fs (gs x)
instance {C : Addr} {gs : α → List (Str × SF)} : Mo (rIns C gs) := ⟨fun s ⟨a, dx, fs, e, h, f⟩ => ⟨a, dx, fs, e, s _ _ h, FldR.up s f⟩⟩
theorem insI {C : Addr} {gs : α → List (Str × SF)} : InsR C (rp (rIns C gs)) := fun I H v x s ⟨a, dx, fs, e, h, _⟩ => ⟨a, dx, fs, e, s _ _ h⟩
theorem FldR.look {I : Hp} {f : Str} : ∀ {fs : List (Str × V)} {gs : List (Str × SF)} {sf : SF}, FldR I fs gs → gs.lookup f = some sf → ∃ v, fs.lookup f = some v ∧ sf.r I v sf.x
  | [], [], _, _, e => by simp at e
  | (k, v) :: fs, (k', q) :: gs, sf, ⟨h1, h2, h3⟩, e => by
    cases (show k = k' from h1)
    rw [List.lookup_cons] at e ⊢
    by_cases hk : (f == k) = true
    · rw [hk] at e ⊢
      cases e
      exact ⟨v, rfl, h2⟩
    · rw [Bool.not_eq_true] at hk
      rw [hk] at e ⊢
      exact FldR.look h3 e
  | [], _ :: _, _, h, _ => h.elim
  | _ :: _, [], _, h, _ => h.elim
theorem FldR.none {I : Hp} {f : Str} : ∀ {fs : List (Str × V)} {gs : List (Str × SF)}, FldR I fs gs → gs.lookup f = none → fs.lookup f = none
  | [], [], _, _ => rfl
  | (k, v) :: fs, (k', q) :: gs, ⟨h1, h2, h3⟩, e => by
    cases (show k = k' from h1)
    rw [List.lookup_cons] at e ⊢
    by_cases hk : (f == k) = true
    · rw [hk] at e; cases e
    · rw [Bool.not_eq_true] at hk
      rw [hk] at e ⊢
      exact FldR.none h3 e
  | [], _ :: _, h, _ => h.elim
  | _ :: _, [], h, _ => h.elim
theorem insOfI {C : Addr} {gs : α → List (Str × SF)} {m : Str} (h : ∀ x, (gs x).lookup m = none) : InsOf C (rp (rIns C gs)) m := fun I H v x s ⟨a, dx, fs, e, hi, f⟩ => ⟨a, dx, fs, e, s _ _ hi, f.none (h x)⟩
theorem fldI {K : PySem.W.Frag} {C : Addr} {gs : α → List (Str × SF)} {f : Str} {r : Rp β} {mo : Mo r} {get : α → β} (h : ∀ x, (gs x).lookup f = some (SF.mk r (get x))) : FldOf K C (rp (rIns C gs)) f get (rp r) := fun I H v x s ⟨a, dx, fs, e, hi, q⟩ => by
  obtain ⟨w, h1, h2⟩ := q.look (h x)
  exact ⟨a, dx, fs, w, e, s _ _ hi, h1, h2⟩
/-! ### len, x[k], x(..) of own objects; properties -/
def lenG (n : Int) : Res Int := Res.guard (0 ≤ n ∧ n < 2 ^ 63) (.ok n)
theorem cj_lenO {k : Nat} {C f : Addr} {g : α × Unit → Res Int} (hm : OMet X.K C "__len__" f) (ia : InsR C ra) (hr : Room (k + 1) X.A) (tk : Takes X W) (F : FnR X.prog X.w X.K X.mg X.base (L2.CX X.prog X.w) k f (spF X.K (R1 ra) g (rp rInt))) : CallJ X W (.builtin "len") (R1 ra) (fun d => (g d).bind lenG) (rp rInt) := fun I H σ Q vs x s h p pins sh us Iv r => by
  obtain ⟨v, ws, rfl, h1, rfl⟩ := h
  obtain ⟨au, dx, fs, rfl, hu⟩ := ia I H v x.1 s h1
  obtain rfl := Vals.ref1 r
  obtain ⟨od, J⟩ := insAt Iv hu
  refine PySem.W.tr_len Iv.kIn J hm.at_ hm.fn (thn (run_W1 (vs := [.ref au]) (Q := fun z H' => ∃ n : Int, z = .int n ∧ 0 ≤ n ∧ n < 2 ^ 63 ∧ Q (.int n) H') F hr tk ⟨I, x, s, ⟨_, _, rfl, h1, rfl⟩, ?_⟩ Iv r) fun w s' ⟨z, H', I', rz, n, ez, h0, h9, q⟩ => ?_)
  · have p0 : PostE X.K ((g x).bind lenG) (rp rInt) I H (fun cls d H' => W cls d σ H') Q := p
    clear p
    revert p0
    generalize g x = z
    intro p
    cases z with
    | ok y =>
      intro I' H' v f r
      have p1 : PostE X.K (lenG y) (rp rInt) I H (fun cls d H' => W cls d σ H') Q := p
      obtain ⟨⟨q0, q9⟩, p2⟩ := post_guard p1
      exact ⟨y, r, q0, q9, p2 I' H' _ f rfl⟩
    | err e => exact p
    | stuck => exact p
  · subst ez
    obtain ⟨t, rfl⟩ := rz
    exact ⟨n, t, rfl, h0, h9, .int n, H', I'.tok _, ⟨_, rfl⟩, q⟩
theorem w_sub (h : wE X a σ H fun x H1 => wE X b σ H1 fun y H2 => ∀ (pins : List (Addr × Obj)) (sh : Shared) (v u : Value), Inv X pins σ H2 sh → RelV x v → RelV y u → wpAny (model X.prog X.w) X.A (subscriptTail a b v u) (EP X pins σ Q) X.xe sh) : wE X (.Subscript a b pos) σ H Q := fun pins s I =>
  Subscript_ (thn (h pins s I) fun v s1 ⟨x, H1, I1, r1, q1⟩ => thn (q1 pins s1 I1) fun u s2 ⟨y, H2, I2, r2, q2⟩ => q2 pins s2 v u I2 r1 r2)
theorem JE.ixO {k : Nat} {C f : Addr} {g : α × β × Unit → Res γ} [MoA ra] (hm : OMet X.K C "__getitem__" f) (hfn : PySem.W.fnIn X.K f = true) (ia : InsR C ra) (hr : Room (k + 1) X.A) (tk : Takes X W) (F : FnR X.prog X.w X.K X.mg X.base (L2.CX X.prog X.w) k f (spF X.K (R2' ra rb) g rc))
    (ja : JE X I0 H0 W ctx mem a ma ra) (jb : JE X I0 H0 W ctx mem b mb rb) (hsl : ∀ o i, subscripted b true o i = runValue (.builtin "lifetime.subscript" ⟨[o, i], []⟩) := by intro _ _; with_unfolding_all rfl) :
    JE X I0 H0 W ctx mem (.Subscript a b pos) (ma.bind fun x => mb.bind fun y => g (x, y, ())) rc := fun I H σ Q st p => by
  refine w_sub (ja I H σ _ st ?_)
  cases ma with
  | ok x =>
    intro I1 H1 u f1 r1
    refine jb I1 H1 σ _ (st.step f1) ?_
    have p1 := PostE.up p f1
    cases mb with
    | ok y =>
      intro I2 H2 v f2 r2 pins sh uu vv Iv ru rv
      have r1' := MoA.up (r := ra) f2.i f2.h r1
      obtain ⟨au, dx, fs, rfl, hu⟩ := ia I2 H2 u x f2.ih r1'
      obtain rfl : uu = Value.ref au := ru
      obtain ⟨od, J⟩ := insAt Iv hu
      exact PySem.W.tr_sub Iv.kIn J hm.at_ hfn hm.fn (run_W1 (vs := [.ref au, v]) F hr tk ⟨I2, (x, y, ()), f2.ih, ⟨_, _, rfl, r1', _, _, rfl, r2, rfl⟩, PostE.up p1 f2⟩ Iv (.cons rfl (.cons rv .nil))) (hsl _ _)
    | err e => exact p1
    | stuck => exact p1
  | err e => exact p
  | stuck => exact p
def codeW (X : Cx) (f : Value) (σ : St) (xs : List V) (H : Hp) (Q : VK) : Prop := ∀ (pins : List (Addr × Obj)) (s : Shared) (us : List Value), Inv X pins σ H s → Vals xs us → codeAny (model X.prog X.w) X.A (.call f ⟨us, []⟩) (fun r s' => match r with
  | .ok (.ret v) => EP X pins σ Q v s'
  | .ok _ => False
  | .error e => X.xe e s') s
theorem run_C {k : Nat} {f : Addr} {sp : Sp} {vs : List V} (F : FnR X.prog X.w X.K X.mg X.base (L2.CX X.prog X.w) k f sp) (hr : Room k X.A) (tk : Takes X W) (h : sp vs H Q fun cls d H' => W cls d σ H') : codeW X (.ref f) σ vs H Q := fun pins s us I r => by
  refine codeAny_mono (F X.A X.stack s H us vs Q _ hr I.env0 r h) fun r s' hq => ?_
  cases r with
  | error e => exact passAt tk σ pins H s e s' I hq
  | ok fl =>
    cases fl with
    | ret u => exact I.after hq
    | next => exact hq.elim
    | brk => exact hq.elim
    | cont => exact hq.elim
/-- x(e, ..), x a name that holds an own object -/
theorem JE.callO {k : Nat} {C f : Addr} {po : Pos} {g : α × δ → Res γ} {R : Hp → Hp → List V → δ → Prop} [MoA ra] (hm : OMet X.K C "__call__" f) (hfn : PySem.W.fnIn X.K f = true) (ia : InsR C ra) (hr : Room k X.A) (tk : Takes X W) (F : FnR X.prog X.w X.K X.mg X.base (L2.CX X.prog X.w) k f (spF X.K (aCons ra R) g rc))
    (j : JE X I0 H0 W ctx mem (.Name n pos') ma ra) (ja : JA X I0 H0 W ctx mem (e :: es) md R) (he : starEach (e :: es) X.env = (false, eval e X.env) :: starEach es X.env := by rfl) (hpl : (backTo po (starEach es X.env)).any (·.1) = false := by rfl) :
    JE X I0 H0 W ctx mem (.Call (.Name n pos') (e :: es) [] po) (ma.bind fun x => md.bind fun y => g (x, y)) rc := fun I H σ Q st p => by
  have h : wE X (.Name n pos') σ H fun v H1 => ∃ (au dx : Addr) (fs : List (Str × V)), v = .ref au ∧ H1 au = some (.ins C dx fs) ∧ wA X (e :: es) σ H1 fun vs H2 => H2 au = some (.ins C dx fs) ∧ codeW X (.ref f) σ (.ref au :: vs) H2 Q := by
    refine j I H σ _ st ?_
    cases ma with
    | ok x =>
      intro I1 H1 u f1 r1
      obtain ⟨au, dx, fs, rfl, hu⟩ := ia I1 H1 u x f1.ih r1
      refine ⟨au, dx, fs, rfl, hu, ja I1 H1 σ _ (st.step f1) ?_⟩
      have p1 := PostE.up p f1
      cases md with
      | ok y =>
        intro I2 H2 vs f2 r2
        exact ⟨f2.h _ _ hu, run_C F hr tk ⟨I2, (x, y), f2.ih, ⟨_, _, rfl, MoA.up f2.i f2.h r1, r2⟩, PostE.up p1 f2⟩⟩
      | err e => exact p1
      | stuck => exact p1
    | err e => exact p
    | stuck => exact p
  intro pins s Iv
  refine wpAny_Call_Name_kw (thn (h pins s Iv) fun u s1 ⟨v, H1, I1, rv, au, dx, fs, ev, hu, q⟩ => ?_)
  subst ev
  obtain rfl : u = Value.ref au := rv
  obtain ⟨od, J⟩ := insAt I1 hu
  refine PySem.W.tr_callWith (ox := PySem.W.instObj C dx) rfl (thn (q po pins s1 I1) fun us s2 ⟨vs, H2, I2, r2, hu2, cw⟩ => ?_) he hpl
  obtain ⟨od2, J2⟩ := insAt I2 hu2
  refine ⟨J2.at_, wpAny_call (PySem.W.kco_code I2.kIn J2 rfl hm.at_ hm.fn hfn ?_)⟩
  exact cw pins s2 (.ref au :: us) I2 (.cons rfl r2)
/-! ### properties -/
structure PropP (K : PySem.W.Frag) (C : Addr) (f : Str) (p g : Addr) : Prop where
  po : PropOf K C f p g
theorem w_prop {k : Nat} {C p g : Addr} {f : Str} {sp : Sp} (c : Cls X.K C) (hp : PropOf X.K C f p g) (F : FnR X.prog X.w X.K X.mg X.base (L2.CX X.prog X.w) k g sp) (hr : Room (k + 1) X.A) (tk : Takes X W)
    (h : wE X o σ H fun x H1 => ∃ a dx fs, x = .ref a ∧ H1 a = some (.ins C dx fs) ∧ sp [.ref a] H1 Q fun _ _ _ => False) (hab : attributeBase o f X.env (eval o X.env) = eval o X.env := by rfl) : wE X (.Attribute o f pos) σ H Q := fun pins s I => by
  refine attr_of hab (thn (h pins s I) fun u s1 ⟨x, H1, I1, rx, a, dx, fs, ex, ea, q⟩ => ?_)
  subst ex
  obtain rfl : u = Value.ref a := rx
  obtain ⟨mA, O, _, _, _, _⟩ := ins_get I1.hok ea
  obtain ⟨od, J, _⟩ := O.look
  obtain ⟨rest, hrec⟩ := hp.rec_
  have I2 := I1.tok (s1.toks + 1)
  have hc : (PySem.W.clsIn X.K C).isSome = true := by
    obtain ⟨cd, hc, _⟩ := PySem.W.any_some c.hd
    rw [hc]; rfl
  refine PySem.W.get_bind I1.kIn J (PySem.W.plainGet_of (c.get f)).1 (PySem.W.findObj_data hc hp.at_ hp.get hp.tak) (PySem.W.plainGet_of (c.get f)).2 (wpAny_call (PySem.W.prop_get (s := { s1 with toks := s1.toks + 1 }) I1.kIn hrec ?_))
  refine codeAny_mono (F X.A.in1 X.stack { s1 with toks := s1.toks + 1 } H1 [.ref a] [.ref a] Q _ hr.in1 I2.env0.in1 (.cons rfl .nil) q) fun r s' hq => ?_
  cases r with
  | error er => exact (cx_false hq).elim
  | ok fl =>
    cases fl with
    | ret u =>
      obtain ⟨v, H', I3, rv, q3⟩ := I2.after hq
      show wpAny _ _ (handedOut u) _ _ _
      rw [PySem.W.handedOut_of (handed_of rv)]
      exact wpAny_pure ⟨v, H', I3, rv, q3⟩
    | next => exact hq.elim
    | brk => exact hq.elim
    | cont => exact hq.elim
/-- o.f, a property; an error in it is not covered -/
def noErr (m : Res α) : Res α := match m with
  | .err _ => .stuck
  | m => m
theorem JE.prop {k : Nat} {C p g : Addr} {f : Str} {m : α × Unit → Res γ} (j : JE X I0 H0 W ctx mem o ma ra) (ia : InsR C ra) (c : Cls X.K C) (hp : PropOf X.K C f p g) (F : FnR X.prog X.w X.K X.mg X.base (L2.CX X.prog X.w) k g (spF X.K (R1 ra) m rc)) (hr : Room (k + 1) X.A) (tk : Takes X W)
    (hab : attributeBase o f X.env (eval o X.env) = eval o X.env := by rfl) : JE X I0 H0 W ctx mem (.Attribute o f pos) (ma.bind fun x => noErr (m (x, ()))) rc := fun I H σ Q st p => by
  refine w_prop c hp F hr tk (j I H σ _ st ?_) hab
  cases ma with
  | ok x =>
    intro I1 H1 u f1 r1
    obtain ⟨a, dx, fs, rfl, hu⟩ := ia I1 H1 u x f1.ih r1
    refine ⟨a, dx, fs, rfl, hu, I1, (x, ()), f1.ih, ⟨_, _, rfl, r1, rfl⟩, ?_⟩
    have p1 : PostE X.K (noErr (m (x, ()))) rc I1 H1 _ Q := PostE.up p f1
    revert p1
    generalize m (x, ()) = z
    intro p1
    cases z with
    | ok y => exact p1
    | err e => exact p1.elim
    | stuck => exact p1
  | err e => exact p
  | stuck => exact p
/-! ### C.m(..), a staticmethod -/
structure SMet (K : PySem.W.Frag) (C : Addr) (mc : Value) (m : Str) (p g : Addr) : Prop where
  rd : PySem.W.readsIn K C mc = true
  ga : PySem.W.specialIn K (.ref C) "__getattribute__" = some (some (.builtin "type.__getattribute__"))
  at_ : PySem.W.findCls K (.ref C) mc m = some (.get (.builtin "staticmethod.__get__") (.ref p) .none (.ref C))
  rc : ∃ rest, PySem.W.recIn K p "staticmethod" = some (.ref g :: rest)
  kp : PySem.W.keepIn K (.ref g) = true
theorem JE.static {pl : Sem Bool} {C p g : Addr} {mc : Value} {m : Str} {apos po : Pos} {g' : δ → Res γ} {R : Hp → Hp → List V → δ → Prop} (hm : X.mg n = some (.ref C)) (sm : SMet X.K C mc m p g) (k : JA X I0 H0 W ctx mem (e :: es) md R) (cj : CallJ X W (.ref g) R g' rc)
    (hg : Gl X n := by rfl) (hdb : (n == ("__debug__" : Str)) = false := by decide) (hst : starEach (e :: es) X.env = (false, eval e X.env) :: starEach es X.env := by rfl) (hpl : (backTo po (starEach es X.env)).any (·.1) = false := by rfl)
    (ht : eval (.Call (.Attribute (.Name n pos') m apos) (e :: es) [] po) X.env = (do
      let ov ← eval (.Name n pos') X.env
      standAt apos.atName
      let (f, first) ← holding [ov] (getMethod ov m pl)
      callWith po f first (backTo po (starEach (e :: es) X.env)) (backToKw po (keywordEach [] X.env))) := by rfl) :
    JE X I0 H0 W ctx mem (.Call (.Attribute (.Name n pos') m apos) (e :: es) [] po) (md.bind g') rc := fun I H σ Q st p pins s Iv => by
  have q := k.call cj st p
  refine PySem.W.methodCall_KW (pl := pl) (ld_glob Iv hg hm ?_ hdb) ht
  obtain ⟨rest, hp⟩ := sm.rc
  have I1 := Iv.tok (s.toks + 1)
  refine PySem.W.method_cls Iv.kIn sm.ga (PySem.W.cls_bind Iv.kIn sm.rd sm.at_ (wpAny_call (PySem.W.sm_get (s := { s with toks := s.toks + 1 }) Iv.kIn hp (PySem.W.handed_on rfl ?_))))
  exact PySem.W.callWith_K (first := []) (h₀ := X.base) Iv.ok.mod.kin sm.kp (thn (q po pins _ I1) fun us s2 ⟨vs, H2, I2, r, q2⟩ => ⟨I2.kIn, q2 pins s2 us I2 r⟩) hst hpl
/-! ### sequences: a list or a tuple -/
def rSq (K : PySem.W.Frag) (r : Ra α) : Ra (List α) := fun I H v xs => ∃ l vs, v = .ref l ∧ (SqL K H l vs ∨ SqT K H l vs) ∧ Paired (r I H) vs xs
theorem Same.seqT {K : PySem.W.Frag} {H H' : Hp} {a : Addr} {xs : List V} (s : Same H H') (h : SqT K H a xs) : SqT K H' a xs := by
  rcases h with h | h
  · rcases h with h | ⟨h1, h2⟩
    · exact .inl (.inl (s _ _ h))
    · exact .inl (.inr ⟨h1, s _ _ h2⟩)
  · exact .inr h
instance {K : PySem.W.Frag} {r : Ra α} [m : MoA r] : MoA (rSq K r) := ⟨fun s t ⟨l, vs, e, h, p⟩ => ⟨l, vs, e, h.imp (fun h => t.seq h) (fun h => Same.seqT t h), Paired.mapP p fun _ _ q => m.up s t q⟩⟩
theorem JE.sqL {m : Res (List α)} (j : JE X I0 H0 W ctx mem e m (rdL X.K ra)) : JE X I0 H0 W ctx mem e m (rSq X.K ra) := j.co fun _ _ _ _ _ ⟨l, vs, e, h, p⟩ => ⟨l, vs, e, .inl h, p⟩
theorem JE.sqT {m : Res (List α)} (j : JE X I0 H0 W ctx mem e m (rp (rT r))) : JE X I0 H0 W ctx mem e m (rSq X.K (rp r)) := j.co fun _ _ _ _ s ⟨l, vs, e, h, p⟩ => ⟨l, vs, e, .inr (SqT.of (s _ _ h)), p⟩
theorem cj_lenS : CallJ X W (.builtin "len") (R1 (rSq X.K ra)) (fun d => .ok (d.1.length : Int)) (rp rInt) := fun I H σ Q vs x s a p => by
  obtain ⟨v, ws, rfl, ⟨l, vs, rfl, hl, pr⟩, rfl⟩ := a
  exact CallR.w call_len_seq ⟨l, vs, rfl, hl, by rw [Paired.length pr]; exact p I H _ (Fm.refl s) rfl⟩
theorem JE.ixS {m : Res (List α)} {mi : Res Int} [MoA ra] (ja : JE X I0 H0 W ctx mem a m (rSq X.K ra)) (jb : JE X I0 H0 W ctx mem b mi (rp rInt)) (hs : PlainIx b := by exact fun _ _ => rfl) :
    JE X I0 H0 W ctx mem (.Subscript a b pos) (m.bind fun xs => mi.bind fun i => atM xs i) ra := fun I H σ Q st p => by
  refine PE.w (pe_ix (IxR.or ix_list ix_tup) pe_W pe_W hs) (ja I H σ _ st ?_)
  cases m with
  | ok xs =>
    intro I1 H1 u f1 r1
    refine jb I1 H1 σ _ (st.step f1) ?_
    have p1 := PostE.up p f1
    cases mi with
    | ok i =>
      intro I2 H2 v f2 r2
      obtain ⟨l, vs, rfl, hl, pr⟩ := MoA.up (r := rSq X.K ra) f2.i f2.h r1
      have p2 : PostE X.K (atM xs i) ra I2 H2 _ Q := PostE.up p1 f2
      unfold atM at p2
      cases e : atI xs i with
      | none => rw [e] at p2; exact p2.elim
      | some x =>
        rw [e] at p2
        obtain ⟨w, ew, hw⟩ := atI_pair pr e
        rcases hl with hl | hl
        · exact .inl ⟨l, vs, i, w, rfl, r2, hl, ew, p2 I2 H2 w (Fm.refl f2.ih) hw⟩
        · exact .inr ⟨l, vs, i, w, rfl, r2, hl, ew, p2 I2 H2 w (Fm.refl f2.ih) hw⟩
    | err e => exact p1
    | stuck => exact p1
  | err e => exact p
  | stuck => exact p
/-- what is walked is a parameter: a list or a tuple -/
theorem JI.parS {tg : Expr} (i : Nat) {mo : Mo (fun I v x => rSq X.K (rp r) I H0 v x)} {x : List α} [m : Mo r] (hc : ctx[i]? = some (some (@SF.mk (List α) (fun I v x => rSq X.K (rp r) I H0 v x) mo x)) := by rfl) (hN : X.N[i]? = some n := by rfl) (hv : Vis X.env.scope n := by first | exact Or.inl rfl | exact Or.inr (Or.inl rfl) | exact Or.inr (Or.inr rfl)) (hd : (n == ("__debug__" : Str)) = false := by decide)
    (hcd : (n == ("__classdict__" : Str)) = false := by decide) : JI X I0 H0 W ctx mem tg (.Name n pos) (.ok x) r := fun I H σ R st p => by
  obtain ⟨v, e, l, vs, ev, hl, pr⟩ := st.sl i _ hc
  subst ev
  rcases hl with hl | hl
  · refine PI.w (pi_list pe_W) (w_var i ⟨l, rfl, ⟨vs, st.fm.h.seq hl⟩, ?_⟩ e hN hv hd hcd)
    exact p I H _ vs _ (Fm.refl st.same) itr_list (fun I2 H2 s1 s2 s3 => s3.seq hl) pr
  · refine PI.w (pi_tup pe_W) (w_var i ⟨l, rfl, ⟨vs, Same.seqT st.fm.h hl⟩, ?_⟩ e hN hv hd hcd)
    exact p I H _ vs _ (Fm.refl st.same) itr_tup (fun I2 H2 s1 s2 s3 => Same.seqT s3 hl) pr
theorem JM.listS [mo : Mo r] {m : Res (List α)} (ja : JE X I0 H0 W ctx mem a m (rSq X.K (rp r))) (hm : X.mg "list" = none) (hg : Gl X "list" := by rfl) (hs : starEach [a] X.env = (false, eval a X.env) :: starEach [] X.env := by rfl) (hpl : (backTo pos (starEach [] X.env)).any (·.1) = false := by rfl) :
    JM X I0 H0 W ctx mem (.Call (.Name "list" pos') [a] [] pos) (m.bind fun xs => .ok xs) r := fun I H σ Q st p => by
  refine w_callTy (T := "list") (Tr.w_cons (ja I H σ _ st ?_) hs) hm (by decide +kernel) hg (by decide) (by decide) hs hpl
  cases m with
  | ok xs =>
    rintro I1 H1 u f1 ⟨l, vs, rfl, hs, pr⟩
    exact w_nil (CallR.w call_list_of ⟨l, vs, rfl, hs, fun q hq => mpost p f1 hq pr⟩)
  | err e => exact p
  | stuck => exact p
/-! ### coercions of items -/
theorem paired_map {F : β → α → Prop} {G : β → γ → Prop} {f : α → γ} (h : ∀ v x, F v x → G v (f x)) : ∀ {vs : List β} {xs : List α}, Paired F vs xs → Paired G vs (xs.map f)
  | _, _, .nil => .nil
  | _, _, .cons a t => .cons (h _ _ a) (paired_map h t)
theorem JE.sqMap {m : Res (List α)} {rb : Ra β} {f : α → β} (j : JE X I0 H0 W ctx mem e m (rSq X.K ra)) (h : ∀ I H v x, ra I H v x → rb I H v (f x)) : JE X I0 H0 W ctx mem e (m.bind fun xs => .ok (xs.map f)) (rSq X.K rb) := j.map fun _ _ _ _ _ ⟨l, vs, e, hl, p⟩ => ⟨l, vs, e, hl, paired_map (h _ _) p⟩
theorem JE.rdMap {m : Res (List α)} {rb : Ra β} {f : α → β} (j : JE X I0 H0 W ctx mem e m (rdL X.K ra)) (h : ∀ I H v x, ra I H v x → rb I H v (f x)) : JE X I0 H0 W ctx mem e (m.bind fun xs => .ok (xs.map f)) (rdL X.K rb) := j.map fun _ _ _ _ _ ⟨l, vs, e, hl, p⟩ => ⟨l, vs, e, hl, paired_map (h _ _) p⟩
theorem co_iN {K : PySem.W.Frag} : ∀ (I H : Hp) (v : V) (x : Int), rp rInt I H v x → rp (rNum K) I H v (Num.i x) := fun _ _ _ _ h => h
theorem co_qN {K : PySem.W.Frag} : ∀ (I H : Hp) (v : V) (x : Rat), rp (rFrac K) I H v x → rp (rNum K) I H v (Num.q x) := fun _ _ _ _ h => h
theorem JM.map {m : Res (List α)} {rb : Rp β} {f : α → β} (j : JM X I0 H0 W ctx mem e m r) (h : ∀ I H v x, rp r I H v x → rp rb I H v (f x)) : JM X I0 H0 W ctx mem e (m.bind fun xs => .ok (xs.map f)) rb := fun I H σ Q st p => j I H σ Q st (by
  cases m with
  | ok xs => exact fun I1 H1 l vs f1 a b c pr => p I1 H1 l vs f1 a b c (paired_map (h I1 H1) pr)
  | err e => exact p
  | stuck => exact p)
/-! ### all, any, sum -/
theorem paired_bl {I H : Hp} : ∀ {vs : List V} {xs : List Bool}, Paired (rp rBl I H) vs xs → vs = xs.map V.bl
  | _, _, .nil => rfl
  | _, _, .cons h t => by rw [List.map_cons, ← paired_bl t, show _ = _ from h]
theorem paired_in {I H : Hp} : ∀ {vs : List V} {xs : List Int}, Paired (rp rInt I H) vs xs → vs = xs.map V.int
  | _, _, .nil => rfl
  | _, _, .cons h t => by rw [List.map_cons, ← paired_in t, show _ = _ from h]
theorem cj_all (hc : X.calm = true) : CallJ X W (.builtin "all") (R1 (rdL X.K (rp rBl))) (fun d => .ok (d.1.all id)) (rp rBl) := fun I H σ Q vs x s a p => by
  obtain ⟨v, ws, rfl, ⟨l, vs, rfl, hl, pr⟩, rfl⟩ := a
  exact CallR.w (cr_all hc) ⟨l, x.1, rfl, by rw [← paired_bl pr]; exact hl, p I H _ (Fm.refl s) rfl⟩
theorem cj_any (hc : X.calm = true) : CallJ X W (.builtin "any") (R1 (rdL X.K (rp rBl))) (fun d => .ok (d.1.any id)) (rp rBl) := fun I H σ Q vs x s a p => by
  obtain ⟨v, ws, rfl, ⟨l, vs, rfl, hl, pr⟩, rfl⟩ := a
  exact CallR.w (cr_any hc) ⟨l, x.1, rfl, by rw [← paired_bl pr]; exact hl, p I H _ (Fm.refl s) rfl⟩
theorem cj_sum (hc : X.calm = true) : CallJ X W (.builtin "sum") (R1 (rdL X.K (rp rInt))) (fun d => .ok d.1.sum) (rp rInt) := fun I H σ Q vs x s a p => by
  obtain ⟨v, ws, rfl, ⟨l, vs, rfl, hl, pr⟩, rfl⟩ := a
  exact CallR.w (cr_sum hc) ⟨l, x.1, rfl, by rw [← paired_in pr]; exact hl, p I H _ (Fm.refl s) rfl⟩
end
end L2.Tr

namespace L2.Tr
open PySem PySem.Spec PyProof.Rows He
section
variable {α β γ δ S L : Type} {X : Cx} {I0 H0 I H : Hp} {W : WX} {Kx : KnowsX} {G : Knows} {ctx : List (Option SF)} {mem : List MF} {e a b c o : Expr} {es : List Expr} {ss : List Stmt} {pos pos' p2 : Pos} {n : Str} {σ : St} {Q : VK} {r : Rp α} {ra : Ra α} {rb : Ra β} {rc : Ra γ} {ma : Res α} {mb : Res β} {md : Res δ} {R : Hp → Hp → List V → δ → Prop}
/-! ### defs that hand back a new list -/
def rNew (H0 : Hp) (r : Rp α) : Ra (List α) := fun I H v xs => ∃ l vs, v = .ref l ∧ H0 l = none ∧ I l = none ∧ H l = some (.lst vs) ∧ Paired (r I) vs xs
def spN (K : PySem.W.Frag) (R : Hp → Hp → List V → δ → Prop) (m : δ → Res (List α)) (r : Rp α) : Sp := fun vs H Q E => ∃ I d, Same I H ∧ R I H vs d ∧ PostE K (m d) (rNew H r) I H E Q
def CallN (X : Cx) (W : WX) (f : Value) (R : Hp → Hp → List V → δ → Prop) (g : δ → Res (List α)) (r : Rp α) : Prop :=
  ∀ (I H : Hp) (σ : St) (Q : VK) (vs : List V) (x : δ), Same I H → R I H vs x → PostM X W σ I H (g x) r Q → callW X f σ vs H Q
theorem post_new {m : Res (List α)} (p : PostM X W σ I H m r Q) : PostE X.K m (rNew H r) I H (fun cls d H' => W cls d σ H') Q := by
  cases m with
  | ok xs => exact fun I' H' v f ⟨l, vs, e, h1, h2, h3, pr⟩ => by subst e; exact p I' H' l vs f h1 h2 h3 pr
  | err e => exact p
  | stuck => exact p
theorem PostM.up {m : Res (List α)} {I1 H1 : Hp} (p : PostM X W σ I H m r Q) (f : Fm I H I1 H1) : PostM X W σ I1 H1 m r Q := by
  cases m with
  | ok xs => exact fun I' H' l vs f2 h1 h2 h3 pr => p I' H' l vs (f.trans f2) (f.h.free h1) h2 h3 pr
  | err e => exact fun I' H' c d g x => p I' H' c d (f.trans g) ⟨x.1.back f.h, x.2⟩
  | stuck => exact p
theorem cn_of {k : Nat} {f : Addr} {m : δ → Res (List α)} (F : FnR X.prog X.w X.K X.mg X.base (L2.CX X.prog X.w) k f (spN X.K R m r)) (hr : Room k X.A) (tk : Takes X W) : CallN X W (.ref f) R m r := fun I H σ Q vs d s h p => run_W F hr tk ⟨I, d, s, h, post_new p⟩
theorem FnN.nice {P : Program} {w : World} {K : PySem.W.Frag} {mg : Str → Option Value} {base : Heap} {k : Nat} {f : Addr} {m m' : δ → Res (List α)} (F : FnR P w K mg base (L2.CX P w) k f (spN K R m r)) (h : ∀ d, m' d = .stuck ∨ m' d = m d) : FnR P w K mg base (L2.CX P w) k f (spN K R m' r) := F.imp fun vs H Q E ⟨I, d, s, r, p⟩ => ⟨I, d, s, r, by
  rcases h d with e | e
  · rw [show m' d = _ from e] at p; exact p.elim
  · rw [← e]; exact p⟩
theorem FnOk.frN0 {P : Program} {w : World} {K : PySem.W.Frag} {mg : Str → Option Value} {base : Heap} {k : Nat} {f : Addr} {fd : FuncData} {ps : List Str} {m : δ → Res (List α)} (F : FnOk P w K mg base (L2.CX P w) k f fd ps (spN K R m r)) (hb : Binds K fd ps []) :
    FnR P w K mg base (L2.CX P w) k f (spN K R m r) := (FnOk.raw F hb .nil).imp fun vs H Q E h => by rw [List.append_nil]; exact h
theorem JA.callM {g : δ → Res (List α)} (k : JA X I0 H0 W ctx mem es md R) {f : Value} (cn : CallN X W f R g r) (st : Stt I0 H0 ctx mem I H σ) (p : PostM X W σ I H (md.bind g) r Q) : wA X es σ H fun vs H1 => callW X f σ vs H1 Q := by
  refine k I H σ _ st ?_
  cases md with
  | ok x => exact fun I1 H1 vs f1 r1 => cn I1 H1 σ Q vs x f1.ih r1 (PostM.up (m := g x) p f1)
  | err e => exact p
  | stuck => exact p
theorem JM.call {f : Addr} {g : δ → Res (List α)} (k : JA X I0 H0 W ctx mem (e :: es) md R) (cn : CallN X W (.ref f) R g r) (hm : X.mg n = some (.ref f)) (hk : PySem.W.keepIn X.K (.ref f) = true) (hg : Gl X n := by rfl) (hdb : (n == ("__debug__" : Str)) = false := by decide)
    (he : starEach (e :: es) X.env = (false, eval e X.env) :: starEach es X.env := by rfl) (hpl : (backTo pos (starEach es X.env)).any (·.1) = false := by rfl) : JM X I0 H0 W ctx mem (.Call (.Name n pos') (e :: es) [] pos) (md.bind g) r := fun I H σ Q st p =>
  w_call (k.callM cn st p) hm hk hg hdb he hpl
theorem JM.meth {pl : Sem Bool} {m : Str} {C f : Addr} {apos : Pos} {g : β × δ → Res (List α)} [MoA rb] (j : JE X I0 H0 W ctx mem o mb rb) (hi : InsOf C rb m) (k : JA X I0 H0 W ctx mem (e :: es) md R) (cn : CallN X W (.ref f) (aCons rb R) g r) (c : Cls X.K C) (hm : Meth X.K C m f)
    (hst : starEach (e :: es) X.env = (false, eval e X.env) :: starEach es X.env := by rfl) (hpl : (backTo pos (starEach es X.env)).any (·.1) = false := by rfl)
    (ht : eval (.Call (.Attribute o m apos) (e :: es) [] pos) X.env = (do
      let ov ← eval o X.env
      standAt apos.atName
      let (f, first) ← holding [ov] (getMethod ov m pl)
      callWith pos f first (backTo pos (starEach (e :: es) X.env)) (backToKw pos (keywordEach [] X.env))) := by rfl) : JM X I0 H0 W ctx mem (.Call (.Attribute o m apos) (e :: es) [] pos) (mb.bind fun x => md.bind fun y => g (x, y)) r := fun I H σ Q st p => by
  refine w_meth (j I H σ _ st ?_) c hm hst hpl ht
  cases mb with
  | ok x =>
    intro I1 H1 v f1 r1
    obtain ⟨a, dx, fs, ev, ha, hl⟩ := hi I1 H1 v x f1.ih r1
    refine ⟨a, dx, fs, ev, ha, hl, k I1 H1 σ _ (st.step f1) ?_⟩
    cases md with
    | ok y => exact fun I2 H2 vs f2 r2 => cn I2 H2 σ Q (v :: vs) (x, y) f2.ih ⟨v, vs, rfl, MoA.up f2.i f2.h r1, r2⟩ (PostM.up (m := g (x, y)) p (f1.trans f2))
    | err e => exact fun I' H' c d f x => p I' H' c d (f1.trans f) ⟨x.1.back f1.h, x.2⟩
    | stuck => exact p
  | err e => exact p
  | stuck => exact p
theorem JM.meth0 {pl : Sem Bool} {m : Str} {C f : Addr} {apos : Pos} {g : β × Unit → Res (List α)} (j : JE X I0 H0 W ctx mem o mb rb) (hi : InsOf C rb m) (cn : CallN X W (.ref f) (aCons rb aNil) g r) (c : Cls X.K C) (hm : Meth X.K C m f)
    (ht : eval (.Call (.Attribute o m apos) [] [] pos) X.env = (do
      let ov ← eval o X.env
      standAt apos.atName
      let (f, first) ← holding [ov] (getMethod ov m pl)
      callWith pos f first (backTo pos (starEach [] X.env)) (backToKw pos (keywordEach [] X.env))) := by rfl) : JM X I0 H0 W ctx mem (.Call (.Attribute o m apos) [] [] pos) (mb.bind fun x => g (x, ())) r := fun I H σ Q st p => by
  refine w_meth0 (j I H σ _ st ?_) c hm ht
  cases mb with
  | ok x =>
    intro I1 H1 v f1 r1
    obtain ⟨a, dx, fs, ev, ha, hl⟩ := hi I1 H1 v x f1.ih r1
    exact ⟨a, dx, fs, ev, ha, hl, cn I1 H1 σ Q [v] (x, ()) f1.ih ⟨v, [], rfl, r1, rfl⟩ (PostM.up (m := g (x, ())) p f1)⟩
  | err e => exact p
  | stuck => exact p
/-- return e, a new list -/
theorem JR.retM {m : Res (List α)} (j : JM X I0 H0 W ctx mem e m r) (hx : ∀ I H σ d, Stt I0 H0 ctx mem I H σ → Fr H0 d → Kx I H σ d) : JR X I0 H0 W Kx (Stt I0 H0 ctx mem) (.Return (some e) pos :: ss) m (rNew H0 r) := fun I H σ D g p => by
  refine b_cons (s_ret (j I H σ _ g ?_))
  cases m with
  | ok xs => exact fun I1 H1 l vs f h1 h2 h3 pr => p I1 H1 _ (g.fm.trans f) ⟨l, vs, rfl, g.fm.h.free h1, h2, h3, pr⟩
  | err e => exact fun I' H' c d f x => p I' H' σ c d (hx _ _ _ _ (g.step f) (x.1.back g.fm.h)) x.2
  | stuck => exact p
/-- return x, x a list of the call's own -/
theorem JR.retC (i j : Nat) [mo : Mo r] {l : Addr} {xs : List α} (hj : mem[j]? = some (MF.lst l r xs) := by rfl) (hc : ctx[i]? = some (some (SF.mk (rRef l) ())) := by rfl) (hN : X.N[i]? = some n := by rfl) (hv : Vis X.env.scope n := by first | exact Or.inl rfl | exact Or.inr (Or.inl rfl) | exact Or.inr (Or.inr rfl)) (hd : (n == ("__debug__" : Str)) = false := by decide)
    (hcd : (n == ("__classdict__" : Str)) = false := by decide) : JR X I0 H0 W Kx (Stt I0 H0 ctx mem) (.Return (some (.Name n pos')) pos :: ss) (.ok xs) (rNew H0 r) := fun I H σ D g p => by
  obtain ⟨u, eu, hu⟩ := g.sl i _ hc
  cases (show u = V.ref l from hu)
  obtain ⟨z1, z2, oo, zH, vs, eo, pr⟩ := g.lstAt hj
  subst eo
  exact b_cons (s_ret (w_var i (p I H _ g.fm ⟨l, vs, rfl, z1, z2, zH, pr⟩) eu hN hv hd hcd))
theorem FunD.fnN {P : Program} {w : World} {K : PySem.W.Frag} {mg : Str → Option Value} {base : Heap} {x qual : Str} {params : Arguments} {body : List Stmt} {scope : Scope} {dvs : List V} {kws : List (Str × V)} {f : Addr} {fd : FuncData} {N ps : List Str} {k : Nat} {m : δ → Res (List α)} (F : FunD K x qual params body scope dvs kws f fd) (Sc : FnScope N ps scope) (len : ∀ I H vs d, R I H vs d → vs.length = ps.length)
    (hb : ∀ (cdv : Value) (A : Around) (outer : List Env) (s : Shared) (I0 H0 : Hp) (E : XK) (vs : List V) (d : δ), Room k (A.deeper (envOfC qual scope s.heap.objs.size f cdv)) → Same I0 H0 → R I0 H0 vs d →
      ∃ G : Knows, G I0 H0 (start N vs) ∧ JR (bx P w K mg base N qual scope f cdv A outer s H0 E) I0 H0 (bW E) (bK I0 H0) G body (m d) (rNew H0 r)) : FnOk P w K mg base (L2.CX P w) (k + 1) f fd ps (spN K R m r) := by
  refine F.ok Sc (fun vs H Q E ⟨I, d, _, h, _⟩ => len I H vs d h) fun cdv A outer s H vs Q E hr ⟨I, d, sm, h, p⟩ => ⟨_, pss_W, ?_⟩
  obtain ⟨G, g, j⟩ := hb cdv A outer s I H E vs d hr sm h
  refine j I H _ _ g ?_
  revert p
  show PostE K (m d) (rNew H r) I H E Q → PostR _ _ _ _ _ (m d) _ _
  generalize m d = z
  intro p
  cases z with
  | ok y => exact p
  | err e => exact fun I' H' _ c d f x => p I' H' c d f.1 ⟨f.2, x⟩
  | stuck => exact p
/-! ### __init__ -/
/-- self.f within __init__ -/
theorem JE.fldS (i j : Nat) {x C dx : Addr} {f sn : Str} {p1 : Pos} {gs : List (Str × SF)} {mo : Mo r} {z : α} (cl : Cls X.K C) (hn : NoAttr X.K C f) (hj : mem[j]? = some (MF.ins x C dx gs) := by rfl) (hg : gs.lookup f = some (SF.mk r z) := by rfl)
    (hc : ctx[i]? = some (some (SF.mk (rRef x) ())) := by rfl) (hN : X.N[i]? = some sn := by rfl) (hv : Vis X.env.scope sn := by first | exact Or.inl rfl | exact Or.inr (Or.inl rfl) | exact Or.inr (Or.inr rfl)) (hd : (sn == ("__debug__" : Str)) = false := by decide)
    (hcd : (sn == ("__classdict__" : Str)) = false := by decide) (hb : attributeBase (.Name sn p1) f X.env (eval (.Name sn p1) X.env) = eval (.Name sn p1) X.env := by rfl) : JE X I0 H0 W ctx mem (.Attribute (.Name sn p1) f pos) (.ok z) (rp r) := fun I H σ Q st p => by
  obtain ⟨u, eu, hu⟩ := st.sl i _ hc
  cases (show u = V.ref x from hu)
  obtain ⟨_, _, oo, zH, fs, eo, hf⟩ := st.insAt hj
  subst eo
  obtain ⟨w, h1, h2⟩ := hf.look hg
  exact w_fld (w_var i ⟨x, C, dx, fs, w, rfl, zH, cl, hn, h1, p I H _ (Fm.refl st.same) h2⟩ eu hN hv hd hcd) hb
/-- self.f = e within __init__ -/
theorem J1.sfldJ (i j : Nat) {x C dx : Addr} {f sn : Str} {p1 : Pos} {gs : List (Str × SF)} [mo : Mo r] {m : Res α} (je : JE X I0 H0 W ctx mem e m (rp r)) (cl : Cls X.K C) (hn : NoAttr X.K C f) (hg : gs.length < 1000) (hx : ∀ I H σ d, Stt I0 H0 ctx mem I H σ → Fr H0 d → Kx I H σ d) (hj : mem[j]? = some (MF.ins x C dx gs) := by rfl)
    (hc : ctx[i]? = some (some (SF.mk (rRef x) ())) := by rfl) (hN : X.N[i]? = some sn := by rfl) (hv : Vis X.env.scope sn := by first | exact Or.inl rfl | exact Or.inr (Or.inl rfl) | exact Or.inr (Or.inr rfl)) (hd : (sn == ("__debug__" : Str)) = false := by decide)
    (hcd : (sn == ("__classdict__" : Str)) = false := by decide) (hs : swapsWith e (some (.Attribute (.Name sn p1) f pos')) pos.line X.env = pure false := by rfl) :
    J1 X W Kx (Stt I0 H0 ctx mem) (.Assign [.Attribute (.Name sn p1) f pos'] e pos) m (fun y => Stt I0 H0 ctx (mem.set j (.ins x C dx (putG f ⟨r, y⟩ gs)))) := fun I H σ D g p => by
  refine s_fld (je I H σ _ g ?_) hs
  cases m with
  | ok y =>
    intro I1 H1 v f1 h1
    have g1 := g.step f1
    obtain ⟨u, eu, hu⟩ := g1.sl i _ hc
    cases (show u = V.ref x from hu)
    obtain ⟨_, _, oo, zH, fs, eo, hf⟩ := g1.insAt (l := x) hj
    subst eo
    refine w_var i ⟨x, C, dx, fs, rfl, zH, cl, hn, ?_, ?_⟩ eu hN hv hd hcd
    · rw [hf.length]; exact hg
    · exact p I1 _ σ f1.i (g1.cellAt (l := x) (c' := .ins x C dx (putG f ⟨r, y⟩ gs)) j hj (fun q => q.1) ⟨rfl, _, upd_same, _, rfl, hf.put h1⟩)
  | err e => exact fun I' H' c d f x => p I' H' σ c d (hx _ _ _ _ (g.step f) (x.1.back g.fm.h)) x.2
  | stuck => exact p
/-- an __init__ that makes its object whole, with the fields gs -/
theorem FunD.initI {P : Program} {w : World} {K : PySem.W.Frag} {mg : Str → Option Value} {base : Heap} {x qual : Str} {params : Arguments} {body : List Stmt} {scope : Scope} {dvs : List V} {kws : List (Str × V)} {f C : Addr} {fd : FuncData} {N ps : List Str} {k : Nat} {m : δ → Res α} {gs : α → List (Str × SF)} (F : FunD K x qual params body scope dvs kws f fd) (Sc : FnScope N ps scope) (len : ∀ I H vs d, R I H vs d → vs.length + 1 = ps.length)
    (hb : ∀ (cdv : Value) (A : Around) (outer : List Env) (s : Shared) (I0 H0 H1 : Hp) (E : XK) (vs : List V) (d : δ) (y dx : Addr), Room k (A.deeper (envOfC qual scope s.heap.objs.size f cdv)) → Same I0 H0 → R I0 H0 vs d → H1 = upd (upd H0 dx (.own y)) y (.ins C dx []) →
      ∃ ctx : List (Option SF), ctx.length = N.length ∧ vs.length + 1 ≤ N.length ∧ IniR I0 (.ref y :: vs) ctx ∧ JN (bx P w K mg base N qual scope f cdv A outer s H1 E) (bW E) (bK I0 H0) (Stt I0 H0 ctx [.ins y C dx []]) body (m d) (fun s I H σ => ∃ ctx, Stt I0 H0 ctx [.ins y C dx (gs s)] I H σ)) : FnOk P w K mg base (L2.CX P w) (k + 1) f fd ps (spI K C R m (rp (rIns C gs))) := by
  refine FunD.init (S := α) F Sc len fun cdv A outer s I0 H0 H1 E vs d y dx hr sm h n1 n2 n3 eH => ?_
  obtain ⟨ctx, l1, l2, ini, j⟩ := hb cdv A outer s I0 H0 H1 E vs d y dx hr sm h eH
  refine ⟨_, α, m d, _, ?_, j, ?_⟩
  · subst eH
    have hl : (L2.start N (.ref y :: vs)).length = ctx.length := by
      rw [l1]; show (List.map some (V.ref y :: vs) ++ List.replicate (N.length - (V.ref y :: vs).length) none).length = _
      rw [List.length_append, List.length_map, List.length_replicate, List.length_cons]; omega
    exact Stt.fresh sm n1 n2 n3 hl fun i sf e => ini.get i sf e
  · generalize m d = z
    cases z with
    | err e => rfl
    | stuck => rfl
    | ok q =>
      refine ⟨q, rfl, fun I' H' σ' ⟨ctx, g⟩ => ?_⟩
      obtain ⟨fs, I2, e1, hf, g2, sm2, e2⟩ := g.freeze
      exact ⟨I2, g2.fm, y, dx, fs, rfl, e2, FldR.up sm2 hf⟩
/-! ### tuples of kinds -/
def rTu (R : Hp → Hp → List V → δ → Prop) : Rp δ := fun I v x => ∃ l vs, v = .ref l ∧ I l = some (.tup vs) ∧ R I I vs x
instance [m : MoR R] : Mo (rTu R) := ⟨fun s ⟨l, vs, e, h, p⟩ => ⟨l, vs, e, s _ _ h, m.up s s p⟩⟩
/-- arguments that lean on the frozen heap alone -/
class Ice (R : Hp → Hp → List V → δ → Prop) : Prop where
  ice : ∀ {I H H' : Hp} {vs : List V} {x : δ}, R I H vs x → R I H' vs x
instance : Ice aNil := ⟨fun h => h⟩
instance [m : Ice R] : Ice (aCons (rp r) R) := ⟨fun ⟨v, ws, e, h, h'⟩ => ⟨v, ws, e, h, m.ice h'⟩⟩
theorem JE.tupD {k : Nat} {x1} [m : MoR R] [ic : Ice R] (j : JA X I0 H0 W ctx mem es md R) (hk : ∀ I H vs x, R I H vs x → vs.length = k) (hz : k ≤ sizeLine := by decide) : JE X I0 H0 W ctx mem (.Tuple es x1 pos) md (rp (rTu R)) := fun I H σ Q st p => by
  refine w_tup (j I H σ _ st ?_)
  cases md with
  | ok x =>
    intro I1 H1 vs f1 r1
    refine ⟨by rw [hk _ _ _ _ r1]; exact hz, fun q hq => ?_⟩
    have fn := Fm.new (o := .tup vs) f1.ih hq
    exact p _ _ _ (f1.trans fn) ⟨q, vs, rfl, upd_same, m.up fn.i fn.i (ic.ice r1)⟩
  | err e => exact p
  | stuck => exact p
/-- the k-th item -/
def AtR (R : Hp → Hp → List V → δ → Prop) (k : Nat) (r : Rp α) (get : δ → α) : Prop := ∀ I vs x, R I I vs x → ∃ w, vs[k]? = some w ∧ r I w (get x)
theorem AtR.zero : AtR (aCons (rp r) R) 0 r (fun x => x.1) := fun I vs x ⟨v, ws, e, h, _⟩ => ⟨v, by rw [e]; rfl, h⟩
theorem AtR.succ {k : Nat} {get : δ → α} (h : AtR R k r get) : AtR (aCons rb R) (k + 1) r (fun x => get x.2) := fun I vs x ⟨v, ws, e, _, h'⟩ => by
  obtain ⟨w, h1, h2⟩ := h I ws x.2 h'
  exact ⟨w, by rw [e]; exact h1, h2⟩
theorem atI_nat {xs : List V} {k : Nat} {w : V} (h : xs[k]? = some w) : atI xs (k : Int) = some w := by
  have hl := (List.getElem?_eq_some_iff.mp h).1
  unfold atI ixN
  rw [if_pos (by omega), if_pos (by omega), Option.bind_some, Int.toNat_natCast]
  exact h
theorem JE.ixD (k : Nat) {j : Nat} {i : Int} {get : δ → α} [mo : Mo r] (ja : JE X I0 H0 W ctx mem a md (rp (rTu R))) (hat : AtR R k r get) (hi : i = (k : Int) := by rfl) (hs : PlainIx (.Constant (.int i) j p2) := by exact fun _ _ => rfl) :
    JE X I0 H0 W ctx mem (.Subscript a (.Constant (.int i) j p2) pos) (md.bind fun x => .ok (get x)) (rp r) := fun I H σ Q st p => by
  refine PE.w (pe_ix ix_tup pe_W pe_W hs) (ja I H σ _ st ?_)
  cases md with
  | ok x =>
    rintro I1 H1 u f1 ⟨l, vs, rfl, hl, pr⟩
    obtain ⟨w, h1, h2⟩ := hat I1 vs x pr
    exact w_int ⟨l, vs, i, w, rfl, rfl, SqT.of (f1.ih _ _ hl), by rw [hi]; exact atI_nat h1, p I1 H1 w f1 h2⟩
  | err e => exact p
  | stuck => exact p
/-- x, y = e -/
theorem J1.unp2 (i j : Nat) {x y : Str} {r1 : Rp α} {r2 : Rp β} [Mo r1] [Mo r2] {px py pt : Pos} {kt} {m : Res (α × β × Unit)} (je : JE X I0 H0 W ctx mem e m (rp (rTu (aCons (rp r1) (aCons (rp r2) aNil))))) (hx : ∀ I H σ d, Stt I0 H0 ctx mem I H σ → Fr H0 d → Kx I H σ d) (hN : X.N.Nodup) (hc : X.calm = true := by rfl)
    (hi : X.N[i]? = some x := by rfl) (hj : X.N[j]? = some y := by rfl) (hlx : Loc X.env.scope x := by first | exact Or.inl rfl | exact Or.inr rfl) (hly : Loc X.env.scope y := by first | exact Or.inl rfl | exact Or.inr rfl) (hfx : X.fn x = true ∨ X.env.scope.names.lookup x = some .local := by first | exact .inl rfl | exact .inr rfl)
    (hfy : X.fn y = true ∨ X.env.scope.names.lookup y = some .local := by first | exact .inl rfl | exact .inr rfl) (hs : swapsWithSole [.Tuple [.Name x px, .Name y py] kt pt] e pos.line X.env = pure false := by rfl) (hw : swappedStores [.Tuple [.Name x px, .Name y py] kt pt] e X.env = pure none := by rfl)
    (h1 : (assignEach [.Tuple [.Name x px, .Name y py] kt pt] X.env).map (·.2) = [assign (.Tuple [.Name x px, .Name y py] kt pt) X.env] := by rfl) (hn : (assignEach [Expr.Name x px, .Name y py] X.env).length = 2 := by rfl) (hst : (assignEach [Expr.Name x px, .Name y py] X.env).findIdx? (·.1) = none := by rfl) :
    J1 X W Kx (Stt I0 H0 ctx mem) (.Assign [.Tuple [.Name x px, .Name y py] kt pt] e pos) m (fun s => Stt I0 H0 ((ctx.set i (some ⟨r1, s.1⟩)).set j (some ⟨r2, s.2.1⟩)) mem) := fun I H σ D g p => by
  refine PS.w (ps_asg pe_W (pg_tup hc (pgs_cons (pg_name (i := i) hN hi hlx hfx) (pgs_cons (pg_name (i := j) hN hj hly hfy) pgs_nil)) hn hst) hs hw h1) (je I H σ _ g ?_)
  cases m with
  | ok s =>
    rintro I1 H1 u f1 ⟨l, vs, rfl, hl, v1, ws, rfl, h1, v2, ws2, rfl, h2, rfl⟩
    refine ⟨l, [v1, v2], rfl, SqT.of (f1.ih _ _ hl), rfl, v1, [v2], rfl, v2, [], rfl, rfl, ?_⟩
    exact p I1 H1 _ f1.i (((g.step f1).set i (r := r1) h1).set j (r := r2) h2)
  | err e => exact fun I' H' c d f x => p I' H' σ c d (hx _ _ _ _ (g.step f) (x.1.back g.fm.h)) x.2
  | stuck => exact p
end
/-! ### defs by any address: properties, static methods -/
def wa (K : PySem.W.Frag) (kind : String) (C : Addr) (m : Str) : Addr := match PySem.W.recIn K (ma K C m) kind with
  | some (.ref g :: _) => g
  | _ => 0
def fnX (K : PySem.W.Frag) (a : Addr) : FnW := match K.lookup a with
  | some ⟨_, _, .func fd, _⟩ => some (fd.name, fd.qualname, fd.params, fd.body, fd.scope, fd.globals, fd.closure, fd.builtins)
  | _ => none
structure DX where
  at_ : PySem.W.Frag → Addr
  name : Str
  qual : Str
  params : Arguments
  body : List Stmt
  scope : Scope
  dfl : List Dv
  kwd : List (Str × Dv)
def DX.val (d : DX) : FnW := some (d.name, d.qual, d.params, .stmts d.body, d.scope, mainGlobals, [], builtinsNs)
def DX.ok (d : DX) (K : PySem.W.Frag) : Bool := PySem.W.keepIn K (.ref (d.at_ K)) && (match K.lookup (d.at_ K) with
  | some ⟨_, _, .func fd, _⟩ => PySem.W.codeIn K fd.code d.qual && (dflB K fd.defaults (d.dfl.map (Dv.v K)) && kwdB K fd.kwdefaults (d.kwd.map fun q => (q.1, q.2.v K)))
  | _ => false)
theorem DX.funD {K : PySem.W.Frag} {d : DX} (e : fnX K (d.at_ K) = d.val) (c : d.ok K = true) : ∃ fd, FunD K d.name d.qual d.params d.body d.scope (d.dfl.map (Dv.v K)) (d.kwd.map fun q => (q.1, q.2.v K)) (d.at_ K) fd := by
  obtain ⟨kp, c2⟩ := ba c
  unfold fnX at e
  generalize ha : d.at_ K = ad at *
  cases q : K.lookup ad with
  | none => rw [q] at c2; cases c2
  | some ob =>
    obtain ⟨oc, od, dt, osl⟩ := ob
    rw [q] at c2 e
    cases dt with
    | func fd =>
      obtain ⟨n1, n2, n3, n4, n5, n6, n7, n8, n9, n10, n11, n12, n13, n14, n15⟩ := fd
      have e2 : (some (n1, n2, n3, n4, n5, n6, n7, n15) : FnW) = some (d.name, d.qual, d.params, .stmts d.body, d.scope, mainGlobals, [], builtinsNs) := e
      simp only [Option.some.injEq, Prod.mk.injEq] at e2
      obtain ⟨h1, h2, h3, h4, h5, h6, h7, h8⟩ := e2
      subst h1 h2 h3 h4 h5 h6 h7 h8
      have c3 : (PySem.W.codeIn K n13 d.qual && (dflB K n8 (d.dfl.map (Dv.v K)) && kwdB K n9 (d.kwd.map fun q => (q.1, q.2.v K)))) = true := c2
      obtain ⟨k1, k2⟩ := ba c3
      obtain ⟨k3, k4⟩ := ba k2
      exact ⟨_, ⟨oc, od, n8, n9, n10, n11, n12, n13, n14, osl, rfl, q, k1, dflB_ok k3, kwdB_ok k4⟩, kp⟩
    | _ => cases c2
def obsY (fs : List FB) (fn : List DX) (K : PySem.W.Frag) : AlX := ((fs.all fun f => f K) && fn.all fun d => d.ok K, fn.map fun d => fnX K (d.at_ K))
def valY (fn : List DX) : AlX := (true, fn.map DX.val)
def SaysY (fs : List FB) (fn : List DX) (K : PySem.W.Frag) : Prop := obsY fs fn K = valY fn
def obsYG (n : Nat) (fs : List FB) (fn : List DX) (g : Addr → Option Obj) : AlX := obsY fs fn (frG g (cStatics :: asD g n))
def hookY (n : Nat) (fs : List FB) (fn : List DX) : PySem.W.Hook where
  α := AlX
  obs := fun s => obsYG n fs fn s.heap.get?
  val := fun _ => valY fn
  says := fun _ h => ∃ K : PySem.W.Frag, K.In h ∧ SaysY fs fn K
  of := fun _ _ e => ⟨_, frG_in, e⟩
  keeps := fun _ _ _ ⟨K, hK, c⟩ k => ⟨K, PySem.W.Frag.In.keeps hK k, c⟩
theorem obsYG_eq {n : Nat} {fs : List FB} {fn : List DX} {g : Addr → Option Obj} {s : Shared} (h : ∀ a, g a = s.heap.get? a) : obsYG n fs fn g = (hookY n fs fn).obs s := by
  have e : g = s.heap.get? := funext h
  rw [e] <;> rfl
theorem SaysY.fact {fs : List FB} {fn : List DX} {K : PySem.W.Frag} (c : SaysY fs fn K) (i : Nat) {f : FB} (h : fs[i]? = some f := by rfl) : f K = true := by
  have c1 := (ba (show ((fs.all fun f => f K) && fn.all fun d => d.ok K) = true from congrArg (fun z : AlX => z.1) c)).1
  exact List.all_eq_true.mp c1 f (List.mem_of_getElem? h)
theorem SaysY.def_ {fs : List FB} {fn : List DX} {K : PySem.W.Frag} (c : SaysY fs fn K) (i : Nat) {d : DX} (h : fn[i]? = some d := by rfl) : ∃ fd, FunD K d.name d.qual d.params d.body d.scope (d.dfl.map (Dv.v K)) (d.kwd.map fun q => (q.1, q.2.v K)) (d.at_ K) fd := by
  have c2 := (ba (show ((fs.all fun f => f K) && fn.all fun d => d.ok K) = true from congrArg (fun z : AlX => z.1) c)).2
  have e : fn.map (fun d => fnX K (d.at_ K)) = fn.map DX.val := congrArg (fun z : AlX => z.2) c
  have e2 : (fn.map fun d => fnX K (d.at_ K))[i]? = (fn.map DX.val)[i]? := by rw [e]
  rw [List.getElem?_map, List.getElem?_map, h] at e2
  exact DX.funD (Option.some.inj e2) (List.all_eq_true.mp c2 d (List.mem_of_getElem? h))
/-! ### facts -/
def fFnIn (x m : Str) : FB := fun K => PySem.W.fnIn K (ma K (ga K x) m)
theorem fnIn_of {K : PySem.W.Frag} {x m : Str} (c : fFnIn x m K = true) : PySem.W.fnIn K (ma K (ga K x) m) = true := c
def isRec (K : PySem.W.Frag) (p : Addr) (kind : String) (g : Addr) : Bool := match PySem.W.recIn K p kind with
  | some (.ref g' :: _) => decide (g' = g)
  | _ => false
theorem isRec_ok {K : PySem.W.Frag} {p : Addr} {kind : String} {g : Addr} (h : isRec K p kind g = true) : ∃ rest, PySem.W.recIn K p kind = some (.ref g :: rest) := by
  unfold isRec at h
  cases q : PySem.W.recIn K p kind with
  | none => rw [q] at h; cases h
  | some l =>
    rw [q] at h
    cases l with
    | nil => cases h
    | cons u rest =>
      cases u with
      | ref g' =>
        have e : g' = g := of_decide_eq_true h
        rw [e]; exact ⟨rest, rfl⟩
      | _ => cases h
def fProp (x f : Str) : FB := fun K => eqO (PySem.W.findIn K (.ref (ga K x)) f) (some (some (.ref (ma K (ga K x) f)))) && (eqO (PySem.W.specialIn K (.ref (ma K (ga K x) f)) "__get__") (some (some (.builtin "property.__get__"))) && (decide (PySem.W.takesIn K (.ref (ma K (ga K x) f)) = some true) && isRec K (ma K (ga K x) f) "property" (wa K "property" (ga K x) f)))
theorem prop_of {K : PySem.W.Frag} {x f : Str} (c : fProp x f K = true) : PropOf K (ga K x) f (ma K (ga K x) f) (wa K "property" (ga K x) f) := by
  obtain ⟨c1, c⟩ := ba c
  obtain ⟨c2, c⟩ := ba c
  obtain ⟨c3, c4⟩ := ba c
  exact ⟨eqO_ok c1, eqO_ok c2, of_decide_eq_true c3, isRec_ok c4⟩
def isGet (K : PySem.W.Frag) (C : Addr) (m : Str) (id : String) (p : Addr) : Bool := match PySem.W.findCls K (.ref C) (.type "type") m with
  | some (.get (.builtin id') (.ref p') .none (.ref C')) => decide (id' = id) && (decide (p' = p) && decide (C' = C))
  | _ => false
theorem isGet_ok {K : PySem.W.Frag} {C : Addr} {m : Str} {id : String} {p : Addr} (h : isGet K C m id p = true) : PySem.W.findCls K (.ref C) (.type "type") m = some (.get (.builtin id) (.ref p) .none (.ref C)) := by
  unfold isGet at h
  split at h
  · rename_i id' p' C' e
    obtain ⟨h1, h⟩ := ba h
    obtain ⟨h2, h3⟩ := ba h
    rw [e, of_decide_eq_true h1, of_decide_eq_true h2, of_decide_eq_true h3]
  · cases h
def fStat (x m : Str) : FB := fun K => PySem.W.readsIn K (ga K x) (.type "type") && (eqO (PySem.W.specialIn K (.ref (ga K x)) "__getattribute__") (some (some (.builtin "type.__getattribute__"))) && (isGet K (ga K x) m "staticmethod.__get__" (ma K (ga K x) m) && (isRec K (ma K (ga K x) m) "staticmethod" (wa K "staticmethod" (ga K x) m) && PySem.W.keepIn K (.ref (wa K "staticmethod" (ga K x) m)))))
theorem stat_of {K : PySem.W.Frag} {x m : Str} (c : fStat x m K = true) : SMet K (ga K x) (.type "type") m (ma K (ga K x) m) (wa K "staticmethod" (ga K x) m) := by
  obtain ⟨c1, c⟩ := ba c
  obtain ⟨c2, c⟩ := ba c
  obtain ⟨c3, c⟩ := ba c
  obtain ⟨c4, c5⟩ := ba c
  exact ⟨c1, eqO_ok c2, isGet_ok c3, isRec_ok c4, c5⟩
end L2.Tr

namespace L2.Tr
open PySem PySem.Spec PyProof.Rows He
section
variable {α β γ δ S L : Type} {X : Cx} {I0 H0 I H : Hp} {W : WX} {Kx : KnowsX} {G : Knows} {ctx : List (Option SF)} {mem : List MF} {e a b c o : Expr} {es : List Expr} {st : Stmt} {ss s1 : List Stmt} {pos pos' p2 : Pos} {n : Str} {σ : St} {Q : VK} {r : Rp α} {ra : Ra α} {rb : Ra β} {rc : Ra γ} {rr : Ra γ} {ma : Res α} {mb : Res β} {mc : Res Bool} {md : Res δ} {R : Hp → Hp → List V → δ → Prop} {K : PySem.W.Frag}
theorem JE.hMap {m : Res (List α)} {rb : Rp β} {f : α → β} (j : JE X I0 H0 W ctx mem e m (rH r)) (h : ∀ I H v x, rp r I H v x → rp rb I H v (f x)) : JE X I0 H0 W ctx mem e (m.bind fun xs => .ok (xs.map f)) (rH rb) := j.map fun I H _ _ _ ⟨l, vs, e, hl, p⟩ => ⟨l, vs, e, hl, paired_map (h I H) p⟩
theorem tyr_list {t : String} {g : Bool} (h : kitB "list" t = some g) : TyR K (rp (rL r)) (.type t) (fun _ => g) := fun I H v x s ⟨l, vs, e, hl, _⟩ => ⟨.type "list", by rw [e]; exact .base (.lst (s _ _ hl)), kit_ty h⟩
theorem tyr_tup {t : String} {g : Bool} (h : kitB "tuple" t = some g) : TyR K (rp (rT r)) (.type t) (fun _ => g) := fun I H v x s ⟨l, vs, e, hl, _⟩ => ⟨.type "tuple", by rw [e]; exact .base (.tup (s _ _ hl)), kit_ty h⟩
theorem tyr_tupD {t : String} {g : Bool} (h : kitB "tuple" t = some g) : TyR K (rp (rTu R)) (.type t) (fun _ => g) := fun I H v x s ⟨l, vs, e, hl, _⟩ => ⟨.type "tuple", by rw [e]; exact .base (.tup (s _ _ hl)), kit_ty h⟩
theorem JN.raiseP {x m : Str} {j : Nat} {p1 p2 p3 : Pos} {G' : S → Knows} (hc : X.calm = true) (tk : Takes X W) (ep : ExcP X.K X.mg x) (hx : ∀ I H σ d, Stt I0 H0 ctx mem I H σ → Fr H0 d → Kx I H σ d) (hg : Gl X x := by rfl) (hdb : (x == ("__debug__" : Str)) = false := by decide) :
    JN X W Kx (Stt I0 H0 ctx mem) (.Raise (some (.Call (.Name x p1) [.Constant (.str m) j p2] [] p3)) none pos :: ss) (.err ⟨x, []⟩ : Res S) G' := fun I H σ D g p =>
  b_cons (J1.raiseP (S := S) (G' := G') hc tk ep hx hg hdb I H σ _ g p)
theorem JN.ifT {m1 m2 : Res S} {G' : S → Knows} (j : JT X I0 H0 W ctx mem c mc) (k1 : JN X W Kx (Stt I0 H0 ctx mem) s1 m1 (fun _ _ _ _ => False)) (k2 : JN X W Kx (Stt I0 H0 ctx mem) ss m2 G') (hx : ∀ I H σ d, Stt I0 H0 ctx mem I H σ → Fr H0 d → Kx I H σ d) :
    JN X W Kx (Stt I0 H0 ctx mem) (.If c s1 [] pos :: ss) (mc.bind fun x => if x = true then m1 else m2) G' := fun I H σ D g p => by
  refine b_cons (s_if (j I H σ _ g ?_))
  cases mc with
  | ok x =>
    intro I1 H1 v f r y hy
    cases r; cases hy
    cases x with
    | true =>
      refine iteT (b_mono (k1 I1 H1 σ { D with nx := fun _ _ => False } (g.step f) ?_) (fun _ _ z => z.elim) (fun _ _ z => z) (fun _ _ z => z) (fun _ _ z => z))
      have p1 : PostB X W Kx I1 m1 _ _ := PostB.up p f.i
      cases m1 with
      | ok a => exact fun _ _ _ _ z => z
      | err e => exact p1
      | stuck => exact p1
    | false => exact iteF (b_nil (k2 I1 H1 σ D (g.step f) (PostB.up p f.i)))
  | err e => exact fun I' H' c d f x => p I' H' σ c d (hx _ _ _ _ (g.step f) (x.1.back g.fm.h)) x.2
  | stuck => exact p
theorem J1.pass : J1 X W Kx G (.Pass pos) (.ok ()) (fun _ => G) := fun I H σ D g p => s_pass (p I H σ (Same.refl _) g)
/-! ### num == num -/
def nnEq (f : Rat × Num × Unit → Res Bool) (x y : Num) : Res Bool := match x, y with
  | .i a, .i b => .ok (decide (a = b))
  | .i a, .q b => f (b, .i a, ())
  | .q a, y => f (a, y, ())
theorem opj_nn {f : Rat × Num × Unit → Res Bool} {F : Value → Value → Sem Value} (h1 : OpJ X W F (rp rInt) (rp rInt) (fun x y => .ok (decide (x = y))) (rp rBl)) (h2 : OpJ X W F (rp rInt) (rp (rFrac X.K)) (fun x y => f (y, .i x, ())) (rp rBl)) (h3 : OpJ X W F (rp (rFrac X.K)) (rp (rNum X.K)) (fun x y => f (x, y, ())) (rp rBl)) :
    OpJ X W F (rp (rNum X.K)) (rp (rNum X.K)) (nnEq f) (rp rBl) := fun I H σ Q u v x y s a b p => by
  cases x with
  | i n =>
    cases y with
    | i m => exact h1 I H σ Q u v n m s a b p
    | q m => exact h2 I H σ Q u v n m s a b p
  | q n => exact h3 I H σ Q u v n y s a b p
/-! ### operators, once more: mirrors by arguments -/
theorem unj_own1 {C f : Addr} {g : α → Res γ} (hm : OMet X.K C "__neg__" f) (ia : InsR C ra) (cj : CallJ X W (.ref f) (R1 ra) (fun d => g d.1) rc) : UnJ X W (unaryOp .USub) ra g rc := unj_own (g := fun d => g d.1) hm ia cj
theorem opj_own2 {op : Operator} {C f : Addr} {g : α → β → Res γ} (hc : OCls X.K C) (hm : OMet X.K C (PySem.dunder op.info.2) f) (ia : InsR C ra) (ib : InsR C rb) (cj : CallJ X W (.ref f) (R2' ra rb) (fun d => g d.1 d.2.1) rc) : OpJ X W (binaryOp op) ra rb g rc := opj_own (g := fun d => g d.1 d.2.1) hc hm ia ib cj
theorem opj_cmp2 {op : CmpOp} {C f : Addr} {g : α → β → Res γ} (hop : ∀ a b, compareOp op a b = richCompare op a b) (hc : OCls X.K C) (hm : OMet X.K C (cmpInfo op).2.1 f) (hu : X.A.units < cLine) (hn : PySem.W.notFirst X.K C (.ref C) = true) (ia : InsR C ra) (ib : InsR C rb) (cj : CallJ X W (.ref f) (R2' ra rb) (fun d => g d.1 d.2.1) rc) :
    OpJ X W (compareOp op) ra rb g rc := opj_cmp (g := fun d => g d.1 d.2.1) hop hc hm hu hn ia ib cj
theorem opj_neO2 {k : Nat} {C f : Addr} {g : α → β → Res Bool} (hc : OCls X.K C) (hm : OMet X.K C "__eq__" f) (hr : Room (k + 1) X.A) (tk : Takes X W) (hn : PySem.W.notFirst X.K C (.ref C) = true) (ia : InsR C ra) (ib : InsR C rb) (F : FnR X.prog X.w X.K X.mg X.base (L2.CX X.prog X.w) k f (spF X.K (R2' ra rb) (fun d => g d.1 d.2.1) (rp rBl))) :
    OpJ X W (compareOp .NotEq) ra rb (fun x y => (g x y).bind fun z => .ok (!z)) (rp rBl) := opj_neO (g := fun d => g d.1 d.2.1) hc hm hr tk hn ia ib F
theorem JE.ixO2 {k : Nat} {C f : Addr} {g : α → β → Res γ} [MoA ra] (hm : OMet X.K C "__getitem__" f) (hfn : PySem.W.fnIn X.K f = true) (ia : InsR C ra) (hr : Room (k + 1) X.A) (tk : Takes X W) (F : FnR X.prog X.w X.K X.mg X.base (L2.CX X.prog X.w) k f (spF X.K (R2' ra rb) (fun d => g d.1 d.2.1) rc))
    (ja : JE X I0 H0 W ctx mem a ma ra) (jb : JE X I0 H0 W ctx mem b mb rb) (hsl : ∀ o i, subscripted b true o i = runValue (.builtin "lifetime.subscript" ⟨[o, i], []⟩) := by intro _ _; with_unfolding_all rfl) :
    JE X I0 H0 W ctx mem (.Subscript a b pos) (ma.bind fun x => mb.bind fun y => g x y) rc := JE.ixO (g := fun d => g d.1 d.2.1) hm hfn ia hr tk F ja jb hsl
theorem JE.prop1 {k : Nat} {C p g : Addr} {f : Str} {m : α → Res γ} (j : JE X I0 H0 W ctx mem o ma ra) (ia : InsR C ra) (c : Cls X.K C) (hp : PropOf X.K C f p g) (F : FnR X.prog X.w X.K X.mg X.base (L2.CX X.prog X.w) k g (spF X.K (R1 ra) (fun d => m d.1) rc)) (hr : Room (k + 1) X.A) (tk : Takes X W)
    (hab : attributeBase o f X.env (eval o X.env) = eval o X.env := by rfl) : JE X I0 H0 W ctx mem (.Attribute o f pos) (ma.bind fun x => noErr (m x)) rc := JE.prop (m := fun d => m d.1) j ia c hp F hr tk hab
/-! ### comprehensions: what may be raised within is handed on -/
theorem JM.lcT {iter elt : Expr} {rb : Rp β} (j : Nat) [mo : Mo r] [mb : Mo rb] {m : Res (List β)} {f : β → Res α} {scope : Scope} (ji : JI X I0 H0 W ctx mem (.Name n pos') iter m rb)
    (je : ∀ (s : Shared) (H : Hp) (C : Addr) (cl : List (Str × Addr)) (fp : List Addr) (D : Addr) (acc : List α) (x : β), Takes (X.blk s H scope (compEnvC scope cl C X.env) fp) W0 → JE (X.blk s H scope (compEnvC scope cl C X.env) fp) I0 H0 W0 (ctx.set j (some ⟨rb, x⟩)) (MF.lst D r acc :: mem) elt (f x) (rp r))
    (hN : X.N.Nodup) (ok : BlkOk X.N X.env.scope scope [(n, j)]) (hj : X.N[j]? = some n := by rfl) (hc : X.calm = true := by rfl) (hsc : Loc (relabel scope X.env) n := by first | exact Or.inl rfl | exact Or.inr rfl) (hfn : (scope.names.lookup n == some .cell) = true ∨ (relabel scope X.env).names.lookup n = some .local := by first | exact .inr rfl | exact .inl rfl) (hs : ∀ x, foldedSetIterable iter X.env x = pure x := by intro _; rfl) :
    JM X I0 H0 W ctx mem (.ListComp elt [⟨.Name n pos', iter, [], 0⟩] scope pos) (m.bind fun xs => lcR f xs) r := JM.lc j ji (fun s H C cl fp D acc x => je s H C cl fp D acc x takes0) hN ok hj hc hsc hfn hs
theorem J1.setLcT {iter elt : Expr} {rb : Rp β} (i j : Nat) {y : Str} {py spos : Pos} [mo : Mo r] [mb : Mo rb] {m : Res (List β)} {f : β → Res α} {scope : Scope} (ji : JI X I0 H0 W ctx mem (.Name n pos') iter m rb)
    (je : ∀ (s : Shared) (H : Hp) (C : Addr) (cl : List (Str × Addr)) (fp : List Addr) (D : Addr) (acc : List α) (x : β), Takes (X.blk s H scope (compEnvC scope cl C X.env) fp) W0 → JE (X.blk s H scope (compEnvC scope cl C X.env) fp) I0 H0 W0 (ctx.set j (some ⟨rb, x⟩)) (MF.lst D r acc :: mem) elt (f x) (rp r))
    (hx : ∀ I H σ d, Stt I0 H0 ctx mem I H σ → Fr H0 d → Kx I H σ d) (hN : X.N.Nodup) (ok : BlkOk X.N X.env.scope scope [(n, j)]) (hi : X.N[i]? = some y := by rfl) (hyl : X.env.scope.names.lookup y = some .local := by rfl)
    (hsw : swapsWith (.ListComp elt [⟨.Name n pos', iter, [], 0⟩] scope pos) (some (.Name y py)) spos.line X.env = pure true := by rfl) (hj : X.N[j]? = some n := by rfl) (hc : X.calm = true := by rfl) (hsc : Loc (relabel scope X.env) n := by first | exact Or.inl rfl | exact Or.inr rfl) (hfn : (scope.names.lookup n == some .cell) = true ∨ (relabel scope X.env).names.lookup n = some .local := by first | exact .inr rfl | exact .inl rfl) (hs : ∀ x, foldedSetIterable iter X.env x = pure x := by intro _; rfl) :
    J1 X W Kx (Stt I0 H0 ctx mem) (.Assign [.Name y py] (.ListComp elt [⟨.Name n pos', iter, [], 0⟩] scope pos) spos) (m.bind fun xs => lcR f xs) (fun xs I H σ => ∃ l, Stt I0 H0 (ctx.set i (some ⟨rRef l, ()⟩)) (MF.lst l r xs :: mem) I H σ) :=
  J1.setLc i j ji (fun s H C cl fp D acc x => je s H C cl fp D acc x takes0) hx hN ok hi hyl hsw hj hc hsc hfn hs
/-! ### range(a, b, -1) -/
def rangeD (lo hi : Int) : Res (List Int) := Res.guard (-(2 ^ 62) ≤ lo ∧ lo < 2 ^ 62 ∧ -(2 ^ 62) ≤ hi ∧ hi < 2 ^ 62) (.ok (rngCI lo (-1) (lo - hi).toNat))
end
/-! ### an empty tuple of the top -/
def fTup0 (p : PySem.W.Frag → Addr) : FB := fun K => match K.lookup (p K) with
  | some ⟨.type c, _, .seq its _, _⟩ => decide (c = "tuple") && decide (its.size = 0)
  | _ => false
theorem tup0_of {K : PySem.W.Frag} {p : PySem.W.Frag → Addr} (h : fTup0 p K = true) : ∀ H, SqT K H (p K) [] := fun H => by
  unfold fTup0 at h
  split at h
  · rename_i c d its n sl e
    obtain ⟨h1, h2⟩ := ba h
    have h3 := of_decide_eq_true h2
    refine .inr ⟨_, its, n, e, by rw [of_decide_eq_true h1], rfl, by rw [h3]; exact Nat.zero_le _, ?_⟩
    have : its.toList = [] := by
      have : its.toList.length = 0 := by rw [Array.length_toList]; exact h3
      exact List.eq_nil_of_length_eq_zero this
    rw [this]; exact .nil
  · cases h
/-! ### a comprehension's names -/
def blkB (N : List Str) (sc scope : Scope) (own : List (Str × Nat)) : Bool := decide (scope.kind = .function) && ((scope.names.all fun y => decide (scope.names.lookup y.1 = some y.2)) && ((own.all fun p => decide (N[p.2]? = some p.1)) &&
  ((scope.names.all fun y => !decide (y.2 = .free) || (decide (sc.names.lookup y.1 = some .cell) || decide (sc.names.lookup y.1 = some .free))) && (scope.names.all fun y => !(decide (y.2 = .local) || decide (y.2 = .cell)) || ((own.map (·.1)).contains y.1 || !N.contains y.1)))))
theorem blkok_of {N : List Str} {sc scope : Scope} {own : List (Str × Nat)} (h : blkB N sc scope own = true) : BlkOk N sc scope own := by
  obtain ⟨h1, h⟩ := ba h
  obtain ⟨h2, h⟩ := ba h
  obtain ⟨h3, h⟩ := ba h
  obtain ⟨h4, h5⟩ := ba h
  refine ⟨of_decide_eq_true h1, fun y hy => of_decide_eq_true (List.all_eq_true.mp h2 y hy), fun p hp => of_decide_eq_true (List.all_eq_true.mp h3 p hp), fun y hy e => ?_, fun y hy e => ?_⟩
  · have z := List.all_eq_true.mp h4 y hy
    rw [decide_eq_true e, Bool.not_true, Bool.false_or, Bool.or_eq_true] at z
    exact z.imp of_decide_eq_true of_decide_eq_true
  · have z := List.all_eq_true.mp h5 y hy
    have e2 : (decide (y.2 = .local) || decide (y.2 = .cell)) = true := by
      rcases e with e | e
      · rw [decide_eq_true e, Bool.true_or]
      · rw [decide_eq_true e, Bool.or_true]
    rw [e2, Bool.not_true, Bool.false_or, Bool.or_eq_true] at z
    rcases z with z | z
    · exact .inl (by simpa using z)
    · exact .inr (by simpa using z)
end L2.Tr

namespace L2.Tr
open PySem PySem.Spec PyProof.Rows
/-! ### plain Lean: mirrors that end well -/
theorem Res.okb {α β : Type} (a : α) (f : α → Res β) : (Res.ok a).bind f = f a := by
  have h : ∀ m : Res α, m = .ok a → m.bind f = f a := fun m e => by subst e; rfl
  exact h _ rfl
theorem Fl.okb_nx {S T L γ : Type} (f : S → Res (Fl T L γ)) (s : S) : Fl.then f (.nx s) = f s := by
  have h : ∀ m : Fl S L γ, m = .nx s → Fl.then f m = f s := fun m e => by subst e; rfl
  exact h _ rfl
theorem Fl.okb_out {S L γ : Type} (f : S → Res γ) (s : S) : Fl.out (L := L) f (.nx s) = f s := by
  have h : ∀ m : Fl S L γ, m = .nx s → Fl.out f m = f s := fun m e => by subst e; rfl
  exact h _ rfl
section
variable {α β γ S L : Type} {m : Res α} {P P' : α → Prop} {f : α → Res β} {Q : β → Prop}
def Ok (m : Res α) (P : α → Prop) : Prop := ∃ a, m = .ok a ∧ P a
theorem Ok.ok {a : α} (h : P a) : Ok (.ok a) P := ⟨a, rfl, h⟩
theorem Ok.bind (h : Ok m P) (k : ∀ a, P a → Ok (f a) Q) : Ok (m.bind f) Q := by
  obtain ⟨a, e, p⟩ := h
  rw [e]; exact k a p
theorem Ok.mono (h : Ok m P) (k : ∀ a, P a → P' a) : Ok m P' := by
  obtain ⟨a, e, p⟩ := h
  exact ⟨a, e, k a p⟩
theorem Ok.of {a : α} (e : m = .ok a) (h : P a) : Ok m P := ⟨a, e, h⟩
theorem Ok.eq {a : α} (h : Ok m (fun x => x = a)) : m = .ok a := by
  obtain ⟨b, e, p⟩ := h
  rw [e, p]
theorem Ok.bindE {a : α} (e : m = .ok a) (k : Ok (f a) Q) : Ok (m.bind f) Q := by rw [e]; exact k
theorem Ok.ite {c : Prop} [Decidable c] {m1 m2 : Res α} (h1 : c → Ok m1 P) (h2 : ¬ c → Ok m2 P) : Ok (if c then m1 else m2) P := by
  by_cases h : c
  · rw [if_pos h]; exact h1 h
  · rw [if_neg h]; exact h2 h
theorem Ok.guard {p : Prop} [Decidable p] (hp : p) (h : Ok m P) : Ok (Res.guard p m) P := by rw [Res.guard_pos hp]; exact h
/-- a loop -/
theorem forS_ok {f : β → S → Res S} (Inv : Nat → S → Prop) : ∀ {xs : List β} {k : Nat} {s : S}, Inv k s → (∀ i x s, xs[i]? = some x → Inv (k + i) s → Ok (f x s) (Inv (k + i + 1))) → Ok (forS f xs s) (Inv (k + xs.length))
  | [], k, s, h, _ => .ok h
  | x :: xs, k, s, h, hf => by
    refine Ok.bind (hf 0 x s rfl h) fun s' h' => ?_
    have := forS_ok (f := f) Inv (xs := xs) (k := k + 1) (s := s') h' fun i y t e ht => by
      have := hf (i + 1) y t (by simpa using e) (by rw [show k + (i + 1) = k + 1 + i by omega]; exact ht)
      rw [show k + 1 + i + 1 = k + (i + 1) + 1 by omega]; exact this
    rw [List.length_cons, show k + (xs.length + 1) = k + 1 + xs.length by omega]
    exact this
theorem Ok.forS {f : β → S → Res S} {xs : List β} {s : S} (Inv : Nat → S → Prop) (h0 : Inv 0 s) (hf : ∀ i x s, xs[i]? = some x → Inv i s → Ok (f x s) (Inv (i + 1))) : Ok (Tr.forS f xs s) (Inv xs.length) := by
  have := forS_ok (f := f) Inv (xs := xs) (k := 0) h0 fun i x t e ht => by rw [Nat.zero_add] at ht ⊢; exact hf i x t e ht
  rwa [Nat.zero_add] at this
/-- what a turn of a loop with early ends hands on -/
def FlP (N : S → Prop) (B : S → Prop) (R : γ → Prop) : Fl S S γ → Prop
  | .nx s => N s
  | .ct s => N s
  | .bk s => B s
  | .rt y => R y
def FlQ (N : S → Prop) (R : γ → Prop) : Fl S L γ → Prop
  | .nx s => N s
  | .rt y => R y
  | _ => False
theorem forG_ok {L : Type} {f : β → S → Res (Fl S S γ)} (Inv : Nat → S → Prop) (B : S → Prop) (R : γ → Prop) : ∀ {xs : List β} {k : Nat} {s : S}, Inv k s → (∀ i x s, xs[i]? = some x → Inv (k + i) s → Ok (f x s) (FlP (Inv (k + i + 1)) B R)) → Ok (forG f xs s : Res (Fl S L γ)) (FlQ (fun s => Inv (k + xs.length) s ∨ B s) R)
  | [], k, s, h, _ => .ok (.inl h)
  | x :: xs, k, s, h, hf => by
    refine Ok.bind (hf 0 x s rfl h) fun r hr => ?_
    have next : ∀ s', Inv (k + 1) s' → Ok (forG f xs s' : Res (Fl S L γ)) (FlQ (fun s => Inv (k + (x :: xs).length) s ∨ B s) R) := fun s' h' => by
      have : Ok (forG f xs s' : Res (Fl S L γ)) _ := forG_ok (f := f) Inv B R (xs := xs) (k := k + 1) (s := s') h' fun i y t e ht => by
        have := hf (i + 1) y t (by simpa using e) (by rw [show k + (i + 1) = k + 1 + i by omega]; exact ht)
        rw [show k + 1 + i + 1 = k + (i + 1) + 1 by omega]; exact this
      rw [List.length_cons, show k + (xs.length + 1) = k + 1 + xs.length by omega]
      exact this
    cases r with
    | nx s' => exact next s' hr
    | ct s' => exact next s' hr
    | bk s' => exact .ok (.inr hr)
    | rt y => exact .ok hr
theorem Ok.forG {f : β → S → Res (Fl S S γ)} {xs : List β} {s : S} (Inv : Nat → S → Prop) (B : S → Prop) (R : γ → Prop) (h0 : Inv 0 s) (hf : ∀ i x s, xs[i]? = some x → Inv i s → Ok (f x s) (FlP (Inv (i + 1)) B R)) : Ok (Tr.forG f xs s : Res (Fl S L γ)) (FlQ (fun s => Inv xs.length s ∨ B s) R) := by
  have := forG_ok (L := L) (f := f) Inv B R (xs := xs) (k := 0) h0 fun i x t e ht => by rw [Nat.zero_add] at ht ⊢; exact hf i x t e ht
  rwa [Nat.zero_add] at this
/-- a loop that only tests: no early end -/
theorem forG_all {f : β → Unit → Res (Fl Unit Unit γ)} {xs : List β} (hf : ∀ x, x ∈ xs → f x () = .ok (.nx ())) : (Tr.forG f xs () : Res (Fl Unit L γ)) = .ok (.nx ()) := by
  induction xs with
  | nil => rfl
  | cons x xs ih =>
    show (f x ()).bind _ = _
    rw [hf x (List.mem_cons_self)]
    exact ih fun y hy => hf y (List.mem_cons_of_mem _ hy)
theorem Ok.whileM {c : S → Res Bool} {f : S → Res S} (Inv : S → Prop) (E : S → Prop) (μ : S → Nat) (hc : ∀ s, Inv s → Ok (c s) fun b => (b = true → Ok (f s) fun s' => Inv s' ∧ μ s' < μ s) ∧ (b = false → E s)) : ∀ {n : Nat} {s : S}, Inv s → μ s < n → Ok (Tr.whileM c f n s) E
  | 0, _, _, h => absurd h (Nat.not_lt_zero _)
  | n + 1, s, hi, hm => by
    refine Ok.bind (hc s hi) fun b hb => ?_
    cases b with
    | true =>
      rw [if_pos rfl]
      exact Ok.bind (hb.1 rfl) fun s' h' => Ok.whileM Inv E μ hc h'.1 (by omega)
    | false => rw [if_neg (by decide)]; exact .ok (hb.2 rfl)
/-! comprehensions -/
theorem lcM_eq {f : β → Res α} {g : β → α} : ∀ {xs : List β}, (∀ x, x ∈ xs → f x = .ok (g x)) → lcM f xs = .ok (xs.map g)
  | [], _ => rfl
  | x :: xs, h => by
    unfold lcM
    rw [h x (List.mem_cons_self), lcM_eq (xs := xs) fun y hy => h y (List.mem_cons_of_mem _ hy)]
    rfl
theorem lcR_eq {f : β → Res α} {g : β → α} {xs : List β} (hl : xs.length ≤ sizeLine) (h : ∀ x, x ∈ xs → f x = .ok (g x)) : lcR f xs = .ok (xs.map g) := by
  unfold lcR
  rw [Res.guard_pos hl, lcM_eq h]
theorem lcM_ok {f : β → Res α} {P : β → α → Prop} : ∀ {xs : List β}, (∀ x, x ∈ xs → Ok (f x) (P x)) → Ok (lcM f xs) fun ys => ys.length = xs.length ∧ ∀ (i : Nat) x y, xs[i]? = some x → ys[i]? = some y → P x y
  | [], _ => .ok ⟨rfl, fun i x y e => by simp at e⟩
  | x :: xs, h => by
    unfold lcM
    obtain ⟨y, e, p⟩ := h x (List.mem_cons_self)
    rw [e]
    refine Ok.bind (lcM_ok (xs := xs) fun z hz => h z (List.mem_cons_of_mem _ hz)) fun ys ⟨h1, h2⟩ => .ok ⟨by rw [List.length_cons, List.length_cons, h1], fun i a b ea eb => ?_⟩
    cases i with
    | zero => simp at ea eb; rw [← ea, ← eb]; exact p
    | succ i => exact h2 i a b (by simpa using ea) (by simpa using eb)
theorem Ok.lcR {f : β → Res α} {P : β → α → Prop} {xs : List β} (hl : xs.length ≤ sizeLine) (h : ∀ x, x ∈ xs → Ok (f x) (P x)) : Ok (Tr.lcR f xs) fun ys => ys.length = xs.length ∧ ∀ (i : Nat) x y, xs[i]? = some x → ys[i]? = some y → P x y := .guard hl (lcM_ok h)
/-! ranges, indices -/
theorem rngI_len (lo : Int) (n : Nat) : (rngI lo n).length = n := by simp [rngI]
theorem rngI_get {lo : Int} {n i : Nat} {x : Int} (h : (rngI lo n)[i]? = some x) : x = lo + (i : Int) ∧ i < n := by
  have hl := (List.getElem?_eq_some_iff.mp h).1
  rw [rngI_len] at hl
  refine ⟨?_, hl⟩
  unfold rngI at h
  rw [List.getElem?_map, List.getElem?_range hl] at h
  simpa using h.symm
theorem rngI_mem {lo : Int} {n : Nat} {x : Int} (h : x ∈ rngI lo n) : lo ≤ x ∧ x < lo + (n : Int) := by
  obtain ⟨i, e⟩ := List.getElem?_of_mem h
  obtain ⟨e1, e2⟩ := rngI_get e
  omega
theorem rangeM1_ok {hi : Int} (h : -(2 ^ 62) ≤ hi ∧ hi < 2 ^ 62) : rangeM1 hi = .ok (rngI 0 hi.toNat) := Res.guard_pos h _
theorem rangeM_ok {lo hi : Int} (h : -(2 ^ 62) ≤ lo ∧ lo < 2 ^ 62 ∧ -(2 ^ 62) ≤ hi ∧ hi < 2 ^ 62) : rangeM lo hi = .ok (rngI lo (hi - lo).toNat) := Res.guard_pos h _
theorem rngI_eq (n : Nat) : rngI 0 n = (List.range n).map fun (i : Nat) => (i : Int) := by simp [rngI]
theorem atM_get {xs : List α} {i : Int} {x : α} (h0 : 0 ≤ i) (h : xs[i.toNat]? = some x) : atM xs i = .ok x := by
  have e := atM_nat h
  rwa [Int.toNat_of_nonneg h0] at e
theorem atM_lt {xs : List α} {i : Int} (h0 : 0 ≤ i) (h : i.toNat < xs.length) : atM xs i = .ok xs[i.toNat] := atM_get h0 (List.getElem?_eq_getElem h)
theorem atM_last {xs : List α} (h : 0 < xs.length) : atM xs (-1) = .ok (xs[xs.length - 1]'(by omega)) := by
  unfold atM atI ixN
  rw [if_neg (by omega), if_pos (by omega), Option.bind_some]
  have : (-1 + (xs.length : Int)).toNat = xs.length - 1 := by omega
  rw [this, List.getElem?_eq_getElem (by omega)]
end
/-! ### whole numbers by sizes -/
theorem mulI_le {a b : Int} {s t : Nat} (ha : a.natAbs ≤ 2 ^ s) (hb : b.natAbs ≤ 2 ^ t) (hs : s + t < 1000000) : mulI a b = .ok (a * b) := mulI_ok (by
  have h1 := log2_mono ha
  have h2 := log2_mono hb
  rw [Nat.log2_two_pow] at h1 h2
  omega)
theorem powI_le {x : Int} {y s : Nat} (h : x.natAbs ≤ 2 ^ s) (hs : (s + 1) * y ≤ 2 ^ 27) : powI x (y : Int) = .ok (x ^ y) := by
  have h1 := log2_mono h
  rw [Nat.log2_two_pow] at h1
  unfold powI
  rw [Res.guard_pos ⟨by omega, .inr (by rw [Int.toNat_natCast]; exact Nat.le_trans (Nat.mul_le_mul_right y (by omega)) hs)⟩]
  rfl
theorem fdivI_pos {x y : Int} (h : 0 < y) (hl : y < 2 ^ 4000) : fdivI x y = .ok (x / y) := by
  have e : y.natAbs ≤ 2 ^ 4000 := by omega
  have h1 := log2_mono e
  rw [Nat.log2_two_pow] at h1
  rw [fdivI_ok (by omega) (by omega), Int.fdiv_eq_ediv_of_nonneg _ (by omega)]
theorem modI_pos {x y : Int} (h : 0 < y) : modI x y = .ok (x % y) := by
  rw [modI_ok (by omega), Int.fmod_eq_emod_of_nonneg _ (by omega)]
/-! ### fractions z / D with a whole z of at most B -/
def DB (D B : Nat) (q : Rat) : Prop := 0 < D ∧ ∃ z : Int, q = Rat.divInt z (D : Int) ∧ z.natAbs ≤ B
theorem DB.fits {D B : Nat} {q : Rat} (h : DB D B q) (hD : D ≤ 2 ^ 4000) (hB : B ≤ 2 ^ 4000) : fits q := by
  obtain ⟨h0, z, e, hz⟩ := h
  rw [e]
  exact Sz.fits (sz_divInt (s := 4000) (by omega) (by rw [Int.natAbs_natCast]; exact hD))
theorem DB.mono {D B C : Nat} {q : Rat} (h : DB D B q) (hB : B ≤ C) : DB D C q := let ⟨h0, z, e, hz⟩ := h; ⟨h0, z, e, Nat.le_trans hz hB⟩
theorem DB.up {D B k : Nat} {q : Rat} (h : DB D B q) (hk : 0 < k) : DB (D * k) (B * k) q := by
  obtain ⟨h0, z, e, hz⟩ := h
  refine ⟨Nat.mul_pos h0 hk, z * (k : Int), ?_, ?_⟩
  · rw [e, Int.natCast_mul, Rat.divInt_mul_right (by omega)]
  · rw [Int.natAbs_mul, Int.natAbs_natCast]; exact Nat.mul_le_mul_right k hz
theorem DB.dvd {D E B : Nat} {q : Rat} (h : DB D B q) (hd : D ∣ E) (hE : 0 < E) : DB E (B * (E / D)) q := by
  obtain ⟨k, e⟩ := hd
  have h0 := h.1
  have hk : 0 < k := by
    rcases Nat.eq_zero_or_pos k with z | z
    · subst z; omega
    · exact z
  rw [e, Nat.mul_div_cancel_left k h0]
  exact h.up hk
theorem DB.add {D B C : Nat} {x y : Rat} (h : DB D B x) (k : DB D C y) : DB D (B + C) (x + y) := by
  obtain ⟨h0, z, e, hz⟩ := h
  obtain ⟨_, u, e', hu⟩ := k
  refine ⟨h0, z + u, ?_, ?_⟩
  · rw [e, e', Rat.divInt_add_divInt _ _ (by omega) (by omega), ← Int.add_mul, Rat.divInt_mul_right (by omega)]
  · have := Int.natAbs_add_le z u; omega
theorem DB.neg {D B : Nat} {x : Rat} (h : DB D B x) : DB D B (-x) := by
  obtain ⟨h0, z, e, hz⟩ := h
  exact ⟨h0, -z, by rw [e, Rat.neg_divInt], by rw [Int.natAbs_neg]; exact hz⟩
theorem DB.sub {D B C : Nat} {x y : Rat} (h : DB D B x) (k : DB D C y) : DB D (B + C) (x - y) := by rw [Rat.sub_eq_add_neg]; exact h.add k.neg
theorem DB.mul {D E B C : Nat} {x y : Rat} (h : DB D B x) (k : DB E C y) : DB (D * E) (B * C) (x * y) := by
  obtain ⟨h0, z, e, hz⟩ := h
  obtain ⟨h1, u, e', hu⟩ := k
  refine ⟨Nat.mul_pos h0 h1, z * u, ?_, ?_⟩
  · rw [e, e', Rat.divInt_mul_divInt, Int.natCast_mul]
  · rw [Int.natAbs_mul]; exact Nat.mul_le_mul hz hu
theorem DB.int (n : Int) : DB 1 n.natAbs (n : Rat) := ⟨by decide, n, (Rat.num_divInt_den (n : Rat)).symm, Nat.le_refl _⟩
theorem DB.zero {D : Nat} (h : 0 < D) (B : Nat) : DB D B 0 := ⟨h, 0, by rw [Rat.zero_divInt], by simp⟩
theorem DB.one : DB 1 1 1 := DB.int 1
theorem DB.mk {t b : Int} (h : 0 < b) : DB b.toNat t.natAbs (Rat.divInt t b) := ⟨by omega, t, by rw [Int.toNat_of_nonneg (by omega)], Nat.le_refl _⟩
theorem DB.self (q : Rat) : DB q.den q.num.natAbs q := ⟨q.den_pos, q.num, (Rat.num_divInt_den q).symm, Nat.le_refl _⟩
end L2.Tr
namespace L2.Tr
open PySem PySem.Spec PyProof.Rows
theorem size_le {n : Nat} (h : n ≤ 1000000) : n ≤ sizeLine := by rw [sizeLine_eq]; omega
theorem appM_ok {α : Type} {xs : List α} {y : α} (h : xs.length < 1000000) : appM xs y = .ok (xs ++ [y]) := Res.guard_pos (by rw [sizeLine_eq]; omega) _
theorem catM_ok {α : Type} {xs ys : List α} (h : xs.length + ys.length ≤ 1000000) : catM xs ys = .ok (xs ++ ys) := Res.guard_pos (size_le h) _
theorem repM_one {α : Type} {x : α} {k : Int} (h0 : 0 ≤ k) (h : k ≤ 1000000) : repM [x] k = .ok (List.replicate k.toNat x) := by
  unfold repM
  rw [Res.guard_pos ⟨by omega, by omega, by rw [sizeLine_eq]; simp; omega⟩]
  congr 1
  generalize k.toNat = n
  induction n with
  | zero => rfl
  | succ n ih => rw [List.replicate_succ, List.flatten_cons, ih]; rfl
theorem popM_ok {α : Type} {xs : List α} (h : 0 < xs.length) : popM xs = .ok xs.dropLast := Res.guard_pos h _
theorem putM_ok {α : Type} {xs : List α} {k : Int} {y : α} (h0 : 0 ≤ k) (h : k.toNat < xs.length) : putM xs k y = .ok (xs.set k.toNat y) := by
  unfold putM ixN
  rw [if_pos h0, if_pos (by omega)]
theorem cutL_to {α : Type} {xs : List α} {k : Int} (h0 : 0 ≤ k) (h : k.toNat ≤ xs.length) : cutL xs none (some k) = xs.take k.toNat := by
  unfold cutL
  rw [HT.sIx_none, List.drop_zero, Nat.sub_zero, show (some k : Option Int) = some ((k.toNat : Nat) : Int) from by rw [Int.toNat_of_nonneg h0], HT.sIx_nat, Nat.min_eq_left h]
/-! ### what is left behind the last index without z -/
def trimN (z : Nat → Bool) : Nat → Nat
  | 0 => 0
  | k + 1 => if z k = true then trimN z k else k + 1
theorem trimN_le (z : Nat → Bool) : ∀ k, trimN z k ≤ k
  | 0 => Nat.le_refl _
  | k + 1 => by
    unfold trimN
    split
    · exact Nat.le_succ_of_le (trimN_le z k)
    · exact Nat.le_refl _
theorem trimN_congr {z z' : Nat → Bool} : ∀ {k : Nat}, (∀ i, i < k → z i = z' i) → trimN z k = trimN z' k
  | 0, _ => rfl
  | k + 1, h => by
    unfold trimN
    rw [h k (Nat.lt_succ_self k), trimN_congr (k := k) fun i hi => h i (by omega)]
theorem trimN_last {z : Nat → Bool} : ∀ {k : Nat}, 0 < trimN z k → z (trimN z k - 1) = false
  | 0, h => absurd h (Nat.lt_irrefl _)
  | k + 1, h => by
    unfold trimN at h ⊢
    by_cases hz : z k = true
    · rw [if_pos hz] at h ⊢; exact trimN_last h
    · rw [if_neg hz]; simpa using hz
theorem trimN_full {z : Nat → Bool} {k : Nat} (h : ∀ j, k = j + 1 → z j = false) : trimN z k = k := by
  cases k with
  | zero => rfl
  | succ j => unfold trimN; rw [h j rfl]; rfl
/-- without the zeros at the end -/
def trimQ (xs : List Rat) : List Rat := xs.take (trimN (fun i => decide (xs.getD i 0 = 0)) xs.length)
theorem trimQ_len (xs : List Rat) : (trimQ xs).length ≤ xs.length := by unfold trimQ; rw [List.length_take]; omega
theorem trimQ_id {xs : List Rat} (h : ∀ x, xs.getLast? = some x → x ≠ 0) : trimQ xs = xs := by
  unfold trimQ
  rw [trimN_full, List.take_length]
  intro j hj
  rw [decide_eq_false_iff_not]
  refine h _ ?_
  rw [List.getLast?_eq_getElem?, hj, Nat.add_sub_cancel, List.getD_eq_getElem?_getD, List.getElem?_eq_getElem (by omega)]
  rfl
theorem lenG_ok {n : Nat} (h : n ≤ 1000000) : lenG (n : Int) = .ok (n : Int) := by
  unfold lenG Res.guard
  have h1 : (0 : Int) ≤ (n : Int) := Int.natCast_nonneg n
  have h2 : (n : Int) < 2 ^ 63 := by omega
  rw [if_pos (And.intro h1 h2)]
/-- a fraction handed over as two whole numbers -/
abbrev Pr := Int × Int × Unit
def pv (p : Pr) : Rat := Rat.divInt p.1 p.2.1
/-- of at most 2 ^ s -/
def PB (s : Nat) (p : Pr) : Prop := p.1.natAbs ≤ 2 ^ s ∧ 0 < p.2.1 ∧ p.2.1.natAbs ≤ 2 ^ s
theorem PB.sz {s : Nat} {p : Pr} (h : PB s p) : Sz s (pv p) := sz_divInt h.1 h.2.2
theorem PB.mono {s t : Nat} {p : Pr} (h : PB s p) (k : s ≤ t) : PB t p := ⟨Nat.le_trans h.1 (Nat.pow_le_pow_right (by decide) k), h.2.1, Nat.le_trans h.2.2 (Nat.pow_le_pow_right (by decide) k)⟩
theorem pv_cross {p : Pr} (h : 0 < p.2.1) : (pv p).num * p.2.1 = p.1 * ((pv p).den : Int) := by
  have e := Rat.num_divInt_den (pv p)
  exact (Rat.divInt_eq_divInt_iff (den_nz _) (by omega)).mp e
theorem pv_zero {p : Pr} (h : 0 < p.2.1) : pv p = 0 ↔ p.1 = 0 := by
  unfold pv
  rw [← Rat.zero_divInt p.2.1, Rat.divInt_eq_divInt_iff (by omega) (by omega)]
  constructor
  · intro e
    have : p.1 * p.2.1 = 0 := by rw [e]; simp
    rcases Int.mul_eq_zero.mp this with z | z
    · exact z
    · omega
  · intro e; rw [e]
end L2.Tr

namespace L2.Tr
open PySem PySem.Spec PyProof.Rows He
section
variable {α β γ δ ζ S L : Type} {X : Cx} {I0 H0 I H : Hp} {W : WX} {Kx : KnowsX} {G : Knows} {ctx : List (Option SF)} {mem : List MF} {e a b c o ix : Expr} {es : List Expr} {st : Stmt} {ss s1 : List Stmt} {pos pos' p2 : Pos} {n : Str} {σ : St} {Q : VK} {r : Rp α} {ra : Ra α} {rb : Ra β} {rc : Ra γ} {rr : Ra γ} {ma : Res α} {mb : Res β} {mc : Res Bool} {md : Res δ} {R : Hp → Hp → List V → δ → Prop} {K : PySem.W.Frag}
/-- a cell comes to the front -/
theorem Stt.front {c : MF} (s : Stt I0 H0 ctx mem I H σ) (j : Nat) (hj : mem[j]? = some c) : Stt I0 H0 ctx (c :: mem.eraseIdx j) I H σ := by
  obtain ⟨fps, rg, nd, k⟩ := s.me
  obtain ⟨M1, M2, A, fp, B, e1, e2, e3, r1, q, r2⟩ := rg.split hj
  subst e1; subst e2
  rw [erase_mid e3]
  have hp : List.Perm (A ++ fp :: B).flatten (fp :: (A ++ B)).flatten := by
    rw [flat_mid, List.flatten_cons, List.flatten_append]
    exact (List.perm_append_comm_assoc A.flatten fp B.flatten)
  exact ⟨s.fm, s.len, s.sl, fp :: (A ++ B), ⟨q, Regs.join r1 r2⟩, hp.nodup_iff.mp nd, fun a ha => k a (hp.mem_iff.mpr ha)⟩
/-! ### x[k] op= e -/
theorem get_listP : PGet X (rIxL X.K) := by
  intro pins s σ H x y v u Q Iv hxv hyu w0
  obtain ⟨p, vs, k, z, rfl, rfl, sq, at_, qz⟩ := w0
  cases hxv
  obtain ⟨tok, rfl⟩ := hyu
  obtain ⟨us, vals, pl, _⟩ := Iv.list sq
  obtain ⟨d, e1, e2, e3, e4, e5⟩ := atI_get at_
  obtain ⟨w, ew, rw'⟩ := vals.get e2
  have hl := vals.length
  have hn := line63
  have fin : EP X pins σ Q w s := ⟨z, H, Iv, rw', qz⟩
  by_cases k0 : 0 ≤ k
  · have hd : k.toNat = d := by rw [seqIndex_of k0 e5] at e1; exact Option.some.inj e1
    exact wpAny_getItem_list pl.isList k0 (by omega) (by rw [hd]; simpa using ew) fin
  · have hd : (k + (us.toArray.size : Int)).toNat = d := by
      rw [seqIndex_neg (by omega) e4] at e1
      rw [List.size_toArray, ← hl]; exact Option.some.inj e1
    exact wpAny_getItem_list_neg pl.isList (by omega) (by rw [List.size_toArray] <;> omega) (by omega) (by rw [hd]; simpa using ew) fin
theorem J1.augIx (i j : Nat) {op : Operator} {r2 : Rp β} [mo : Mo r] {h : α → β → Res α} {xs : List α} {m : Res β} {mi : Res Int} {l : Addr} {p1 tpos : Pos} (ji : JE X I0 H0 W ctx mem ix mi (rp rInt)) (je : JE X I0 H0 W ctx mem e m (rp r2)) (op_ : OpJ X W (inplaceOp op) (rp r) (rp r2) h (rp r)) (hx : ∀ I H σ d, Stt I0 H0 ctx mem I H σ → Fr H0 d → Kx I H σ d)
    (hj : mem[j]? = some (MF.lst l r xs) := by rfl) (hc : ctx[i]? = some (some (SF.mk (rRef l) ())) := by rfl) (hN : X.N[i]? = some n := by rfl) (hv : Vis X.env.scope n := by first | exact Or.inl rfl | exact Or.inr (Or.inl rfl) | exact Or.inr (Or.inr rfl)) (hd : (n == ("__debug__" : Str)) = false := by decide)
    (hcd : (n == ("__classdict__" : Str)) = false := by decide) (ha : ∀ ov iv new, augStore ix ov iv new = (do holding [new, ov, iv] (setItem ov iv new); release [new, ov, iv] []; pure .next) := by intros; rfl) :
    J1 X W Kx (Stt I0 H0 ctx mem) (.AugAssign (.Subscript (.Name n p1) ix tpos) op e pos) (mi.bind fun k => (atM xs k).bind fun old => m.bind fun y => (noErr (h old y)).bind fun z => putM xs k z) (fun zs => Stt I0 H0 ctx (mem.set j (MF.lst l r zs))) := fun I H σ D g p => by
  obtain ⟨u, eu, hu⟩ := g.sl i _ hc
  cases (show u = V.ref l from hu)
  refine PS.w (ps_augS (tip := fun u v H Q => ∀ σ, opW X (inplaceOp op) σ u v H Q) pe_W pe_W get_listP pe_W (fun pins s σ H x y v u Q Iv rx ry t => t σ pins s v u Iv rx ry) set_list ha) (w_var i (ji I H σ _ g ?_) eu hN hv hd hcd)
  cases mi with
  | ok k =>
    intro I1 H1 vk f1 r1
    cases (show vk = V.int k from r1)
    have g1 := g.step f1
    obtain ⟨_, _, oo, zH, vs, eo, pr⟩ := g1.lstAt hj
    subst eo
    have p1 : PostB X W Kx I ((atM xs k).bind fun old => m.bind fun y => (noErr (h old y)).bind fun z => putM xs k z) (fun zs => Stt I0 H0 ctx (mem.set j (MF.lst l r zs))) D := p
    unfold atM at p1
    cases ea : atI xs k with
    | none => rw [ea] at p1; exact p1.elim
    | some old =>
      rw [ea] at p1
      obtain ⟨wo, ew, ho⟩ := atI_pair pr ea
      refine ⟨l, vs, k, wo, rfl, rfl, SqL.of zH, ew, je I1 H1 σ _ g1 ?_⟩
      cases m with
      | ok y =>
        intro I2 H2 vy f2 r2 σ2
        have g2 := g1.step f2
        have p2 : PostB X W Kx I ((noErr (h old y)).bind fun z => putM xs k z) (fun zs => Stt I0 H0 ctx (mem.set j (MF.lst l r zs))) D := p1
        refine op_ I2 H2 σ2 _ wo vy old y f2.ih (mo.up f2.i ho) r2 ?_
        revert p2
        generalize h old y = zz
        intro p2
        cases zz with
        | ok z =>
          intro I3 H3 vz f3 r3
          have g3 := g2.step f3
          obtain ⟨_, _, o3, zH3, vs3, eo3, pr3⟩ := g3.lstAt hj
          subst eo3
          have p3 : PostB X W Kx I (putM xs k z) (fun zs => Stt I0 H0 ctx (mem.set j (MF.lst l r zs))) D := p2
          unfold putM at p3
          cases ek : ixN xs.length k with
          | none => rw [ek] at p3; exact p3.elim
          | some q =>
            rw [ek] at p3
            exact ⟨l, vs3, k, q, rfl, rfl, zH3, by rw [Paired.length pr3]; exact ek, p3 I3 _ σ (f1.i.trans (f2.i.trans f3.i)) (g3.relst j hj (paired_set r3 q pr3))⟩
        | err e => exact p2.elim
        | stuck => exact p2.elim
      | err e => exact fun I' H' c d f x => p1 I' H' σ c d (hx _ _ _ _ (g1.step f) (x.1.back g1.fm.h)) x.2
      | stuck => exact p1.elim
  | err e => exact fun I' H' c d f x => p I' H' σ c d (hx _ _ _ _ (g.step f) (x.1.back g.fm.h)) x.2
  | stuck => exact p.elim
/-! ### k in xs, whole numbers -/
theorem paired_inS {I H : Hp} : ∀ {vs : List V} {xs : List Int}, Paired (rp rInt I H) vs xs → vs = xs.map V.int := paired_in
theorem inV_int (k : Int) : ∀ xs : List Int, inV (.int k) (xs.map V.int) = xs.contains k
  | [] => rfl
  | x :: xs => by
    have ih := inV_int k xs
    unfold inV at ih ⊢
    rw [List.map_cons, List.any_cons, ih, List.contains_cons]
    congr 1
    show eqV (.int x) (.int k) = (k == x)
    by_cases h : k = x
    · subst h; simp [eqV]
    · have h2 : x ≠ k := fun z => h z.symm
      show (x == k) = (k == x)
      rw [beq_eq_false_iff_ne.mpr h2, beq_eq_false_iff_ne.mpr h]
theorem flat_ints : ∀ xs : List Int, (xs.map V.int).all flatV = true
  | [] => rfl
  | x :: xs => by rw [List.map_cons, List.all_cons, flat_ints xs]; rfl
theorem opj_in : OpJ X W (compareOp .In) (rp rInt) (rSq X.K (rp rInt)) (fun x ys => .ok (ys.contains x)) (rp rBl) := fun I H σ Q u v x y s hu hv p => by
  obtain ⟨l, vs, rfl, hl, pr⟩ := hv
  cases (show u = V.int x from hu)
  obtain rfl := paired_in pr
  refine OpR.w op_in_seq ⟨l, _, rfl, hl, rfl, flat_ints y, ?_⟩
  rw [if_neg (by decide), inV_int]
  exact p I H _ (Fm.refl s) rfl
/-! ### [.. for x in xs for y in ..] -/
def lcM2 (g : β → Res (List ζ)) (f : β → ζ → Res α) : List β → Res (List α)
  | [] => .ok []
  | x :: xs => match g x with
    | .ok zs => (match lcM (f x) zs with
      | .ok a => (match lcM2 g f xs with
        | .ok b => .ok (a ++ b)
        | _ => .stuck)
      | _ => .stuck)
    | _ => .stuck
def lcR2 (g : β → Res (List ζ)) (f : β → ζ → Res α) (xs : List β) : Res (List α) := match lcM2 g f xs with
  | .ok r => Res.guard (r.length ≤ sizeLine) (.ok r)
  | _ => .stuck
theorem lcM2_drop {g : β → Res (List ζ)} {f : β → ζ → Res α} {xs : List β} {i : Nat} {x : β} (h : xs[i]? = some x) : lcM2 g f (xs.drop i) = (match g x with
    | .ok zs => (match lcM (f x) zs with
      | .ok a => (match lcM2 g f (xs.drop (i + 1)) with
        | .ok b => .ok (a ++ b)
        | _ => .stuck)
      | _ => .stuck)
    | _ => .stuck) := by
  have hi := (List.getElem?_eq_some_iff.mp h).1
  rw [List.drop_eq_getElem_cons hi]
  have : xs[i] = x := (List.getElem?_eq_some_iff.mp h).2
  rw [this]
  rfl
def wIb (X : Cx) (scope : Scope) (tg iter : Expr) : TI := fun σ H R => ∀ (s : Shared) (H' : Hp) (C : Addr) (cl : List (Str × Addr)) (fp : List Addr), wI (X.blk s H' scope (compEnvC scope cl C X.env) fp) tg iter σ H R
theorem pi_Wb {tg iter : Expr} (s : Shared) (H' : Hp) (C : Addr) (cl : List (Str × Addr)) (fp : List Addr) {scope : Scope} : PI (X.blk s H' scope (compEnvC scope cl C X.env) fp) tg iter (wIb X scope tg iter) := ⟨fun pins s1 _ _ _ I h => h s H' C cl fp pins s1 I⟩
theorem JM.lc2T {iter iter1 elt : Expr} {n1 : Str} {q1 : Pos} {rb : Rp β} {rz : Rp ζ} (j j1 : Nat) [mo : Mo r] [mb : Mo rb] [mz : Mo rz] {m : Res (List β)} {g : β → Res (List ζ)} {f : β → ζ → Res α} {scope : Scope} (ji : JI X I0 H0 W ctx mem (.Name n pos') iter m rb)
    (ji1 : ∀ (s : Shared) (H : Hp) (C : Addr) (cl : List (Str × Addr)) (fp : List Addr) (D : Addr) (acc : List α) (x : β), Takes (X.blk s H scope (compEnvC scope cl C X.env) fp) W0 → JI (X.blk s H scope (compEnvC scope cl C X.env) fp) I0 H0 W0 ((ctx.set j (some ⟨rb, x⟩)).set j1 none) (MF.lst D r acc :: mem) (.Name n1 q1) iter1 (g x) rz)
    (je : ∀ (s : Shared) (H : Hp) (C : Addr) (cl : List (Str × Addr)) (fp : List Addr) (D : Addr) (acc : List α) (x : β) (z : ζ), Takes (X.blk s H scope (compEnvC scope cl C X.env) fp) W0 → JE (X.blk s H scope (compEnvC scope cl C X.env) fp) I0 H0 W0 ((ctx.set j (some ⟨rb, x⟩)).set j1 (some ⟨rz, z⟩)) (MF.lst D r acc :: mem) elt (f x z) (rp r))
    (hN : X.N.Nodup) (ok : BlkOk X.N X.env.scope scope [(n, j), (n1, j1)]) (hne : j ≠ j1 := by decide) (hj : X.N[j]? = some n := by rfl) (hj1 : X.N[j1]? = some n1 := by rfl) (hc : X.calm = true := by rfl) (hsc : Loc (relabel scope X.env) n := by first | exact Or.inl rfl | exact Or.inr rfl) (hfn : (scope.names.lookup n == some .cell) = true ∨ (relabel scope X.env).names.lookup n = some .local := by first | exact .inr rfl | exact .inl rfl) (hsc1 : Loc (relabel scope X.env) n1 := by first | exact Or.inl rfl | exact Or.inr rfl) (hfn1 : (scope.names.lookup n1 == some .cell) = true ∨ (relabel scope X.env).names.lookup n1 = some .local := by first | exact .inr rfl | exact .inl rfl)
    (hs : ∀ x, foldedSetIterable iter X.env x = pure x := by intro _; rfl) (hs1 : ∀ env x, foldedSetIterable iter1 env x = pure x := by intro _ _; rfl) :
    JM X I0 H0 W ctx mem (.ListComp elt [⟨.Name n pos', iter, [], 0⟩, ⟨.Name n1 q1, iter1, [], 0⟩] scope pos) (m.bind fun xs => lcR2 g f xs) r := fun I H σ Q st p => by
  refine PE.w (pe_lc2 (own := [(n, j), (n1, j1)]) (vs1 := [j1]) hc hN pi_W ok (by simp) (fun s H C cl fp => pg_name (i := j) hN hj hsc hfn) (fun s H C cl fp => pts_nil) (fun s H C cl fp => pi_Wb s H C cl fp) (fun s H C cl fp => pg_name (i := j1) hN hj1 hsc1 hfn1) (fun s H C cl fp => pts_nil) (fun s H C cl fp => pe_Wb s H C cl fp) hs hs1) ?_
  refine ji I H σ _ st ?_
  cases m with
  | ok xs =>
    intro I1 H1 J vs okp f1 itr stay pr D hD
    have hlen := Paired.length pr
    have hD0 : H D = none := f1.h.free hD
    have p0 : PostM X W σ I H (lcR2 g f xs) r Q := p
    unfold lcR2 at p0
    cases et : lcM2 g f xs with
    | err e => rw [et] at p0; exact p0.elim
    | stuck => rw [et] at p0; exact p0.elim
    | ok tot =>
      rw [et] at p0
      by_cases hz : tot.length ≤ sizeLine
      · have e0 : Res.guard (tot.length ≤ sizeLine) (Res.ok tot) = .ok tot := Res.guard_pos hz _
        have p1 : PostM X W σ I H (.ok tot) r Q := by rw [← e0]; exact p0
        refine ⟨fun i k H' => k + i = vs.length ∧ ∃ I' acc ys, Same I1 I' ∧ Fm I H I' H' ∧ Stt I0 H0 ctx (MF.lst D r acc :: mem) I' H' σ ∧ lcM2 g f (xs.drop i) = .ok ys ∧ tot = acc ++ ys, ⟨vs.length, rfl, I1, [], tot, Same.refl _, f1.trans (Fm.newM f1.ih hD), (st.step f1).push hD .nil, et, rfl⟩, ?_⟩
        rintro i k H' ⟨hk, I', acc, ys, si, fm, g', el, eq⟩
        have hok := stay I' H' si g'.same g'.fm.h
        by_cases hi : i < vs.length
        · obtain ⟨go, yl⟩ := (itr i H' hok).1 hi
          refine .inr ⟨go, fun H2 => ∃ I2 acc2 ys2, Same I1 I2 ∧ Fm I H I2 H2 ∧ Stt I0 H0 ctx (MF.lst D r acc2 :: mem) I2 H2 σ ∧ lcM2 g f (xs.drop (i + 1)) = .ok ys2 ∧ tot = acc2 ++ ys2, fun H2 h => ⟨k - 1, by omega, by omega, h⟩, fun v H2 hy => ?_⟩
          obtain ⟨rfl, ev⟩ := yl v H2 hy
          obtain ⟨x, ex, hr⟩ := paired_drop pr i ev
          rw [lcM2_drop ex] at el
          have wp : wipe σ [j, j1] = (σ.set j1 none).set j none := rfl
          show (fun σ2 H2 => wipe σ2 [j, j1] = wipe σ [j, j1] ∧ _) ((wipe σ [j, j1]).set j (some v)) H2
          refine ⟨?_, ?_⟩
          · show ((((σ.set j1 none).set j none).set j (some v)).set j1 none).set j none = (σ.set j1 none).set j none
            rw [List.set_set, List.set_comm _ _ hne, List.set_set, List.set_set]
          show tYes ((wipe σ [j, j1]).set j (some v)) H2 _
          have hτ : (wipe σ [j, j1]).set j (some v) = (σ.set j (some v)).set j1 none := by rw [wp, List.set_set, List.set_comm _ _ (Ne.symm hne)]
          show (fun (τ : St) => tYes τ H2 fun b H3 => if b = true then wIb X scope (.Name n1 q1) iter1 τ H3 fun J1 H4 => ∃ W1 : Nat → Nat → Hp → Prop, (∃ m, W1 0 m H4) ∧ ∀ jj kk H, W1 jj kk H → (J1.stop jj H ∧ (fun H2 => ∃ I2 acc2 ys2, Same I1 I2 ∧ Fm I _ I2 H2 ∧ Stt I0 H0 ctx (MF.lst D r acc2 :: mem) I2 H2 σ ∧ lcM2 g f (xs.drop (i + 1)) = .ok ys2 ∧ tot = acc2 ++ ys2) H) ∨ (J1.go jj H ∧ ∃ Nx1 : Hp → Prop, (∀ H', Nx1 H' → ∃ k', k' < kk ∧ W1 (jj + 1) k' H') ∧ ∀ x H', J1.yld jj H x H' → gName j1 x (wipe τ [j1]) H' fun σ3 H5 => wipe σ3 [j1] = wipe τ [j1] ∧ tYes σ3 H5 fun b H6 => if b = true then wEb X scope elt σ3 H6 fun y H7 => ∃ acc, H7 D = some (.lst acc) ∧ acc.length < sizeLine ∧ Nx1 (upd H7 D (.lst (acc ++ [y]))) else Nx1 H6) else _) ((wipe σ [j, j1]).set j (some v))
          rw [hτ]
          show wIb X scope (.Name n1 q1) iter1 ((σ.set j (some v)).set j1 none) H2 _
          intro s3 H3 C cl fp
          have gx : Stt I0 H0 ((ctx.set j (some ⟨rb, x⟩)).set j1 none) (MF.lst D r acc :: mem) I' H2 ((σ.set j (some v)).set j1 none) := (g'.set j (mb.up si hr)).wipe1 j1
          refine ji1 s3 H3 C cl fp D acc x takes0 I' H2 _ _ gx ?_
          cases eg : g x with
          | err e => rw [eg] at el; cases el
          | stuck => rw [eg] at el; cases el
          | ok zs =>
            rw [eg] at el
            cases ef : lcM (f x) zs with
            | err e => dsimp only at el; rw [ef] at el; cases el
            | stuck => dsimp only at el; rw [ef] at el; cases el
            | ok as_ =>
              cases er : lcM2 g f (xs.drop (i + 1)) with
              | err e => dsimp only at el; rw [ef, er] at el; cases el
              | stuck => dsimp only at el; rw [ef, er] at el; cases el
              | ok rest =>
                dsimp only at el
                rw [ef, er] at el
                cases el
                intro I4 H4 J1 ws okp1 f4 itr1 stay1 pr1
                have hlen1 := Paired.length pr1
                have g4 := g'.step f4
                refine ⟨fun jj kk H5 => kk + jj = ws.length ∧ ∃ I5 acc5 ys5, Same I1 I5 ∧ Same I4 I5 ∧ Fm I H I5 H5 ∧ Stt I0 H0 ctx (MF.lst D r acc5 :: mem) I5 H5 σ ∧ lcM (f x) (zs.drop jj) = .ok ys5 ∧ tot = acc5 ++ (ys5 ++ rest), ⟨ws.length, rfl, I4, acc, as_, si.trans f4.i, Same.refl _, fm.trans f4, g4, ef, eq⟩, ?_⟩
                rintro jj kk H5 ⟨hkk, I5, acc5, ys5, s15, s45, fm5, g5, el5, eq5⟩
                have hok1 := stay1 I5 H5 s45 g5.same g5.fm.h
                by_cases hjj : jj < ws.length
                · obtain ⟨go1, yl1⟩ := (itr1 jj H5 hok1).1 hjj
                  refine .inr ⟨go1, fun H6 => ∃ I6 acc6 ys6, Same I1 I6 ∧ Same I4 I6 ∧ Fm I H I6 H6 ∧ Stt I0 H0 ctx (MF.lst D r acc6 :: mem) I6 H6 σ ∧ lcM (f x) (zs.drop (jj + 1)) = .ok ys6 ∧ tot = acc6 ++ (ys6 ++ rest), fun H6 h => ⟨kk - 1, by omega, by omega, h⟩, fun vz H6 hyz => ?_⟩
                  obtain ⟨rfl, evz⟩ := yl1 vz H6 hyz
                  obtain ⟨z, ez, hrz⟩ := paired_drop pr1 jj evz
                  rw [lcM_drop ez] at el5
                  have w1 : wipe ((σ.set j (some v)).set j1 none) [j1] = (σ.set j (some v)).set j1 none := by show ((σ.set j (some v)).set j1 none).set j1 none = _; rw [List.set_set]
                  show (fun σ3 H5 => wipe σ3 [j1] = wipe ((σ.set j (some v)).set j1 none) [j1] ∧ _) ((wipe ((σ.set j (some v)).set j1 none) [j1]).set j1 (some vz)) H6
                  refine ⟨by rw [w1]; show ((((σ.set j (some v)).set j1 none).set j1 (some vz)).set j1 none) = _; rw [List.set_set, List.set_set], ?_⟩
                  show wEb X scope elt ((wipe ((σ.set j (some v)).set j1 none) [j1]).set j1 (some vz)) H6 _
                  rw [w1, List.set_set]
                  intro s7 H7 C7 cl7 fp7
                  refine je s7 H7 C7 cl7 fp7 D acc5 x z takes0 I5 H6 _ _ ((g5.set j (mb.up s15 hr)).set j1 (mz.up s45 hrz)) ?_
                  revert el5
                  generalize f x z = zz
                  intro el5
                  cases zz with
                  | err e => cases el5
                  | stuck => cases el5
                  | ok y =>
                    cases el6 : lcM (f x) (zs.drop (jj + 1)) with
                    | err e => dsimp only at el5; rw [el6] at el5; cases el5
                    | stuck => dsimp only at el5; rw [el6] at el5; cases el5
                    | ok ys6 =>
                      dsimp only at el5
                      rw [el6] at el5
                      cases el5
                      intro I8 H8 vy f8 r8
                      have g8 := g5.step f8
                      obtain ⟨z0, zI, oo, zH, vacc, eo, pacc⟩ := g8.lstAt (j := 0) rfl
                      subst eo
                      have hla := Paired.length pacc
                      have hll : tot.length = acc5.length + ((y :: ys6).length + rest.length) := by rw [eq5, List.length_append, List.length_append]
                      rw [List.length_cons] at hll
                      exact ⟨vacc, zH, by omega, I8, acc5 ++ [y], ys6, s15.trans f8.i, s45.trans f8.i, (fm5.trans f8).updNew hD0 zI, g8.relst 0 rfl (paired_app pacc (.cons r8 .nil)), rfl, by rw [eq5, List.append_assoc]; rfl⟩
                · have e5 : zs.drop jj = [] := List.drop_eq_nil_of_le (by omega)
                  rw [e5] at el5
                  cases el5
                  exact .inl ⟨(itr1 jj H5 hok1).2 (by omega), I5, acc5, rest, s15, fm5, g5, rfl, eq5⟩
        · refine .inl ⟨(itr i H' hok).2 (by omega), ?_⟩
          have e1 : xs.drop i = [] := List.drop_eq_nil_of_le (by omega)
          rw [e1] at el
          cases el
          rw [List.append_nil] at eq
          subst eq
          obtain ⟨z0, zI, oo, zH, vacc, eo, pacc⟩ := g'.lstAt (j := 0) rfl
          subst eo
          exact p1 I' H' D vacc fm hD0 zI zH pacc
      · have e0 : Res.guard (tot.length ≤ sizeLine) (Res.ok tot) = .stuck := if_neg hz
        rw [show PostM X W σ I H (match Res.ok tot with | .ok r => Res.guard (r.length ≤ sizeLine) (.ok r) | _ => .stuck) r Q = PostM X W σ I H (Res.guard (tot.length ≤ sizeLine) (Res.ok tot)) r Q from rfl, e0] at p0
        exact p0.elim
  | err e => exact p
  | stuck => exact p
end
end L2.Tr

namespace L2.Tr
open PySem PySem.Spec PyProof.Rows He
section
variable {α β γ δ ε ζ S L : Type} {X : Cx} {I0 H0 I H : Hp} {W : WX} {Kx : KnowsX} {G : Knows} {ctx : List (Option SF)} {mem : List MF} {e a b c o ix : Expr} {es : List Expr} {st : Stmt} {ss s1 : List Stmt} {pos pos' p2 : Pos} {n : Str} {σ : St} {Q : VK} {r : Rp α} {ra : Ra α} {rb : Ra β} {rc : Ra γ} {rr : Ra γ} {ma : Res α} {mb : Res β} {mc : Res Bool} {md : Res δ} {me : Res ε} {R : Hp → Hp → List V → δ → Prop} {R' : Hp → Hp → List V → ε → Prop} {kws : List Keyword} {ks : List Str}
/-- o.m(e, .., k = v, ..) -/
theorem JE.methK {pl : Sem Bool} {m : Str} {C f : Addr} {apos : Pos} {g : α × δ → ε → Res γ} [MoA ra] [MoR R] (j : JE X I0 H0 W ctx mem o ma ra) (hi : InsOf C ra m) (ja : JA X I0 H0 W ctx mem (e :: es) md R) (jk : JK X I0 H0 W ctx mem kws me R') (cj : CallKJ X W (.ref f) ks (aCons ra R) R' g rc) (c : Cls X.K C) (hm : Meth X.K C m f)
    (hall : (backToKw pos (keywordEach kws X.env)).all (·.1.isSome) = true := by rfl) (hks : (backToKw pos (keywordEach kws X.env)).filterMap (·.1) = ks := by rfl) (he : starEach (e :: es) X.env = (false, eval e X.env) :: starEach es X.env := by rfl)
    (hpl : ((backTo pos (starEach (e :: es) X.env)).any (·.1) || (backToKw pos (keywordEach kws X.env)).any (·.1.isNone)) = false := by rfl)
    (ht : eval (.Call (.Attribute o m apos) (e :: es) kws pos) X.env = (do
      let ov ← eval o X.env
      standAt apos.atName
      let (f, first) ← holding [ov] (getMethod ov m pl)
      callWith pos f first (backTo pos (starEach (e :: es) X.env)) (backToKw pos (keywordEach kws X.env))) := by rfl) : JE X I0 H0 W ctx mem (.Call (.Attribute o m apos) (e :: es) kws pos) (ma.bind fun x => md.bind fun y => me.bind fun z => g (x, y) z) rc := fun I H σ Q st p pins s Iv => by
  refine PySem.W.methodCall_KW (pl := pl) (thn (j I H σ (fun v H1 => ∃ a dx fs, v = .ref a ∧ H1 a = some (.ins C dx fs) ∧ fs.lookup m = none ∧ wA X (e :: es) σ H1 fun vs H2 => ∀ pins s1 us, Inv X pins σ H2 s1 → Vals vs us → wpAny (model X.prog X.w) X.A (evalAll ((backToKw pos (keywordEach kws X.env)).map (·.2))) (fun ws s2 => X.K.In s2.heap ∧ wpAny (model X.prog X.w) X.A (PySem.call (.ref f) ([.ref a] ++ us) (ks.zip ws)) (EP X pins σ Q) X.xe s2) X.xe s1) st ?_ pins s Iv) fun u s1 ⟨v, H1, I1, rx, a, dx, fs, ex, ea, l, q⟩ => ?_) ht
  · cases ma with
    | ok x =>
      intro I1 H1 v f1 r1
      obtain ⟨a, dx, fs, ev, ha, hl⟩ := hi I1 H1 v x f1.ih r1
      have p1 := PostE.up p f1
      refine ⟨a, dx, fs, ev, ha, hl, ja I1 H1 σ _ (st.step f1) ?_⟩
      cases md with
      | ok y =>
        intro I2 H2 vs f2 r2 pins s1 us Iv1 ru
        have p2 := PostE.up p1 f2
        refine thn (jk pos I2 H2 σ (fun zs H3 => callKW X (.ref f) ks σ (v :: vs) zs H3 Q) ((st.step f1).step f2) ?_ pins s1 Iv1) fun ws s2 ⟨zs, H3, I3, r3, q3⟩ => ⟨I3.kIn, q3 pins s2 (.ref a :: us) ws I3 (by rw [ev]; exact .cons rfl ru) r3⟩
        cases me with
        | ok z => exact fun I3 H3 zs f3 r3 => cj I3 H3 σ Q (v :: vs) zs (x, y) z f3.ih ⟨v, vs, rfl, MoA.up (f2.trans f3).i (f2.trans f3).h r1, MoR.up f3.i f3.h r2⟩ r3 (PostE.up p2 f3)
        | err e => exact p2
        | stuck => exact p2
      | err e => exact p1
      | stuck => exact p1
    | err e => exact p
    | stuck => exact p
  · subst ex
    obtain rfl : u = Value.ref a := rx
    refine getmeth_ok I1 ea c hm l ?_
    refine PySem.W.callWith_KW (h₀ := X.base) (first := [.ref a]) I1.ok.mod.kin hm.kp hall ?_ hpl he
    rw [hks]
    exact thn (q pos pins s1 I1) fun us s2 ⟨vs, H2, I2, rv, q2⟩ => q2 pins s2 us I2 rv
/-- n(e, ..), n a name that holds a class or a def of the top -/
theorem JE.callL {f : Addr} {g : δ → Res γ} (j : JE X I0 H0 W ctx mem (.Name n pos') (.ok ()) (rp (rRef f))) (k : JA X I0 H0 W ctx mem (e :: es) md R) (cj : CallJ X W (.ref f) R g rc) (hk : PySem.W.keepIn X.K (.ref f) = true)
    (he : starEach (e :: es) X.env = (false, eval e X.env) :: starEach es X.env := by rfl) (hpl : (backTo pos (starEach es X.env)).any (·.1) = false := by rfl) : JE X I0 H0 W ctx mem (.Call (.Name n pos') (e :: es) [] pos) (md.bind g) rc := fun I H σ Q st p pins s Iv => by
  refine wpAny_Call_Name_kw (thn (j I H σ (fun v H1 => v = .ref f ∧ wA X (e :: es) σ H1 fun vs H2 => callW X (.ref f) σ vs H2 Q) st ?_ pins s Iv) fun u s1 ⟨v, H1, I1, rv, ev, q⟩ => ?_)
  · intro I1 H1 v f1 r1
    exact ⟨r1, k.call cj (st.step f1) (PostE.up p f1)⟩
  · subst ev
    obtain rfl : u = Value.ref f := rv
    exact PySem.W.callWith_K (first := []) (h₀ := X.base) I1.ok.mod.kin hk (thn (q pos pins s1 I1) fun us s2 ⟨vs, H2, I2, r, q2⟩ => ⟨I2.kIn, q2 pins s2 us I2 r⟩) he hpl
/-- C.m(e, ..), a classmethod -/
theorem JE.cmeth {pl : Sem Bool} {k : Nat} {C p g : Addr} {mc : Value} {m : Str} {apos po : Pos} {g' : Unit × δ → Res γ} (hm : X.mg n = some (.ref C)) (cr : ClX.CRead X.K C mc) (cm : ClX.CMet X.K C mc m p g) (ja : JA X I0 H0 W ctx mem (e :: es) md R) (F : FnR X.prog X.w X.K X.mg X.base (L2.CX X.prog X.w) k g (spF X.K (aCons (rp (rRef C)) R) g' rc)) (hr : Room k X.A) (tk : Takes X W)
    (hg : Gl X n := by rfl) (hdb : (n == ("__debug__" : Str)) = false := by decide) (hst : starEach (e :: es) X.env = (false, eval e X.env) :: starEach es X.env := by rfl) (hpl : (backTo po (starEach es X.env)).any (·.1) = false := by rfl)
    (ht : eval (.Call (.Attribute (.Name n pos') m apos) (e :: es) [] po) X.env = (do
      let ov ← eval (.Name n pos') X.env
      standAt apos.atName
      let (f, first) ← holding [ov] (getMethod ov m pl)
      callWith po f first (backTo po (starEach (e :: es) X.env)) (backToKw po (keywordEach [] X.env))) := by rfl) :
    JE X I0 H0 W ctx mem (.Call (.Attribute (.Name n pos') m apos) (e :: es) [] po) (md.bind fun y => g' ((), y)) rc := fun I H σ Q st pp pins s Iv => by
  have q : wA X (e :: es) σ H fun vs H1 => codeW X (.ref g) σ (.ref C :: vs) H1 Q := by
    refine ja I H σ _ st ?_
    cases md with
    | ok y => exact fun I1 H1 vs f1 r1 => run_C F hr tk ⟨I1, ((), y), f1.ih, ⟨_, vs, rfl, rfl, r1⟩, PostE.up pp f1⟩
    | err e => exact pp
    | stuck => exact pp
  refine PySem.W.methodCall_KW (pl := pl) (ld_glob Iv hg hm ?_ hdb) ht
  refine ClX.getmethcm_ok Iv cr cm fun s2 I2 => ?_
  refine ClX.callwith_cm I2 (ClX.base_none Iv (Nat.le_refl _)) cm.fi (thn (q po _ s2 I2) fun us s3 ⟨vs, H2, I3, rv, q2⟩ => ⟨⟨ClX.pin_at I3, I3.kIn⟩, ?_⟩) hst hpl
  exact thn (wpAny_call (PySem.W.method_call (ClX.pin_at I3) (q2 _ s3 (.ref C :: us) I3 (.cons rfl rv)))) fun _ _ y => ClX.unpinE y
end
section
variable {K : PySem.W.Frag} {x qual : Str} {params : Arguments} {body : List Stmt} {scope : Scope} {kws : List (Str × V)} {f : Addr} {fd : FuncData} {ps : List Str}
/-- keywords at a def with keyword-only defaults, of which ms lack -/
theorem kbindsK (F : FunD K x qual params body scope [] kws f fd) (n : Nat) (ks : List Str) (ms : List (Str × V)) (g : {α : Type} → List α → List α → List α → List α) (hk : kws ≠ []) (hms : ∀ q ∈ ms, q ∈ kws)
    (hrel : ∀ {vs mz zs : List V} {us mv ws : List Value}, Vals vs us → Vals mz mv → Vals zs ws → Vals (g vs mz zs) (g us mv ws))
    (h : ∀ (D : Addr) (doc pm : Value) (an : Option Addr) (cdv ct : Value) (us mv ws : List Value), us.length = n → mv.length = ms.length → ws.length = ks.length → KwChain D ((ms.map (·.1)).zip mv) (bindArgs (PySem.W.fnOf x qual params body scope .none (.ref D) doc pm an cdv ct) ⟨us, ks.zip ws⟩) (ps.zip (g us mv ws))) :
    ∃ mv : List Value, KBn K fd ps n ks (fun us ws => g us mv ws) (fun vs zs => g vs (ms.map (·.2)) zs) := by
  obtain ⟨oc, od, dV, kV, doc, pm, an, cdv, ct, osl, rfl, _, _, dfl, kwd⟩ := F.ex
  rcases dfl with ⟨_, rfl⟩ | ⟨ne, _⟩
  · rcases kwd with e | ⟨D, rfl, hq⟩
    · exact absurd e hk
    · obtain ⟨mv, l0, rk, nk⟩ := kwd_vals (ms := ms) fun q hm => hq q (hms q hm)
      exact ⟨mv, ⟨fun s us ws X l1 l2 => BindsTo.of_looks fun M => KwChain.looks X nk (h D doc pm an cdv ct us mv ws l1 l0 l2), fun r1 r2 => hrel r1 rk r2⟩⟩
  · exact absurd rfl ne
end
/-- a keyword-only default that is an object -/
def kwAt (a : PySem.W.Frag → Addr) (x : Str) (K : PySem.W.Frag) : Addr := match K.lookup (a K) with
  | some ⟨_, _, .func fd, _⟩ => (match fd.kwdefaults with
    | .ref D => (match PySem.W.nsIn K D x with
      | some (some (.ref b)) => b
      | _ => 0)
    | _ => 0)
  | _ => 0
def fCmet (x m : Str) : FB := fun K => PySem.W.readsIn K (ga K x) (.type "type") && (eqO (PySem.W.specialIn K (.ref (ga K x)) "__getattribute__") (some (some (.builtin "type.__getattribute__"))) && (isGet K (ga K x) m "classmethod.__get__" (ma K (ga K x) m) && (isRec K (ma K (ga K x) m) "classmethod" (wa K "classmethod" (ga K x) m) && PySem.W.fnIn K (wa K "classmethod" (ga K x) m))))
theorem cmet_of {K : PySem.W.Frag} {x m : Str} (c : fCmet x m K = true) : ClX.CRead K (ga K x) (.type "type") ∧ ClX.CMet K (ga K x) (.type "type") m (ma K (ga K x) m) (wa K "classmethod" (ga K x) m) := by
  obtain ⟨c1, c⟩ := ba c
  obtain ⟨c2, c⟩ := ba c
  obtain ⟨c3, c⟩ := ba c
  obtain ⟨c4, c5⟩ := ba c
  exact ⟨⟨c1, eqO_ok c2⟩, ⟨isGet_ok c3, isRec_ok c4, c5⟩⟩
theorem J1.dead {S : Type} {X : Cx} {W : WX} {Kx : KnowsX} {G : Knows} {st : Stmt} {G' : S → Knows} : J1 X W Kx G st (.stuck : Res S) G' := fun _ _ _ _ _ p => p.elim
theorem JI.at {β : Type} {X : Cx} {I0 H0 : Hp} {W : WX} {mem : List MF} {tg iter : Expr} {m : Res (List β)} {r : Rp β} {c c' : List (Option SF)} (j : JI X I0 H0 W c' mem tg iter m r) (h : c = c' := by rfl) : JI X I0 H0 W c mem tg iter m r := by rw [h]; exact j
end L2.Tr

namespace L2.Tr
open PySem PySem.Spec PyProof.Rows
/-! ### lists by their entries -/
section
variable {α β : Type} {n : Nat} {f g : Nat → α}
def vec (n : Nat) (f : Nat → α) : List α := (List.range n).map f
@[simp] theorem vec_len : (vec n f).length = n := by simp [vec]
theorem vec_get {i : Nat} (h : i < n) : (vec n f)[i]? = some (f i) := by unfold vec; rw [List.getElem?_map, List.getElem?_range h]; rfl
theorem vec_none {i : Nat} (h : n ≤ i) : (vec n f)[i]? = none := List.getElem?_eq_none (by rw [vec_len]; exact h)
theorem vec_at {i : Int} (h0 : 0 ≤ i) (h : i.toNat < n) : atM (vec n f) i = .ok (f i.toNat) := atM_get h0 (vec_get h)
theorem vec_atN {i : Nat} (h : i < n) : atM (vec n f) (i : Int) = .ok (f i) := vec_at (Int.natCast_nonneg i) (by rw [Int.toNat_natCast]; exact h)
theorem vec_ext (h : ∀ i, i < n → f i = g i) : vec n f = vec n g := by
  unfold vec
  exact List.map_congr_left fun i hi => h i (List.mem_range.mp hi)
theorem vec_of (xs : List α) (d : α) : xs = vec xs.length (fun i => xs.getD i d) := by
  refine List.ext_getElem? fun i => ?_
  by_cases h : i < xs.length
  · rw [vec_get h, List.getD_eq_getElem?_getD, List.getElem?_eq_getElem h]; rfl
  · rw [vec_none (by omega), List.getElem?_eq_none (by omega)]
theorem vec_mem {x : α} (h : x ∈ vec n f) : ∃ i, i < n ∧ x = f i := by
  obtain ⟨i, h1, h2⟩ := List.mem_map.mp h
  exact ⟨i, List.mem_range.mp h1, h2.symm⟩
theorem mem_vec {i : Nat} (h : i < n) : f i ∈ vec n f := List.mem_map.mpr ⟨i, List.mem_range.mpr h, rfl⟩
theorem vec_put {i : Int} {y : α} (h0 : 0 ≤ i) (h : i.toNat < n) : putM (vec n f) i y = .ok (vec n fun k => if k = i.toNat then y else f k) := by
  rw [putM_ok h0 (by rw [vec_len]; exact h)]
  congr 1
  refine List.ext_getElem? fun k => ?_
  by_cases hk : k < n
  · rw [vec_get hk, List.getElem?_set]
    by_cases e : i.toNat = k
    · subst e; rw [if_pos rfl, if_pos (by rw [vec_len]; exact hk), if_pos rfl]
    · rw [if_neg e, vec_get hk, if_neg (fun z => e z.symm)]
  · rw [vec_none (by omega), List.getElem?_set]
    by_cases e : i.toNat = k
    · omega
    · rw [if_neg e, vec_none (by omega)]
theorem vec_succ : vec (n + 1) f = vec n f ++ [f n] := by unfold vec; rw [List.range_succ, List.map_append]; rfl
theorem vec_map (h : α → β) : (vec n f).map h = vec n (fun i => h (f i)) := by unfold vec; rw [List.map_map]; rfl
theorem vec_app {x : α} (h : n < 1000000) : appM (vec n f) x = .ok (vec (n + 1) fun i => if i = n then x else f i) := by
  rw [appM_ok (by rw [vec_len]; exact h), vec_succ, if_pos rfl]
  congr 2
  exact vec_ext fun i hi => (if_neg (by omega)).symm
theorem rep_vec {x : α} {k : Int} (h0 : 0 ≤ k) (h : k ≤ 1000000) : repM [x] k = .ok (vec k.toNat fun _ => x) := by
  rw [repM_one h0 h]
  congr 1
  refine List.ext_getElem? fun i => ?_
  by_cases hi : i < k.toNat
  · rw [vec_get hi, List.getElem?_replicate, if_pos hi]
  · rw [vec_none (by omega), List.getElem?_replicate, if_neg hi]
theorem lcR_rng {F : Int → Res α} {hi : Int} (h0 : 0 ≤ hi) (h : hi ≤ 1000000) (hF : ∀ i : Nat, i < hi.toNat → F (i : Int) = .ok (f i)) : lcR F (rngI 0 hi.toNat) = .ok (vec hi.toNat f) := by
  rw [lcR_eq (g := fun x => f x.toNat) (size_le (by rw [rngI_len]; omega)) fun x hx => ?_]
  · unfold vec; rw [rngI_eq, List.map_map]; rfl
  · obtain ⟨x1, x2⟩ := rngI_mem hx
    have e := hF x.toNat (by omega)
    rwa [Int.toNat_of_nonneg x1] at e
theorem lcR_vec {F : α → Res β} {h : Nat → β} (hn : n ≤ 1000000) (hF : ∀ i, i < n → F (f i) = .ok (h i)) : lcR F (vec n f) = .ok (vec n h) := by
  have e : ∀ (m : Nat), m ≤ n → lcM F (vec m f) = .ok (vec m h) := fun m hm => by
    have : ∀ xs : List Nat, (∀ i ∈ xs, i < n) → lcM F (xs.map f) = .ok (xs.map h) := fun xs => by
      induction xs with
      | nil => exact fun _ => rfl
      | cons x xs ih =>
        intro hx
        rw [List.map_cons, List.map_cons]
        unfold lcM
        rw [hF x (hx x (List.mem_cons_self)), ih fun i hi => hx i (List.mem_cons_of_mem _ hi)]
        rfl
    exact this (List.range m) fun i hi => by have := List.mem_range.mp hi; omega
  unfold lcR
  rw [Res.guard_pos (size_le (by rw [vec_len]; exact hn)), e n (Nat.le_refl _)]
/-- a loop over range that builds a state -/
theorem for_rng {S : Type} {F : Int → S → Res S} {hi : Int} {s0 : S} (st : Nat → S) (h0 : st 0 = s0) (hF : ∀ i : Nat, i < hi.toNat → F (i : Int) (st i) = .ok (st (i + 1))) : forS F (rngI 0 hi.toNat) s0 = .ok (st hi.toNat) := by
  refine Ok.eq ((Ok.forS (fun i s => s = st i) h0.symm fun i x s e hs => ?_).mono fun s hs => by rw [hs, rngI_len])
  obtain ⟨e1, e2⟩ := rngI_get e
  rw [hs, show x = (i : Int) by omega]
  exact .of (hF i e2) rfl
end
/-! ### sums of Int -/
def sm (f : Nat → Int) : Nat → Int
  | 0 => 0
  | n + 1 => sm f n + f n
section
variable {f g : Nat → Int} {n m : Nat} {c : Int}
@[simp] theorem sm_zero : sm f 0 = 0 := rfl
theorem sm_succ : sm f (n + 1) = sm f n + f n := rfl
theorem sm_congr (h : ∀ i, i < n → f i = g i) : sm f n = sm g n := by
  induction n with
  | zero => rfl
  | succ n ih => rw [sm_succ, sm_succ, ih fun i hi => h i (by omega), h n (by omega)]
theorem sm_add : sm (fun i => f i + g i) n = sm f n + sm g n := by
  induction n with
  | zero => show (0 : Int) = 0 + 0; grind
  | succ n ih => rw [sm_succ, sm_succ, sm_succ, ih]; grind
theorem sm_sub : sm (fun i => f i - g i) n = sm f n - sm g n := by
  induction n with
  | zero => show (0 : Int) = 0 - 0; grind
  | succ n ih => rw [sm_succ, sm_succ, sm_succ, ih]; grind
theorem sm_mul : sm (fun i => c * f i) n = c * sm f n := by
  induction n with
  | zero => show (0 : Int) = c * 0; grind
  | succ n ih => rw [sm_succ, sm_succ, ih]; grind
theorem sm_mulr : sm (fun i => f i * c) n = sm f n * c := by
  rw [show (fun i => f i * c) = fun i => c * f i from funext fun i => by grind, sm_mul]; grind
theorem sm_null (h : ∀ i, i < n → f i = 0) : sm f n = 0 := by
  rw [sm_congr (g := fun _ => 0) h]
  clear h
  induction n with
  | zero => rfl
  | succ n ih => rw [sm_succ, ih]; grind
theorem sm_comm {h : Nat → Nat → Int} : sm (fun i => sm (fun j => h i j) m) n = sm (fun j => sm (fun i => h i j) n) m := by
  induction n with
  | zero => exact (sm_null fun j _ => rfl).symm
  | succ n ih => rw [sm_succ, ih, ← sm_add]; rfl
theorem sm_nonneg (h : ∀ i, i < n → 0 ≤ f i) : 0 ≤ sm f n := by
  induction n with
  | zero => exact (show (0 : Int) ≤ 0 by grind)
  | succ n ih =>
    rw [sm_succ]
    have := ih fun i hi => h i (by omega)
    have := h n (by omega)
    grind
theorem sm_le (h : ∀ i, i < n → f i ≤ g i) : sm f n ≤ sm g n := by
  induction n with
  | zero => exact (show (0 : Int) ≤ 0 by grind)
  | succ n ih =>
    rw [sm_succ, sm_succ]
    have := ih fun i hi => h i (by omega)
    have := h n (by omega)
    grind
/-- the one term -/
theorem sm_one {k : Nat} (hk : k < n) (h : ∀ i, i < n → i ≠ k → f i = 0) : sm f n = f k := by
  induction n with
  | zero => omega
  | succ n ih =>
    rw [sm_succ]
    by_cases e : k = n
    · subst e
      rw [sm_null fun i hi => h i (by omega) (by omega)]; grind
    · rw [ih (by omega) fun i hi => h i (by omega), h n (by omega) (fun z => e z.symm)]; grind
theorem sm_ge {k : Nat} (hk : k < n) (h : ∀ i, i < n → 0 ≤ f i) : f k ≤ sm f n := by
  induction n with
  | zero => omega
  | succ n ih =>
    rw [sm_succ]
    have h1 := sm_nonneg (f := f) (n := n) fun i hi => h i (by omega)
    have h2 := h n (by omega)
    by_cases e : k = n
    · subst e; grind
    · have := ih (by omega) fun i hi => h i (by omega)
      grind
end
/-! ### sums of Rat -/
def smQ (f : Nat → Rat) : Nat → Rat
  | 0 => 0
  | n + 1 => smQ f n + f n
section
variable {f g : Nat → Rat} {n m : Nat} {c : Rat}
@[simp] theorem smQ_zero : smQ f 0 = 0 := rfl
theorem smQ_succ : smQ f (n + 1) = smQ f n + f n := rfl
theorem smQ_congr (h : ∀ i, i < n → f i = g i) : smQ f n = smQ g n := by
  induction n with
  | zero => rfl
  | succ n ih => rw [smQ_succ, smQ_succ, ih fun i hi => h i (by omega), h n (by omega)]
theorem smQ_add : smQ (fun i => f i + g i) n = smQ f n + smQ g n := by
  induction n with
  | zero => show (0 : Rat) = 0 + 0; grind
  | succ n ih => rw [smQ_succ, smQ_succ, smQ_succ, ih]; grind
theorem smQ_sub : smQ (fun i => f i - g i) n = smQ f n - smQ g n := by
  induction n with
  | zero => show (0 : Rat) = 0 - 0; grind
  | succ n ih => rw [smQ_succ, smQ_succ, smQ_succ, ih]; grind
theorem smQ_mul : smQ (fun i => c * f i) n = c * smQ f n := by
  induction n with
  | zero => show (0 : Rat) = c * 0; grind
  | succ n ih => rw [smQ_succ, smQ_succ, ih]; grind
theorem smQ_mulr : smQ (fun i => f i * c) n = smQ f n * c := by
  rw [show (fun i => f i * c) = fun i => c * f i from funext fun i => by grind, smQ_mul]; grind
theorem smQ_null (h : ∀ i, i < n → f i = 0) : smQ f n = 0 := by
  rw [smQ_congr (g := fun _ => 0) h]
  clear h
  induction n with
  | zero => rfl
  | succ n ih => rw [smQ_succ, ih]; grind
theorem smQ_comm {h : Nat → Nat → Rat} : smQ (fun i => smQ (fun j => h i j) m) n = smQ (fun j => smQ (fun i => h i j) n) m := by
  induction n with
  | zero => exact (smQ_null fun j _ => rfl).symm
  | succ n ih => rw [smQ_succ, ih, ← smQ_add]; rfl
theorem smQ_nonneg (h : ∀ i, i < n → 0 ≤ f i) : 0 ≤ smQ f n := by
  induction n with
  | zero => exact (show (0 : Rat) ≤ 0 by grind)
  | succ n ih =>
    rw [smQ_succ]
    have := ih fun i hi => h i (by omega)
    have := h n (by omega)
    grind
theorem smQ_le (h : ∀ i, i < n → f i ≤ g i) : smQ f n ≤ smQ g n := by
  induction n with
  | zero => exact (show (0 : Rat) ≤ 0 by grind)
  | succ n ih =>
    rw [smQ_succ, smQ_succ]
    have := ih fun i hi => h i (by omega)
    have := h n (by omega)
    grind
/-- the one term -/
theorem smQ_one {k : Nat} (hk : k < n) (h : ∀ i, i < n → i ≠ k → f i = 0) : smQ f n = f k := by
  induction n with
  | zero => omega
  | succ n ih =>
    rw [smQ_succ]
    by_cases e : k = n
    · subst e
      rw [smQ_null fun i hi => h i (by omega) (by omega)]; grind
    · rw [ih (by omega) fun i hi => h i (by omega), h n (by omega) (fun z => e z.symm)]; grind
theorem smQ_ge {k : Nat} (hk : k < n) (h : ∀ i, i < n → 0 ≤ f i) : f k ≤ smQ f n := by
  induction n with
  | zero => omega
  | succ n ih =>
    rw [smQ_succ]
    have h1 := smQ_nonneg (f := f) (n := n) fun i hi => h i (by omega)
    have h2 := h n (by omega)
    by_cases e : k = n
    · subst e; grind
    · have := ih (by omega) fun i hi => h i (by omega)
      grind
end
theorem sum_app (xs ys : List Int) : (xs ++ ys).sum = xs.sum + ys.sum := by
  induction xs with
  | nil => simp
  | cons x xs ih => rw [List.cons_append, List.sum_cons, List.sum_cons, ih]; omega
theorem sum_vec (f : Nat → Int) : ∀ n, (vec n f).sum = sm f n
  | 0 => rfl
  | n + 1 => by rw [vec_succ, sum_app, sum_vec f n, sm_succ]; simp
theorem sm_cast {f : Nat → Int} : ∀ n, ((sm f n : Int) : Rat) = smQ (fun i => ((f i : Int) : Rat)) n
  | 0 => rfl
  | n + 1 => by rw [sm_succ, smQ_succ, Rat.intCast_add, sm_cast n]
theorem sm_abs {f : Nat → Int} {B : Nat} : ∀ {n : Nat}, (∀ i, i < n → (f i).natAbs ≤ B) → (sm f n).natAbs ≤ n * B
  | 0, _ => by simp
  | n + 1, h => by
    rw [sm_succ]
    have h1 := sm_abs (n := n) fun i hi => h i (by omega)
    have h2 := h n (by omega)
    have h3 := Int.natAbs_add_le (sm f n) (f n)
    rw [Nat.succ_mul]; omega
end L2.Tr
namespace L2.Tr
open PySem PySem.Spec PyProof.Rows
/-- every entry is raised by one loop -/
theorem acc_loop {n : Nat} (f d : Nat → Int) (F : Int → List Int → Res (List Int)) {hi : Int} (hn : hi.toNat = n) (hF : ∀ (c : Nat) (g : Nat → Int), c < n → F (c : Int) (vec n g) = .ok (vec n fun k => if k = c then g k + d k else g k)) : forS F (rngI 0 hi.toNat) (vec n f) = .ok (vec n fun k => f k + d k) := by
  rw [for_rng (fun c => vec n fun k => if k < c then f k + d k else f k) (vec_ext fun i _ => if_neg (by omega)) fun c hc => ?_]
  · rw [hn]
    congr 1
    exact vec_ext fun i hi => if_pos hi
  · rw [hF c _ (by omega)]
    congr 1
    refine vec_ext fun k _ => ?_
    by_cases e : k = c
    · subst e; rw [if_pos rfl, if_neg (by omega), if_pos (by omega)]
    · rw [if_neg e]
      by_cases e2 : k < c
      · rw [if_pos e2, if_pos (by omega)]
      · rw [if_neg e2, if_neg (by omega)]
end L2.Tr

/-! ### for, in a generator's body -/
namespace L2
open PySem PySem.Spec PyProof.Rows GenW
section
variable {M : Model} {A : Around} {R : GenEnd} {Y : Protocol} {n : Nat} {s₀ : Shared} {c : Code} {fs : List Frame} {s : Shared} {env : Env} {K : Flow → Sem PySem.Fin} {J : Value → Sem PySem.Fin} {gd : Bool → Bool} {lv : List Value → List Value}
theorem seg_For {tg iter : Expr} {body : List Stmt} {pos : Pos} (hs : ∀ x, foldedSetIterable iter env x = pure x)
    (h : wpAny M (A.over c fs) (eval iter env) (fun v s1 => wpAny M (A.over c fs) (pyIter v) (fun it s2 => ∀ p, Seg M A R Y n s₀ (.forLoop tg it body [] env) (M.den (.forLoop tg it body [] env))
      (.ret (fun r => ((match r with | .ok f => (.pure f : Sem Flow) | .error e => .raise e).onRaise (cameBack env)).wrap K J gd lv) none (gd false) (lv []) c p [] :: fs) s2)
      (fun x s' => Seg M A R Y n s₀ c (J x) fs s') s1) (fun x s' => Seg M A R Y n s₀ c (J x) fs s') s) :
    Seg M A R Y n s₀ c ((exec (.For tg iter body [] pos) env).wrap K J gd lv) fs s := by
  rw [exec_For]
  refine seg_bind_wrap (wpAny_standAt (seg_bind_wrap (wpAny_mono h (fun v s1 h1 => ?_) fun _ _ x => x)))
  refine seg_bind_wrap (wpAny_of_eq (hs v) (seg_bind_wrap (wpAny_standAt (seg_bind_wrap (wpAny_holding (wpAny_mono h1 (fun it s2 h2 => ?_) fun _ _ x => x))))))
  exact seg_call h2
end
section
variable {prog : Program} {w : World} {A : Around} {R : GenEnd} {Y : Protocol} {n : Nat} {s₀ : Shared} {fs : List Frame} {s : Shared} {env : Env}
theorem seg_forLoop {tg : Expr} {it : Value} {body : List Stmt}
    (h : wpAny (model prog w) (A.over (.forLoop tg it body [] env) fs) (pyNext it) (fun r s1 => match r with
        | none => Seg (model prog w) A R Y n s₀ (.block [] env) (.pure (.done .next)) fs s1
        | some v => wpAny (model prog w) (A.over (.forLoop tg it body [] env) fs) (letOwnedTupleGo tg it v) (fun _ s2 => wpAny (model prog w) (A.over (.forLoop tg it body [] env) fs) (assign tg env v) (fun _ s3 =>
          Seg (model prog w) A R Y n s₀ (.forLoop tg it body [] env) ((execs body env).wrap (fun f => match f with
            | .next | .cont => .pure (.again (.forLoop tg it body [] env))
            | .brk => .pure (.done .next)
            | .ret v => .pure (.done (.ret v))) (fun e => (do noteFrame e env; theTreesLotGoes e : Sem Unit).wrap (fun _ => .raise e) .raise id id) id id) fs s3)
          (fun x s' => Seg (model prog w) A R Y n s₀ (.forLoop tg it body [] env) ((do noteFrame x env; theTreesLotGoes x : Sem Unit).wrap (fun _ => .raise x) .raise id id) fs s') s2)
          (fun x s' => Seg (model prog w) A R Y n s₀ (.forLoop tg it body [] env) ((do noteFrame x env; theTreesLotGoes x : Sem Unit).wrap (fun _ => .raise x) .raise id id) fs s') s1)
      (fun x s' => Seg (model prog w) A R Y n s₀ (.forLoop tg it body [] env) ((do noteFrame x env; theTreesLotGoes x : Sem Unit).wrap (fun _ => .raise x) .raise id id) fs s') s) :
    Seg (model prog w) A R Y n s₀ (.forLoop tg it body [] env) ((model prog w).den (.forLoop tg it body [] env)) fs s := by
  show Seg _ A R Y n s₀ _ ((forTurn tg it body [] env).onRaise (fun x => do noteFrame x env; theTreesLotGoes x)) fs s
  have fix : ∀ x : Value, ((do noteFrame x env; theTreesLotGoes x : Sem Unit).bind fun _ => (.raise x : Sem PySem.Fin)) = (do noteFrame x env; theTreesLotGoes x : Sem Unit).wrap (fun _ => .raise x) .raise id id := fun x => Sem.bind_eq_wrap _ _
  unfold forTurn
  rw [Sem.onRaise_eq_wrap]
  refine seg_bind_wrap (wpAny_standAt (seg_bind_wrap (wpAny_onRaise (wpAny_mono h (fun r s1 h1 => ?_) fun x s' hx => wpAny_standAt ?_))))
  · cases r with
    | none =>
      refine seg_again rfl ?_
      exact h1
    | some v =>
      refine seg_bind_wrap (wpAny_mono h1 (fun _ s2 h2 => ?_) fun x s' hx => by rw [fix]; exact hx)
      refine seg_bind_wrap (wpAny_mono h2 (fun _ s3 h3 => ?_) fun x s' hx => by rw [fix]; exact hx)
      rw [Sem.bind_eq_wrap', Sem.wrap_wrap]
      rw [Sem.wrap_congr (execs body env) _ _ (K' := fun f => match f with
            | .next | .cont => .pure (.again (.forLoop tg it body [] env))
            | .brk => .pure (.done .next)
            | .ret v => .pure (.done (.ret v))) (H' := (fun e => (do noteFrame e env; theTreesLotGoes e : Sem Unit).wrap (fun _ => .raise e) .raise id id))
        (fun f => by cases f <;> rfl) (fun e => by first | exact Sem.bind_eq_wrap _ _ | (show (do noteFrame e env; theTreesLotGoes e : Sem Unit).bind (fun _ => .raise e) = _; rw [Sem.bind_eq_wrap]))]
      exact h3
  · rw [fix]; exact hx
end

section
variable {X : Cx} {tg : Expr}
def tGFor (wi : TI) (g : TG) (tb : TGn) : TGn := fun D ys σ H => wi σ H fun J H1 => ∃ W : Nat → Nat → List V → St → Hp → Prop, (∃ m, W 0 m ys σ H1) ∧ ∀ i m ys σ H, W i m ys σ H →
  (J.stop i H ∧ D.nx ys σ H) ∨ (J.go i H ∧ ∃ N : List V → St → Hp → Prop, (∀ ys' σ' H', N ys' σ' H' → ∃ m', m' < m ∧ W (i + 1) m' ys' σ' H') ∧ ∀ x H', J.yld i H x H' → g x σ H' fun σ2 H2 => tb { D with nx := N, ct := N, bk := D.nx } ys σ2 H2)
theorem gs_for {iter : Expr} {body : List Stmt} {wi : TI} {g : TG} {tb : TGn} {pos : Pos} (hp : PassesOwn (model X.prog X.w) X.A X.env X.xe) (hc : X.calm = true) (hi : PI X tg iter wi) (hg : PG X tg g) (hb : GSs X body tb)
    (hs : ∀ x, foldedSetIterable iter X.env x = pure x := by intro _; rfl) : GS X (.For tg iter body [] pos) (tGFor wi g tb) := by
  refine ⟨fun A S ip R n ys s₀ c fs K J gd lv s σ H D gc hn k hI ht => ?_⟩
  obtain ⟨acc, cc, r, I⟩ := hI
  refine seg_For hs ?_
  rw [gc.over]
  refine wpAny_mono (hi.run _ s σ H _ I ht) (fun v s1 h1 => ?_) fun x s' hx => k.exc n s₀ x s' hx
  refine wpAny_mono h1 (fun itv s2 h2 p => ?_) fun x s' hx => k.exc n s₀ x s' hx
  obtain ⟨it, fp, tn, JJ, H2, e, I2, T, st2, f2, W, ⟨m0, w0⟩, turn⟩ := h2
  subst e
  have gl := fun (kk : Result → Sem PySem.Fin) => gc_loop (k := kk) (c' := .forLoop tg (.ref it) body [] X.env) (l := lv []) (kp := []) (p := p) gc rfl rfl
  have fst : ∀ b ∈ fp, b ≠ X.env.locals ∧ b ∉ X.fs ∧ (b ∈ X.ex ∨ X.s_0.heap.objs.size ≤ b) ∧ (∀ x c, X.env.cells.lookup x = some c → c ≠ b) ∧ b ≠ S ∧ ∀ p ∈ X.pn ++ ip, p.1 ≠ b := fun b hb => by
    obtain ⟨_, q1, q2, q3, q4, q5⟩ := f2 b hb
    refine ⟨q1, q2, q3, q4, fun z => q5 (S, lstObj acc cc) (List.mem_append_right _ List.mem_cons_self) z.symm, fun p hp => ?_⟩
    rcases List.mem_append.mp hp with z | z
    · exact q5 p (List.mem_append_left _ z)
    · exact q5 p (List.mem_append_right _ (List.mem_cons_of_mem _ z))
  have stat : ∀ {H' : Hp} {acc : Array Value} {cc : Nat}, (∀ b ∈ fp, H' b = none) → ∀ b ∈ fp, FpOk X ((S, lstObj acc cc) :: ip) H' b := fun {H' acc cc} hn b hb => by
    obtain ⟨q1, q2, q3, q4, q5, q6⟩ := fst b hb
    refine ⟨hn b hb, q1, q2, q3, q4, fun p hp => ?_⟩
    rcases List.mem_append.mp hp with z | z
    · exact q6 p (List.mem_append_left _ z)
    · rcases List.mem_cons.mp z with z | z
      · rw [z]; exact Ne.symm q5
      · exact q6 p (List.mem_append_right _ z)
  have loop : ∀ (m n i : Nat) (ys : List V) (s₀ s : Shared) (σ : St) (H : Hp), n + ys.length = sizeLine → W i m ys σ H → GI X S ip ys σ H s → tn i s.heap → (∀ b ∈ fp, H b = none) →
      Seg (model X.prog X.w) A R (GY X S) n s₀ (.forLoop tg (.ref it) body [] X.env) ((model X.prog X.w).den (.forLoop tg (.ref it) body [] X.env))
        (.ret (fun r => ((match r with | .ok f => (.pure f : Sem Flow) | .error e => .raise e).onRaise (cameBack X.env)).wrap K J gd lv) none (gd false) (lv []) c p [] :: fs) s := by
    intro m
    induction m using Nat.strongRecOn with
    | ind m ih =>
      intro n i ys s₀ s σ H hn w hI st fr
      have ee : ∀ (n : Nat) (s₀ : Shared) (x : Value) (s' : Shared), X.xe x s' → Seg (model X.prog X.w) A R (GY X S) n s₀ (.forLoop tg (.ref it) body [] X.env)
          ((do noteFrame x X.env; theTreesLotGoes x : Sem Unit).wrap (fun _ => .raise x) .raise id id)
          (.ret (fun r => ((match r with | .ok f => (.pure f : Sem Flow) | .error e => .raise e).onRaise (cameBack X.env)).wrap K J gd lv) none (gd false) (lv []) c p [] :: fs) s' := fun n s₀ x s' hx => by
        refine seg_wrap ?_
        rw [(gl _).over]
        refine wpAny_bind (wpAny_mono (hp x s' hx) (fun _ s'' hcb => wpAny_theTreesLotGoes ?_) fun y s'' hcb => ?_)
        · exact seg_leaf (.error x) (seg_cameBack gc k hcb)
        · exact seg_leaf (.error y) (seg_cameBack gc k hcb)
      refine seg_forLoop ?_
      rw [(gl _).over]
      obtain ⟨acc, cc, r, I⟩ := hI
      rcases turn i m ys σ H w with ⟨stop, qn⟩ | ⟨go, N, hN, step⟩
      · refine wpAny_mono (T.done X rfl rfl rfl hc i _ s σ H X.xe I (stat fr) st stop) (fun r s4 ⟨hr, I4⟩ => ?_) fun x s' hx => ee n s₀ x s' hx
        subst hr
        exact seg_leaf (.ok .next) (k.ok n ys s₀ s4 .next hn ⟨σ, H, ⟨acc, cc, ‹_›, I4⟩, qn⟩)
      · refine wpAny_mono (T.item X rfl rfl rfl hc i _ s σ H X.xe I (stat fr) st go) (fun rr s4 ⟨u, hr, h4⟩ => ?_) fun x s' hx => ee n s₀ x s' hx
        subst hr
        refine wpAny_mono h4 (fun _ s5 ⟨x, H5, I5, r5, y5, st5, fr5⟩ => ?_) fun x s' hx => ee n s₀ x s' hx
        have I5' := I5.pinned (stat fr5) (T.obj _ _ st5)
        refine wpAny_mono (hg.run _ s5 σ H5 x u _ I5' r5 (step x H5 y5)) (fun _ s6 ⟨σ6, H6, I6, q6⟩ => ?_) fun x s' hx => ee n s₀ x s' hx
        have gc' : GC X S (ip ++ pinsAt fp s5.heap) A (.forLoop tg (.ref it) body [] X.env) (.ret (fun r => ((match r with | .ok f => (.pure f : Sem Flow) | .error e => .raise e).onRaise (cameBack X.env)).wrap K J gd lv) none (gd false) (lv []) c p [] :: fs) id :=
          ⟨(gl fun _ => .raise .none).pn, fun q hq => (List.mem_append.mp hq).elim (fun z => gc.ip q z) fun z => (fst q.1 (of_pinsAt z).1).2.2.2.2.1, gc.apart, (gl _).over, (gl _).split, (gl _).guard, rfl⟩
        have un : ∀ {ys' : List V} {σ7 : St} {H7 : Hp} {s7 : Shared}, GI X S (ip ++ pinsAt fp s5.heap) ys' σ7 H7 s7 → GI X S ip ys' σ7 H7 s7 ∧ tn (i + 1) s7.heap ∧ ∀ b ∈ fp, H7 b = none := fun {ys' σ7 H7 s7} h7 => by
          obtain ⟨acc7, c7, r7, I7⟩ := h7
          have I8 : Inv X (((S, lstObj acc7 c7) :: ip) ++ pinsAt fp s5.heap) σ7 H7 s7 := I7
          refine ⟨⟨acc7, c7, r7, I8.unpinned⟩, T.keep _ _ _ st5 fun b hb o e => (I8.pin (b, o) (List.mem_append_right _ (List.mem_append_right _ (mem_pinsAt hb e)))).1, fun b hb => ?_⟩
          obtain ⟨o, e, d⟩ := T.obj _ _ st5 b hb
          exact (I8.pin (b, o) (List.mem_append_right _ (List.mem_append_right _ (mem_pinsAt hb e)))).2.1
        refine hb.run A S (ip ++ pinsAt fp s5.heap) R n ys s₀ _ _ _ _ id id s6 σ6 H6 { D with nx := N, ct := N, bk := D.nx } gc' hn ⟨fun n' ys' s₀' s7 f hn' hs => ?_, fun n' s₀' x s3 hx => ee n' s₀' x s3 hx⟩ ⟨acc, cc, ‹_›, I6⟩ q6
        cases f with
        | next =>
          obtain ⟨σ7, H7, I7, n7⟩ := hs
          obtain ⟨m', hm, w7⟩ := hN ys' σ7 H7 n7
          obtain ⟨u1, u2, u3⟩ := un I7
          exact seg_again rfl (ih m' hm n' (i + 1) ys' s₀' s7 σ7 H7 hn' w7 u1 u2 u3)
        | cont =>
          obtain ⟨σ7, H7, I7, n7⟩ := hs
          obtain ⟨m', hm, w7⟩ := hN ys' σ7 H7 n7
          obtain ⟨u1, u2, u3⟩ := un I7
          exact seg_again rfl (ih m' hm n' (i + 1) ys' s₀' s7 σ7 H7 hn' w7 u1 u2 u3)
        | brk =>
          obtain ⟨σ7, H7, I7, q7⟩ := hs
          exact seg_leaf (.ok .next) (k.ok n' ys' s₀' s7 .next hn' ⟨σ7, H7, (un I7).1, q7⟩)
        | ret v =>
          obtain ⟨x7, σ7, H7, I7, r7, q7⟩ := hs
          exact seg_leaf (.ok (.ret v)) (k.ok n' ys' s₀' s7 (.ret v) hn' ⟨x7, σ7, H7, (un I7).1, r7, q7⟩)
  exact loop m0 n 0 ys s₀ s2 σ H2 hn w0 ⟨acc, cc, r, I2⟩ st2 fun b hb => (f2 b hb).1
end
end L2

/-! ### generators: judgements -/
namespace L2.Tr
open PySem PySem.Spec PyProof.Rows
section
variable {α β γ δ S T : Type}
def wGs (X : Cx) (st : Stmt) : TGn := fun D ys σ H => ∃ t, GS X st t ∧ t D ys σ H
def wGb (X : Cx) (ss : List Stmt) : TGn := fun D ys σ H => ∃ t, GSs X ss t ∧ t D ys σ H
theorem gss_W {X : Cx} {ss : List Stmt} : GSs X ss (wGb X ss) := ⟨fun A S ip R n ys s₀ c fs K J gd lv s σ H D g hn k hI ⟨t, p, q⟩ => p.run A S ip R n ys s₀ c fs K J gd lv s σ H D g hn k hI q⟩
theorem gs_W {X : Cx} {st : Stmt} : GS X st (wGs X st) := ⟨fun A S ip R n ys s₀ c fs K J gd lv s σ H D g hn k hI ⟨t, p, q⟩ => p.run A S ip R n ys s₀ c fs K J gd lv s σ H D g hn k hI q⟩
theorem pairedUp {r : Rp β} [mo : Mo r] {I I' : Hp} (s : Same I I') : ∀ {ys : List V} {xs : List β}, Paired (r I) ys xs → Paired (r I') ys xs
  | _, _, .nil => .nil
  | _, _, .cons h t => .cons (mo.up s h) (pairedUp s t)
def PostY (X : Cx) (W : WX) (Kx : KnowsX) (r : Rp β) (I : Hp) (m : Res (List β × S)) (G : S → Knows) (D : GEnds) : Prop := match m with
  | .ok z => ∀ I' H' σ' ys', Same I I' → G z.2 I' H' σ' → Paired (r I') ys' z.1 → D.nx ys' σ' H'
  | .err e => ∀ I' H' σ' cls d, Kx I' H' σ' d → ExR X.K I' H' e cls d → W cls d σ' H'
  | .stuck => False
def PostYE (X : Cx) (I0 H0 : Hp) (W : WX) (Kx : KnowsX) (r : Rp β) (m : Res (List β)) (D : GEnds) : Prop := match m with
  | .ok z => ∀ I' H' σ' ys', Fm I0 H0 I' H' → Paired (r I') ys' z → D.nx ys' σ' H'
  | .err e => ∀ I' H' σ' cls d, Kx I' H' σ' d → ExR X.K I' H' e cls d → W cls d σ' H'
  | .stuck => False
theorem PostY.up {X : Cx} {W : WX} {Kx : KnowsX} {r : Rp β} {I I1 : Hp} {m : Res (List β × S)} {G : S → Knows} {D : GEnds} (h : PostY X W Kx r I m G D) (s : Same I I1) : PostY X W Kx r I1 m G D := by
  cases m with
  | ok z => exact fun I' H' σ' ys' q => h I' H' σ' ys' (s.trans q)
  | err e => exact h
  | stuck => exact h
/-- a statement of a generator -/
def Y1 (X : Cx) (W : WX) (Kx : KnowsX) (r : Rp β) (G : Knows) (out : List β) (st : Stmt) (m : Res (List β × S)) (G' : S → Knows) : Prop :=
  ∀ (I H : Hp) (σ : St) (D : GEnds) (ys : List V), G I H σ → Paired (r I) ys out → PostY X W Kx r I m G' D → wGs X st D ys σ H
def YN (X : Cx) (W : WX) (Kx : KnowsX) (r : Rp β) (G : Knows) (out : List β) (ss : List Stmt) (m : Res (List β × S)) (G' : S → Knows) : Prop :=
  ∀ (I H : Hp) (σ : St) (D : GEnds) (ys : List V), G I H σ → Paired (r I) ys out → PostY X W Kx r I m G' D → wGb X ss D ys σ H
/-- a block that ends the generator -/
def YE (X : Cx) (I0 H0 : Hp) (W : WX) (Kx : KnowsX) (r : Rp β) (G : Knows) (out : List β) (ss : List Stmt) (m : Res (List β)) : Prop :=
  ∀ (I H : Hp) (σ : St) (D : GEnds) (ys : List V), G I H σ → Paired (r I) ys out → PostYE X I0 H0 W Kx r m D → wGb X ss D ys σ H
variable {X : Cx} {I0 H0 : Hp} {W : WX} {Kx : KnowsX} {G : Knows} {ctx : List (Option SF)} {mem : List MF} {e a b c o iter : Expr} {es : List Expr} {st : Stmt} {ss body : List Stmt} {pos pos' pos2 : Pos} {n : Str} {r : Rp β} {out : List β}
/-- a statement that hands out nothing -/
theorem Y1.of [mo : Mo r] {m : Res S} {G' : S → Knows} (j : J1 X W Kx G st m G') : Y1 X W Kx r G out st (m.bind fun s => .ok (out, s)) G' := fun I H σ D ys g pr p => by
  refine ⟨_, gs_ps ps_W, j I H σ (D.at ys) g ?_⟩
  cases m with
  | ok s => exact fun I' H' σ' si g' => p I' H' σ' ys si g' (pairedUp si pr)
  | err e => exact p
  | stuck => exact p
theorem Y1.yield [mo : Mo r] {m : Res β} (j : JE X I0 H0 W ctx mem e m (rp r)) (hx : ∀ I H σ d, Stt I0 H0 ctx mem I H σ → Fr H0 d → Kx I H σ d) (hco : X.env.scope.isCoroutine = false := by rfl) (hi : interactive X.env = false := by rfl) :
    Y1 X W Kx r (Stt I0 H0 ctx mem) out (.Expr (.Yield (some e) pos') pos) (Res.guard (out.length < sizeLine) (m.bind fun x => .ok (out ++ [x], ()))) (fun _ => Stt I0 H0 ctx mem) := fun I H σ D ys g pr p => by
  by_cases hl : out.length < sizeLine
  · rw [Res.guard_pos hl] at p
    refine ⟨_, gs_yield pe_W hco hi, by rw [Paired.length pr]; exact hl, j I H σ _ g ?_⟩
    cases m with
    | ok x => exact fun I' H' v f h => p I' H' σ _ f.i (g.step f) (paired_app (pairedUp f.i pr) (.cons h .nil))
    | err e => exact fun I' H' c d f x => p I' H' σ c d (hx _ _ _ _ (g.step f) (x.1.back g.fm.h)) x.2
    | stuck => exact p
  · have e : Res.guard (out.length < sizeLine) (m.bind fun x => .ok (out ++ [x], ())) = .stuck := if_neg hl
    rw [e] at p
    exact p.elim
theorem YN.nil [mo : Mo r] {s : S} {G' : S → Knows} (h : ∀ I H σ, G I H σ → G' s I H σ) : YN X W Kx r G out [] (.ok (out, s)) G' := fun I H σ D ys g pr p => ⟨_, gss_nil, p I H σ ys (Same.refl _) (h _ _ _ g) pr⟩
theorem YN.seq [mo : Mo r] {m : Res (List β × S)} {G1 : S → Knows} {f : List β × S → Res (List β × T)} {G2 : T → Knows} (j : Y1 X W Kx r G out st m G1) (k : ∀ z, YN X W Kx r (G1 z.2) z.1 ss (f z) G2) : YN X W Kx r G out (st :: ss) (m.bind f) G2 := fun I H σ D ys g pr p => by
  refine ⟨_, gss_cons gs_W gss_W, j I H σ _ ys g pr ?_⟩
  cases m with
  | ok z => exact fun I' H' σ' ys' si g' pr' => k z I' H' σ' D ys' g' pr' (PostY.up p si)
  | err e => exact p
  | stuck => exact p
theorem YE.nil [mo : Mo r] (h : ∀ I H σ, G I H σ → Fm I0 H0 I H) : YE X I0 H0 W Kx r G out [] (.ok out) := fun I H σ D ys g pr p => ⟨_, gss_nil, p I H σ ys (h _ _ _ g) pr⟩
theorem YE.seq [mo : Mo r] {m : Res (List β × S)} {G1 : S → Knows} {f : List β × S → Res (List β)} (j : Y1 X W Kx r G out st m G1) (k : ∀ z, YE X I0 H0 W Kx r (G1 z.2) z.1 ss (f z)) : YE X I0 H0 W Kx r G out (st :: ss) (m.bind f) := fun I H σ D ys g pr p => by
  refine ⟨_, gss_cons gs_W gss_W, j I H σ _ ys g pr ?_⟩
  cases m with
  | ok z => exact fun I' H' σ' ys' si g' pr' => k z I' H' σ' D ys' g' pr' p
  | err e => exact p
  | stuck => exact p
theorem YE.ex {ι : Type} {G : ι → Knows} {m : Res (List β)} (h : ∀ i, YE X I0 H0 W Kx r (G i) out ss m) : YE X I0 H0 W Kx r (fun I H σ => ∃ i, G i I H σ) out ss m := fun I H σ D ys ⟨i, g⟩ pr p => h i I H σ D ys g pr p
theorem YN.ex {ι : Type} {G : ι → Knows} {m : Res (List β × S)} {G' : S → Knows} (h : ∀ i, YN X W Kx r (G i) out ss m G') : YN X W Kx r (fun I H σ => ∃ i, G i I H σ) out ss m G' := fun I H σ D ys ⟨i, g⟩ pr p => h i I H σ D ys g pr p
theorem YE.pre {G G2 : Knows} {m : Res (List β)} (h : YE X I0 H0 W Kx r G2 out ss m) (w : ∀ I H σ, G I H σ → G2 I H σ) : YE X I0 H0 W Kx r G out ss m := fun I H σ D ys g pr p => h I H σ D ys (w _ _ _ g) pr p
theorem YN.pre {G G2 : Knows} {m : Res (List β × S)} {G' : S → Knows} (h : YN X W Kx r G2 out ss m G') (w : ∀ I H σ, G I H σ → G2 I H σ) : YN X W Kx r G out ss m G' := fun I H σ D ys g pr p => h I H σ D ys (w _ _ _ g) pr p
theorem Y1.for [mr : Mo r] (j : Nat) {rb : Rp γ} [mo : Mo rb] {m : Res (List γ)} {cx : S → List (Option SF)} {me : S → List MF} {f : γ → List β × S → Res (List β × S)} {s0 : S} (hp : PassesOwn (model X.prog X.w) X.A X.env X.xe) (ji : JI X I0 H0 W ctx (me s0) (.Name n pos') iter m rb)
    (jb : ∀ x z, YN X W Kx r (Stt I0 H0 ((cx z.2).set j (some ⟨rb, x⟩)) (me z.2)) z.1 body (f x z) fun s' => Stt I0 H0 (cx s') (me s')) (hx : ∀ I H σ d, Stt I0 H0 ctx (me s0) I H σ → Fr H0 d → Kx I H σ d) (hw : weakC ctx (cx s0)) (hN : X.N.Nodup) (hc : X.calm = true := by rfl)
    (hj : X.N[j]? = some n := by rfl) (hl : Loc X.env.scope n := by first | exact Or.inl rfl | exact Or.inr rfl) (hf : X.fn n = true ∨ X.env.scope.names.lookup n = some .local := by first | exact .inl rfl | exact .inr rfl | assumption) (hs : ∀ x, foldedSetIterable iter X.env x = pure x := by intro _; rfl) :
    Y1 X W Kx r (Stt I0 H0 ctx (me s0)) out (.For (.Name n pos') iter body [] pos) (m.bind fun xs => forS f xs (out, s0)) (fun s => Stt I0 H0 (cx s) (me s)) := fun I H σ D ys g pr0 p => by
  refine ⟨_, gs_for hp hc pi_W (pg_name (i := j) hN hj hl hf) gss_W hs, ji I H σ _ g ?_⟩
  cases m with
  | ok xs =>
    intro I1 H1 J vs okp f1 itr stay pr
    have p0 : PostY X W Kx r I1 (forS f xs (out, s0)) (fun s => Stt I0 H0 (cx s) (me s)) D := PostY.up p f1.i
    have hlen := Paired.length pr
    refine ⟨fun i k ys' σ' H' => k + i = vs.length ∧ ∃ I' z, Same I1 I' ∧ Stt I0 H0 (cx z.2) (me z.2) I' H' σ' ∧ Paired (r I') ys' z.1 ∧ PostY X W Kx r I' (forS f (xs.drop i) z) (fun s => Stt I0 H0 (cx s) (me s)) D, ⟨vs.length, rfl, I1, (out, s0), Same.refl _, (g.step f1).weak hw, pairedUp f1.i pr0, p0⟩, ?_⟩
    rintro i k ys' σ' H' ⟨hk, I', z, si, g', py, p'⟩
    have hok := stay I' H' si g'.same g'.fm.h
    by_cases hi : i < vs.length
    · obtain ⟨go, yl⟩ := (itr i H' hok).1 hi
      refine .inr ⟨go, fun ys2 σ2 H2 => ∃ I2 z2, Same I1 I2 ∧ Stt I0 H0 (cx z2.2) (me z2.2) I2 H2 σ2 ∧ Paired (r I2) ys2 z2.1 ∧ PostY X W Kx r I2 (forS f (xs.drop (i + 1)) z2) (fun s => Stt I0 H0 (cx s) (me s)) D, fun ys2 σ2 H2 h => ⟨k - 1, by omega, by omega, h⟩, fun v H2 hy => ?_⟩
      obtain ⟨rfl, ev⟩ := yl v H2 hy
      obtain ⟨x, ex, hr⟩ := paired_drop pr i ev
      rw [forS_drop ex] at p'
      refine jb x z I' H2 (σ'.set j (some v)) _ ys' (g'.set j (mo.up si hr)) py ?_
      revert p'
      generalize f x z = q
      intro p'
      cases q with
      | ok s2 => exact fun I2 H2 σ2 ys2 q1 q2 q3 => ⟨I2, s2, si.trans q1, q2, q3, PostY.up p' q1⟩
      | err e => exact p'
      | stuck => exact p'.elim
    · refine .inl ⟨(itr i H' hok).2 (by omega), ?_⟩
      have : xs.drop i = [] := List.drop_eq_nil_of_le (by omega)
      rw [this] at p'
      exact p' I' H' σ' ys' (Same.refl _) g' py
  | err e => exact fun I' H' c d f x => p I' H' σ c d (hx _ _ _ _ (g.step f) (x.1.back g.fm.h)) x.2
  | stuck => exact p.elim
theorem YE.seqP [mo : Mo r] {m : Res S} {G1 : S → Knows} {f : S → Res (List β)} (j : J1 X W Kx G st m G1) (k : ∀ z, YE X I0 H0 W Kx r (G1 z) out ss (f z)) : YE X I0 H0 W Kx r G out (st :: ss) (m.bind f) := fun I H σ D ys g pr p => by
  refine ⟨_, gss_cons gs_W gss_W, Y1.of j I H σ _ ys g pr ?_⟩
  cases m with
  | ok z => exact fun I' H' σ' ys' si g' pr' => k z I' H' σ' D ys' g' pr' p
  | err e => exact p
  | stuck => exact p
theorem YN.seqP [mo : Mo r] {m : Res S} {G1 : S → Knows} {f : S → Res (List β × T)} {G2 : T → Knows} (j : J1 X W Kx G st m G1) (k : ∀ z, YN X W Kx r (G1 z) out ss (f z) G2) : YN X W Kx r G out (st :: ss) (m.bind f) G2 := fun I H σ D ys g pr p => by
  refine ⟨_, gss_cons gs_W gss_W, Y1.of j I H σ _ ys g pr ?_⟩
  cases m with
  | ok z => exact fun I' H' σ' ys' si g' pr' => k z I' H' σ' D ys' g' pr' (PostY.up p si)
  | err e => exact p
  | stuck => exact p
theorem YE.yield [mo : Mo r] {m : Res β} {f : β → Res (List β)} (j : JE X I0 H0 W ctx mem e m (rp r)) (hx : ∀ I H σ d, Stt I0 H0 ctx mem I H σ → Fr H0 d → Kx I H σ d) (k : ∀ x, YE X I0 H0 W Kx r (Stt I0 H0 ctx mem) (out ++ [x]) ss (f x)) (hco : X.env.scope.isCoroutine = false := by rfl) (hi : interactive X.env = false := by rfl) :
    YE X I0 H0 W Kx r (Stt I0 H0 ctx mem) out (.Expr (.Yield (some e) pos') pos :: ss) (Res.guard (out.length < sizeLine) (m.bind f)) := fun I H σ D ys g pr p => by
  refine ⟨_, gss_cons gs_W gss_W, Y1.yield j hx hco hi I H σ _ ys g pr ?_⟩
  by_cases hl : out.length < sizeLine
  · rw [Res.guard_pos hl] at p ⊢
    cases m with
    | ok z => exact fun I' H' σ' ys' si g' pr' => k z I' H' σ' D ys' g' pr' p
    | err e => exact p
    | stuck => exact p
  · have e : Res.guard (out.length < sizeLine) (m.bind f) = .stuck := if_neg hl
    rw [e] at p
    exact p.elim
theorem YN.yield [mo : Mo r] {m : Res β} {f : β → Res (List β × T)} {G2 : T → Knows} (j : JE X I0 H0 W ctx mem e m (rp r)) (hx : ∀ I H σ d, Stt I0 H0 ctx mem I H σ → Fr H0 d → Kx I H σ d) (k : ∀ x, YN X W Kx r (Stt I0 H0 ctx mem) (out ++ [x]) ss (f x) G2) (hco : X.env.scope.isCoroutine = false := by rfl) (hi : interactive X.env = false := by rfl) :
    YN X W Kx r (Stt I0 H0 ctx mem) out (.Expr (.Yield (some e) pos') pos :: ss) (Res.guard (out.length < sizeLine) (m.bind f)) G2 := fun I H σ D ys g pr p => by
  refine ⟨_, gss_cons gs_W gss_W, Y1.yield j hx hco hi I H σ _ ys g pr ?_⟩
  by_cases hl : out.length < sizeLine
  · rw [Res.guard_pos hl] at p ⊢
    cases m with
    | ok z => exact fun I' H' σ' ys' si g' pr' => k z I' H' σ' D ys' g' pr' (PostY.up p si)
    | err e => exact p
    | stuck => exact p
  · have e : Res.guard (out.length < sizeLine) (m.bind f) = .stuck := if_neg hl
    rw [e] at p
    exact p.elim
theorem YN.at {c' : List (Option SF)} {m : Res (List β × S)} {G' : S → Knows} (h : YN X W Kx r (Stt I0 H0 c' mem) out ss m G') (e : ctx = c' := by rfl) : YN X W Kx r (Stt I0 H0 ctx mem) out ss m G' := by subst e; exact h
/-! ### the promise -/
def PostGn (K : PySem.W.Frag) (m : Res (List β)) (r : Rp β) (I H : Hp) (E : XK) (Q : List V → Hp → Prop) : Prop := match m with
  | .ok out => ∀ I' H' ys, Fm I H I' H' → Paired (r I') ys out → Q ys H'
  | .err e => ∀ I' H' cls d', Fm I H I' H' → Fr H d' ∧ ExR K I' H' e cls d' → E cls d' H'
  | .stuck => False
def spGn (K : PySem.W.Frag) (R : Hp → Hp → List V → δ → Prop) (m : δ → Res (List β)) (r : Rp β) : SpG := fun vs H Q E => ∃ I d, Same I H ∧ R I H vs d ∧ PostGn K (m d) r I H E Q
def GnR (P : Program) (w : World) (K : PySem.W.Frag) (mg : Str → Option Value) (base : Heap) (k : Nat) (f : Addr) (sp : SpG) : Prop := ∃ fd ps, GFn P w K mg base k f fd ps sp ∧ Binds K fd ps []
abbrev gx (P : Program) (w : World) (K : PySem.W.Frag) (mg : Str → Option Value) (base : Heap) (N : List Str) (qual : Str) (scope : Scope) (f : Addr) (cdv : Value) (A : Around) (outer : List Env) (s : Shared) (H : Hp) (E : XK) (pn : List (Addr × Obj)) : Cx := gcxOf P w K mg base N qual scope f cdv A outer s H E pn
theorem FunD.gen {P : Program} {w : World} {K : PySem.W.Frag} {mg : Str → Option Value} {base : Heap} {x qual : Str} {params : Arguments} {body : List Stmt} {scope : Scope} {kws : List (Str × V)} {f : Addr} {fd : FuncData} {N ps : List Str} {k : Nat} {R : Hp → Hp → List V → δ → Prop} {m : δ → Res (List β)} (F : FunD K x qual params body scope [] kws f fd) (Sc : GScope N ps scope) (len : ∀ I H vs d, R I H vs d → vs.length = ps.length)
    (hb : ∀ (cdv : Value) (A : Around) (outer : List Env) (s : Shared) (I0 H0 : Hp) (E : XK) (pn : List (Addr × Obj)) (vs : List V) (d : δ), Room k (A.deeper (envOfC qual scope s.heap.objs.size f cdv)) → Same I0 H0 → R I0 H0 vs d →
      ∃ G : Knows, G I0 H0 (start N vs) ∧ YE (gx P w K mg base N qual scope f cdv A outer s H0 E pn) I0 H0 (bW E) (bK I0 H0) r G [] body (m d)) : GFn P w K mg base (k + 1) f fd ps (spGn K R m r) := by
  obtain ⟨oc, od, dV, kV, doc, pm, an, cdv, ct, osl, rfl, lk, hcd, _, _⟩ := F.ex
  refine gfn_of lk hcd Sc (fun vs H Q E ⟨I, d, _, h, _⟩ => len I H vs d h) fun A outer s H vs Q E pn hr ⟨I, d, sm, h, p⟩ => ⟨_, gss_W, ?_⟩
  obtain ⟨G, g, j⟩ := hb cdv A outer s I H E pn vs d hr sm h
  refine j I H _ _ [] g .nil ?_
  revert p
  generalize m d = z
  intro p
  cases z with
  | ok y => exact fun I' H' _ ys f q => p I' H' ys f q
  | err e => exact fun I' H' _ c d f x => p I' H' c d f.1 ⟨f.2, x⟩
  | stuck => exact p
/-! ### list(o.m(..)) -/
theorem JM.listG [mo : Mo r] {k : Nat} {pl : Sem Bool} {m : Str} {C f : Addr} {apos : Pos} {rb : Ra α} {mb : Res α} {md : Res δ} {R : Hp → Hp → List V → δ → Prop} {g : α × δ → Res (List β)} [MoA rb] (j : JE X I0 H0 W ctx mem o mb rb) (hi : InsOf C rb m) (ka : JA X I0 H0 W ctx mem (e :: es) md R) (F : GnR X.prog X.w X.K X.mg X.base k f (spGn X.K (aCons rb R) g r)) (c : Cls X.K C) (hm : Meth X.K C m f)
    (hr : Room (k + 3) X.A) (hmg : X.mg "list" = none) (hg : Gl X "list" := by rfl) (hst : starEach (e :: es) X.env = (false, eval e X.env) :: starEach es X.env := by rfl) (hpl : (backTo pos (starEach es X.env)).any (·.1) = false := by rfl)
    (ht : eval (.Call (.Attribute o m apos) (e :: es) [] pos) X.env = (do
      let ov ← eval o X.env
      standAt apos.atName
      let (f, first) ← holding [ov] (getMethod ov m pl)
      callWith pos f first (backTo pos (starEach (e :: es) X.env)) (backToKw pos (keywordEach [] X.env))) := by rfl)
    (hs2 : starEach [(.Call (.Attribute o m apos) (e :: es) [] pos)] X.env = (false, eval (.Call (.Attribute o m apos) (e :: es) [] pos) X.env) :: starEach [] X.env := by rfl) :
    JM X I0 H0 W ctx mem (.Call (.Name "list" pos') [.Call (.Attribute o m apos) (e :: es) [] pos] [] pos2) (mb.bind fun x => md.bind fun y => noErr (g (x, y))) r := fun I H σ Q st p => by
  obtain ⟨fd, ps, GF, hb⟩ := F
  refine PE.w (pe_listG (E := fun _ _ _ => False) (pgen_meth pe_W c hm GF (hr.mono (by omega)) hb .nil pa_W hst hpl ht) (fun _ _ _ _ _ _ _ z => ?_) (fun _ _ _ z => z.elim) hr hg hmg (by decide +kernel) (by decide) (by decide) hs2) (j I H σ _ st ?_)
  · obtain ⟨_, _, _, _, _, _, _, _, _, _, _, _, hW⟩ := z
    exact hW.elim
  cases mb with
  | ok x =>
    intro I1 H1 v f1 r1
    obtain ⟨a, dx, fs, ev, ha, hl⟩ := hi I1 H1 v x f1.ih r1
    refine ⟨a, dx, fs, ev, ha, hl, ka I1 H1 σ _ (st.step f1) ?_⟩
    cases md with
    | ok y =>
      intro I2 H2 vs f2 r2
      refine ⟨I2, (x, y), f2.ih, by rw [List.append_nil]; exact ⟨v, vs, rfl, MoA.up f2.i f2.h r1, r2⟩, ?_⟩
      have p : PostM X W σ I H (noErr (g (x, y))) r Q := p
      revert p
      generalize g (x, y) = z
      intro p
      cases z with
      | ok out => exact fun I3 H3 ys f3 pr q hq => mpost p ((f1.trans f2).trans f3) hq pr
      | err e => exact p.elim
      | stuck => exact p.elim
    | err e => exact fun I' H' c d f2 x => p I' H' c d (f1.trans f2) ⟨x.1.back f1.h, x.2⟩
    | stuck => exact p.elim
  | err e => exact p
  | stuck => exact p.elim
end
end L2.Tr

namespace L2.Tr
open PySem PySem.Spec PyProof.Rows
/-! ### None or a value -/
section
variable {α β γ δ S L : Type} {X : Cx} {I0 H0 : Hp} {W : WX} {Kx : KnowsX} {ctx : List (Option SF)} {mem : List MF} {e a : Expr} {ss : List Stmt} {pos : Pos} {rr : Ra γ} {r : Rp α}
def rOp (r : Rp α) : Rp (Option α) := fun I v x => match x with
  | none => v = .non
  | some y => r I v y
instance {r : Rp α} [m : Mo r] : Mo (rOp r) := ⟨fun {I I' v x} s h => by
  cases x with
  | none => exact h
  | some y => exact m.up s h⟩
def optM {β : Type} (x : Option α) (f1 : β) (f2 : α → β) : β := match x with
  | none => f1
  | some y => f2 y
theorem optM_none {β : Type} {f1 : β} {f2 : α → β} : optM none f1 f2 = f1 := rfl
theorem optM_some {β : Type} {y : α} {f1 : β} {f2 : α → β} : optM (some y) f1 f2 = f2 y := rfl
class NoN (r : Rp α) : Prop where
  ne : ∀ I v x, r I v x → v ≠ .non
instance : NoN rInt := ⟨fun _ _ _ h z => by rw [show _ = V.int _ from h] at z; cases z⟩
instance : NoN rBl := ⟨fun _ _ _ h z => by rw [show _ = V.bl _ from h] at z; cases z⟩
instance : NoN rStr := ⟨fun _ _ _ h z => by rw [show _ = V.str _ from h] at z; cases z⟩
instance {K : PySem.W.Frag} : NoN (rFrac K) := ⟨fun _ _ _ ⟨_, _, e, _⟩ z => by rw [e] at z; cases z⟩
instance {K : PySem.W.Frag} : NoN (rNum K) := ⟨fun I v x h => by
  cases x with
  | i n => exact NoN.ne (r := rInt) I v n h
  | q q => exact NoN.ne (r := rFrac K) I v q h⟩
instance {r : Rp α} : NoN (rL r) := ⟨fun _ _ _ ⟨_, _, e, _⟩ z => by rw [e] at z; cases z⟩
instance {r : Rp α} : NoN (rT r) := ⟨fun _ _ _ ⟨_, _, e, _⟩ z => by rw [e] at z; cases z⟩
instance {R : Hp → Hp → List V → δ → Prop} : NoN (rTu R) := ⟨fun _ _ _ ⟨_, _, e, _⟩ z => by rw [e] at z; cases z⟩
instance {C : Addr} {gs : α → List (Str × SF)} : NoN (rIns C gs) := ⟨fun _ _ _ ⟨_, _, _, e, _⟩ z => by rw [e] at z; cases z⟩
theorem JE.opN {m : Res Unit} (j : JE X I0 H0 W ctx mem e m (rp rNon)) : JE X I0 H0 W ctx mem e (m.bind fun _ => .ok (none : Option α)) (rp (rOp r)) := j.map fun _ _ _ _ _ h => h
theorem JE.opS {m : Res α} (j : JE X I0 H0 W ctx mem e m (rp r)) : JE X I0 H0 W ctx mem e (m.bind fun x => .ok (some x)) (rp (rOp r)) := j.map fun _ _ _ _ _ h => h
theorem opj_isU : OpJ X W (compareOp .Is) (rp rNon) (rp rNon) (fun _ _ => .ok true) (rp rBl) := fun I H σ Q u v x y sm h1 h2 p => by
  have e1 : u = .non := h1
  have e2 : v = .non := h2
  subst e1; subst e2
  exact OpR.w op_isN ⟨rfl, p I H _ (Fm.refl sm) rfl⟩
theorem opj_isX [n : NoN r] : OpJ X W (compareOp .Is) (rp r) (rp rNon) (fun _ _ => .ok false) (rp rBl) := fun I H σ Q u v x y sm h1 h2 p => by
  have e2 : v = .non := h2
  subst e2
  have := n.ne I u x h1
  refine OpR.w op_isN ⟨rfl, ?_⟩
  rw [decide_eq_false this]
  exact p I H _ (Fm.refl sm) rfl
theorem opj_notU : OpJ X W (compareOp .IsNot) (rp rNon) (rp rNon) (fun _ _ => .ok false) (rp rBl) := fun I H σ Q u v x y sm h1 h2 p => by
  have e1 : u = .non := h1
  have e2 : v = .non := h2
  subst e1; subst e2
  exact OpR.w op_notN ⟨rfl, p I H _ (Fm.refl sm) rfl⟩
theorem opj_notX [n : NoN r] : OpJ X W (compareOp .IsNot) (rp r) (rp rNon) (fun _ _ => .ok true) (rp rBl) := fun I H σ Q u v x y sm h1 h2 p => by
  have e2 : v = .non := h2
  subst e2
  have := n.ne I u x h1
  refine OpR.w op_notN ⟨rfl, ?_⟩
  rw [decide_eq_false this]
  exact p I H _ (Fm.refl sm) rfl
theorem opj_isO [n : NoN r] : OpJ X W (compareOp .Is) (rp (rOp r)) (rp rNon) (fun x _ => .ok x.isNone) (rp rBl) := fun I H σ Q u v x y sm h1 h2 p => by
  cases x with
  | none => exact opj_isU I H σ Q u v () y sm h1 h2 p
  | some z => exact opj_isX (r := r) I H σ Q u v z y sm h1 h2 p
theorem opj_notO [n : NoN r] : OpJ X W (compareOp .IsNot) (rp (rOp r)) (rp rNon) (fun x _ => .ok x.isSome) (rp rBl) := fun I H σ Q u v x y sm h1 h2 p => by
  cases x with
  | none => exact opj_notU I H σ Q u v () y sm h1 h2 p
  | some z => exact opj_notX (r := r) I H σ Q u v z y sm h1 h2 p
theorem JT.dead : JT X I0 H0 W ctx mem e (.stuck : Res Bool) := fun _ _ _ _ _ p => p.elim
theorem JW.dead : JW X I0 H0 W ctx mem e (.stuck : Res Bool) := fun _ _ _ _ _ p => p.elim
theorem JE.dead {r : Ra α} : JE X I0 H0 W ctx mem e (.stuck : Res α) r := fun _ _ _ _ _ p => p.elim
theorem JG.dead {G : Knows} {G' : S → Knows} {GL : L → Knows} : JG X I0 H0 W Kx G ss (.stuck : Res (Fl S L γ)) G' GL rr := fun _ _ _ _ _ p => p.elim
theorem Stt.unN {I H : Hp} {σ : L2.St} (s : Stt I0 H0 ctx mem I H σ) (i : Nat) {r : Rp α} {mo : Mo r} {x : Option α} (e : x = none) (hc : ctx[i]? = some (some ⟨rNon, ()⟩) := by rfl) : Stt I0 H0 (ctx.set i (some ⟨rOp r, x⟩)) mem I H σ := by
  subst e; exact s.recast i (b := ⟨rOp r, none⟩) hc fun v h => h
theorem Stt.unS {I H : Hp} {σ : L2.St} (s : Stt I0 H0 ctx mem I H σ) (i : Nat) {r : Rp α} {mo : Mo r} {x : Option α} {y : α} (e : x = some y) (hc : ctx[i]? = some (some ⟨r, y⟩) := by rfl) : Stt I0 H0 (ctx.set i (some ⟨rOp r, x⟩)) mem I H σ := by
  subst e; exact s.recast i (b := ⟨rOp r, some y⟩) hc fun v h => h
theorem JR.opt (i : Nat) {r : Rp α} {mo : Mo r} {x : Option α} {f1 : Res γ} {f2 : α → Res γ} (k1 : x = none → JR X I0 H0 W Kx (Stt I0 H0 (ctx.set i (some ⟨rNon, ()⟩)) mem) ss f1 rr) (k2 : ∀ y, x = some y → JR X I0 H0 W Kx (Stt I0 H0 (ctx.set i (some ⟨r, y⟩)) mem) ss (f2 y) rr)
    (hc : ctx[i]? = some (some ⟨rOp r, x⟩) := by rfl) : JR X I0 H0 W Kx (Stt I0 H0 ctx mem) ss (optM x f1 f2) rr := fun I H σ D g p => by
  cases x with
  | none => exact k1 rfl I H σ D (g.recast i (b := ⟨rNon, ()⟩) hc fun v h => h) p
  | some y => exact k2 y rfl I H σ D (g.recast i (b := ⟨r, y⟩) hc fun v h => h) p
theorem JN.opt (i : Nat) {r : Rp α} {mo : Mo r} {x : Option α} {f1 : Res S} {f2 : α → Res S} {G' : S → Knows} (k1 : x = none → JN X W Kx (Stt I0 H0 (ctx.set i (some ⟨rNon, ()⟩)) mem) ss f1 G') (k2 : ∀ y, x = some y → JN X W Kx (Stt I0 H0 (ctx.set i (some ⟨r, y⟩)) mem) ss (f2 y) G')
    (hc : ctx[i]? = some (some ⟨rOp r, x⟩) := by rfl) : JN X W Kx (Stt I0 H0 ctx mem) ss (optM x f1 f2) G' := fun I H σ D g p => by
  cases x with
  | none => exact k1 rfl I H σ D (g.recast i (b := ⟨rNon, ()⟩) hc fun v h => h) p
  | some y => exact k2 y rfl I H σ D (g.recast i (b := ⟨r, y⟩) hc fun v h => h) p
theorem JG.opt (i : Nat) {r : Rp α} {mo : Mo r} {x : Option α} {f1 : Res (Fl S L γ)} {f2 : α → Res (Fl S L γ)} {G' : S → Knows} {GL : L → Knows} (k1 : x = none → JG X I0 H0 W Kx (Stt I0 H0 (ctx.set i (some ⟨rNon, ()⟩)) mem) ss f1 G' GL rr) (k2 : ∀ y, x = some y → JG X I0 H0 W Kx (Stt I0 H0 (ctx.set i (some ⟨r, y⟩)) mem) ss (f2 y) G' GL rr)
    (hc : ctx[i]? = some (some ⟨rOp r, x⟩) := by rfl) : JG X I0 H0 W Kx (Stt I0 H0 ctx mem) ss (optM x f1 f2) G' GL rr := fun I H σ D g p => by
  cases x with
  | none => exact k1 rfl I H σ D (g.recast i (b := ⟨rNon, ()⟩) hc fun v h => h) p
  | some y => exact k2 y rfl I H σ D (g.recast i (b := ⟨r, y⟩) hc fun v h => h) p
end
end L2.Tr

namespace L2.Tr
open PySem PySem.Spec PyProof.Rows He
/-! ### own errors with values -/
structure ExcV (K : PySem.W.Frag) (mg : Str → Option Value) (x : Str) (fs : List Str) : Prop where
  oex : OexC K (ga K x)
  ini : PySem.W.findIn K (.ref (ga K x)) "__init__" = some (some (.ref (ma K (ga K x) "__init__")))
  tyI : PySem.W.typeIn K (.ref (ma K (ga K x) "__init__")) = some (.type "function")
  no : ∀ f, f ∈ fs → PySem.W.findIn K (.ref (ga K x)) f = some none
  gl : mg x = some (.ref (ga K x))
  xf : XfC K (ga K x)
def isOex (K : PySem.W.Frag) (C : Addr) : Bool := match List.lookup C K with
  | some ⟨.type "type", _, .cls cd, sl⟩ => (match cd.mro, sl.toList with
    | .ref C' :: bm, [_, _, _, _, some (.builtin n), _] => C' == C && (n == "ValueError.__new__" && (cd.hasDict && (!cd.hasDel && HandSPX.refsVE bm)))
    | _, _ => false)
  | _ => false
theorem isOex_ok {K : PySem.W.Frag} {C : Addr} (h : isOex K C = true) : ∃ nm q N bs bm sn sub ab col dd k0 k1 k2 k3 k5, List.lookup C K = some (excClassObj nm q C N bs bm true sn sub ab col dd k0 k1 k2 k3 k5 "ValueError.__new__") ∧ HandSPX.refsVE bm = true := by
  unfold isOex at h
  split at h
  · rename_i dd cd sl e
    split at h
    · rename_i C' bm k0 k1 k2 k3 n k5 e1 e2
      simp only [Bool.and_eq_true, beq_iff_eq, Bool.not_eq_true'] at h
      obtain ⟨h1, h2, h3, h4, h5⟩ := h
      obtain ⟨nm, bs, mro, N, q, hd, sn, sub, ab, col, del⟩ := cd
      dsimp only at e1 h3 h4
      subst h1; subst h2; subst h3; subst h4; subst e1
      refine ⟨nm, q, N, bs, bm, sn, sub, ab, col, dd, k0, k1, k2, k3, k5, ?_, h5⟩
      rw [e]
      congr 2
      exact Array.toList_inj.mp e2
    · cases h
  · cases h
def fExcV (x : Str) (fs : List Str) : FB := fun K => isOex K (ga K x) && (eqO (PySem.W.findIn K (.ref (ga K x)) "__setattr__") (some (some (.builtin "object.__setattr__"))) && (decide (PySem.W.subIn K (.ref (ga K x)) (.type "BaseException") = some true) && (decide (PySem.W.typeIn K (.ref (ga K x)) = some (.type "type")) && (PySem.W.keepIn K (.ref (ga K x)) &&
  (eqO (PySem.W.findIn K (.ref (ga K x)) "__init__") (some (some (.ref (ma K (ga K x) "__init__")))) && (decide (PySem.W.typeIn K (.ref (ma K (ga K x) "__init__")) = some (.type "function")) && (fs.all (fun f => eqO (PySem.W.findIn K (.ref (ga K x)) f) (some none)) && ((Fa.glo x).ok K &&
  (eqO (PySem.W.findIn K (.ref (ga K x)) "__getattribute__") (some (some (.builtin "BaseException.__getattribute__"))) && (eqO (PySem.W.findIn K (.ref (ga K x)) "__getattr__") (some none) && PySem.W.hasDictIn K (ga K x)))))))))))
theorem excV_of {K : PySem.W.Frag} {mg : Str → Option Value} {h : Heap} (X : K.In h) (G : h.Ns mainGlobals mg) {x : Str} {fs : List Str} (c : fExcV x fs K = true) : ExcV K mg x fs := by
  obtain ⟨c1, c⟩ := ba c
  obtain ⟨c2, c⟩ := ba c
  obtain ⟨c3, c⟩ := ba c
  obtain ⟨c4, c⟩ := ba c
  obtain ⟨c5, c⟩ := ba c
  obtain ⟨c6, c⟩ := ba c
  obtain ⟨c7, c⟩ := ba c
  obtain ⟨c8, c⟩ := ba c
  obtain ⟨c9, c⟩ := ba c
  obtain ⟨c10, c⟩ := ba c
  obtain ⟨c11, c12⟩ := ba c
  exact ⟨⟨isOex_ok c1, of_decide_eq_true c2, of_decide_eq_true c3, of_decide_eq_true c4, c5⟩, of_decide_eq_true c6, of_decide_eq_true c7, fun f hf => of_decide_eq_true (List.all_eq_true.mp c8 f hf), glo_ok X G c9, ⟨of_decide_eq_true c10, of_decide_eq_true c11, of_decide_eq_true c3, c12⟩⟩
section
variable {P : Program} {w : World} {K : PySem.W.Frag} {mg : Str → Option Value} {base : Heap}
def sp1 (C : Addr) (f : Str) : Sp := fun vs H Q _ => ∃ a v, vs = [.ref a, v] ∧ H a = some (exo a C none) ∧ ∀ dx, H dx = none → dx ≠ a → Q .non (upd (upd H dx (exd dx [(f, v)])) a (exo a C (some dx)))
def sp2 (C : Addr) (f g : Str) : Sp := fun vs H Q _ => ∃ a v u, vs = [.ref a, v, u] ∧ H a = some (exo a C none) ∧ ∀ dx, H dx = none → dx ≠ a → Q .non (upd (upd (upd H dx (exd dx [(f, v)])) a (exo a C (some dx))) dx (exd dx [(g, u), (f, v)]))
theorem init1 {x qual : Str} {params : Arguments} {body : List Stmt} {scope : Scope} {fl : Addr} {fd : FuncData} {p f : Str} {p1 p2 p3 pos : Pos} {C : Addr} (F : FunD K x qual params body scope [] [] fl fd) (S : FnScope ["self", p] ["self", p] scope) (hb : body = [.Assign [.Attribute (.Name "self" p1) f p2] (.Name p p3) pos]) (T : OexC K C) (hno : PySem.W.findIn K (.ref C) f = some none)
    (hv0 : Vis scope "self") (hv1 : Vis scope p) (hd : (p == ("__debug__" : Str)) = false) (hcd : (p == ("__classdict__" : Str)) = false) : FnOk P w K mg base (L2.CX P w) 1 fl fd ["self", p] (sp1 C f) := by
  refine F.ok (k := 0) S (fun vs H Q E ⟨a, v, e, _⟩ => by rw [e]; rfl) fun cdv A outer s H vs Q E hr ⟨a, v, e, ha, h⟩ => ⟨_, pss_W, ?_⟩
  subst e; subst hb
  refine b_cons (PS.w (ps_ost pe_W pe_W) (w_var 1 (v := v) (w_var 0 (v := .ref a) ?_ rfl rfl hv0 (by decide) (by decide)) rfl rfl hv1 hd hcd))
  refine ⟨a, C, rfl, T, hno, .inl ⟨ha, fun dx h1 h2 => ?_⟩⟩
  exact b_nil (h dx h1 h2)
theorem init2 {x qual : Str} {params : Arguments} {body : List Stmt} {scope : Scope} {fl : Addr} {fd : FuncData} {p q f g : Str} {p1 p2 p3 pos p4 p5 p6 pos2 : Pos} {C : Addr} (F : FunD K x qual params body scope [] [] fl fd) (S : FnScope ["self", p, q] ["self", p, q] scope) (hb : body = [.Assign [.Attribute (.Name "self" p1) f p2] (.Name p p3) pos, .Assign [.Attribute (.Name "self" p4) g p5] (.Name q p6) pos2]) (T : OexC K C) (hno : PySem.W.findIn K (.ref C) f = some none) (hno2 : PySem.W.findIn K (.ref C) g = some none)
    (hv0 : Vis scope "self") (hv1 : Vis scope p) (hv2 : Vis scope q) (hd : (p == ("__debug__" : Str)) = false) (hcd : (p == ("__classdict__" : Str)) = false) (hd2 : (q == ("__debug__" : Str)) = false) (hcd2 : (q == ("__classdict__" : Str)) = false) : FnOk P w K mg base (L2.CX P w) 1 fl fd ["self", p, q] (sp2 C f g) := by
  refine F.ok (k := 0) S (fun vs H Q E ⟨a, v, u, e, _⟩ => by rw [e]; rfl) fun cdv A outer s H vs Q E hr ⟨a, v, u, e, ha, h⟩ => ⟨_, pss_W, ?_⟩
  subst e; subst hb
  refine b_cons (PS.w (ps_ost pe_W pe_W) (w_var 1 (v := v) (w_var 0 (v := .ref a) ?_ rfl rfl hv0 (by decide) (by decide)) rfl rfl hv1 hd hcd))
  refine ⟨a, C, rfl, T, hno, .inl ⟨ha, fun dx h1 h2 => ?_⟩⟩
  refine b_cons (PS.w (ps_ost pe_W pe_W) (w_var 2 (v := u) (w_var 0 (v := .ref a) ?_ rfl rfl hv0 (by decide) (by decide)) rfl rfl hv2 hd2 hcd2))
  refine ⟨a, C, rfl, T, hno2, .inr ⟨dx, [(f, v)], upd_same, by rw [upd_ne h2, upd_same], by simp, ?_⟩⟩
  exact b_nil (h dx h1 h2)
/-- the promise of an error's making -/
abbrev ErR1 (P : Program) (w : World) (K : PySem.W.Frag) (mg : Str → Option Value) (base : Heap) (x f : Str) : Prop := ExcV K mg x [f] ∧ ∃ fd ps, FnOk P w K mg base (L2.CX P w) 1 (ma K (ga K x) "__init__") fd ps (sp1 (ga K x) f) ∧ Binds K fd ps []
abbrev ErR2 (P : Program) (w : World) (K : PySem.W.Frag) (mg : Str → Option Value) (base : Heap) (x f g : Str) : Prop := ExcV K mg x [f, g] ∧ ∃ fd ps, FnOk P w K mg base (L2.CX P w) 1 (ma K (ga K x) "__init__") fd ps (sp2 (ga K x) f g) ∧ Binds K fd ps []
end
section
variable {α β γ δ S L : Type} {X : Cx} {I0 H0 : Hp} {W : WX} {Kx : KnowsX} {ctx cw : List (Option SF)} {mem : List MF} {e a b : Expr} {ss body suite : List Stmt} {b₀ : Stmt} {pos pos' np p1 p3 : Pos} {n x f g : Str} {rr : Ra γ} {r : Rp α} {r2 : Rp β} {G : Knows}
theorem passNo : Passes (L2.CX X.prog X.w) X (fun _ _ _ => False) := fun _ _ _ _ _ _ _ ⟨_, _, _, _, _, _, _, _, _, _, _, _, h⟩ => h.elim
def ErrP (X : Cx) (W : WX) (Kx : KnowsX) (e : Exn) : Prop := ∀ I' H' σ' cls d, Kx I' H' σ' d → ExR X.K I' H' e cls d → W cls d σ' H'
theorem err_last {fs : List (Str × V)} {ps : List (Str × Pay)} {I H : Hp} {σ : L2.St} {a dx : Addr} (st : Stt I0 H0 ctx mem I H σ) (hx : ∀ I H σ d, Stt I0 H0 ctx mem I H σ → Fr H0 d → Kx I H σ d) (p : ErrP X W Kx ⟨x, ps⟩) (hp : ps ≠ []) (pr : Paired (fun (p : Str × V) (q : Str × Pay) => p.1 = q.1 ∧ PayR X.K I p.2 q.2) fs ps) (ha : H a = none) (h1 : H dx = none) (h2 : dx ≠ a) {H2 : Hp} (hH2 : ∀ b, b ≠ a → b ≠ dx → H2 b = H b) : W (.ref (ga X.K x)) (some dx) σ (upd (del H2 a) dx (.xd fs)) := by
  have e : upd (del H2 a) dx (.xd fs) = upd H dx (.xd fs) := funext fun b => by
    by_cases hb : b = dx
    · subst hb; rw [upd_same, upd_same]
    · rw [upd_ne hb, upd_ne hb]
      by_cases hb2 : b = a
      · subst hb2
        rw [ha]
        simp [del]
      · have : del H2 a b = H2 b := by simp [del, hb2]
        rw [this, hH2 b hb2 hb]
  rw [e]
  have f1 : Fm I H I (upd H dx (.xd fs)) := Fm.newM st.same h1
  refine p I _ σ _ (some dx) (hx _ _ _ _ (st.step f1) fun q z => by cases z; exact st.fm.h.free h1) ⟨rfl, hp, fs, upd_same, st.same.free h1, pr⟩
theorem raise1_core {m : Res α} {pay : α → Pay} {D : Ends} {I H : Hp} {σ : L2.St} (hc : X.calm = true) (tk : Takes X W) (er : ErR1 X.prog X.w X.K X.mg X.base x f) (hr : Room 2 X.A) (je : JE X I0 H0 W ctx mem e m (rp r)) (pc : ∀ I v y, r I v y → PayR X.K I v (pay y)) (hx : ∀ I H σ d, Stt I0 H0 ctx mem I H σ → Fr H0 d → Kx I H σ d) (st : Stt I0 H0 ctx mem I H σ)
    (p : match m with | .ok y => ErrP X W Kx ⟨x, [(f, pay y)]⟩ | .err ee => ErrP X W Kx ee | .stuck => False) (hg : Gl X x := by rfl) (hdb : (x == ("__debug__" : Str)) = false := by decide) (hs : starEach [e] X.env = (false, eval e X.env) :: starEach [] X.env := by rfl) (hpl : (backTo p3 (starEach [] X.env)).any (·.1) = false := by rfl) :
    wS X (.Raise (some (.Call (.Name x p1) [e] [] p3)) none pos) D σ H := by
  obtain ⟨ev, fd, ps, F1, hb⟩ := er
  refine s_raise hc tk (pmk_oex ev.oex ev.ini ev.tyI F1 hr hb .nil passNo hg ev.gl pa_W hdb hs hpl) ?_
  refine Tr.w_cons (je I H σ _ st ?_) hs
  cases m with
  | ok y =>
    intro I1 H1 v f1 r1
    refine w_nil ⟨by simp, fun q hq => ⟨q, v, rfl, upd_same, fun dx h1 h2 => ⟨rfl, dx, [(f, v)], upd_same, by rw [upd_ne h2, upd_same], by rwa [upd_ne h2] at h1, ?_⟩⟩⟩
    refine err_last (st.step f1) hx p (by simp) (.cons ⟨rfl, pc I1 v y r1⟩ .nil) hq (by rwa [upd_ne h2] at h1) h2 fun b h3 h4 => ?_
    rw [upd_ne h3, upd_ne h4, upd_ne h3]
  | err ee => exact fun I' H' c d f y => p I' H' σ c d (hx _ _ _ _ (st.step f) (y.1.back st.fm.h)) y.2
  | stuck => exact p
theorem raise2_core {m : Res α} {m2 : Res β} {pay : α → Pay} {pay2 : β → Pay} {D : Ends} {I H : Hp} {σ : L2.St} [Mo r] (hc : X.calm = true) (tk : Takes X W) (er : ErR2 X.prog X.w X.K X.mg X.base x f g) (hr : Room 2 X.A) (je : JE X I0 H0 W ctx mem e m (rp r)) (jb : JE X I0 H0 W ctx mem b m2 (rp r2)) (pc : ∀ I v y, r I v y → PayR X.K I v (pay y)) (pc2 : ∀ I v y, r2 I v y → PayR X.K I v (pay2 y)) (hx : ∀ I H σ d, Stt I0 H0 ctx mem I H σ → Fr H0 d → Kx I H σ d) (st : Stt I0 H0 ctx mem I H σ)
    (p : match m with | .ok y => (match m2 with | .ok z => ErrP X W Kx ⟨x, [(g, pay2 z), (f, pay y)]⟩ | .err ee => ErrP X W Kx ee | .stuck => False) | .err ee => ErrP X W Kx ee | .stuck => False) (hg : Gl X x := by rfl) (hdb : (x == ("__debug__" : Str)) = false := by decide) (hs : starEach [e, b] X.env = (false, eval e X.env) :: starEach [b] X.env := by rfl) (hs2 : starEach [b] X.env = (false, eval b X.env) :: starEach [] X.env := by rfl) (hpl : (backTo p3 (starEach [b] X.env)).any (·.1) = false := by rfl) :
    wS X (.Raise (some (.Call (.Name x p1) [e, b] [] p3)) none pos) D σ H := by
  obtain ⟨ev, fd, ps, F1, hb⟩ := er
  refine s_raise hc tk (pmk_oex ev.oex ev.ini ev.tyI F1 hr hb .nil passNo hg ev.gl pa_W hdb hs hpl) ?_
  refine Tr.w_cons (je I H σ _ st ?_) hs
  cases m with
  | ok y =>
    intro I1 H1 v f1 r1
    refine Tr.w_cons (jb I1 H1 σ _ (st.step f1) ?_) hs2
    cases m2 with
    | ok z =>
      intro I2 H2 u f2 r3
      refine w_nil ⟨by simp, fun q hq => ⟨q, v, u, rfl, upd_same, fun dx h1 h2 => ⟨rfl, dx, [(g, u), (f, v)], by rw [upd_ne (Ne.symm h2), upd_same], upd_same, by rwa [upd_ne h2] at h1, ?_⟩⟩⟩
      refine err_last ((st.step f1).step f2) hx p (by simp) (.cons ⟨rfl, pc2 I2 u z r3⟩ (.cons ⟨rfl, pc I2 v y (Mo.up f2.i r1)⟩ .nil)) hq (by rwa [upd_ne h2] at h1) h2 fun b h3 h4 => ?_
      rw [upd_ne h4, upd_ne h3, upd_ne h4, upd_ne h3]
    | err ee => exact fun I' H' c d f y => p I' H' σ c d (hx _ _ _ _ ((st.step f1).step f) (y.1.back (st.step f1).fm.h)) y.2
    | stuck => exact p
  | err ee => exact fun I' H' c d f y => p I' H' σ c d (hx _ _ _ _ (st.step f) (y.1.back st.fm.h)) y.2
  | stuck => exact p
/-! the rules -/
theorem J1.raise1 {m : Res α} {pay : α → Pay} {G' : S → Knows} (hc : X.calm = true) (tk : Takes X W) (er : ErR1 X.prog X.w X.K X.mg X.base x f) (hr : Room 2 X.A) (je : JE X I0 H0 W ctx mem e m (rp r)) (pc : ∀ I v y, r I v y → PayR X.K I v (pay y)) (hx : ∀ I H σ d, Stt I0 H0 ctx mem I H σ → Fr H0 d → Kx I H σ d) (hg : Gl X x := by rfl) (hdb : (x == ("__debug__" : Str)) = false := by decide) (hs : starEach [e] X.env = (false, eval e X.env) :: starEach [] X.env := by rfl) (hpl : (backTo p3 (starEach [] X.env)).any (·.1) = false := by rfl) :
    J1 X W Kx (Stt I0 H0 ctx mem) (.Raise (some (.Call (.Name x p1) [e] [] p3)) none pos) (m.bind fun y => (.err ⟨x, [(f, pay y)]⟩ : Res S)) G' := fun I H σ D st p => by
  refine raise1_core hc tk er hr je pc hx st ?_ hg hdb hs hpl
  cases m with
  | ok y => exact p
  | err ee => exact p
  | stuck => exact p
theorem JN.raise1 {m : Res α} {pay : α → Pay} {G' : S → Knows} (hc : X.calm = true) (tk : Takes X W) (er : ErR1 X.prog X.w X.K X.mg X.base x f) (hr : Room 2 X.A) (je : JE X I0 H0 W ctx mem e m (rp r)) (pc : ∀ I v y, r I v y → PayR X.K I v (pay y)) (hx : ∀ I H σ d, Stt I0 H0 ctx mem I H σ → Fr H0 d → Kx I H σ d) (hg : Gl X x := by rfl) (hdb : (x == ("__debug__" : Str)) = false := by decide) (hs : starEach [e] X.env = (false, eval e X.env) :: starEach [] X.env := by rfl) (hpl : (backTo p3 (starEach [] X.env)).any (·.1) = false := by rfl) :
    JN X W Kx (Stt I0 H0 ctx mem) (.Raise (some (.Call (.Name x p1) [e] [] p3)) none pos :: ss) (m.bind fun y => (.err ⟨x, [(f, pay y)]⟩ : Res S)) G' := fun I H σ D st p => by
  refine b_cons (raise1_core hc tk er hr je pc hx st ?_ hg hdb hs hpl)
  cases m with
  | ok y => exact p
  | err ee => exact p
  | stuck => exact p
theorem JR.raise1 {m : Res α} {pay : α → Pay} (hc : X.calm = true) (tk : Takes X W) (er : ErR1 X.prog X.w X.K X.mg X.base x f) (hr : Room 2 X.A) (je : JE X I0 H0 W ctx mem e m (rp r)) (pc : ∀ I v y, r I v y → PayR X.K I v (pay y)) (hx : ∀ I H σ d, Stt I0 H0 ctx mem I H σ → Fr H0 d → Kx I H σ d) (hg : Gl X x := by rfl) (hdb : (x == ("__debug__" : Str)) = false := by decide) (hs : starEach [e] X.env = (false, eval e X.env) :: starEach [] X.env := by rfl) (hpl : (backTo p3 (starEach [] X.env)).any (·.1) = false := by rfl) :
    JR X I0 H0 W Kx (Stt I0 H0 ctx mem) (.Raise (some (.Call (.Name x p1) [e] [] p3)) none pos :: ss) (m.bind fun y => (.err ⟨x, [(f, pay y)]⟩ : Res γ)) rr := fun I H σ D st p => by
  refine b_cons (raise1_core hc tk er hr je pc hx st ?_ hg hdb hs hpl)
  cases m with
  | ok y => exact p
  | err ee => exact p
  | stuck => exact p
theorem J1.raise2 {m : Res α} {m2 : Res β} {pay : α → Pay} {pay2 : β → Pay} {G' : S → Knows} [Mo r] (hc : X.calm = true) (tk : Takes X W) (er : ErR2 X.prog X.w X.K X.mg X.base x f g) (hr : Room 2 X.A) (je : JE X I0 H0 W ctx mem e m (rp r)) (jb : JE X I0 H0 W ctx mem b m2 (rp r2)) (pc : ∀ I v y, r I v y → PayR X.K I v (pay y)) (pc2 : ∀ I v y, r2 I v y → PayR X.K I v (pay2 y)) (hx : ∀ I H σ d, Stt I0 H0 ctx mem I H σ → Fr H0 d → Kx I H σ d) (hg : Gl X x := by rfl) (hdb : (x == ("__debug__" : Str)) = false := by decide) (hs : starEach [e, b] X.env = (false, eval e X.env) :: starEach [b] X.env := by rfl) (hs2 : starEach [b] X.env = (false, eval b X.env) :: starEach [] X.env := by rfl) (hpl : (backTo p3 (starEach [b] X.env)).any (·.1) = false := by rfl) :
    J1 X W Kx (Stt I0 H0 ctx mem) (.Raise (some (.Call (.Name x p1) [e, b] [] p3)) none pos) (m.bind fun y => m2.bind fun z => (.err ⟨x, [(g, pay2 z), (f, pay y)]⟩ : Res S)) G' := fun I H σ D st p => by
  refine raise2_core hc tk er hr je jb pc pc2 hx st ?_ hg hdb hs hs2 hpl
  cases m with
  | ok y => cases m2 with
    | ok z => exact p
    | err ee => exact p
    | stuck => exact p
  | err ee => exact p
  | stuck => exact p
theorem JN.raise2 {m : Res α} {m2 : Res β} {pay : α → Pay} {pay2 : β → Pay} {G' : S → Knows} [Mo r] (hc : X.calm = true) (tk : Takes X W) (er : ErR2 X.prog X.w X.K X.mg X.base x f g) (hr : Room 2 X.A) (je : JE X I0 H0 W ctx mem e m (rp r)) (jb : JE X I0 H0 W ctx mem b m2 (rp r2)) (pc : ∀ I v y, r I v y → PayR X.K I v (pay y)) (pc2 : ∀ I v y, r2 I v y → PayR X.K I v (pay2 y)) (hx : ∀ I H σ d, Stt I0 H0 ctx mem I H σ → Fr H0 d → Kx I H σ d) (hg : Gl X x := by rfl) (hdb : (x == ("__debug__" : Str)) = false := by decide) (hs : starEach [e, b] X.env = (false, eval e X.env) :: starEach [b] X.env := by rfl) (hs2 : starEach [b] X.env = (false, eval b X.env) :: starEach [] X.env := by rfl) (hpl : (backTo p3 (starEach [b] X.env)).any (·.1) = false := by rfl) :
    JN X W Kx (Stt I0 H0 ctx mem) (.Raise (some (.Call (.Name x p1) [e, b] [] p3)) none pos :: ss) (m.bind fun y => m2.bind fun z => (.err ⟨x, [(g, pay2 z), (f, pay y)]⟩ : Res S)) G' := fun I H σ D st p => by
  refine b_cons (raise2_core hc tk er hr je jb pc pc2 hx st ?_ hg hdb hs hs2 hpl)
  cases m with
  | ok y => cases m2 with
    | ok z => exact p
    | err ee => exact p
    | stuck => exact p
  | err ee => exact p
  | stuck => exact p
theorem JR.raise2 {m : Res α} {m2 : Res β} {pay : α → Pay} {pay2 : β → Pay} [Mo r] (hc : X.calm = true) (tk : Takes X W) (er : ErR2 X.prog X.w X.K X.mg X.base x f g) (hr : Room 2 X.A) (je : JE X I0 H0 W ctx mem e m (rp r)) (jb : JE X I0 H0 W ctx mem b m2 (rp r2)) (pc : ∀ I v y, r I v y → PayR X.K I v (pay y)) (pc2 : ∀ I v y, r2 I v y → PayR X.K I v (pay2 y)) (hx : ∀ I H σ d, Stt I0 H0 ctx mem I H σ → Fr H0 d → Kx I H σ d) (hg : Gl X x := by rfl) (hdb : (x == ("__debug__" : Str)) = false := by decide) (hs : starEach [e, b] X.env = (false, eval e X.env) :: starEach [b] X.env := by rfl) (hs2 : starEach [b] X.env = (false, eval b X.env) :: starEach [] X.env := by rfl) (hpl : (backTo p3 (starEach [b] X.env)).any (·.1) = false := by rfl) :
    JR X I0 H0 W Kx (Stt I0 H0 ctx mem) (.Raise (some (.Call (.Name x p1) [e, b] [] p3)) none pos :: ss) (m.bind fun y => m2.bind fun z => (.err ⟨x, [(g, pay2 z), (f, pay y)]⟩ : Res γ)) rr := fun I H σ D st p => by
  refine b_cons (raise2_core hc tk er hr je jb pc pc2 hx st ?_ hg hdb hs hs2 hpl)
  cases m with
  | ok y => cases m2 with
    | ok z => exact p
    | err ee => exact p
    | stuck => exact p
  | err ee => exact p
  | stuck => exact p
theorem pay_int {K : PySem.W.Frag} : ∀ I v y, rInt I v y → PayR K I v (.int y) := fun _ _ _ h => h
theorem pay_str {K : PySem.W.Frag} : ∀ I v y, rStr I v y → PayR K I v (.str y) := fun _ _ _ h => h
theorem pay_frac {K : PySem.W.Frag} : ∀ I v y, rFrac K I v y → PayR K I v (.frac y) := fun _ _ _ h => h
def payN : Num → Pay
  | .i n => .int n
  | .q q => .frac q
theorem pay_num {K : PySem.W.Frag} : ∀ I v y, rNum K I v y → PayR K I v (payN y) := fun I v y h => by
  cases y with
  | i n => exact h
  | q q => exact h
/-! ### try, in any flow -/
def tryG (m : Res (Fl S L γ)) (Ls : List (Str × Bool)) (h : Exn → Res (Fl S L γ)) : Res (Fl S L γ) := match m with
  | .ok s => .ok s
  | .err e => (match Ls.lookup e.cls with
    | some true => (match h e with
      | .ok y => .ok y
      | _ => .stuck)
    | some false => .err e
    | none => .stuck)
  | .stuck => .stuck
/-- a region that holds nothing but the frozen heap's history -/
def MF.same (I1 : Hp) : MF := ⟨fun I _ fp => fp = [] ∧ Same I1 I, fun s ⟨e, h⟩ => ⟨e, h.trans s⟩, fun _ h => h⟩
theorem Regs.snoc {I H : Hp} {c : MF} : ∀ {mem : List MF} {fps : List (List Addr)} {fp : List Addr}, Regs I H mem fps → c.Q I H fp → Regs I H (mem ++ [c]) (fps ++ [fp])
  | [], [], _, _, h => ⟨h, True.intro⟩
  | _ :: _, _ :: _, _, ⟨a, b⟩, h => ⟨a, Regs.snoc b h⟩
  | [], _ :: _, _, h, _ => h.elim
  | _ :: _, [], _, h, _ => h.elim
theorem Regs.unsnoc {I H : Hp} {c : MF} : ∀ {mem : List MF} {fps : List (List Addr)}, Regs I H (mem ++ [c]) fps → ∃ fps0 fp, fps = fps0 ++ [fp] ∧ Regs I H mem fps0 ∧ c.Q I H fp
  | [], [fp], ⟨h, _⟩ => ⟨[], fp, rfl, True.intro, h⟩
  | [], [], h => h.elim
  | [], _ :: _ :: _, ⟨_, h⟩ => h.elim
  | _ :: _, q :: _, ⟨a, b⟩ => by
    obtain ⟨fps0, fp, e, r, h⟩ := Regs.unsnoc b
    exact ⟨q :: fps0, fp, by rw [e]; rfl, ⟨a, r⟩, h⟩
  | _ :: _, [], h => h.elim
theorem Stt.ghost {I H : Hp} {σ : L2.St} (s : Stt I0 H0 ctx mem I H σ) : Stt I0 H0 ctx (mem ++ [MF.same I]) I H σ := by
  obtain ⟨fps, rg, nd, k⟩ := s.me
  have e : (fps ++ [[]]).flatten = fps.flatten := by simp
  exact ⟨s.fm, s.len, s.sl, fps ++ [[]], rg.snoc ⟨rfl, Same.refl _⟩, by rw [e]; exact nd, fun a ha => k a (by rwa [e] at ha)⟩
theorem Stt.ungh {I1 I H : Hp} {σ : L2.St} (s : Stt I0 H0 ctx (mem ++ [MF.same I1]) I H σ) : Same I1 I ∧ Stt I0 H0 ctx mem I H σ := by
  obtain ⟨fps, rg, nd, k⟩ := s.me
  obtain ⟨fps0, fp, e, r, e2, h⟩ := rg.unsnoc
  subst e2; subst e
  have e : (fps0 ++ [[]]).flatten = fps0.flatten := by simp
  rw [e] at nd k
  exact ⟨h, s.fm, s.len, s.sl, fps0, r, nd, k⟩
theorem J1G.tryAs (i : Nat) {cv : Value} {Ls : List (Str × Bool)} {mb : Res (Fl S L γ)} {G' : S → Knows} {GL : L → Knows} {mh : Exn → Res (Fl S L γ)} {me' : Hp → List MF} (tk : Takes X W)
    (jb : ∀ (W' : WX) (pn : List (Addr × Obj)) (xe : Value → Shared → Prop) (I1 : Hp), Takes (X.tr pn xe) W' → PassesOwn (model X.prog X.w) X.A X.env xe → JG (X.tr pn xe) I0 H0 W' (fun I H σ d => Stt I0 H0 cw (me' I1) I H σ ∧ Fr H0 d) (Stt I0 H0 ctx (me' I1)) body mb G' GL rr)
    (js : ∀ (a : Addr) (oe : Obj) (ee : Exn) (d : Option Addr) (pn : List (Addr × Obj)), Zc (.ref (He.ga X.K ee.cls)) d oe → (∃ vs, oe.data = .fields vs) → (ee.cls, true) ∈ Ls → (d = none → ee.pay = []) → (∀ q, d = some q → ee.pay ≠ []) → JG (X.suite a ((a, oe) :: pn)) I0 H0 (fun _ _ _ _ => False) (fun _ _ _ _ => True) (Stt I0 H0 (cw.set i (some ⟨rExc a, ()⟩)) (exm X.K d ee ++ mem)) (b₀ :: suite) (mh ee) (fun s I H σ => G' s I H (σ.set i none)) (fun s I H σ => GL s I H (σ.set i none)) rr)
    (hL : ∀ y b, (y, b) ∈ Ls → PySem.W.exmOne X.K (.ref (He.ga X.K y)) cv = some b) (hc : Names X x cv) (hx : ∀ I H σ d, Stt I0 H0 cw mem I H σ → Fr H0 d → Kx I H σ d) (hN : X.N.Nodup) (hme : ∀ I1, me' I1 = mem ++ [MF.same I1] := by intro _; rfl)
    (hs : X.stack = X.env :: X.outer := by rfl) (hf : X.env.frame = some X.env.locals := by rfl) (hi : X.N[i]? = some n := by rfl) (hln : X.env.kindOf n = some .local := by rfl) (hmx : NoXd mem := by exact True.intro) :
    J1G X I0 H0 W Kx (Stt I0 H0 ctx mem) (.Try body [.ExceptHandler (some (.Name x np)) (some n) (b₀ :: suite) pos'] [] [] pos) (tryG mb Ls mh) G' GL rr := fun I H σ D g p => by
  refine PS.w (ps_try_as (i := i) (tb := fun W' D σ H => ∀ pn xe, Takes (X.tr pn xe) W' → PassesOwn (model X.prog X.w) X.A X.env xe → wB (X.tr pn xe) body D σ H) (ts := fun a cls d D σ H => ∀ oe pn, Zc cls d oe → (∃ vs, oe.data = .fields vs) → wB (X.suite a ((a, oe) :: pn)) (b₀ :: suite) D σ H) hs hf hN hi hln hc tk
    (fun W' pn xe t1 t2 => ⟨fun pins s σ H D Iv h => h pn xe t1 t2 pins s Iv⟩) (fun a oe cls d pn hz hf => ⟨fun pins s σ H D Iv h => h oe pn hz hf pins s Iv⟩)) ?_
  intro pn xe t1 t2
  refine jb _ pn xe I t1 t2 I H σ _ (by rw [hme]; exact g.ghost) ?_
  cases mb with
  | ok r =>
    cases r with
    | nx s => exact p
    | bk s => exact p
    | ct s => exact p
    | rt y => exact p
  | stuck => exact p.elim
  | err ee =>
    intro I' H' σ' cls d hk hxr
    obtain ⟨g0, fr⟩ := hk
    rw [hme] at g0
    obtain ⟨sm, g1⟩ := g0.ungh
    obtain ⟨ec, hxr2⟩ := id hxr
    have p1 : PostG X I0 H0 W Kx I (match Ls.lookup ee.cls with
      | some true => (match mh ee with
        | .ok y => .ok y
        | _ => .stuck)
      | some false => .err ee
      | none => .stuck) G' GL rr D := p
    cases hl : Ls.lookup ee.cls with
    | none => rw [hl] at p1; exact p1.elim
    | some bb =>
      rw [hl] at p1
      refine ⟨bb, by rw [ec]; exact hL _ _ (lookup_mem hl), fun hb a ha oe pn' hz hf' => ?_, fun hb => ?_⟩
      · subst hb
        rw [ec] at hz
        refine js a oe ee d pn' hz hf' (lookup_mem hl) (fun z => by subst z; exact hxr2) (fun q z => by subst z; exact hxr2.1) I' H' _ _ ((g1.set i (r := rExc a) (x := ()) rfl).exm fr hxr hmx) ?_
        have p2 : PostG X I0 H0 W Kx I (match mh ee with
          | .ok y => .ok y
          | _ => .stuck) G' GL rr D := p1
        revert p2
        generalize mh ee = z
        intro p2
        cases z with
        | ok y =>
          cases y with
          | nx s => exact fun I2 H2 σ2 s2 q => p2 I2 H2 _ (sm.trans s2) q
          | bk s => exact fun I2 H2 σ2 s2 q => p2 I2 H2 _ (sm.trans s2) q
          | ct s => exact fun I2 H2 σ2 s2 q => p2 I2 H2 _ (sm.trans s2) q
          | rt y => exact p2
        | err _ => exact p2.elim
        | stuck => exact p2.elim
      · subst hb
        exact p1 I' H' σ' cls d (hx _ _ _ _ g1 fr) hxr
theorem J1G.tryOnly {cv : Value} {Ls : List (Str × Bool)} {mb : Res (Fl S L γ)} {G' : S → Knows} {GL : L → Knows} {mh : Exn → Res (Fl S L γ)} {me' : Hp → List MF} (tk : Takes X W)
    (jb : ∀ (W' : WX) (pn : List (Addr × Obj)) (xe : Value → Shared → Prop) (I1 : Hp), Takes (X.tr pn xe) W' → PassesOwn (model X.prog X.w) X.A X.env xe → JG (X.tr pn xe) I0 H0 W' (fun I H σ d => Stt I0 H0 cw (me' I1) I H σ ∧ Fr H0 d) (Stt I0 H0 ctx (me' I1)) body mb G' GL rr)
    (js : ∀ (a : Addr) (oe : Obj) (ee : Exn) (d : Option Addr) (pn : List (Addr × Obj)), (ee.cls, true) ∈ Ls → JG (X.suite a ((a, oe) :: pn)) I0 H0 (fun _ _ _ _ => False) (fun _ _ _ _ => True) (Stt I0 H0 cw mem) (b₀ :: suite) (mh ee) G' GL rr)
    (hL : ∀ y b, (y, b) ∈ Ls → PySem.W.exmOne X.K (.ref (He.ga X.K y)) cv = some b) (hc : Names X x cv) (hx : ∀ I H σ d, Stt I0 H0 cw mem I H σ → Fr H0 d → Kx I H σ d) (hme : ∀ I1, me' I1 = mem ++ [MF.same I1] := by intro _; rfl)
    (hs : X.stack = X.env :: X.outer := by rfl) (hf : X.env.frame = some X.env.locals := by rfl) :
    J1G X I0 H0 W Kx (Stt I0 H0 ctx mem) (.Try body [.ExceptHandler (some (.Name x np)) none (b₀ :: suite) pos'] [] [] pos) (tryG mb Ls mh) G' GL rr := fun I H σ D g p => by
  refine PS.w (ps_try_only (tb := fun W' D σ H => ∀ pn xe, Takes (X.tr pn xe) W' → PassesOwn (model X.prog X.w) X.A X.env xe → wB (X.tr pn xe) body D σ H) (ts := fun a cls d D σ H => ∀ oe pn, Zc cls d oe → (∃ vs, oe.data = .fields vs) → wB (X.suite a ((a, oe) :: pn)) (b₀ :: suite) D σ H) hs hf hc tk
    (fun W' pn xe t1 t2 => ⟨fun pins s σ H D Iv h => h pn xe t1 t2 pins s Iv⟩) (fun a oe cls d pn hz hf => ⟨fun pins s σ H D Iv h => h oe pn hz hf pins s Iv⟩)) ?_
  intro pn xe t1 t2
  refine jb _ pn xe I t1 t2 I H σ _ (by rw [hme]; exact g.ghost) ?_
  cases mb with
  | ok r =>
    cases r with
    | nx s => exact p
    | bk s => exact p
    | ct s => exact p
    | rt y => exact p
  | stuck => exact p.elim
  | err ee =>
    intro I' H' σ' cls d hk hxr
    obtain ⟨g0, fr⟩ := hk
    rw [hme] at g0
    obtain ⟨sm, g1⟩ := g0.ungh
    obtain ⟨ec, hxr2⟩ := id hxr
    have p1 : PostG X I0 H0 W Kx I (match Ls.lookup ee.cls with
      | some true => (match mh ee with
        | .ok y => .ok y
        | _ => .stuck)
      | some false => .err ee
      | none => .stuck) G' GL rr D := p
    cases hl : Ls.lookup ee.cls with
    | none => rw [hl] at p1; exact p1.elim
    | some bb =>
      rw [hl] at p1
      refine ⟨bb, by rw [ec]; exact hL _ _ (lookup_mem hl), fun hb a ha oe pn' hz hf' => ?_, fun hb => ?_⟩
      · subst hb
        refine js a oe ee d pn' (lookup_mem hl) I' H' _ _ g1 ?_
        have p2 : PostG X I0 H0 W Kx I (match mh ee with
          | .ok y => .ok y
          | _ => .stuck) G' GL rr D := p1
        revert p2
        generalize mh ee = z
        intro p2
        cases z with
        | ok y =>
          cases y with
          | nx s => exact fun I2 H2 σ2 s2 q => p2 I2 H2 _ (sm.trans s2) q
          | bk s => exact fun I2 H2 σ2 s2 q => p2 I2 H2 _ (sm.trans s2) q
          | ct s => exact fun I2 H2 σ2 s2 q => p2 I2 H2 _ (sm.trans s2) q
          | rt y => exact p2
        | err _ => exact p2.elim
        | stuck => exact p2.elim
      · subst hb
        exact p1 I' H' σ' cls d (hx _ _ _ _ g1 fr) hxr
/-! with a payload of one field -/
def pay1 {δ : Type} (f : Str) (dp : Pay → Option α) (h : α → Res δ) (ps : List (Str × Pay)) : Res δ := match ps with
  | [(g, p)] => if g = f then (match dp p with
    | some y => h y
    | none => .stuck) else .stuck
  | _ => .stuck
def dInt : Pay → Option Int
  | .int n => some n
  | _ => none
def dStr : Pay → Option Str
  | .str n => some n
  | _ => none
def dFrac : Pay → Option Rat
  | .frac n => some n
  | _ => none
def dNum : Pay → Option Num
  | .int n => some (.i n)
  | .frac q => some (.q q)
  | _ => none
class PayD (K : PySem.W.Frag) (dp : Pay → Option α) (r : Rp α) : Prop where
  ok : ∀ I v p y, PayR K I v p → dp p = some y → r I v y
instance {K : PySem.W.Frag} : PayD K dInt rInt := ⟨fun I v p y h e => by cases p <;> first | (cases e; exact h) | cases e⟩
instance {K : PySem.W.Frag} : PayD K dStr rStr := ⟨fun I v p y h e => by cases p <;> first | (cases e; exact h) | cases e⟩
instance {K : PySem.W.Frag} : PayD K dFrac (rFrac K) := ⟨fun I v p y h e => by cases p <;> first | (cases e; exact h) | cases e⟩
instance {K : PySem.W.Frag} : PayD K dNum (rNum K) := ⟨fun I v p y h e => by cases p <;> first | (cases e; exact h) | cases e⟩
theorem J1G.tryAs1 (i : Nat) (f : Str) (dp : Pay → Option α) {c0 : Str} {cv : Value} {Ls : List (Str × Bool)} {mb : Res (Fl S L γ)} {G' : S → Knows} {GL : L → Knows} {mh : α → Res (Fl S L γ)} {me' : Hp → List MF} (tk : Takes X W)
    (jb : ∀ (W' : WX) (pn : List (Addr × Obj)) (xe : Value → Shared → Prop) (I1 : Hp), Takes (X.tr pn xe) W' → PassesOwn (model X.prog X.w) X.A X.env xe → JG (X.tr pn xe) I0 H0 W' (fun I H σ d => Stt I0 H0 cw (me' I1) I H σ ∧ Fr H0 d) (Stt I0 H0 ctx (me' I1)) body mb G' GL rr)
    (js : ∀ (a : Addr) (oe : Obj) (dd : Addr) (pn : List (Addr × Obj)) (p : Pay) (y : α), Zc (.ref (He.ga X.K c0)) (some dd) oe → (∃ vs, oe.data = .fields vs) → dp p = some y → JG (X.suite a ((a, oe) :: pn)) I0 H0 (fun _ _ _ _ => False) (fun _ _ _ _ => True) (Stt I0 H0 (cw.set i (some ⟨rExc a, ()⟩)) (MF.xd X.K dd [(f, p)] :: mem)) (b₀ :: suite) (mh y) (fun s I H σ => G' s I H (σ.set i none)) (fun s I H σ => GL s I H (σ.set i none)) rr)
    (hcl : ∀ c, (c, true) ∈ Ls → c = c0) (hL : ∀ y b, (y, b) ∈ Ls → PySem.W.exmOne X.K (.ref (He.ga X.K y)) cv = some b) (hc : Names X x cv) (hx : ∀ I H σ d, Stt I0 H0 cw mem I H σ → Fr H0 d → Kx I H σ d) (hN : X.N.Nodup) (hme : ∀ I1, me' I1 = mem ++ [MF.same I1] := by intro _; rfl)
    (hs : X.stack = X.env :: X.outer := by rfl) (hf : X.env.frame = some X.env.locals := by rfl) (hi : X.N[i]? = some n := by rfl) (hln : X.env.kindOf n = some .local := by rfl) (hmx : NoXd mem := by exact True.intro) :
    J1G X I0 H0 W Kx (Stt I0 H0 ctx mem) (.Try body [.ExceptHandler (some (.Name x np)) (some n) (b₀ :: suite) pos'] [] [] pos) (tryG mb Ls (fun ee => pay1 f dp mh ee.pay)) G' GL rr := by
  refine J1G.tryAs i tk jb (fun a oe ee d pn hz hf' hm h0 h1 => ?_) hL hc hx hN hme hs hf hi hln hmx
  rw [hcl _ hm] at hz
  obtain ⟨ec, ep⟩ := ee
  dsimp only at h0 h1 ⊢
  cases ep with
  | nil => exact JG.dead
  | cons q ep =>
    cases ep with
    | cons _ _ => exact JG.dead
    | nil =>
      obtain ⟨g, p⟩ := q
      unfold pay1
      dsimp only
      by_cases hg : g = f
      · rw [if_pos hg]
        subst hg
        cases hd : dp p with
        | none => exact JG.dead
        | some y =>
          cases d with
          | none => cases h0 rfl
          | some dd => exact js a oe dd pn p y hz hf' hd
      · rw [if_neg hg]; exact JG.dead
theorem J1G.tryAs0 (i : Nat) {c0 : Str} {cv : Value} {Ls : List (Str × Bool)} {mb : Res (Fl S L γ)} {G' : S → Knows} {GL : L → Knows} {mh : Res (Fl S L γ)} {me' : Hp → List MF} (tk : Takes X W)
    (jb : ∀ (W' : WX) (pn : List (Addr × Obj)) (xe : Value → Shared → Prop) (I1 : Hp), Takes (X.tr pn xe) W' → PassesOwn (model X.prog X.w) X.A X.env xe → JG (X.tr pn xe) I0 H0 W' (fun I H σ d => Stt I0 H0 cw (me' I1) I H σ ∧ Fr H0 d) (Stt I0 H0 ctx (me' I1)) body mb G' GL rr)
    (js : ∀ (a : Addr) (oe : Obj) (pn : List (Addr × Obj)), Zc (.ref (He.ga X.K c0)) none oe → (∃ vs, oe.data = .fields vs) → JG (X.suite a ((a, oe) :: pn)) I0 H0 (fun _ _ _ _ => False) (fun _ _ _ _ => True) (Stt I0 H0 (cw.set i (some ⟨rExc a, ()⟩)) mem) (b₀ :: suite) mh (fun s I H σ => G' s I H (σ.set i none)) (fun s I H σ => GL s I H (σ.set i none)) rr)
    (hcl : ∀ c, (c, true) ∈ Ls → c = c0) (hL : ∀ y b, (y, b) ∈ Ls → PySem.W.exmOne X.K (.ref (He.ga X.K y)) cv = some b) (hc : Names X x cv) (hx : ∀ I H σ d, Stt I0 H0 cw mem I H σ → Fr H0 d → Kx I H σ d) (hN : X.N.Nodup) (hme : ∀ I1, me' I1 = mem ++ [MF.same I1] := by intro _; rfl)
    (hs : X.stack = X.env :: X.outer := by rfl) (hf : X.env.frame = some X.env.locals := by rfl) (hi : X.N[i]? = some n := by rfl) (hln : X.env.kindOf n = some .local := by rfl) (hmx : NoXd mem := by exact True.intro) :
    J1G X I0 H0 W Kx (Stt I0 H0 ctx mem) (.Try body [.ExceptHandler (some (.Name x np)) (some n) (b₀ :: suite) pos'] [] [] pos) (tryG mb Ls (fun ee => if ee.pay.isEmpty = true then mh else .stuck)) G' GL rr := by
  refine J1G.tryAs i tk jb (fun a oe ee d pn hz hf' hm h0 h1 => ?_) hL hc hx hN hme hs hf hi hln hmx
  rw [hcl _ hm] at hz
  obtain ⟨ec, ep⟩ := ee
  dsimp only at h0 h1 ⊢
  cases ep with
  | cons _ _ => exact JG.dead
  | nil =>
    cases d with
    | some dd => exact absurd rfl (h1 dd rfl)
    | none => exact js a oe pn hz hf'
/-- a field of the error in hand -/
theorem JE.xfld (i j : Nat) {ad dd : Addr} {oe : Obj} {pn : List (Addr × Obj)} {c0 : Str} {ps : List (Str × Pay)} {p : Pay} {y : α} {dp : Pay → Option α} [pd : PayD X.K dp r] (hz : Zc (.ref (He.ga X.K c0)) (some dd) oe) (hf : ∃ vs, oe.data = .fields vs) (ev : XfC X.K (He.ga X.K c0)) (hno : PySem.W.findIn X.K (.ref (He.ga X.K c0)) f = some none) (hd : dp p = some y) (hl : ps.lookup f = some p) (je : JE (X.suite ad ((ad, oe) :: pn)) I0 H0 W ctx mem a (.ok ()) (rp (rExc ad))) (hj : mem[j]? = some (MF.xd X.K dd ps) := by rfl) (hab : attributeBase a f X.env (eval a X.env) = eval a X.env := by rfl) :
    JE (X.suite ad ((ad, oe) :: pn)) I0 H0 W ctx mem (.Attribute a f pos) (.ok y) (rp r) := fun I H σ Q st q => by
  refine PE.w (pe_xf ev hno hz hf pe_W hab) (je I H σ _ st ?_)
  intro I1 H1 v f1 r1
  have ev1 : v = .ref ad := r1
  obtain ⟨_, _, o, h1, fs, e1, pr⟩ := (st.step f1).me1 (P := fun I o => ∃ fs, o = .xd fs ∧ Paired (fun (p : Str × V) (q : Str × Pay) => p.1 = q.1 ∧ PayR X.K I p.2 q.2) fs ps) hj fun q => q
  subst e1
  have look : ∀ {fs : List (Str × V)} {ps : List (Str × Pay)}, Paired (fun (p : Str × V) (q : Str × Pay) => p.1 = q.1 ∧ PayR X.K I1 p.2 q.2) fs ps → ps.lookup f = some p → ∃ v, fs.lookup f = some v ∧ PayR X.K I1 v p := by
    intro fs ps h
    induction h with
    | nil => intro h; cases h
    | @cons u w us ws hh ht ih =>
      intro hl
      obtain ⟨u1, u2⟩ := u
      obtain ⟨w1, w2⟩ := w
      obtain ⟨e, hp⟩ := hh
      dsimp only at e hp
      subst e
      have hl' : (match f == u1 with | true => some w2 | false => ws.lookup f) = some p := hl
      show ∃ v, (match f == u1 with | true => some u2 | false => us.lookup f) = some v ∧ _
      cases hb : f == u1 with
      | true => rw [hb] at hl'; cases hl'; exact ⟨u2, rfl, hp⟩
      | false => rw [hb] at hl'; exact ih hl'
  obtain ⟨z, hz1, hz2⟩ := look pr hl
  exact ⟨ev1, rfl, dd, fs, z, rfl, h1, hz1, q I1 H1 z f1 (pd.ok I1 z p y hz2 hd)⟩
theorem tyr_listH {K : PySem.W.Frag} {t : String} {g : Bool} (h : kitB "list" t = some g) : TyR K (rH r) (.type t) (fun _ => g) := fun I H v x s ⟨l, vs, e, hl, _⟩ => ⟨.type "list", by rw [e]; exact .base (.lst hl), kit_ty h⟩
theorem FnOk.froz {P : Program} {w : World} {K : PySem.W.Frag} {mg : Str → Option Value} {base : Heap} {CX : CXT} {k : Nat} {fl : Addr} {fd : FuncData} {ps : List Str} {R : Hp → Hp → List V → δ → Prop} {m : δ → Res (List α)} [mo : Mo r] (F : FnOk P w K mg base CX k fl fd ps (spN K R m r)) : FnOk P w K mg base CX k fl fd ps (spF K R m (rp (rL r))) := by
  have conv : ∀ {vs H Q E}, spF K R m (rp (rL r)) vs H Q E → spN K R m r vs H Q E := fun {vs H Q E} ⟨I, d, sm, h, p⟩ => ⟨I, d, sm, h, by
    revert p
    generalize m d = z
    intro p
    cases z with
    | ok xs =>
      intro I1 H1 v f hn
      obtain ⟨l, vs, e, hl, hI, h1, pr⟩ := hn
      obtain ⟨f2, sm⟩ := f.ice hl hI h1
      subst e
      exact p _ H1 _ f2 ⟨l, vs, rfl, upd_same, Paired.mapP pr fun _ _ z => mo.up sm z⟩
    | err e => exact p
    | stuck => exact p⟩
  exact ⟨fun vs H Q E h => F.len vs H Q E (conv h), fun A outer s H args us vs Q E hr e0 b v h => F.run A outer s H args us vs Q E hr e0 b v (conv h)⟩
end
end L2.Tr

namespace L2.Tr
open PySem PySem.Spec PyProof.Rows He
section
variable {α β γ δ S L : Type} {X : Cx} {I0 H0 I H : Hp} {W : WX} {Kx : KnowsX} {G : Knows} {ctx : List (Option SF)} {mem : List MF} {e a b c o : Expr} {es : List Expr} {st : Stmt} {ss s1 : List Stmt} {pos pos' p2 : Pos} {n : Str} {σ : St} {Q : VK} {r : Rp α} {ra : Ra α} {rb : Ra β} {rc : Ra γ} {rr : Ra γ} {ma : Res α} {mb : Res β} {mc : Res Bool} {md : Res δ} {R : Hp → Hp → List V → δ → Prop} {K : PySem.W.Frag}
/-! ### num != num -/
theorem opj_nnN {f : Rat × Num × Unit → Res Bool} {F : Value → Value → Sem Value} (h1 : OpJ X W F (rp rInt) (rp rInt) (fun x y => .ok (!decide (x = y))) (rp rBl)) (h2 : OpJ X W F (rp rInt) (rp (rFrac X.K)) (fun x y => (f (y, .i x, ())).bind fun z => .ok (!z)) (rp rBl)) (h3 : OpJ X W F (rp (rFrac X.K)) (rp (rFrac X.K)) (fun x y => (f (x, .q y, ())).bind fun z => .ok (!z)) (rp rBl)) (h4 : OpJ X W F (rp (rFrac X.K)) (rp rInt) (fun x y => (f (x, .i y, ())).bind fun z => .ok (!z)) (rp rBl)) :
    OpJ X W F (rp (rNum X.K)) (rp (rNum X.K)) (fun x y => (nnEq f x y).bind fun z => .ok (!z)) (rp rBl) := fun I H σ Q u v x y s a b p => by
  cases x with
  | i n =>
    cases y with
    | i m => exact h1 I H σ Q u v n m s a b p
    | q m => exact h2 I H σ Q u v n m s a b p
  | q n =>
    cases y with
    | i m => exact h4 I H σ Q u v n m s a b p
    | q m => exact h3 I H σ Q u v n m s a b p
/-! ### lists of pairs of ints: == and != -/
abbrev rPr : Rp (Int × Int × Unit) := rTu (aCons (rp rInt) (aCons (rp rInt) aNil))
def prD2 (p : Int × Int × Unit) : PyData := .tuple [.int p.1, .int p.2.1]
theorem dpAll_prs {I H : Hp} (sm : Same I H) : ∀ {vs : List V} {xs : List (Int × Int × Unit)}, Paired (rp rPr I H) vs xs → DpAll K H vs (xs.map prD2)
  | _, _, .nil => .nil
  | _, _, .cons h t => .cons (by
      obtain ⟨l, ws, rfl, hl, v1, w1, rfl, h1, v2, w2, rfl, h2, rfl⟩ := h
      cases (show v1 = V.int _ from h1)
      cases (show v2 = V.int _ from h2)
      exact .tup (SqT.of (sm _ _ hl)) (.cons (.int _) (.cons (.int _) .nil))) (dpAll_prs sm t)
theorem eqvAll_prs : ∀ xs ys : List (Int × Int × Unit), PyData.eqvAll (xs.map prD2) (ys.map prD2) = decide (xs = ys)
  | [], [] => rfl
  | [], _ :: _ => rfl
  | _ :: _, [] => rfl
  | x :: xs, y :: ys => by
    show (PyData.eqv (prD2 x) (prD2 y) && PyData.eqvAll (xs.map prD2) (ys.map prD2)) = _
    rw [eqvAll_prs xs ys]
    have e : PyData.eqv (prD2 x) (prD2 y) = ((x.1 == y.1) && ((x.2.1 == y.2.1) && true)) := by simp only [prD2, PyData.eqv, PyData.eqvAll]
    rw [e]
    obtain ⟨a, b, u⟩ := x
    obtain ⟨c, d, v⟩ := y
    cases u; cases v
    by_cases h1 : a = c <;> by_cases h2 : b = d <;> by_cases h' : xs = ys <;> simp [h1, h2, h']
theorem shaped_prs (xs : List (Int × Int × Unit)) : SeqAt.shaped (.list (xs.map prD2)) = true := by
  have h1 : ∀ xs : List (Int × Int × Unit), PyData.canLayAll0 (xs.map prD2) = true := fun xs => by
    induction xs with
    | nil => rfl
    | cons x xs ih => show (true && _) = true; rw [ih]; rfl
  have h2 : PyData.depth (.list (xs.map prD2)) ≤ 64 := by
    have : ∀ xs : List (Int × Int × Unit), PyData.depthAll (xs.map prD2) ≤ 5 := fun xs => by
      induction xs with
      | nil => exact Nat.zero_le _
      | cons x xs ih =>
        show max (PyData.depth (prD2 x)) (PyData.depthAll (xs.map prD2)) ≤ 5
        have : PyData.depth (prD2 x) ≤ 5 := by simp only [prD2, PyData.depth, PyData.depthAll]; omega
        omega
    have := this xs
    show PyData.depthAll _ + 1 ≤ 64
    omega
  unfold SeqAt.shaped
  rw [Bool.and_eq_true]
  exact ⟨h1 xs, decide_eq_true h2⟩
theorem opj_eqPL (hu : X.A.units + 64 < cLine) : OpJ X W (compareOp .Eq) (rdL X.K (rp rPr)) (rdL X.K (rp rPr)) (fun x y => .ok (decide (x = y))) (rp rBl) := fun I H σ Q u v x y s ⟨l, vs, e1, h1, p1⟩ ⟨l', vs', e2, h2, p2⟩ p => by
  subst e1; subst e2
  exact OpR.w (op_eqD hu) ⟨.list (x.map prD2), .list (y.map prD2), .lst h1 (dpAll_prs s p1), .lst h2 (dpAll_prs s p2), shaped_prs _, shaped_prs _, p I H _ (Fm.refl s) (by show V.bl (PyData.eqvAll _ _) = _; rw [eqvAll_prs])⟩
theorem opj_nePL (hu : X.A.units + 64 < cLine) : OpJ X W (compareOp .NotEq) (rdL X.K (rp rPr)) (rdL X.K (rp rPr)) (fun x y => .ok (!decide (x = y))) (rp rBl) := fun I H σ Q u v x y s ⟨l, vs, e1, h1, p1⟩ ⟨l', vs', e2, h2, p2⟩ p => by
  subst e1; subst e2
  exact OpR.w (op_neD hu) ⟨.list (x.map prD2), .list (y.map prD2), .lst h1 (dpAll_prs s p1), .lst h2 (dpAll_prs s p2), shaped_prs _, shaped_prs _, p I H _ (Fm.refl s) (by show V.bl (!PyData.eqvAll _ _) = _; rw [eqvAll_prs])⟩
theorem cj_lenD {n : Nat} (hk : ∀ I H vs x, R I H vs x → vs.length = n) : CallJ X W (.builtin "len") (R1 (rp (rTu R))) (fun _ => .ok (n : Int)) (rp rInt) := fun I H σ Q vs x s a p => by
  obtain ⟨v, ws, rfl, ⟨l, vs, rfl, hl, pr⟩, rfl⟩ := a
  exact CallR.w call_len_seq ⟨l, vs, rfl, .inr (SqT.of (s _ _ hl)), by rw [hk _ _ _ _ pr]; exact p I H _ (Fm.refl s) rfl⟩
/-! ### range(a, b, -1) -/
theorem JI.rngDown {tg : Expr} {m m' m'' : Res Int} (j : JE X I0 H0 W ctx mem a m (rp rInt)) (j' : JE X I0 H0 W ctx mem b m' (rp rInt)) (j'' : JE X I0 H0 W ctx mem c m'' (rp rInt)) (hm : X.mg "range" = none) (hc : m'' = .ok (-1) := by rfl) (hg : Gl X "range" := by rfl) (hs : starEach [a, b, c] X.env = (false, eval a X.env) :: starEach [b, c] X.env := by rfl) (hs2 : starEach [b, c] X.env = (false, eval b X.env) :: starEach [c] X.env := by rfl) (hs3 : starEach [c] X.env = (false, eval c X.env) :: starEach [] X.env := by rfl) (hpl : (backTo pos (starEach [b, c] X.env)).any (·.1) = false := by rfl) :
    JI X I0 H0 W ctx mem tg (.Call (.Name "range" pos') [a, b, c] [] pos) (m.bind fun x => m'.bind fun y => rangeD x y) rInt := fun I H σ R st p => by
  subst hc
  refine PI.w (pi_range3 hg hm (pa_cons pe_W (pa_cons pe_W (pa_cons pe_W pa_nil hs3) hs2) hs) hs hpl) (j I H σ _ st ?_)
  cases m with
  | ok x =>
    intro I1 H1 v f1 r1
    refine j' I1 H1 σ _ (st.step f1) ?_
    cases m' with
    | ok y =>
      intro I2 H2 v2 f2 r2
      refine j'' I2 H2 σ _ ((st.step f1).step f2) ?_
      intro I3 H3 v3 f3 r3
      cases (show v = V.int x from r1)
      cases (show v2 = V.int y from r2)
      cases (show v3 = V.int (-1) from r3)
      by_cases hh : -(2 ^ 62) ≤ x ∧ x < 2 ^ 62 ∧ -(2 ^ 62) ≤ y ∧ y < 2 ^ 62
      · have e : ((Res.ok x).bind fun x => (Res.ok y).bind fun y => rangeD x y) = .ok (rngCI x (-1) (x - y).toNat) := Res.guard_pos hh _
        rw [e] at p
        exact ⟨x, y, -1, _, rfl, RgC.neg hh.1 hh.2.1 hh.2.2.1 hh.2.2.2, p I3 H3 _ _ _ ((f1.trans f2).trans f3) itr_rngC (fun _ _ _ _ _ => True.intro) rngC_pair⟩
      · have e : ((Res.ok x).bind fun x => (Res.ok y).bind fun y => rangeD x y) = .stuck := if_neg hh
        rw [e] at p
        exact p.elim
    | err e => exact fun I2 H2 c d f2 x => p I2 H2 c d (f1.trans f2) ⟨x.1.back f1.h, x.2⟩
    | stuck => exact p
  | err e => exact p
  | stuck => exact p
end
end L2.Tr

/-! lists of numbers that are equal item by item: != tells False -/
namespace GQ
open PySem PySem.SeqAt
open AutoSeq1 (wpAny_loadPart')
open MeetsSeq MeetsSeq2 MeetsSeq3 SeqRoads2
section
variable {prog : Program} {w : World} {A : Around} {R : Result → Shared → Prop} {E : Value → Shared → Prop} {s : Shared}
theorem ne_run {p q : Addr} {N : Nat} {J : Nat → Shared → Prop} (hJ : ListI prog w A (fun e t => R (.error e) t) p q N J) (stop : ∀ t, J N t → R (.ok (.ret (.bool false))) t) :
    ∀ (k i : Nat), i + k = N → ∀ t, J i t → wpAny (model prog w) A.in1 (Builtin.«list.__eq__.loop» ⟨[.ref p, .ref q, rawInt i, rawInt 3], []⟩) (FinOf prog w A R) (fun e t => R (.error e) t) t
  | 0, i, ei, t, j => by
    obtain rfl : i = N := ei
    have done := stop t j
    obtain ⟨us, vs, c1, c2, gp, gq, z1, z2, _⟩ := hJ i t j
    have o1 : us[((i : Nat) : Int).toNat]? = none := by rw [Int.toNat_natCast]; exact Array.getElem?_eq_none (by omega)
    have o2 : vs[((i : Nat) : Int).toNat]? = none := by rw [Int.toNat_natCast]; exact Array.getElem?_eq_none (by omega)
    obtain ⟨t1, t2, t3, t4, t5⟩ := t
    wp_walk using wpAny_loadPart' gp, wpAny_loadPart' gq
    rw [o1, o2]
    wp_walk using wpAny_loadPart' gp, wpAny_loadPart' gq
    have ez : (us.size != vs.size) = false := by rw [z1, z2]; simp
    show R (.ok (.ret (.bool (us.size != vs.size)))) _
    rw [ez]
    exact done
  | k + 1, i, ei, t, j => by
    obtain ⟨us, vs, c1, c2, gp, gq, z1, z2, next⟩ := hJ i t j
    have a1 : i < us.size := by omega
    have a2 : i < vs.size := by omega
    have o1 : us[((i : Nat) : Int).toNat]? = some us[i] := by rw [Int.toNat_natCast]; exact Array.getElem?_eq_getElem a1
    have o2 : vs[((i : Nat) : Int).toNat]? = some vs[i] := by rw [Int.toNat_natCast]; exact Array.getElem?_eq_getElem a2
    have one := next a1 a2
    obtain ⟨t1, t2, t3, t4, t5⟩ := t
    wp_walk using wpAny_loadPart' gp, wpAny_loadPart' gq
    rw [o1, o2]
    refine wpAny_bind (wpAny_mono one (fun x t' hx => ?_) fun _ _ z => z)
    obtain ⟨rfl, j'⟩ := hx
    have rest := ne_run hJ stop k (i + 1) (by omega) t' j'
    obtain ⟨t1', t2', t3', t4', t5'⟩ := t'
    wp_walk
    rw [show ((i : Int) + 1) = ((i + 1 : Nat) : Int) from rfl]
    refine ⟨plainId_quiet plain_eq_loop _, codeAny_builtin entry_eq_loop ?_⟩
    rw [Around.under_plainId plain_eq_loop _]
    exact rest
theorem ne_lists {p q : Addr} {N : Nat} {Q : Value → Shared → Prop} (hu : A.units < cLine) {J : Nat → Shared → Prop} (hJ : ListI prog w A E p q N J) (stop : ∀ t, J N t → Q (.bool false) t) (j0 : J 0 s) : wpAny (model prog w) A (richCompare .NotEq (.ref p) (.ref q)) Q E s := by
  have go := ne_run (R := wants (fun v t => v ≠ .notImplemented ∧ Q v t) E) hJ (fun t j => ⟨(fun x => nomatch x), stop t j⟩) N 0 (Nat.zero_add N) s j0
  obtain ⟨us, vs, c1, c2, gp, gq, z1, z2, _⟩ := hJ 0 s j0
  have ez : ¬ (us.size != vs.size) = true := by rw [z1, z2]; simp
  refine wpAny_richCompare_same_room (op := .NotEq) ⟨_, gp, rfl⟩ ⟨_, gq, rfl⟩ F.slot_list_ne (call_here F.slot_list_ne ⟨_, gp, rfl⟩ F.entry_list_ne (F.args_list_ne_2 _ _) ?_) hu
  have sub := AutoSeq1.sub_list_list
  obtain ⟨t1, t2, t3, t4, t5⟩ := s
  wp_walk using wpAny_loadPart' gp, wpAny_loadPart' gq
  refine ⟨plainId_quiet plain_eq_loop _, codeAny_builtin entry_eq_loop ?_⟩
  rw [Around.under_plainId plain_eq_loop _]
  exact go
end
end GQ
namespace L2.Tr
open PySem PySem.Spec PyProof.Rows He
instance : DecidableEq Num := fun x y => match x, y with
  | .i a, .i b => if h : a = b then .isTrue (by rw [h]) else .isFalse fun e => h (by cases e; rfl)
  | .q a, .q b => if h : a = b then .isTrue (by rw [h]) else .isFalse fun e => h (by cases e; rfl)
  | .i _, .q _ => .isFalse fun e => nomatch e
  | .q _, .i _ => .isFalse fun e => nomatch e
section
variable {X : Cx} {W : WX} {n : Nat} {D : Eqv}
theorem ne_data (hD : Mon D) (h : EqG X n D) {A : Around} {pins : List (Addr × Obj)} {s : Shared} {σ : St} {H : Hp} {a b : Addr} {xs ys : List V} (sb : Sub X (n + 1) A) (I : Inv X pins σ H s) (ha : H a = some (.lst xs)) (hb : H b = some (.lst ys)) (p : Prs D xs ys H) :
    wpAny (model X.prog X.w) A (richCompare .NotEq (.ref a) (.ref b)) (fun r t => r = .bool false ∧ ∃ H', Inv X pins σ H' t ∧ Ext H H') X.xe s :=
  GQ.ne_lists (N := xs.length) (J := fun _ t => LoopI X pins σ H t) sb.room.units0 (fun i t q => by
    obtain ⟨H1, I1, x1⟩ := id q
    obtain ⟨_, us, k, r, e⟩ := I1.hok a _ (x1 _ _ ha)
    obtain ⟨_, vs, k2, r2, e2⟩ := I1.hok b _ (x1 _ _ hb)
    exact ⟨us.toArray, vs.toArray, k, k2, e, e2, by rw [List.size_toArray, ← r.length], by rw [List.size_toArray, ← r2.length, ← p.1], fun h1 h2 => turnG hD h sb p r r2 i h1 h2 t q⟩) (fun t q => ⟨rfl, q⟩) ⟨H, I, Ext.rfl'⟩
/-- two Fractions of one worth -/
def DFr (K : PySem.W.Frag) : Eqv := fun x y H => ∃ I q, Same I H ∧ rFrac K I x q ∧ rFrac K I y q
theorem rcG_fr {k : Nat} {f : Addr} {gb : Rat × Num × Unit → Res Bool} (hm : OMet X.K (He.ga X.K "Fraction") "__eq__" f) (F : FnR X.prog X.w X.K X.mg X.base (L2.CX X.prog X.w) k f (spF X.K (R2' (rp (rFrac X.K)) (rp (rNum X.K))) gb (rp rBl))) (tk : Takes X W) (hg : ∀ q, gb (q, .q q, ()) = .ok true) : RcG X k (DFr X.K) := by
  rintro A pins s σ H _ _ u v sb I rx ry ⟨Ig, q, sm, ⟨a, dx, rfl, ha⟩, ⟨b, dy, rfl, hb⟩⟩
  obtain rfl : u = Value.ref a := rx
  obtain rfl : v = Value.ref b := ry
  obtain ⟨od, J⟩ := insAt I (sm _ _ ha)
  obtain ⟨od', J'⟩ := insAt I (sm _ _ hb)
  obtain ⟨m, hF⟩ := I.fr
  refine PySem.W.cmp_K (op := .Eq) (tb := .ref (He.ga X.K "Fraction")) sb.room.units0 hF I.ok.mod.kin J J'.type (by simp [PySem.W.notFirst]) hm.at_ hm.fn ?_
  have env : Env0 X.prog X.w X.K X.mg X.base A X.stack s H := { I.env0 with frames := by rw [sb.fr]; exact I.env0.frames }
  have post : spF X.K (R2' (rp (rFrac X.K)) (rp (rNum X.K))) gb (rp rBl) [.ref a, .ref b] H (fun v H' => v = .bl true ∧ Ext H H') (fun cls d H' => W cls d σ H') :=
    ⟨Ig, (q, .q q, ()), sm, ⟨.ref a, [.ref b], rfl, ⟨a, dx, rfl, ha⟩, .ref b, [], rfl, ⟨b, dy, rfl, hb⟩, rfl⟩, by rw [hg q]; exact fun I' H' v f r => ⟨r, f.h⟩⟩
  refine wpAny_call (codeAny_mono (F A X.stack s H [.ref a, .ref b] [.ref a, .ref b] _ _ sb.room env (.cons rfl (.cons rfl .nil)) post) fun r t hq => ?_)
  cases r with
  | error e => exact passAt tk σ pins H s e t I hq
  | ok fl =>
    cases fl with
    | ret w =>
      obtain ⟨z, H', I', rz, rfl, ex⟩ := I.after hq
      cases rz
      exact ⟨rfl, H', I', ex⟩
    | next => exact False.elim hq
    | brk => exact False.elim hq
    | cont => exact False.elim hq
/-- two numbers, ints or Fractions alike -/
def DNm (K : PySem.W.Frag) : Eqv := fun x y H => ∃ I n, Same I H ∧ rNum K I x n ∧ rNum K I y n
theorem mon_nm {K : PySem.W.Frag} : Mon (DNm K) := fun x y H H' e ⟨I, n, s, a, b⟩ => ⟨I, n, fun p o h => e _ _ (s _ _ h), a, b⟩
theorem eqG_nm {k : Nat} {f : Addr} {gb : Rat × Num × Unit → Res Bool} (hm : OMet X.K (He.ga X.K "Fraction") "__eq__" f) (F : FnR X.prog X.w X.K X.mg X.base (L2.CX X.prog X.w) k f (spF X.K (R2' (rp (rFrac X.K)) (rp (rNum X.K))) gb (rp rBl))) (tk : Takes X W) (hg : ∀ q, gb (q, .q q, ()) = .ok true) : EqG X k (DNm X.K) := fun A pins s σ H x y u v sb I rx ry d => by
  obtain ⟨I0, n, sm, a, b⟩ := d
  cases n with
  | i n =>
    cases (show x = V.int n from a)
    cases (show y = V.int n from b)
    exact (eqG_flat (X := X)).mono (Nat.zero_le k) A pins s σ H _ _ u v sb I rx ry ⟨rfl, rfl, by simp [eqV]⟩
  | q q =>
    exact (rcG_fr hm F tk hg).eqG (fun x y H ⟨_, _, _, ⟨a, _, ea, _⟩, ⟨b, _, eb, _⟩⟩ => ⟨a, b, ea, eb⟩) A pins s σ H x y u v sb I rx ry ⟨I0, q, sm, a, b⟩
theorem prs_nm {K : PySem.W.Frag} {I H : Hp} (sm : Same I H) : ∀ {vs ws : List V} {xs : List Num}, Paired (rNum K I) vs xs → Paired (rNum K I) ws xs → Prs (DNm K) vs ws H
  | _, _, _, .nil, .nil => Prs.nil
  | _, _, _, .cons a t, .cons b t' => Prs.cons ⟨I, _, sm, a, b⟩ (prs_nm sm t t')
theorem opj_neNL {k : Nat} {f : Addr} {gb : Rat × Num × Unit → Res Bool} (hm : OMet X.K (He.ga X.K "Fraction") "__eq__" f) (F : FnR X.prog X.w X.K X.mg X.base (L2.CX X.prog X.w) k f (spF X.K (R2' (rp (rFrac X.K)) (rp (rNum X.K))) gb (rp rBl))) (tk : Takes X W) (hg : ∀ q, gb (q, .q q, ()) = .ok true) (hr : Room (k + 1) X.A) :
    OpJ X W (compareOp .NotEq) (rH (rNum X.K)) (rH (rNum X.K)) (fun xs ys => Res.guard (xs = ys) (.ok false)) (rp rBl) := fun I H σ Q u v x y s ⟨l, vs, e1, h1, p1⟩ ⟨l', vs', e2, h2, p2⟩ p pins sh uu vv Iv ru rv => by
  by_cases hxy : x = y
  · subst hxy
    subst e1; subst e2
    dsimp only at p
    rw [Res.guard_pos rfl] at p
    obtain rfl : uu = Value.ref l := ru
    obtain rfl : vv = Value.ref l' := rv
    show wpAny (model X.prog X.w) X.A (richCompare .NotEq _ _) (EP X pins σ Q) X.xe sh
    refine wpAny_mono (ne_data mon_nm (eqG_nm hm F tk hg) ⟨hr, rfl⟩ Iv h1 h2 (prs_nm s p1 p2)) (fun r s' z => ?_) fun _ _ x => x
    obtain ⟨rfl, H', I', e⟩ := z
    exact ⟨.bl false, H', I', rfl, p I H' _ ⟨Same.refl _, e, fun a o h => e _ _ (s _ _ h), fun _ e _ => e⟩ rfl⟩
  · have e : (Res.guard (x = y) (.ok false) : Res Bool) = .stuck := if_neg hxy
    dsimp only at p
    rw [e] at p
    exact p.elim
end
end L2.Tr

namespace L2.Tr
open PySem PySem.Spec PyProof.Rows He
section
variable {α β γ δ S L : Type} {X : Cx} {I0 H0 I H : Hp} {W : WX} {ctx : List (Option SF)} {mem : List MF} {e a b c o : Expr} {es : List Expr} {pos pos' p2 : Pos} {n : Str} {σ : St} {Q : VK} {K : PySem.W.Frag}
theorem qEq_refl (q : Rat) : qEq q (.q q) = .ok true := by
  unfold qEq
  rw [show (Num.q q).val = q from rfl, decide_eq_true rfl]
/-! ### isinstance(e, c), e an error in hand that has values -/
def rIsV (K : PySem.W.Frag) (D ad dd : Addr) : List V → Hp → VK → Prop := fun xs H Q => ∃ (c : V) (u : Value) (t : Bool), xs = [.ref ad, c] ∧ (∀ v, RelV c v → v = u) ∧ PySem.W.kitOne K (.ref D) u = some t ∧ (∃ fs, H dd = some (.xd fs)) ∧ Q (.bl t) H
theorem call_isV {ad D dd : Addr} {oe : Obj} {pn : List (Addr × Obj)} (C : ExcC X.K D) (hz : Zc (.ref D) (some dd) oe) (hf : ∃ vs, oe.data = .fields vs) : CallR (X.suite ad ((ad, oe) :: pn)) (.builtin "isinstance") (rIsV X.K D ad dd) := by
  rintro pins s σ H xs us Q I r ⟨c, u, t, rfl, hu, hk, ⟨fs, hd⟩, q⟩
  cases r with | cons rx rr =>
  cases rr with | cons rt rr =>
  cases rr
  cases rx
  obtain rfl := hu _ rt
  obtain ⟨at_, _⟩ := I.pin (ad, oe) (List.mem_append_left _ List.mem_cons_self)
  obtain ⟨vs, hv⟩ := hf
  obtain ⟨mA, hns, _⟩ := (show ObjOk X.prog X.w H s.heap dd (.xd fs) from I.hok dd _ hd)
  obtain ⟨od, ho, _⟩ := lookIn_ns hns
  have J : PySem.W.InstAt s.heap ad oe D (some od) := ⟨at_, hz.1, by unfold PySem.W.notCls; rw [hv] <;> rfl, by rw [hz.2]; exact ho⟩
  have hcl : (PySem.W.clsIn X.K D).isSome = true := by obtain ⟨cd, h1, _⟩ := PySem.W.any_some C.hd; rw [h1]; rfl
  exact PySem.W.kia_one (PySem.W.kitx_exc hcl C.hg C.hk C.hs C.ha C.hn C.ht C.hm) I.kIn J hk (fun z => nomatch z) fun tk => ⟨.bl t, H, I.kept (t' := tk) fun _ _ z => z, rfl, q⟩
theorem JE.isV (j : Nat) {ad dd : Addr} {oe : Obj} {pn : List (Addr × Obj)} {D : Addr} {u : Value} {cv : V} {bb : Bool} {ps : List (Str × Pay)} (hz : Zc (.ref D) (some dd) oe) (hf : ∃ vs, oe.data = .fields vs) (C : ExcC X.K D) (hk : PySem.W.kitOne X.K (.ref D) u = some bb) (je : JE (X.suite ad ((ad, oe) :: pn)) I0 H0 W ctx mem a (.ok ()) (rp (rExc ad))) (jc : ∀ σ H Q, Q cv H → wE (X.suite ad ((ad, oe) :: pn)) b σ H Q) (hc : ClsV cv u) (hm : X.mg "isinstance" = none) (hj : mem[j]? = some (MF.xd X.K dd ps) := by rfl) (hg : Gl (X.suite ad ((ad, oe) :: pn)) "isinstance" := by rfl)
    (hs : starEach [a, b] X.env = (false, eval a X.env) :: starEach [b] X.env := by rfl) (hs2 : starEach [b] X.env = (false, eval b X.env) :: starEach [] X.env := by rfl) (hpl : (backTo pos (starEach [b] X.env)).any (·.1) = false := by rfl) :
    JE (X.suite ad ((ad, oe) :: pn)) I0 H0 W ctx mem (.Call (.Name "isinstance" pos') [a, b] [] pos) (.ok bb) (rp rBl) := fun I H σ Q st p => by
  refine w_callB (id := "isinstance") (Tr.w_cons (je I H σ _ st ?_) hs) hm (by decide +kernel) hg (by decide) (by decide) hs hpl
  intro I1 H1 v f1 r1
  cases (show v = V.ref ad from r1)
  obtain ⟨_, _, o, h1, fs, e1, _⟩ := (st.step f1).me1 (P := fun I o => ∃ fs, o = .xd fs ∧ Paired (fun (p : Str × V) (q : Str × Pay) => p.1 = q.1 ∧ PayR X.K I p.2 q.2) fs ps) hj fun q => q
  subst e1
  refine Tr.w_cons (jc σ H1 _ (w_nil ?_)) hs2
  exact CallR.w (call_isV C hz hf) ⟨cv, u, bb, rfl, fun w hw => hc.eq hw, hk, ⟨fs, h1⟩, p I1 H1 _ f1 rfl⟩
/-! ### C.m(k = v, ..), m a classmethod -/
section
variable {ε : Type} {kws : List Keyword} {ks : List Str} {R : Hp → Hp → List V → δ → Prop} {R' : Hp → Hp → List V → ε → Prop} {rc : Ra γ} {me : Res ε}
def codeKW (X : Cx) (f : Value) (ks : List Str) (σ : St) (xs zs : List V) (H : Hp) (Q : VK) : Prop := ∀ (pins : List (Addr × Obj)) (s : Shared) (us ws : List Value), Inv X pins σ H s → Vals xs us → Vals zs ws → codeAny (model X.prog X.w) X.A (.call f ⟨us, ks.zip ws⟩) (fun r t => match r with
  | .ok (.ret v) => EP X pins σ Q v t
  | .ok _ => False
  | .error e => X.xe e t) s
def CodeKJ (X : Cx) (W : WX) (f : Value) (ks : List Str) (R : Hp → Hp → List V → δ → Prop) (R' : Hp → Hp → List V → ε → Prop) (g : δ → ε → Res γ) (rc : Ra γ) : Prop :=
  ∀ (I H : Hp) (σ : St) (Q : VK) (vs zs : List V) (x : δ) (y : ε), Same I H → R I H vs x → R' I H zs y → PostE X.K (g x y) rc I H (fun cls d H' => W cls d σ H') Q → codeKW X f ks σ vs zs H Q
def MkKC (P : Program) (w : World) (K : PySem.W.Frag) (mg : Str → Option Value) (base : Heap) (k : Nat) (f : Addr) (ks : List Str) (R : Hp → Hp → List V → δ → Prop) (R' : Hp → Hp → List V → ε → Prop) (g : δ → ε → Res γ) (r : Ra γ) : Prop :=
  ∀ (X : Cx) (W : WX), X.prog = P → X.w = w → X.K = K → X.mg = mg → X.base = base → Room k X.A → Takes X W → CodeKJ X W (.ref f) ks R R' g r
theorem cjk_code {k n : Nat} {f : Addr} {fd : FuncData} {ps : List Str} {gg : List Value → List Value → List Value} {gV : List V → List V → List V} {η : Type} {Ri : Hp → Hp → List V → η → Prop} {m : η → Res γ} {h : δ → ε → η} (F : FnOk X.prog X.w X.K X.mg X.base (L2.CX X.prog X.w) k f fd ps (spF X.K Ri m rc)) (hr : Room k X.A)
    (hb : KBn X.K fd ps n ks gg gV) (tk : Takes X W) (hR : ∀ I H vs zs x y, R I H vs x → R' I H zs y → vs.length = n ∧ zs.length = ks.length ∧ Ri I H (gV vs zs) (h x y)) : CodeKJ X W (.ref f) ks R R' (fun x y => m (h x y)) rc := fun I H σ Q vs zs x y sm r r' p pins s us ws Iv rv rz => by
  obtain ⟨l1, l2, hRi⟩ := hR I H vs zs x y r r'
  refine codeAny_mono (F.run X.A X.stack s H ⟨us, ks.zip ws⟩ (gg us ws) (gV vs zs) Q _ hr Iv.env0 (hb.to s us ws Iv.kIn (rv.length.symm.trans l1) (rz.length.symm.trans l2)) (hb.rel rv rz) ⟨I, h x y, sm, hRi, p⟩) fun r s' hq => ?_
  cases r with
  | error e => exact passAt tk σ pins H s e s' Iv hq
  | ok fl =>
    cases fl with
    | ret u => exact Iv.after hq
    | next => exact False.elim hq
    | brk => exact False.elim hq
    | cont => exact False.elim hq
theorem JE.cmethK0 {pl : Sem Bool} {C p g : Addr} {mc : Value} {m : Str} {apos po : Pos} {g' : Unit × Unit → ε → Res γ} (hm : X.mg n = some (.ref C)) (cr : ClX.CRead X.K C mc) (cm : ClX.CMet X.K C mc m p g) (jk : JK X I0 H0 W ctx mem kws me R') (cj : CodeKJ X W (.ref g) ks (aCons (rp (rRef C)) aNil) R' g' rc)
    (hg : Gl X n := by rfl) (hdb : (n == ("__debug__" : Str)) = false := by decide) (hall : (backToKw po (keywordEach kws X.env)).all (·.1.isSome) = true := by rfl) (hks : (backToKw po (keywordEach kws X.env)).filterMap (·.1) = ks := by rfl)
    (hpl : ((backTo po (starEach [] X.env)).any (·.1) || (backToKw po (keywordEach kws X.env)).any (·.1.isNone)) = false := by rfl)
    (ht : eval (.Call (.Attribute (.Name n pos') m apos) [] kws po) X.env = (do
      let ov ← eval (.Name n pos') X.env
      standAt apos.atName
      let (f, first) ← holding [ov] (getMethod ov m pl)
      callWith po f first (backTo po (starEach [] X.env)) (backToKw po (keywordEach kws X.env))) := by rfl) :
    JE X I0 H0 W ctx mem (.Call (.Attribute (.Name n pos') m apos) [] kws po) (me.bind fun y => g' ((), ()) y) rc := fun I H σ Q st pp pins s Iv => by
  refine PySem.W.methodCall_KW (pl := pl) (ld_glob Iv hg hm ?_ hdb) ht
  refine ClX.getmethcm_ok Iv cr cm fun s2 I2 => ?_
  have run := jk po I H σ (fun zs H1 => codeKW X (.ref g) ks σ [.ref C] zs H1 Q) st (by
    cases me with
    | ok y => exact fun I1 H1 zs f1 r1 => cj I1 H1 σ Q [.ref C] zs ((), ()) y f1.ih ⟨.ref C, [], rfl, rfl, rfl⟩ r1 (PostE.up pp f1)
    | err e => exact pp
    | stuck => exact pp) _ s2 I2
  refine PySem.W.callWith_of hpl (PySem.W.keeps_M cm.fi) (PyProof.Rows.evalArgs_kw2_nil hall (thn run fun ws s3 ⟨zs, H2, I3, rz, q2⟩ => ⟨⟨ClX.pin_at I3, I3.kIn⟩, ?_⟩))
  rw [hks]
  exact thn (wpAny_call (PySem.W.method_call (ClX.pin_at I3) (q2 _ s3 [.ref C] ws I3 (.cons rfl .nil) rz))) fun _ _ y => ClX.unpinE y
end
end
end L2.Tr

namespace L2.Tr
open PySem PySem.Spec PyProof.Rows
/-! ### expressions that change regions of the call's own: C t are the regions at the state t -/
section
variable {α β γ δ S T L : Type}
def PostX (X : Cx) (I0 H0 : Hp) (W : WX) (Kx : KnowsX) (ctx : List (Option SF)) (C : T → List MF) (σ : St) (I : Hp) (m : Res (α × T)) (r : Rp α) (Q : VK) : Prop := match m with
  | .ok x => ∀ I' H' v, Same I I' → Stt I0 H0 ctx (C x.2) I' H' σ → r I' v x.1 → Q v H'
  | .err e => ∀ I' H' cls d, Kx I' H' σ d → ExR X.K I' H' e cls d → W cls d σ H'
  | .stuck => False
def PostXT (X : Cx) (I0 H0 : Hp) (W : WX) (Kx : KnowsX) (ctx : List (Option SF)) (C : T → List MF) (σ : St) (I : Hp) (m : Res (Bool × T)) (Q : Bool → Hp → Prop) : Prop := match m with
  | .ok x => ∀ I' H', Same I I' → Stt I0 H0 ctx (C x.2) I' H' σ → Q x.1 H'
  | .err e => ∀ I' H' cls d, Kx I' H' σ d → ExR X.K I' H' e cls d → W cls d σ H'
  | .stuck => False
def PostXA (X : Cx) (I0 H0 : Hp) (W : WX) (Kx : KnowsX) (ctx : List (Option SF)) (C : T → List MF) (σ : St) (I : Hp) (m : Res (δ × T)) (R : Hp → Hp → List V → δ → Prop) (Q : List V → Hp → Prop) : Prop := match m with
  | .ok x => ∀ I' H' vs, Same I I' → Stt I0 H0 ctx (C x.2) I' H' σ → R I' H' vs x.1 → Q vs H'
  | .err e => ∀ I' H' cls d, Kx I' H' σ d → ExR X.K I' H' e cls d → W cls d σ H'
  | .stuck => False
/-- a new list, still of the call's own -/
def PostXM (X : Cx) (I0 H0 : Hp) (W : WX) (Kx : KnowsX) (ctx : List (Option SF)) (C : T → List MF) (σ : St) (I : Hp) (m : Res (List α × T)) (r : Rp α) (Q : VK) : Prop := match m with
  | .ok x => ∀ I' H' l (mo : Mo r), Same I I' → Stt I0 H0 ctx (MF.lst l r x.1 :: C x.2) I' H' σ → Q (.ref l) H'
  | .err e => ∀ I' H' cls d, Kx I' H' σ d → ExR X.K I' H' e cls d → W cls d σ H'
  | .stuck => False
def PostXI (X : Cx) (I0 H0 : Hp) (W : WX) (Kx : KnowsX) (ctx : List (Option SF)) (C : T → List MF) (σ : St) (I : Hp) (m : Res (List β × T)) (r : Rp β) (R : It → Hp → Prop) : Prop := match m with
  | .ok x => ∀ I' H' J vs (okp : Hp → Prop), Same I I' → Stt I0 H0 ctx (C x.2) I' H' σ → ItR J vs okp → (∀ I'' H'', Same I' I'' → Same I'' H'' → Same H0 H'' → okp H'') → Paired (r I') vs x.1 → R J H'
  | .err e => ∀ I' H' cls d, Kx I' H' σ d → ExR X.K I' H' e cls d → W cls d σ H'
  | .stuck => False
def JX (X : Cx) (I0 H0 : Hp) (W : WX) (Kx : KnowsX) (ctx : List (Option SF)) (C : T → List MF) (t0 : T) (e : Expr) (m : Res (α × T)) (r : Rp α) : Prop :=
  ∀ (I H : Hp) (σ : St) (Q : VK), Stt I0 H0 ctx (C t0) I H σ → PostX X I0 H0 W Kx ctx C σ I m r Q → wE X e σ H Q
def JXT (X : Cx) (I0 H0 : Hp) (W : WX) (Kx : KnowsX) (ctx : List (Option SF)) (C : T → List MF) (t0 : T) (e : Expr) (m : Res (Bool × T)) : Prop :=
  ∀ (I H : Hp) (σ : St) (Q : Bool → Hp → Prop), Stt I0 H0 ctx (C t0) I H σ → PostXT X I0 H0 W Kx ctx C σ I m Q → wT X e σ H Q
def JXW (X : Cx) (I0 H0 : Hp) (W : WX) (Kx : KnowsX) (ctx : List (Option SF)) (C : T → List MF) (t0 : T) (e : Expr) (m : Res (Bool × T)) : Prop :=
  ∀ (I H : Hp) (σ : St) (Q : Bool → Hp → Prop), Stt I0 H0 ctx (C t0) I H σ → PostXT X I0 H0 W Kx ctx C σ I m Q → wW X e σ H Q
def JXA (X : Cx) (I0 H0 : Hp) (W : WX) (Kx : KnowsX) (ctx : List (Option SF)) (C : T → List MF) (t0 : T) (es : List Expr) (m : Res (δ × T)) (R : Hp → Hp → List V → δ → Prop) : Prop :=
  ∀ (I H : Hp) (σ : St) (Q : List V → Hp → Prop), Stt I0 H0 ctx (C t0) I H σ → PostXA X I0 H0 W Kx ctx C σ I m R Q → wA X es σ H Q
def JXM (X : Cx) (I0 H0 : Hp) (W : WX) (Kx : KnowsX) (ctx : List (Option SF)) (C : T → List MF) (t0 : T) (e : Expr) (m : Res (List α × T)) (r : Rp α) : Prop :=
  ∀ (I H : Hp) (σ : St) (Q : VK), Stt I0 H0 ctx (C t0) I H σ → PostXM X I0 H0 W Kx ctx C σ I m r Q → wE X e σ H Q
def JXI (X : Cx) (I0 H0 : Hp) (W : WX) (Kx : KnowsX) (ctx : List (Option SF)) (C : T → List MF) (t0 : T) (tg iter : Expr) (m : Res (List β × T)) (r : Rp β) : Prop :=
  ∀ (I H : Hp) (σ : St) (R : It → Hp → Prop), Stt I0 H0 ctx (C t0) I H σ → PostXI X I0 H0 W Kx ctx C σ I m r R → wI X tg iter σ H R
abbrev HX (I0 H0 : Hp) (Kx : KnowsX) (ctx : List (Option SF)) (C : T → List MF) : Prop := ∀ (t : T) (I H : Hp) (σ : St) (d : Option Addr), Stt I0 H0 ctx (C t) I H σ → Fr H0 d → Kx I H σ d
/-- a value and a state handed on -/
def Res.bindX (m : Res (α × T)) (f : α → T → Res β) : Res β := m.bind fun x => f x.1 x.2
@[simp] theorem Res.ok_bindX (a : α) (t : T) (f : α → T → Res β) : (Res.ok (a, t)).bindX f = f a t := rfl
@[simp] theorem Res.err_bindX (e : Exn) (f : α → T → Res β) : (Res.err e).bindX f = .err e := rfl
@[simp] theorem Res.stuck_bindX (f : α → T → Res β) : (Res.stuck).bindX f = .stuck := rfl
variable {X : Cx} {I0 H0 I H I1 : Hp} {W : WX} {Kx : KnowsX} {G : Knows} {ctx : List (Option SF)} {C : T → List MF} {t0 t : T} {e a b c o iter elt : Expr} {es bs : List Expr} {st : Stmt} {ss s1 s2 : List Stmt} {pos pos' p2 : Pos} {n : Str} {ra : Rp α} {rb : Rp β} {rc : Rp γ} {r : Rp α} {σ : St} {Q : VK} {R : Hp → Hp → List V → δ → Prop}
theorem PostX.up {m : Res (α × T)} (p : PostX X I0 H0 W Kx ctx C σ I m r Q) (s : Same I I1) : PostX X I0 H0 W Kx ctx C σ I1 m r Q := by
  cases m with
  | ok x => exact fun I' H' v q => p I' H' v (s.trans q)
  | err e => exact p
  | stuck => exact p
theorem PostXT.up {m : Res (Bool × T)} {Q : Bool → Hp → Prop} (p : PostXT X I0 H0 W Kx ctx C σ I m Q) (s : Same I I1) : PostXT X I0 H0 W Kx ctx C σ I1 m Q := by
  cases m with
  | ok x => exact fun I' H' q => p I' H' (s.trans q)
  | err e => exact p
  | stuck => exact p
theorem PostXA.up {m : Res (δ × T)} {Q : List V → Hp → Prop} (p : PostXA X I0 H0 W Kx ctx C σ I m R Q) (s : Same I I1) : PostXA X I0 H0 W Kx ctx C σ I1 m R Q := by
  cases m with
  | ok x => exact fun I' H' v q => p I' H' v (s.trans q)
  | err e => exact p
  | stuck => exact p
theorem PostX.pe {m : Res α} (st : Stt I0 H0 ctx (C t) I H σ) (hx : HX I0 H0 Kx ctx C) (p : PostX X I0 H0 W Kx ctx C σ I (m.bind fun z => .ok (z, t)) r Q) : PostE X.K m (rp r) I H (fun cls d H' => W cls d σ H') Q := by
  cases m with
  | ok a => exact fun I' H' v f h => p I' H' v f.i (st.step f) h
  | err e => exact fun I' H' c d f x => p I' H' c d (hx _ _ _ _ _ (st.step f) (x.1.back st.fm.h)) x.2
  | stuck => exact p
theorem JX.of {m : Res α} (j : JE X I0 H0 W ctx (C t0) e m (rp r)) (hx : HX I0 H0 Kx ctx C) : JX X I0 H0 W Kx ctx C t0 e (m.bind fun a => .ok (a, t0)) r := fun I H σ Q st p => j I H σ Q st (PostX.pe st hx p)
theorem JXT.of {m : Res Bool} (j : JT X I0 H0 W ctx (C t0) c m) (hx : HX I0 H0 Kx ctx C) : JXT X I0 H0 W Kx ctx C t0 c (m.bind fun a => .ok (a, t0)) := fun I H σ Q st p => j I H σ Q st (by
  cases m with
  | ok a => exact fun I' H' v f h b hb => by cases h; cases hb; exact p I' H' f.i (st.step f)
  | err e => exact fun I' H' c d f x => p I' H' c d (hx _ _ _ _ _ (st.step f) (x.1.back st.fm.h)) x.2
  | stuck => exact p)
theorem JXA.of {m : Res δ} (j : JA X I0 H0 W ctx (C t0) es m R) (hx : HX I0 H0 Kx ctx C) : JXA X I0 H0 W Kx ctx C t0 es (m.bind fun a => .ok (a, t0)) R := fun I H σ Q st p => j I H σ Q st (by
  cases m with
  | ok a => exact fun I' H' v f h => p I' H' v f.i (st.step f) h
  | err e => exact fun I' H' c d f x => p I' H' c d (hx _ _ _ _ _ (st.step f) (x.1.back st.fm.h)) x.2
  | stuck => exact p)
theorem JXM.of [mo : Mo r] {m : Res (List α)} (j : JM X I0 H0 W ctx (C t0) e m r) (hx : HX I0 H0 Kx ctx C) : JXM X I0 H0 W Kx ctx C t0 e (m.bind fun a => .ok (a, t0)) r := fun I H σ Q st p => j I H σ Q st (by
  cases m with
  | ok a => exact fun I' H' l vs f h1 h2 h3 pr => p I' H' l mo f.i (st.adopt f h1 h2 h3 pr)
  | err e => exact fun I' H' c d f x => p I' H' c d (hx _ _ _ _ _ (st.step f) (x.1.back st.fm.h)) x.2
  | stuck => exact p)
theorem JXI.of {tg : Expr} {m : Res (List β)} (j : JI X I0 H0 W ctx (C t0) tg iter m rb) (hx : HX I0 H0 Kx ctx C) : JXI X I0 H0 W Kx ctx C t0 tg iter (m.bind fun a => .ok (a, t0)) rb := fun I H σ R st p => j I H σ R st (by
  cases m with
  | ok a => exact fun I' H' J vs okp f h1 h2 pr => p I' H' J vs okp f.i (st.step f) h1 h2 pr
  | err e => exact fun I' H' c d f x => p I' H' c d (hx _ _ _ _ _ (st.step f) (x.1.back st.fm.h)) x.2
  | stuck => exact p)
theorem JX.map {m : Res (α × T)} {r' : Rp β} {g : α → β} (j : JX X I0 H0 W Kx ctx C t0 e m r) (h : ∀ I v x, r I v x → r' I v (g x)) : JX X I0 H0 W Kx ctx C t0 e (m.bindX fun x t => .ok (g x, t)) r' := fun I H σ Q st p => j I H σ Q st (by
  cases m with
  | ok x => exact fun I' H' v s g' q => p I' H' v s g' (h _ _ _ q)
  | err e => exact p
  | stuck => exact p)
theorem JX.bin {op : Operator} {g : α → β → Res γ} {ma : Res (α × T)} {mb : T → Res (β × T)} [Mo ra] (ja : JX X I0 H0 W Kx ctx C t0 a ma ra) (jb : ∀ t, JX X I0 H0 W Kx ctx C t b (mb t) rb) (o : OpJ X W (binaryOp op) (rp ra) (rp rb) g (rp rc)) (hx : HX I0 H0 Kx ctx C) :
    JX X I0 H0 W Kx ctx C t0 (.BinOp a op b pos) (ma.bindX fun x t => (mb t).bindX fun y t' => (g x y).bind fun z => .ok (z, t')) rc := fun I H σ Q st p => by
  refine w_bin (ja I H σ _ st ?_)
  cases ma with
  | ok x =>
    intro I1 H1 u s1 g1 r1
    refine jb x.2 I1 H1 σ _ g1 ?_
    have p1 : PostX X I0 H0 W Kx ctx C σ I1 ((mb x.2).bindX fun y t' => (g x.1 y).bind fun z => .ok (z, t')) rc Q := PostX.up p s1
    revert p1
    generalize mb x.2 = z
    intro p1
    cases z with
    | ok y => exact fun I2 H2 v s2 g2 r2 => o I2 H2 σ Q u v x.1 y.1 g2.same (Mo.up (r := ra) s2 r1) r2 (PostX.pe g2 hx (PostX.up p1 s2))
    | err e => exact p1
    | stuck => exact p1
  | err e => exact p
  | stuck => exact p
theorem JX.cmp {op : CmpOp} {g : α → β → Res γ} {ma : Res (α × T)} {mb : T → Res (β × T)} [Mo ra] (ja : JX X I0 H0 W Kx ctx C t0 a ma ra) (jb : ∀ t, JX X I0 H0 W Kx ctx C t b (mb t) rb) (o : OpJ X W (compareOp op) (rp ra) (rp rb) g (rp rc)) (hx : HX I0 H0 Kx ctx C) (hm : behindInMarks op b = false := by first | exact nomark _ | rfl) :
    JX X I0 H0 W Kx ctx C t0 (.Compare a [op] [b] pos) (ma.bindX fun x t => (mb t).bindX fun y t' => (g x y).bind fun z => .ok (z, t')) rc := fun I H σ Q st p => by
  refine w_cmp (ja I H σ _ st ?_) hm
  cases ma with
  | ok x =>
    intro I1 H1 u s1 g1 r1
    refine jb x.2 I1 H1 σ _ g1 ?_
    have p1 : PostX X I0 H0 W Kx ctx C σ I1 ((mb x.2).bindX fun y t' => (g x.1 y).bind fun z => .ok (z, t')) rc Q := PostX.up p s1
    revert p1
    generalize mb x.2 = z
    intro p1
    cases z with
    | ok y => exact fun I2 H2 v s2 g2 r2 => o I2 H2 σ Q u v x.1 y.1 g2.same (Mo.up (r := ra) s2 r1) r2 (PostX.pe g2 hx (PostX.up p1 s2))
    | err e => exact p1
    | stuck => exact p1
  | err e => exact p
  | stuck => exact p
theorem PostXT.px {m : Res (Bool × T)} {Q : Bool → Hp → Prop} (p : PostXT X I0 H0 W Kx ctx C σ I m Q) : PostX X I0 H0 W Kx ctx C σ I m rBl (fun v H' => truW X σ v H' Q) := by
  cases m with
  | ok x => exact fun I' H' v s g q => by cases q; exact tru_bl (p I' H' s g)
  | err e => exact p
  | stuck => exact p
theorem JXT.cmp {op : CmpOp} {g : α → β → Res Bool} {ma : Res (α × T)} {mb : T → Res (β × T)} [Mo ra] (ja : JX X I0 H0 W Kx ctx C t0 a ma ra) (jb : ∀ t, JX X I0 H0 W Kx ctx C t b (mb t) rb) (o : OpJ X W (compareOp op) (rp ra) (rp rb) g (rp rBl)) (hx : HX I0 H0 Kx ctx C) (hm : behindInMarks op b = false := by first | exact nomark _ | rfl) :
    JXT X I0 H0 W Kx ctx C t0 (.Compare a [op] [b] pos) (ma.bindX fun x t => (mb t).bindX fun y t' => (g x y).bind fun z => .ok (z, t')) := fun I H σ Q st p => by
  refine w_tcmp (ja I H σ _ st ?_) hm
  have p := p.px
  cases ma with
  | ok x =>
    intro I1 H1 u s1 g1 r1
    refine jb x.2 I1 H1 σ _ g1 ?_
    have p1 : PostX X I0 H0 W Kx ctx C σ I1 ((mb x.2).bindX fun y t' => (g x.1 y).bind fun z => .ok (z, t')) rBl _ := PostX.up p s1
    revert p1
    generalize mb x.2 = z
    intro p1
    cases z with
    | ok y => exact fun I2 H2 v s2 g2 r2 => o I2 H2 σ _ u v x.1 y.1 g2.same (Mo.up (r := ra) s2 r1) r2 (PostX.pe g2 hx (PostX.up p1 s2))
    | err e => exact p1
    | stuck => exact p1
  | err e => exact p
  | stuck => exact p
theorem JXT.ofE {m : Res (Bool × T)} (j : JX X I0 H0 W Kx ctx C t0 e m rBl) (he : ∀ whole, isTrue e X.env whole = (do let v ← whole; standAt e.pos; holding [v] (truthy v)) := by intro _; rfl) : JXT X I0 H0 W Kx ctx C t0 e m := fun I H σ Q st p => w_t (j I H σ _ st p.px) he
theorem JXT.not {m : Res (Bool × T)} (j : JXT X I0 H0 W Kx ctx C t0 e m) : JXT X I0 H0 W Kx ctx C t0 (.UnaryOp .Not e pos) (m.bindX fun b t => .ok (!b, t)) := fun I H σ Q st p => by
  refine w_not (j I H σ _ st ?_)
  cases m with
  | ok k => exact fun I1 H1 s g => p I1 H1 s g
  | err e => exact p
  | stuck => exact p
theorem JX.un {op : UnaryOp} {g : α → Res γ} {ma : Res (α × T)} (ja : JX X I0 H0 W Kx ctx C t0 a ma ra) (o : UnJ X W (unaryOp op) (rp ra) g (rp rc)) (hx : HX I0 H0 Kx ctx C) : JX X I0 H0 W Kx ctx C t0 (.UnaryOp op a pos) (ma.bindX fun x t => (g x).bind fun z => .ok (z, t)) rc := fun I H σ Q st p => by
  refine w_un (ja I H σ _ st ?_)
  cases ma with
  | ok x => exact fun I1 H1 u s1 g1 r1 => o I1 H1 σ Q u x.1 g1.same r1 (PostX.pe g1 hx (PostX.up p s1))
  | err e => exact p
  | stuck => exact p
theorem JXT.bool {op} {m : Res (Bool × T)} (j : JXW X I0 H0 W Kx ctx C t0 (.BoolOp op es pos) m) : JXT X I0 H0 W Kx ctx C t0 (.BoolOp op es pos) m := fun I H σ Q st p => w_tbool (j I H σ Q st p)
theorem JXW.and1 {m : Res (Bool × T)} (j : JXT X I0 H0 W Kx ctx C t0 a m) : JXW X I0 H0 W Kx ctx C t0 (.BoolOp .And [a] pos) m := fun I H σ Q st p => w_and1 (j I H σ Q st p)
theorem JXW.or1 {m : Res (Bool × T)} (j : JXT X I0 H0 W Kx ctx C t0 a m) : JXW X I0 H0 W Kx ctx C t0 (.BoolOp .Or [a] pos) m := fun I H σ Q st p => w_or1 (j I H σ Q st p)
theorem JXW.and {m : Res (Bool × T)} {m2 : T → Res (Bool × T)} (j : JXT X I0 H0 W Kx ctx C t0 a m) (k : ∀ t, JXW X I0 H0 W Kx ctx C t (.BoolOp .And (b :: bs) pos) (m2 t)) : JXW X I0 H0 W Kx ctx C t0 (.BoolOp .And (a :: b :: bs) pos) (m.bindX fun x t => if x = true then m2 t else .ok (false, t)) := fun I H σ Q st p => by
  refine w_and (j I H σ _ st ?_)
  cases m with
  | ok x =>
    obtain ⟨x, t⟩ := x
    intro I1 H1 s g
    have p1 := PostXT.up p s
    cases x with
    | true => exact iteT (k t I1 H1 σ Q g p1)
    | false => exact iteF (p1 I1 H1 (Same.refl _) g)
  | err e => exact p
  | stuck => exact p
theorem JXW.or {m : Res (Bool × T)} {m2 : T → Res (Bool × T)} (j : JXT X I0 H0 W Kx ctx C t0 a m) (k : ∀ t, JXW X I0 H0 W Kx ctx C t (.BoolOp .Or (b :: bs) pos) (m2 t)) : JXW X I0 H0 W Kx ctx C t0 (.BoolOp .Or (a :: b :: bs) pos) (m.bindX fun x t => if x = true then .ok (true, t) else m2 t) := fun I H σ Q st p => by
  refine w_or (j I H σ _ st ?_)
  cases m with
  | ok x =>
    obtain ⟨x, t⟩ := x
    intro I1 H1 s g
    have p1 := PostXT.up p s
    cases x with
    | true => exact iteT (p1 I1 H1 (Same.refl _) g)
    | false => exact iteF (k t I1 H1 σ Q g p1)
  | err e => exact p
  | stuck => exact p
theorem JX.ifx {mc : Res (Bool × T)} {m1 m2 : T → Res (α × T)} (j : JXT X I0 H0 W Kx ctx C t0 c mc) (k1 : ∀ t, JX X I0 H0 W Kx ctx C t a (m1 t) r) (k2 : ∀ t, JX X I0 H0 W Kx ctx C t b (m2 t) r) : JX X I0 H0 W Kx ctx C t0 (.IfExp c a b pos) (mc.bindX fun x t => if x = true then m1 t else m2 t) r := fun I H σ Q st p => by
  refine w_ifx (j I H σ _ st ?_)
  cases mc with
  | ok x =>
    obtain ⟨x, t⟩ := x
    intro I1 H1 s g
    cases x with
    | true => exact iteT (k1 t I1 H1 σ Q g (PostX.up (m := m1 t) p s))
    | false => exact iteF (k2 t I1 H1 σ Q g (PostX.up (m := m2 t) p s))
  | err e => exact p
  | stuck => exact p
/-! ### arguments, calls -/
theorem JXA.nil : JXA X I0 H0 W Kx ctx C t0 [] (.ok ((), t0)) aNil := fun I H σ Q st p => w_nil (p I H [] (Same.refl _) st rfl)
class MoN (R : Hp → Hp → List V → δ → Prop) : Prop where
  up : ∀ {I H I' H' : Hp} {vs : List V} {x : δ}, Same I I' → R I H vs x → R I' H' vs x
theorem JXA.cons {ma : Res (α × T)} {m : T → Res (δ × T)} [Mo ra] (j : JX X I0 H0 W Kx ctx C t0 e ma ra) (k : ∀ t, JXA X I0 H0 W Kx ctx C t es (m t) R) (hs : starEach (e :: es) X.env = (false, eval e X.env) :: starEach es X.env := by rfl) :
    JXA X I0 H0 W Kx ctx C t0 (e :: es) (ma.bindX fun x t => (m t).bindX fun y t' => .ok ((x, y), t')) (aCons (rp ra) R) := fun I H σ Q st p => by
  refine Tr.w_cons (j I H σ _ st ?_) hs
  cases ma with
  | ok x =>
    intro I1 H1 v s1 g1 r1
    refine k x.2 I1 H1 σ _ g1 ?_
    have p1 : PostXA X I0 H0 W Kx ctx C σ I1 ((m x.2).bindX fun y t' => .ok ((x.1, y), t')) (aCons (rp ra) R) Q := PostXA.up p s1
    revert p1
    generalize m x.2 = z
    intro p1
    cases z with
    | ok y => exact fun I2 H2 vs s2 g2 r2 => p1 I2 H2 _ s2 g2 ⟨v, vs, rfl, Mo.up (r := ra) s2 r1, r2⟩
    | err e => exact p1
    | stuck => exact p1
  | err e => exact p
  | stuck => exact p
theorem JXA.nilL : JXA X I0 H0 W Kx ctx C t0 [] (.ok ([], t0)) (lR 0 (rp r)) := fun I H σ Q st p => w_nil (p I H [] (Same.refl _) st ⟨rfl, .nil⟩)
theorem JXA.consL {k : Nat} {ma : Res (α × T)} {m : T → Res (List α × T)} [mo : Mo r] (j : JX X I0 H0 W Kx ctx C t0 e ma r) (jk : ∀ t, JXA X I0 H0 W Kx ctx C t es (m t) (lR k (rp r))) (hs : starEach (e :: es) X.env = (false, eval e X.env) :: starEach es X.env := by rfl) :
    JXA X I0 H0 W Kx ctx C t0 (e :: es) (ma.bindX fun x t => (m t).bindX fun y t' => .ok (x :: y, t')) (lR (k + 1) (rp r)) := fun I H σ Q st p => by
  refine Tr.w_cons (j I H σ _ st ?_) hs
  cases ma with
  | ok x =>
    intro I1 H1 v s1 g1 r1
    refine jk x.2 I1 H1 σ _ g1 ?_
    have p1 : PostXA X I0 H0 W Kx ctx C σ I1 ((m x.2).bindX fun y t' => .ok (x.1 :: y, t')) (lR (k + 1) (rp r)) Q := PostXA.up p s1
    revert p1
    generalize m x.2 = z
    intro p1
    cases z with
    | ok y => exact fun I2 H2 vs s2 g2 r2 => p1 I2 H2 _ s2 g2 ⟨by rw [List.length_cons, r2.1], .cons (mo.up s2 r1) r2.2⟩
    | err e => exact p1
    | stuck => exact p1
  | err e => exact p
  | stuck => exact p
variable {md : Res (δ × T)} {g : δ → Res γ}
theorem JXA.call (k : JXA X I0 H0 W Kx ctx C t0 es md R) {f : Value} (cj : CallJ X W f R g (rp rc)) (hx : HX I0 H0 Kx ctx C) (st : Stt I0 H0 ctx (C t0) I H σ) (p : PostX X I0 H0 W Kx ctx C σ I (md.bindX fun x t => (g x).bind fun z => .ok (z, t)) rc Q) : wA X es σ H fun vs H1 => callW X f σ vs H1 Q := by
  refine k I H σ _ st ?_
  cases md with
  | ok x => exact fun I1 H1 vs s1 g1 r1 => cj I1 H1 σ Q vs x.1 g1.same r1 (PostX.pe g1 hx (PostX.up p s1))
  | err e => exact p
  | stuck => exact p
theorem JX.call {f : Addr} (k : JXA X I0 H0 W Kx ctx C t0 (e :: es) md R) (cj : CallJ X W (.ref f) R g (rp rc)) (hx : HX I0 H0 Kx ctx C) (hm : X.mg n = some (.ref f)) (hk : PySem.W.keepIn X.K (.ref f) = true) (hg : Gl X n := by rfl) (hdb : (n == ("__debug__" : Str)) = false := by decide)
    (he : starEach (e :: es) X.env = (false, eval e X.env) :: starEach es X.env := by rfl) (hpl : (backTo pos (starEach es X.env)).any (·.1) = false := by rfl) : JX X I0 H0 W Kx ctx C t0 (.Call (.Name n pos') (e :: es) [] pos) (md.bindX fun x t => (g x).bind fun z => .ok (z, t)) rc := fun I H σ Q st p =>
  w_call (k.call cj hx st p) hm hk hg hdb he hpl
theorem JX.callB {id : String} (k : JXA X I0 H0 W Kx ctx C t0 (e :: es) md R) (cj : CallJ X W (.builtin id) R g (rp rc)) (hx : HX I0 H0 Kx ctx C) (hm : X.mg n = none) (hv : bootBuiltins n = some (.builtin id)) (hg : Gl X n := by rfl) (hn : n ≠ "__name__" := by decide) (hdb : (n == ("__debug__" : Str)) = false := by decide)
    (he : starEach (e :: es) X.env = (false, eval e X.env) :: starEach es X.env := by rfl) (hpl : (backTo pos (starEach es X.env)).any (·.1) = false := by rfl) : JX X I0 H0 W Kx ctx C t0 (.Call (.Name n pos') (e :: es) [] pos) (md.bindX fun x t => (g x).bind fun z => .ok (z, t)) rc := fun I H σ Q st p =>
  w_callB (k.call cj hx st p) hm hv hg hn hdb he hpl
theorem JX.callTy {N : String} (k : JXA X I0 H0 W Kx ctx C t0 (e :: es) md R) (cj : CallJ X W (.type N) R g (rp rc)) (hx : HX I0 H0 Kx ctx C) (hm : X.mg n = none) (hv : bootBuiltins n = some (.type N)) (hg : Gl X n := by rfl) (hn : n ≠ "__name__" := by decide) (hdb : (n == ("__debug__" : Str)) = false := by decide)
    (he : starEach (e :: es) X.env = (false, eval e X.env) :: starEach es X.env := by rfl) (hpl : (backTo pos (starEach es X.env)).any (·.1) = false := by rfl) : JX X I0 H0 W Kx ctx C t0 (.Call (.Name n pos') (e :: es) [] pos) (md.bindX fun x t => (g x).bind fun z => .ok (z, t)) rc := fun I H σ Q st p =>
  w_callTy (k.call cj hx st p) hm hv hg hn hdb he hpl
/-! ### subscripts, displays -/
theorem JX.ix {m : Res (List α × T)} {mi : T → Res (Int × T)} [mo : Mo r] (ja : JX X I0 H0 W Kx ctx C t0 a m (rL r)) (jb : ∀ t, JX X I0 H0 W Kx ctx C t b (mi t) rInt) (hs : PlainIx b := by exact fun _ _ => rfl) :
    JX X I0 H0 W Kx ctx C t0 (.Subscript a b pos) (m.bindX fun xs t => (mi t).bindX fun i t' => (atM xs i).bind fun z => .ok (z, t')) r := fun I H σ Q st p => by
  refine PE.w (pe_ix ix_list pe_W pe_W hs) (ja I H σ _ st ?_)
  cases m with
  | ok xs =>
    intro I1 H1 u s1 g1 r1
    refine jb xs.2 I1 H1 σ _ g1 ?_
    have p1 : PostX X I0 H0 W Kx ctx C σ I1 ((mi xs.2).bindX fun i t' => (atM xs.1 i).bind fun z => .ok (z, t')) r Q := PostX.up p s1
    revert p1
    generalize mi xs.2 = z
    intro p1
    cases z with
    | ok i =>
      intro I2 H2 v s2 g2 r2
      obtain ⟨l, vs, rfl, hl, pr⟩ := Mo.up (r := rL r) s2 r1
      have p2 : PostX X I0 H0 W Kx ctx C σ I2 ((atM xs.1 i.1).bind fun z => .ok (z, i.2)) r Q := PostX.up p1 s2
      unfold atM at p2
      cases e : atI xs.1 i.1 with
      | none => rw [e] at p2; exact p2.elim
      | some x =>
        rw [e] at p2
        obtain ⟨w, ew, hw⟩ := atI_pair pr e
        exact ⟨l, vs, i.1, w, rfl, r2, SqL.of (g2.same _ _ hl), ew, p2 I2 H2 w (Same.refl _) g2 hw⟩
    | err e => exact p1
    | stuck => exact p1
  | err e => exact p
  | stuck => exact p
theorem JX.tupD {k : Nat} {x1} [m : MoR R] [ic : Ice R] (j : JXA X I0 H0 W Kx ctx C t0 es md R) (hk : ∀ I H vs x, R I H vs x → vs.length = k) (hz : k ≤ sizeLine := by decide) : JX X I0 H0 W Kx ctx C t0 (.Tuple es x1 pos) md (rTu R) := fun I H σ Q st p => by
  refine w_tup (j I H σ _ st ?_)
  cases md with
  | ok x =>
    intro I1 H1 vs s1 g1 r1
    refine ⟨by rw [hk _ _ _ _ r1]; exact hz, fun q hq => ?_⟩
    have fn := Fm.new (o := .tup vs) g1.same hq
    exact p _ _ _ (s1.trans fn.i) (g1.step fn) ⟨q, vs, rfl, upd_same, m.up fn.i fn.i (ic.ice r1)⟩
  | err e => exact p
  | stuck => exact p
theorem JXM.lst {k : Nat} {m : Res (List α × T)} [mo : Mo r] (j : JXA X I0 H0 W Kx ctx C t0 es m (lR k (rp r))) (hk : k ≤ sizeLine := by decide) : JXM X I0 H0 W Kx ctx C t0 (.List es pos) m r := fun I H σ Q st p => by
  refine w_lst (j I H σ _ st ?_)
  cases m with
  | ok xs => exact fun I1 H1 vs s1 g1 r1 => ⟨by rw [r1.1]; exact hk, fun q hq => p _ _ _ mo s1 (g1.push hq r1.2)⟩
  | err e => exact p
  | stuck => exact p
/-- a region's first list is frozen -/
theorem Stt.ice1 [mo : Mo r] {mem : List MF} {l : Addr} {xs : List α} (s : Stt I0 H0 ctx (MF.lst l r xs :: mem) I H σ) : ∃ I', Same I I' ∧ Stt I0 H0 ctx mem I' H σ ∧ rL r I' (.ref l) xs := by
  obtain ⟨fp, ⟨e, o, hH, vs, eo, pr⟩, _, sm, s2⟩ := s.freezeAt 0 rfl
  subst e; subst eo
  exact ⟨_, sm, s2, l, vs, rfl, by rw [ice_in (List.mem_singleton_self l)]; exact hH, Paired.mapP pr fun _ _ z => mo.up sm z⟩
theorem JX.ofM [mo : Mo r] {m : Res (List α × T)} (j : JXM X I0 H0 W Kx ctx C t0 e m r) : JX X I0 H0 W Kx ctx C t0 e m (rL r) := fun I H σ Q st p => by
  refine j I H σ Q st ?_
  cases m with
  | ok x =>
    intro I1 H1 l _ s g
    obtain ⟨I2, s2, g2, h⟩ := g.ice1
    exact p I2 H1 _ (s.trans s2) g2 h
  | err e => exact p
  | stuck => exact p
/-! ### calls that change a region -/
/-- a region behind a call -/
structure RgF (I H1 I' H' : Hp) (c : MF) (fp : List Addr) : Prop where
  fm : Fm I H1 I' H'
  nd : fp.Nodup
  own : ∀ a, a ∈ fp → H1 a = none ∧ I' a = none ∧ H' a ≠ none
  q : c.Q I' H' fp
def PostC (K : PySem.W.Frag) (M : β → MF) (kp : Bool) (b : β) (m : Res (γ × β)) (rc : Rp γ) (I H : Hp) (fp : List Addr) (E : XK) (Q : VK) : Prop := match m with
  | .ok x => ∀ I' H' v fp', RgF I (rm H fp) I' H' (M x.2) fp' → rc I' v x.1 → Q v H'
  | .err e => ∀ I' H' cls d, Fm I (rm H fp) I' H' → (kp = true → ∃ fp', RgF I (rm H fp) I' H' (M b) fp') → Fr (rm H fp) d → ExR K I' H' e cls d → E cls d H'
  | .stuck => False
structure RgS (I H : Hp) (c : MF) (fp : List Addr) : Prop where
  s : Same I H
  q : c.Q I H fp
  nd : fp.Nodup
  own : ∀ a, a ∈ fp → I a = none ∧ H a ≠ none
def CallC (X : Cx) (W : WX) (f : Value) (RG : Addr → β → MF) (R : Addr → Hp → Hp → List V → δ → Prop) (g : δ → β → Res (γ × β)) (rc : Rp γ) (kp : Bool) : Prop :=
  ∀ (I H : Hp) (σ : St) (Q : VK) (vs : List V) (d : δ) (l : Addr) (b : β) (fp : List Addr), RgS I H (RG l b) fp → R l I H vs d → PostC X.K (RG l) kp b (g d b) rc I H fp (fun cls d H' => W cls d σ H') Q → callW X f σ vs H Q
def spX (K : PySem.W.Frag) (RG : Addr → β → MF) (R : Addr → Hp → Hp → List V → δ → Prop) (g : δ → β → Res (γ × β)) (rc : Rp γ) (kp : Bool) : Sp := fun vs H Q E => ∃ I l b fp d, RgS I H (RG l b) fp ∧ R l I H vs d ∧ PostC K (RG l) kp b (g d b) rc I H fp E Q
theorem cc_of {k : Nat} {f : Addr} {RG : Addr → β → MF} {R : Addr → Hp → Hp → List V → δ → Prop} {g : δ → β → Res (γ × β)} {kp : Bool} (F : FnR X.prog X.w X.K X.mg X.base (L2.CX X.prog X.w) k f (spX X.K RG R g rc kp)) (hr : Room k X.A) (tk : Takes X W) : CallC X W (.ref f) RG R g rc kp := fun I H σ Q vs d l b fp s h p => run_W F hr tk ⟨I, l, b, fp, d, s, h, p⟩
/-- the caller's regions ahead of a call and behind it -/
theorem Stt.lend {mem : List MF} {c : MF} {j : Nat} (s : Stt I0 H0 ctx mem I H σ) (hj : mem[j]? = some c) : ∃ fp, RgS I H c fp ∧ (∀ a, rm H fp a = none → H0 a = none) ∧ (∀ I' H', Fm I (rm H fp) I' H' → Fm I0 H0 I' H') ∧ ∀ (I' H' : Hp) (c' : MF) (fp' : List Addr), RgF I (rm H fp) I' H' c' fp' → Stt I0 H0 ctx (mem.set j c') I' H' σ := by
  obtain ⟨fp, q, nd, k, go⟩ := s.change hj
  have hz : ∀ a, rm H fp a = none → H0 a = none := fun a e => by
    by_cases h : a ∈ fp
    · exact (k a h).1
    · rw [rm_out h] at e; exact s.fm.h.free e
  have hm : ∀ a, H0 a ≠ none → a ∉ fp := fun a z y => z (k a y).1
  refine ⟨fp, ⟨s.same, q, nd, fun a h => (k a h).2⟩, hz, fun I' H' f => ⟨s.fm.i.trans f.i, fun b u e => f.h b u (by rw [rm_out (hm b (by rw [e]; intro z; cases z))]; exact s.fm.h b u e), f.ih, fun l e nn => f.mu l (s.fm.mu l e nn) ?_⟩, fun I' H' c' fp' f => go I' H' c' fp' f.fm f.nd f.own f.q⟩
  rw [rm_out (hm l nn)]
  cases z : H0 l with
  | none => exact absurd z nn
  | some o => rw [s.fm.h l o z]; intro y; cases y
theorem Fr.lend {fp : List Addr} {d : Option Addr} (f : Fr (rm H fp) d) (hz : ∀ a, rm H fp a = none → H0 a = none) : Fr H0 d := fun a e => hz a (f a e)
theorem set_same {ι : Type _} {xs : List ι} {j : Nat} {c : ι} (h : xs[j]? = some c) : xs.set j c = xs := by
  apply List.ext_getElem?
  intro i
  by_cases hi : i = j
  · subst hi
    have hl := (List.getElem?_eq_some_iff.mp h).1
    rw [List.getElem?_set_self hl, h]
  · rw [List.getElem?_set_ne (Ne.symm hi)]
/-- a call with the region at j -/
theorem callC_at {RG : Addr → β → MF} {Rl : Addr → Hp → Hp → List V → δ → Prop} {gc : δ → β → Res (γ × β)} {kp : Bool} {f : Value} (j : Nat) {l : Addr} (get : T → β) (put : T → β → T) (cc : CallC X W f RG Rl gc rc kp) (st : Stt I0 H0 ctx (C t) I H σ) {vs : List V} {d : δ} (hr : Rl l I H vs d)
    (h1 : (C t)[j]? = some (RG l (get t))) (h2 : ∀ b, (C t).set j (RG l b) = C (put t b)) (hk : ∀ (I H : Hp) (d : Option Addr), Fm I0 H0 I H → (kp = true → Stt I0 H0 ctx (C t) I H σ) → Fr H0 d → Kx I H σ d)
    (p : PostX X I0 H0 W Kx ctx C σ I ((gc d (get t)).bindX fun z b => .ok (z, put t b)) rc Q) : callW X f σ vs H Q := by
  obtain ⟨fp, rs, hz, fm0, go⟩ := st.lend h1
  refine cc I H σ Q vs d l (get t) fp rs hr ?_
  revert p
  generalize gc d (get t) = z
  intro p
  cases z with
  | ok x => exact fun I' H' v fp' rf h => p I' H' v rf.fm.i (by show Stt I0 H0 ctx (C (put t x.2)) I' H' σ; rw [← h2]; exact go I' H' _ fp' rf) h
  | err e => exact fun I' H' cls d f kk fr x => p I' H' cls d (hk I' H' d (fm0 _ _ f) (fun hkp => by
      obtain ⟨fp', rf⟩ := kk hkp
      have := go I' H' _ fp' rf
      have e2 : (C t).set j (RG l (get t)) = C t := by
        exact set_same h1
      rw [e2] at this; exact this) (fr.lend hz)) x
  | stuck => exact p
end
end L2.Tr

namespace L2.Tr
open PySem PySem.Spec PyProof.Rows
section
variable {α β γ δ S T L : Type} {X : Cx} {I0 H0 I H I1 : Hp} {W : WX} {Kx : KnowsX} {G : Knows} {ctx : List (Option SF)} {mem : List MF} {C : T → List MF} {t0 t : T} {e a b c o iter elt ix : Expr} {es bs : List Expr} {st : Stmt} {ss s1 s2 body : List Stmt} {pos pos' p2 : Pos} {n : Str} {ra : Rp α} {rb : Rp β} {rc : Rp γ} {r : Rp α} {σ : St} {Q : VK} {R : Hp → Hp → List V → δ → Prop} {rr : Ra γ}
/-! ### f(..), o.m(..) that change a region -/
theorem JX.callC {RG : Addr → β → MF} {Rl : Addr → Hp → Hp → List V → δ → Prop} {gc : δ → β → Res (γ × β)} {kp : Bool} {f : Addr} (j : Nat) {l : Addr} (get : T → β) (put : T → β → T) {md : Res (δ × T)} (k : JXA X I0 H0 W Kx ctx C t0 (e :: es) md (Rl l)) (cc : CallC X W (.ref f) RG Rl gc rc kp)
    (h1 : ∀ t, (C t)[j]? = some (RG l (get t))) (h2 : ∀ t b, (C t).set j (RG l b) = C (put t b)) (hk : ∀ (I H : Hp) (σ : St) (d : Option Addr), Fm I0 H0 I H → Fr H0 d → Kx I H σ d)
    (hm : X.mg n = some (.ref f)) (hkk : PySem.W.keepIn X.K (.ref f) = true) (hg : Gl X n := by rfl) (hdb : (n == ("__debug__" : Str)) = false := by decide)
    (he : starEach (e :: es) X.env = (false, eval e X.env) :: starEach es X.env := by rfl) (hpl : (backTo pos (starEach es X.env)).any (·.1) = false := by rfl) :
    JX X I0 H0 W Kx ctx C t0 (.Call (.Name n pos') (e :: es) [] pos) (md.bindX fun x t => (gc x (get t)).bindX fun z b => .ok (z, put t b)) rc := fun I H σ Q st p => by
  refine w_call (k I H σ _ st ?_) hm hkk hg hdb he hpl
  cases md with
  | ok x => exact fun I1 H1 vs s1 g1 r1 => callC_at j get put cc g1 r1 (h1 _) (h2 _) (fun I' H' d f _ fr => hk I' H' σ d f fr) (PostX.up p s1)
  | err e => exact p
  | stuck => exact p
/-! ### comprehensions whose items change regions -/
def lcXM (f : β → T → Res (α × T)) : List β → T → Res (List α × T)
  | [], t => .ok ([], t)
  | x :: xs, t => match f x t with
    | .ok y => (lcXM f xs y.2).bind fun z => .ok (y.1 :: z.1, z.2)
    | _ => .stuck
def lcX (f : β → T → Res (α × T)) (xs : List β) (t : T) : Res (List α × T) := Res.guard (xs.length ≤ sizeLine) (lcXM f xs t)
theorem lcXM_drop {f : β → T → Res (α × T)} {xs : List β} {i : Nat} {x : β} (h : xs[i]? = some x) (t : T) : lcXM f (xs.drop i) t = (match f x t with
    | .ok y => (lcXM f (xs.drop (i + 1)) y.2).bind fun z => .ok (y.1 :: z.1, z.2)
    | _ => .stuck) := by
  have hi := (List.getElem?_eq_some_iff.mp h).1
  rw [List.drop_eq_getElem_cons hi]
  have : xs[i] = x := (List.getElem?_eq_some_iff.mp h).2
  rw [this]
  rfl
theorem lcXM_noerr {f : β → T → Res (α × T)} {e : Exn} : ∀ (l : List β) (t : T), lcXM f l t ≠ .err e
  | [], t, h => by cases h
  | x :: l, t, h => by
    unfold lcXM at h
    cases q : f x t with
    | ok y =>
      rw [q] at h
      dsimp only at h
      cases q2 : lcXM f l y.2 with
      | ok ys => rw [q2] at h; cases h
      | err e2 => rw [q2] at h; cases h; exact lcXM_noerr l y.2 q2
      | stuck => rw [q2] at h; cases h
    | err e2 => rw [q] at h; cases h
    | stuck => rw [q] at h; cases h
/-- a name's slot as it was ahead -/
theorem Stt.back {mem' : List MF} {I' H' : Hp} {j : Nat} {q : Option SF} {v : Option V} (g : Stt I0 H0 ctx mem I H σ) (g' : Stt I0 H0 (ctx.set j q) mem' I' H' (σ.set j v)) (s : Same I I') : Stt I0 H0 ctx mem' I' H' σ := by
  refine ⟨g'.fm, g.len, fun i sf e => ?_, g'.me⟩
  by_cases hi : i = j
  · obtain ⟨w, e1, h⟩ := g.sl i sf e
    exact ⟨w, e1, sf.mo.up s h⟩
  · obtain ⟨w, e1, h⟩ := g'.sl i sf (by rw [List.getElem?_set_ne (Ne.symm hi)]; exact e)
    rw [List.getElem?_set_ne (Ne.symm hi)] at e1
    exact ⟨w, e1, h⟩
theorem lcX_post (j : Nat) [mo : Mo r] [mb : Mo rb] {m : Res (List β × T)} {f : β → T → Res (α × T)} {scope : Scope} (ji : JXI X I0 H0 W Kx ctx C t0 (.Name n pos') iter m rb)
    (je : ∀ (s : Shared) (H : Hp) (Ca : Addr) (cl : List (Str × Addr)) (fp : List Addr) (D : Addr) (acc : List α) (x : β) (t : T), JX (X.blk s H scope (compEnvC scope cl Ca X.env) fp) I0 H0 W0 (fun _ _ _ _ => True) (ctx.set j (some ⟨rb, x⟩)) (fun t => MF.lst D r acc :: C t) t elt (f x t) r)
    (I H : Hp) (σ : St) (Q : VK) (st : Stt I0 H0 ctx (C t0) I H σ) (p : PostXM X I0 H0 W Kx ctx C σ I (m.bindX fun xs t => lcX f xs t) r Q) : tLc (wI X (.Name n pos') iter) (gName j) tYes (wEb X scope elt) [j] σ H Q := by
  refine ji I H σ _ st ?_
  cases m with
  | ok x0 =>
    obtain ⟨xs, t1⟩ := x0
    intro I1 H1 J vs okp f1 g1 itr stay pr D hD
    have hlen : vs.length = xs.length := Paired.length pr
    by_cases hz : xs.length ≤ sizeLine
    · have e0 : ((Res.ok (xs, t1)).bindX fun xs t => lcX f xs t) = lcXM f xs t1 := Res.guard_pos hz _
      rw [e0] at p
      cases et : lcXM f xs t1 with
      | ok tot =>
        rw [et] at p
        refine ⟨fun i k H' => k + i = vs.length ∧ ∃ I' acc t ys, Same I1 I' ∧ Stt I0 H0 ctx (MF.lst D r acc :: C t) I' H' σ ∧ acc.length ≤ i ∧ lcXM f (xs.drop i) t = .ok (ys, tot.2) ∧ tot.1 = acc ++ ys, ⟨vs.length, rfl, I1, [], t1, tot.1, Same.refl _, g1.push hD .nil, Nat.le_refl _, et, rfl⟩, ?_⟩
        rintro i k H' ⟨hk, I', acc, t, ys, si, g', ha, el, eq⟩
        have hok := stay I' H' si g'.same g'.fm.h
        by_cases hi : i < vs.length
        · obtain ⟨go, yl⟩ := (itr i H' hok).1 hi
          refine .inr ⟨go, fun H2 => ∃ I2 acc2 t2 ys2, Same I1 I2 ∧ Stt I0 H0 ctx (MF.lst D r acc2 :: C t2) I2 H2 σ ∧ acc2.length ≤ i + 1 ∧ lcXM f (xs.drop (i + 1)) t2 = .ok (ys2, tot.2) ∧ tot.1 = acc2 ++ ys2, fun H2 h => ⟨k - 1, by omega, by omega, h⟩, fun v H2 hy => ?_⟩
          obtain ⟨rfl, ev⟩ := yl v H2 hy
          obtain ⟨x, ex, hr⟩ := paired_drop pr i ev
          rw [lcXM_drop ex] at el
          show (fun σ2 H2 => wipe σ2 [j] = wipe σ [j] ∧ _) (((σ.set j none)).set j (some v)) H2
          refine ⟨?_, ?_⟩
          · show ((σ.set j none).set j (some v)).set j none = σ.set j none
            rw [List.set_set, List.set_set]
          · show wEb X scope elt ((σ.set j none).set j (some v)) H2 _
            rw [List.set_set]
            intro s3 H3 Ca cl fp
            refine je s3 H3 Ca cl fp D acc x t I' H2 (σ.set j (some v)) _ (g'.set j (mb.up si hr)) ?_
            revert el
            generalize f x t = z
            intro el
            cases z with
            | ok y =>
              cases el2 : lcXM f (xs.drop (i + 1)) y.2 with
              | ok ys2 =>
                dsimp only at el
                rw [el2] at el
                have el' : (y.1 :: ys2.1, ys2.2) = (ys, tot.2) := by injection el
                obtain ⟨e3, e4⟩ := Prod.mk.inj el'
                intro I4 H4 vy s4 g4 r4
                have g5 := g'.back g4 s4
                obtain ⟨z0, zI, oo, zH, vacc, eo, pacc⟩ := g5.lstAt (j := 0) rfl
                subst eo
                have hla := Paired.length pacc
                have hlt := (List.getElem?_eq_some_iff.mp ex).1
                refine ⟨vacc, zH, by omega, I4, acc ++ [y.1], y.2, ys2.1, si.trans s4, g5.relst 0 rfl (paired_app pacc (.cons r4 .nil)), by rw [List.length_append, List.length_singleton]; omega, by rw [el2, ← e4], by rw [eq, ← e3, List.append_assoc]; rfl⟩
              | err e => dsimp only at el; rw [el2] at el; cases el
              | stuck => dsimp only at el; rw [el2] at el; cases el
            | err e => cases el
            | stuck => cases el
        · refine .inl ⟨(itr i H' hok).2 (by omega), ?_⟩
          have e1 : xs.drop i = [] := List.drop_eq_nil_of_le (by omega)
          rw [e1] at el
          have el' : (([] : List α), t) = (ys, tot.2) := by injection el
          obtain ⟨e3, e4⟩ := Prod.mk.inj el'
          rw [← e3, List.append_nil] at eq
          rw [e4, ← eq] at g'
          exact p I' H' D mo (f1.trans si) g'
      | err e => exact absurd et (lcXM_noerr _ _)
      | stuck => rw [et] at p; exact p.elim
    · have e0 : ((Res.ok (xs, t1)).bindX fun xs t => lcX f xs t) = .stuck := if_neg hz
      rw [e0] at p
      exact p.elim
  | err e => exact p
  | stuck => exact p
theorem JXM.lc (j : Nat) [mo : Mo r] [mb : Mo rb] {m : Res (List β × T)} {f : β → T → Res (α × T)} {scope : Scope} (ji : JXI X I0 H0 W Kx ctx C t0 (.Name n pos') iter m rb)
    (je : ∀ (s : Shared) (H : Hp) (Ca : Addr) (cl : List (Str × Addr)) (fp : List Addr) (D : Addr) (acc : List α) (x : β) (t : T), Takes (X.blk s H scope (compEnvC scope cl Ca X.env) fp) W0 → JX (X.blk s H scope (compEnvC scope cl Ca X.env) fp) I0 H0 W0 (fun _ _ _ _ => True) (ctx.set j (some ⟨rb, x⟩)) (fun t => MF.lst D r acc :: C t) t elt (f x t) r)
    (hN : X.N.Nodup) (ok : BlkOk X.N X.env.scope scope [(n, j)]) (hj : X.N[j]? = some n := by rfl) (hc : X.calm = true := by rfl) (hsc : Loc (relabel scope X.env) n := by first | exact Or.inl rfl | exact Or.inr rfl) (hfn : (scope.names.lookup n == some .cell) = true ∨ (relabel scope X.env).names.lookup n = some .local := by first | exact .inr rfl | exact .inl rfl) (hs : ∀ x, foldedSetIterable iter X.env x = pure x := by intro _; rfl) :
    JXM X I0 H0 W Kx ctx C t0 (.ListComp elt [⟨.Name n pos', iter, [], 0⟩] scope pos) (m.bindX fun xs t => lcX f xs t) r := fun I H σ Q st p =>
  PE.w (pe_lc (own := [(n, j)]) hc hN pi_W ok (fun s H C cl fp => pg_name (i := j) hN hj hsc hfn) (fun s H C cl fp => pts_nil) (fun s H C cl fp => pe_Wb s H C cl fp) hs) (lcX_post j ji (fun s H Ca cl fp D acc x t => je s H Ca cl fp D acc x t takes0) I H σ Q st p)
theorem JXI.range1 {tg : Expr} {m : Res (Int × T)} (j : JX X I0 H0 W Kx ctx C t0 a m rInt) (hm : X.mg "range" = none) (hg : Gl X "range" := by rfl) (hs : starEach [a] X.env = (false, eval a X.env) :: starEach [] X.env := by rfl) : JXI X I0 H0 W Kx ctx C t0 tg (.Call (.Name "range" pos') [a] [] pos) (m.bindX fun x t => (rangeM1 x).bind fun z => .ok (z, t)) rInt := fun I H σ R st p => by
  refine PI.w (pi_range1 hg hm (pa_cons pe_W pa_nil hs) hs) (j I H σ _ st ?_)
  cases m with
  | ok x =>
    intro I1 H1 v s1 g1 r1
    cases (show v = V.int x.1 from r1)
    by_cases hh : -(2 ^ 62) ≤ x.1 ∧ x.1 < 2 ^ 62
    · have e : ((Res.ok x).bindX fun x t => (rangeM1 x).bind fun z => .ok (z, t)) = .ok (rngI 0 x.1.toNat, x.2) := by
        show (rangeM1 x.1).bind _ = _
        rw [show rangeM1 x.1 = _ from Res.guard_pos hh _]; rfl
      rw [e] at p
      exact ⟨x.1, rfl, hh.1, hh.2, p I1 H1 _ _ _ s1 g1 itr_rng (fun _ _ _ _ _ => True.intro) rng_pair⟩
    · have e : ((Res.ok x).bindX fun x t => (rangeM1 x).bind fun z => .ok (z, t)) = .stuck := by
        show (rangeM1 x.1).bind _ = _
        rw [show rangeM1 x.1 = _ from if_neg hh]; rfl
      rw [e] at p
      exact p.elim
  | err e => exact p
  | stuck => exact p
/-! ### statements -/
theorem J1.setX (i : Nat) [Mo r] {m : Res (α × T)} (j : JX X I0 H0 W Kx ctx C t0 e m r) (hN : X.N.Nodup) (hi : X.N[i]? = some n := by rfl) (hl : Loc X.env.scope n := by first | exact Or.inl rfl | exact Or.inr rfl) (hs : swapsWith e (some (.Name n pos')) pos.line X.env = pure false := by rfl)
    (hf : X.fn n = true ∨ X.env.scope.names.lookup n = some .local := by first | exact .inl rfl | exact .inr rfl | assumption) : J1 X W Kx (Stt I0 H0 ctx (C t0)) (.Assign [.Name n pos'] e pos) m (fun x => Stt I0 H0 (ctx.set i (some ⟨r, x.1⟩)) (C x.2)) := fun I H σ D g p => by
  refine s_set i (j I H σ _ g ?_) hN hi hl hs hf
  cases m with
  | ok x => exact fun I' H' v s g' h => p I' H' _ s (g'.set i h)
  | err e => exact fun I' H' c d x => p I' H' σ c d x
  | stuck => exact p
theorem J1.setXM (i : Nat) [Mo r] {m : Res (List α × T)} (j : JXM X I0 H0 W Kx ctx C t0 e m r) (hN : X.N.Nodup) (hi : X.N[i]? = some n := by rfl) (hl : Loc X.env.scope n := by first | exact Or.inl rfl | exact Or.inr rfl) (hs : swapsWith e (some (.Name n pos')) pos.line X.env = pure false := by rfl)
    (hf : X.fn n = true ∨ X.env.scope.names.lookup n = some .local := by first | exact .inl rfl | exact .inr rfl | assumption) : J1 X W Kx (Stt I0 H0 ctx (C t0)) (.Assign [.Name n pos'] e pos) m (fun x I H σ => ∃ l, Stt I0 H0 (ctx.set i (some ⟨rRef l, ()⟩)) (MF.lst l r x.1 :: C x.2) I H σ) := fun I H σ D g p => by
  refine s_set i (j I H σ _ g ?_) hN hi hl hs hf
  cases m with
  | ok x => exact fun I' H' l _ s g' => p I' H' _ s ⟨l, g'.set i rfl⟩
  | err e => exact fun I' H' c d x => p I' H' σ c d x
  | stuck => exact p
/-- y = [.. for ..] on one line -/
theorem J1.setLcX (i j : Nat) {y : Str} {py spos : Pos} [mo : Mo r] [mb : Mo rb] {m : Res (List β × T)} {f : β → T → Res (α × T)} {scope : Scope} (ji : JXI X I0 H0 W Kx ctx C t0 (.Name n pos') iter m rb)
    (je : ∀ (s : Shared) (H : Hp) (Ca : Addr) (cl : List (Str × Addr)) (fp : List Addr) (D : Addr) (acc : List α) (x : β) (t : T), Takes (X.blk s H scope (compEnvC scope cl Ca X.env) fp) W0 → JX (X.blk s H scope (compEnvC scope cl Ca X.env) fp) I0 H0 W0 (fun _ _ _ _ => True) (ctx.set j (some ⟨rb, x⟩)) (fun t => MF.lst D r acc :: C t) t elt (f x t) r)
    (hN : X.N.Nodup) (ok : BlkOk X.N X.env.scope scope [(n, j)]) (hi : X.N[i]? = some y := by rfl) (hyl : X.env.scope.names.lookup y = some .local := by rfl)
    (hsw : swapsWith (.ListComp elt [⟨.Name n pos', iter, [], 0⟩] scope pos) (some (.Name y py)) spos.line X.env = pure true := by rfl) (hj : X.N[j]? = some n := by rfl) (hc : X.calm = true := by rfl) (hsc : Loc (relabel scope X.env) n := by first | exact Or.inl rfl | exact Or.inr rfl) (hfn : (scope.names.lookup n == some .cell) = true ∨ (relabel scope X.env).names.lookup n = some .local := by first | exact .inr rfl | exact .inl rfl) (hs : ∀ x, foldedSetIterable iter X.env x = pure x := by intro _; rfl) :
    J1 X W Kx (Stt I0 H0 ctx (C t0)) (.Assign [.Name y py] (.ListComp elt [⟨.Name n pos', iter, [], 0⟩] scope pos) spos) (m.bindX fun xs t => lcX f xs t) (fun x I H σ => ∃ l, Stt I0 H0 (ctx.set i (some ⟨rRef l, ()⟩)) (MF.lst l r x.1 :: C x.2) I H σ) := fun I H σ D g p => by
  refine PS.w (ps_setLc (own := [(n, j)]) hc hN hi hyl hsw pi_W ok (fun s H C cl fp => pg_name (i := j) hN hj hsc hfn) (fun s H C cl fp => pts_nil) (fun s H C cl fp => pe_Wb s H C cl fp) hs) (lcX_post j ji (fun s H Ca cl fp D acc x t => je s H Ca cl fp D acc x t takes0) I H σ (fun x H1 => gName i x σ H1 D.nx) g ?_)
  revert p
  generalize (m.bindX fun xs t => lcX f xs t) = z
  intro p
  cases z with
  | ok x => exact fun I' H' l _ s g' => p I' H' _ s ⟨l, g'.set i rfl⟩
  | err e => exact fun I' H' c d x => p I' H' σ c d x
  | stuck => exact p
theorem J1.exprX {m : Res (α × T)} (j : JX X I0 H0 W Kx ctx C t0 e m r) (hs : swapsWith e none pos.line X.env = pure false := by rfl) : J1 X W Kx (Stt I0 H0 ctx (C t0)) (.Expr e pos) m (fun x => Stt I0 H0 ctx (C x.2)) := fun I H σ D g p => by
  refine s_expr (j I H σ _ g ?_) hs
  cases m with
  | ok x => exact fun I' H' v s g' h => p I' H' σ s g'
  | err e => exact fun I' H' c d x => p I' H' σ c d x
  | stuck => exact p
/-- x.append(e), the list no part of what e changes -/
theorem J1.appX (i j : Nat) [mo : Mo r] {l : Addr} {xs : List α} {m : Res (α × T)} {p1 apos cpos : Pos} (je : JX X I0 H0 W Kx ctx C t0 e m r) (hx : HX I0 H0 Kx ctx C)
    (hj : ∀ t, (C t)[j]? = some (MF.lst l r xs) := by intro _; rfl) (hc : ctx[i]? = some (some (SF.mk (rRef l) ())) := by rfl) (hN : X.N[i]? = some n := by rfl) (hv : Vis X.env.scope n := by first | exact Or.inl rfl | exact Or.inr (Or.inl rfl) | exact Or.inr (Or.inr rfl)) (hd : (n == ("__debug__" : Str)) = false := by decide)
    (hcd : (n == ("__classdict__" : Str)) = false := by decide) (hbase : attributeBase (.Name n p1) "append" X.env (eval (.Name n p1) X.env) = eval (.Name n p1) X.env := by rfl)
    (hfew : ((backTo cpos (starEach [e] X.env)).all (fun x => !x.1) && (backToKw cpos (keywordEach [] X.env)).all (fun x => x.1.isSome) && decide ([e].length + ([] : List Keyword).length + (if ([] : List Keyword).isEmpty then 0 else 1) < 30)) = true := by rfl)
    (hline : (apos.endLine == cpos.line) = true := by rfl) (hst : starEach [e] X.env = (false, eval e X.env) :: starEach [] X.env := by rfl) (hplain : (backTo cpos (starEach [] X.env)).any (·.1) = false := by rfl) (hs : swapsWith (.Call (.Attribute (.Name n p1) "append" apos) [e] [] cpos) none pos.line X.env = pure false := by rfl) :
    J1 X W Kx (Stt I0 H0 ctx (C t0)) (.Expr (.Call (.Attribute (.Name n p1) "append" apos) [e] [] cpos) pos) (m.bindX fun y t => (appM xs y).bind fun z => .ok (z, t)) (fun z => Stt I0 H0 ctx ((C z.2).set j (MF.lst l r z.1))) := fun I H σ D g p => by
  obtain ⟨u, eu, hu⟩ := g.sl i _ hc
  cases (show u = V.ref l from hu)
  obtain ⟨_, _, o, zH, vs, eo, pr⟩ := g.lstAt (hj t0)
  subst eo
  refine s_expr (PE.w (pe_bm PySem.F.plainAttrs_list PySem.F.slot_list_append PySem.F.type_list_append mt_append pe_W pa_W hbase hfew hline hst hplain) (w_var i ?_ eu hN hv hd hcd)) hs
  refine ⟨.inl ⟨rfl, vs, SqL.of zH⟩, ?_⟩
  refine Tr.w_cons (je I H σ _ g ?_) hst
  cases m with
  | ok y =>
    intro I1 H1 v s1 g1 h1
    obtain ⟨_, _, o, zH1, vs1, eo, pr1⟩ := g1.lstAt (hj y.2)
    subst eo
    by_cases hz : xs.length < sizeLine
    · refine w_nil ⟨l, vs1, v, rfl, rfl, zH1, by rw [Paired.length pr1]; exact hz, ?_⟩
      have e1 : ((Res.ok y).bindX fun y t => (appM xs y).bind fun z => .ok (z, t)) = .ok (xs ++ [y.1], y.2) := by
        show (appM xs y.1).bind _ = _
        rw [show appM xs y.1 = _ from Res.guard_pos hz _]; rfl
      rw [e1] at p
      exact p I1 _ σ s1 (g1.relst j (hj y.2) (paired_app pr1 (.cons h1 .nil)))
    · have e1 : ((Res.ok y).bindX fun y t => (appM xs y).bind fun z => .ok (z, t)) = .stuck := by
        show (appM xs y.1).bind _ = _
        rw [show appM xs y.1 = _ from if_neg hz]; rfl
      rw [e1] at p
      exact p.elim
  | err e => exact fun I' H' c d x => p I' H' σ c d x
  | stuck => exact p.elim
/-- x[k] = e -/
theorem J1.putX (i j : Nat) [mo : Mo r] {l : Addr} {xs : List α} {m : Res (α × T)} {mi : T → Res (Int × T)} {p1 : Pos} (je : JX X I0 H0 W Kx ctx C t0 e m r) (ji : ∀ t, JX X I0 H0 W Kx ctx C t ix (mi t) rInt)
    (hj : ∀ t, (C t)[j]? = some (MF.lst l r xs) := by intro _; rfl) (hc : ctx[i]? = some (some (SF.mk (rRef l) ())) := by rfl) (hN : X.N[i]? = some n := by rfl) (hv : Vis X.env.scope n := by first | exact Or.inl rfl | exact Or.inr (Or.inl rfl) | exact Or.inr (Or.inr rfl)) (hd : (n == ("__debug__" : Str)) = false := by decide)
    (hcd : (n == ("__classdict__" : Str)) = false := by decide) (ha : ∀ v, assign (.Subscript (.Name n p1) ix pos') X.env v = (do
      let ov ← holding [v] (eval (.Name n p1) X.env)
      let iv ← holding [v, ov] (eval ix X.env)
      standAt pos'
      holding [v, ov, iv] (setItem ov iv v)
      release [v, ov, iv] []) := by intro _; rfl)
    (hs : swapsWithSole [.Subscript (.Name n p1) ix pos'] e pos.line X.env = pure false := by rfl) (hw : swappedStores [.Subscript (.Name n p1) ix pos'] e X.env = pure none := by rfl)
    (h1 : (assignEach [.Subscript (.Name n p1) ix pos'] X.env).map (·.2) = [assign (.Subscript (.Name n p1) ix pos') X.env] := by rfl) :
    J1 X W Kx (Stt I0 H0 ctx (C t0)) (.Assign [.Subscript (.Name n p1) ix pos'] e pos) (m.bindX fun y t => (mi t).bindX fun k t' => (putM xs k y).bind fun z => .ok (z, t')) (fun z => Stt I0 H0 ctx ((C z.2).set j (MF.lst l r z.1))) := fun I H σ D g p => by
  refine PS.w (ps_asg pe_W (pg_sub pe_W pe_W set_list ha) hs hw h1) (je I H σ _ g ?_)
  cases m with
  | ok y =>
    intro I1 H1 v s1 g1 r1
    obtain ⟨u, eu, hu⟩ := g1.sl i _ hc
    cases (show u = V.ref l from hu)
    refine w_var i (ji y.2 I1 H1 σ _ g1 ?_) eu hN hv hd hcd
    have p1 : PostB X W Kx I1 ((mi y.2).bindX fun k t' => (putM xs k y.1).bind fun z => .ok (z, t')) _ D := PostB.up p s1
    revert p1
    generalize mi y.2 = zi
    intro p1
    cases zi with
    | ok k =>
      intro I2 H2 vk s2 g2 r2
      cases (show vk = V.int k.1 from r2)
      obtain ⟨_, _, o, zH, vs, eo, pr⟩ := g2.lstAt (hj k.2)
      subst eo
      have p' : PostB X W Kx I1 ((putM xs k.1 y.1).bind fun z => .ok (z, k.2)) _ D := p1
      unfold putM at p'
      cases ek : ixN xs.length k.1 with
      | none => rw [ek] at p'; exact p'.elim
      | some q =>
        rw [ek] at p'
        refine ⟨l, vs, k.1, q, rfl, rfl, zH, by rw [Paired.length pr]; exact ek, ?_⟩
        exact p' I2 _ σ s2 (g2.relst j (hj k.2) (paired_set (mo.up s2 r1) q pr))
    | err e => exact fun I' H' c d x => p1 I' H' σ c d x
    | stuck => exact p1.elim
  | err e => exact fun I' H' c d x => p I' H' σ c d x
  | stuck => exact p.elim
/-- x, y = e -/
theorem J1.unp2X (i j : Nat) {x y : Str} {r1 : Rp α} {r2 : Rp β} [Mo r1] [Mo r2] {px py pt : Pos} {kt} {m : Res ((α × β × Unit) × T)} (je : JX X I0 H0 W Kx ctx C t0 e m (rTu (aCons (rp r1) (aCons (rp r2) aNil)))) (hN : X.N.Nodup) (hc : X.calm = true := by rfl)
    (hi : X.N[i]? = some x := by rfl) (hj : X.N[j]? = some y := by rfl) (hlx : Loc X.env.scope x := by first | exact Or.inl rfl | exact Or.inr rfl) (hly : Loc X.env.scope y := by first | exact Or.inl rfl | exact Or.inr rfl) (hfx : X.fn x = true ∨ X.env.scope.names.lookup x = some .local := by first | exact .inl rfl | exact .inr rfl)
    (hfy : X.fn y = true ∨ X.env.scope.names.lookup y = some .local := by first | exact .inl rfl | exact .inr rfl) (hs : swapsWithSole [.Tuple [.Name x px, .Name y py] kt pt] e pos.line X.env = pure false := by rfl) (hw : swappedStores [.Tuple [.Name x px, .Name y py] kt pt] e X.env = pure none := by rfl)
    (h1 : (assignEach [.Tuple [.Name x px, .Name y py] kt pt] X.env).map (·.2) = [assign (.Tuple [.Name x px, .Name y py] kt pt) X.env] := by rfl) (hn : (assignEach [Expr.Name x px, .Name y py] X.env).length = 2 := by rfl) (hst : (assignEach [Expr.Name x px, .Name y py] X.env).findIdx? (·.1) = none := by rfl) :
    J1 X W Kx (Stt I0 H0 ctx (C t0)) (.Assign [.Tuple [.Name x px, .Name y py] kt pt] e pos) m (fun s => Stt I0 H0 ((ctx.set i (some ⟨r1, s.1.1⟩)).set j (some ⟨r2, s.1.2.1⟩)) (C s.2)) := fun I H σ D g p => by
  refine PS.w (ps_asg pe_W (pg_tup hc (pgs_cons (pg_name (i := i) hN hi hlx hfx) (pgs_cons (pg_name (i := j) hN hj hly hfy) pgs_nil)) hn hst) hs hw h1) (je I H σ _ g ?_)
  cases m with
  | ok s =>
    rintro I1 H1 u s1 g1 ⟨l, vs, rfl, hl, v1, ws, rfl, h1, v2, ws2, rfl, h2, rfl⟩
    refine ⟨l, [v1, v2], rfl, SqT.of (g1.same _ _ hl), rfl, v1, [v2], rfl, v2, [], rfl, rfl, ?_⟩
    exact p I1 H1 _ s1 ((g1.set i (r := r1) h1).set j (r := r2) h2)
  | err e => exact fun I' H' c d x => p I' H' σ c d x
  | stuck => exact p
theorem JR.ifX {mc : Res (Bool × T)} {m1 m2 : T → Res γ} (j : JXT X I0 H0 W Kx ctx C t0 c mc) (k1 : ∀ t, JR X I0 H0 W Kx (Stt I0 H0 ctx (C t)) s1 (m1 t) rr) (k2 : ∀ t, JR X I0 H0 W Kx (Stt I0 H0 ctx (C t)) ss (m2 t) rr) :
    JR X I0 H0 W Kx (Stt I0 H0 ctx (C t0)) (.If c s1 [] pos :: ss) (mc.bindX fun x t => if x = true then m1 t else m2 t) rr := fun I H σ D g p => by
  refine b_cons (s_if (j I H σ _ g ?_))
  cases mc with
  | ok x =>
    obtain ⟨x, t⟩ := x
    intro I1 H1 s g1
    cases x with
    | true => exact iteT (b_mono (k1 t I1 H1 σ { D with nx := fun _ _ => False } g1 p) (fun _ _ z => z.elim) (fun _ _ z => z) (fun _ _ z => z) (fun _ _ z => z))
    | false => exact iteF (b_nil (k2 t I1 H1 σ D g1 p))
  | err e => exact fun I' H' c d x => p I' H' σ c d x
  | stuck => exact p
theorem JR.if2X {mc : Res (Bool × T)} {m1 m2 : T → Res γ} (j : JXT X I0 H0 W Kx ctx C t0 c mc) (k1 : ∀ t, JR X I0 H0 W Kx (Stt I0 H0 ctx (C t)) s1 (m1 t) rr) (k2 : ∀ t, JR X I0 H0 W Kx (Stt I0 H0 ctx (C t)) s2 (m2 t) rr) :
    JR X I0 H0 W Kx (Stt I0 H0 ctx (C t0)) (.If c s1 s2 pos :: ss) (mc.bindX fun x t => if x = true then m1 t else m2 t) rr := fun I H σ D g p => by
  refine b_cons (s_if (j I H σ _ g ?_))
  cases mc with
  | ok x =>
    obtain ⟨x, t⟩ := x
    intro I1 H1 s g1
    cases x with
    | true => exact iteT (b_mono (k1 t I1 H1 σ { D with nx := fun _ _ => False } g1 p) (fun _ _ z => z.elim) (fun _ _ z => z) (fun _ _ z => z) (fun _ _ z => z))
    | false => exact iteF (b_mono (k2 t I1 H1 σ { D with nx := fun _ _ => False } g1 p) (fun _ _ z => z.elim) (fun _ _ z => z) (fun _ _ z => z) (fun _ _ z => z))
  | err e => exact fun I' H' c d x => p I' H' σ c d x
  | stuck => exact p
theorem J1.ifX {mc : Res (Bool × T)} {m1 m2 : T → Res S} {G' : S → Knows} (j : JXT X I0 H0 W Kx ctx C t0 c mc) (k1 : ∀ t, JN X W Kx (Stt I0 H0 ctx (C t)) s1 (m1 t) G') (k2 : ∀ t, JN X W Kx (Stt I0 H0 ctx (C t)) s2 (m2 t) G') :
    J1 X W Kx (Stt I0 H0 ctx (C t0)) (.If c s1 s2 pos) (mc.bindX fun x t => if x = true then m1 t else m2 t) G' := fun I H σ D g p => by
  refine s_if (j I H σ _ g ?_)
  cases mc with
  | ok x =>
    obtain ⟨x, t⟩ := x
    intro I1 H1 s g1
    cases x with
    | true => exact iteT (k1 t I1 H1 σ D g1 (PostB.up (m := m1 t) p s))
    | false => exact iteF (k2 t I1 H1 σ D g1 (PostB.up (m := m2 t) p s))
  | err e => exact fun I' H' c d x => p I' H' σ c d x
  | stuck => exact p
theorem J1G.ifX {mc : Res (Bool × T)} {m1 m2 : T → Res (Fl S L γ)} {G' : S → Knows} {GL : L → Knows} (j : JXT X I0 H0 W Kx ctx C t0 c mc) (k1 : ∀ t, JG X I0 H0 W Kx (Stt I0 H0 ctx (C t)) s1 (m1 t) G' GL rr) (k2 : ∀ t, JG X I0 H0 W Kx (Stt I0 H0 ctx (C t)) s2 (m2 t) G' GL rr) :
    J1G X I0 H0 W Kx (Stt I0 H0 ctx (C t0)) (.If c s1 s2 pos) (mc.bindX fun x t => if x = true then m1 t else m2 t) G' GL rr := fun I H σ D g p => by
  refine s_if (j I H σ _ g ?_)
  cases mc with
  | ok x =>
    obtain ⟨x, t⟩ := x
    intro I1 H1 s g1
    cases x with
    | true => exact iteT (k1 t I1 H1 σ D g1 (PostG.up (m := m1 t) p s))
    | false => exact iteF (k2 t I1 H1 σ D g1 (PostG.up (m := m2 t) p s))
  | err e => exact fun I' H' c d x => p I' H' σ c d x
  | stuck => exact p
theorem JG.ifTX {mc : Res (Bool × T)} {m1 m2 : T → Res (Fl S L γ)} {G' : S → Knows} {GL : L → Knows} (j : JXT X I0 H0 W Kx ctx C t0 c mc) (k1 : ∀ t, JG X I0 H0 W Kx (Stt I0 H0 ctx (C t)) s1 (m1 t) (fun _ _ _ _ => False) GL rr) (k2 : ∀ t, JG X I0 H0 W Kx (Stt I0 H0 ctx (C t)) ss (m2 t) G' GL rr) :
    JG X I0 H0 W Kx (Stt I0 H0 ctx (C t0)) (.If c s1 [] pos :: ss) (mc.bindX fun x t => if x = true then m1 t else m2 t) G' GL rr := fun I H σ D g p => by
  refine b_cons (s_if (j I H σ _ g ?_))
  cases mc with
  | ok x =>
    obtain ⟨x, t⟩ := x
    intro I1 H1 s g1
    cases x with
    | true =>
      refine iteT (b_mono (k1 t I1 H1 σ { D with nx := fun _ _ => False } g1 ?_) (fun _ _ z => z.elim) (fun _ _ z => z) (fun _ _ z => z) (fun _ _ z => z))
      have p1 : PostG X I0 H0 W Kx I1 (m1 t) _ _ _ _ := PostG.up p s
      revert p1
      generalize m1 t = z
      intro p1
      cases z with
      | ok a => cases a with
        | nx s => exact fun _ _ _ _ z => z
        | bk s => exact p1
        | ct s => exact p1
        | rt s => exact p1
      | err e => exact p1
      | stuck => exact p1
    | false => exact iteF (b_nil (k2 t I1 H1 σ D g1 (PostG.up (m := m2 t) p s)))
  | err e => exact fun I' H' c d x => p I' H' σ c d x
  | stuck => exact p
/-- the iterable of a for, put ahead: as if its items were drawn first -/
theorem JXI.forS (j : Nat) [mb : Mo rb] {m : Res (List β × T)} {cx : S → List (Option SF)} {me : S → List MF} {f : β → S → Res S} {s0 : T → S} (hp : PassesOwn (model X.prog X.w) X.A X.env X.xe) (ji : JXI X I0 H0 W Kx ctx C t0 (.Name n pos') iter m rb)
    (jb : ∀ x s, JN X W Kx (Stt I0 H0 ((cx s).set j (some ⟨rb, x⟩)) (me s)) body (f x s) fun s' => Stt I0 H0 (cx s') (me s')) (hC : ∀ t, C t = me (s0 t)) (hw : ∀ t, weakC ctx (cx (s0 t))) (hN : X.N.Nodup) (hc : X.calm = true := by rfl)
    (hj : X.N[j]? = some n := by rfl) (hl : Loc X.env.scope n := by first | exact Or.inl rfl | exact Or.inr rfl) (hf : X.fn n = true ∨ X.env.scope.names.lookup n = some .local := by first | exact .inl rfl | exact .inr rfl | assumption) (hs : ∀ x, foldedSetIterable iter X.env x = pure x := by intro _; rfl) :
    J1 X W Kx (Stt I0 H0 ctx (C t0)) (.For (.Name n pos') iter body [] pos) (m.bindX fun xs t => Tr.forS f xs (s0 t)) (fun s => Stt I0 H0 (cx s) (me s)) := fun I H σ D g p => by
  refine PS.w (ps_for hp hc pi_W (pg_name (i := j) hN hj hl hf) pss_W hs) (ji I H σ _ g ?_)
  cases m with
  | ok x0 =>
    obtain ⟨xs, t1⟩ := x0
    intro I1 H1 J vs okp f1 g1 itr stay pr
    have p0 : PostB X W Kx I1 (Tr.forS f xs (s0 t1)) (fun s => Stt I0 H0 (cx s) (me s)) D := PostB.up p f1
    have hlen : vs.length = xs.length := Paired.length pr
    have g1 : Stt I0 H0 (cx (s0 t1)) (me (s0 t1)) I1 H1 σ := by rw [← hC t1]; exact g1.weak (hw t1)
    refine ⟨fun i k σ' H' => k + i = vs.length ∧ ∃ I' s, Same I1 I' ∧ Stt I0 H0 (cx s) (me s) I' H' σ' ∧ PostB X W Kx I' (Tr.forS f (xs.drop i) s) (fun s => Stt I0 H0 (cx s) (me s)) D, ⟨vs.length, rfl, I1, s0 t1, Same.refl _, g1, p0⟩, ?_⟩
    rintro i k σ' H' ⟨hk, I', s, si, g', p'⟩
    have hok := stay I' H' si g'.same g'.fm.h
    by_cases hi : i < vs.length
    · obtain ⟨go, yl⟩ := (itr i H' hok).1 hi
      refine .inr ⟨go, fun σ2 H2 => ∃ I2 s2, Same I1 I2 ∧ Stt I0 H0 (cx s2) (me s2) I2 H2 σ2 ∧ PostB X W Kx I2 (Tr.forS f (xs.drop (i + 1)) s2) (fun s => Stt I0 H0 (cx s) (me s)) D, fun σ2 H2 h => ⟨k - 1, by omega, by omega, h⟩, fun v H2 hy => ?_⟩
      obtain ⟨rfl, ev⟩ := yl v H2 hy
      obtain ⟨x, ex, hr⟩ := paired_drop pr i ev
      rw [forS_drop ex] at p'
      have key := jb x s I' H2 (σ'.set j (some v)) { D with nx := fun σ2 H2 => ∃ I2 s2, Same I' I2 ∧ Stt I0 H0 (cx s2) (me s2) I2 H2 σ2 ∧ PostB X W Kx I2 (Tr.forS f (xs.drop (i + 1)) s2) (fun s => Stt I0 H0 (cx s) (me s)) D, ct := fun _ _ => False, bk := fun _ _ => False } (g'.set j (mb.up si hr)) ?_
      · refine b_mono key (fun σ2 H2 ⟨I2, s2, q1, q2, q3⟩ => ⟨I2, s2, si.trans q1, q2, q3⟩) (fun _ _ z => z) (fun _ _ z => z.elim) (fun _ _ z => z.elim)
      · revert p'
        generalize f x s = z
        intro p'
        cases z with
        | ok s2 => exact fun I2 H2 σ2 q1 q2 => ⟨I2, s2, q1, q2, PostB.up p' q1⟩
        | err e => exact p'
        | stuck => exact p'.elim
    · refine .inl ⟨(itr i H' hok).2 (by omega), ?_⟩
      have : xs.drop i = [] := List.drop_eq_nil_of_le (by omega)
      rw [this] at p'
      exact p' I' H' σ' (Same.refl _) g'
  | err e => exact fun I' H' c d x => p I' H' σ c d x
  | stuck => exact p.elim
/-! ### defs that change a region of the caller's -/
/-- what such a def hands back: its value and the region -/
def rReg (M : β → MF) (H0 : Hp) (rc : Rp γ) : Ra (γ × β) := fun I H v x => rc I v x.1 ∧ ∃ fp, fp.Nodup ∧ (∀ a, a ∈ fp → H0 a = none ∧ I a = none ∧ H a ≠ none) ∧ (M x.2).Q I H fp
theorem Stt.reg {c : MF} {j : Nat} (s : Stt I0 H0 ctx mem I H σ) (hj : mem[j]? = some c) : ∃ fp, fp.Nodup ∧ (∀ a, a ∈ fp → H0 a = none ∧ I a = none ∧ H a ≠ none) ∧ c.Q I H fp := by
  obtain ⟨fp, q, nd, k, _⟩ := s.change hj
  exact ⟨fp, nd, k, q⟩
theorem JR.retR (j : Nat) {M : β → MF} {bb : β} {m : Res γ} (je : JE X I0 H0 W ctx mem e m (rp rc)) (hx : ∀ I H σ d, Stt I0 H0 ctx mem I H σ → Fr H0 d → Kx I H σ d) (hj : mem[j]? = some (M bb) := by rfl) : JR X I0 H0 W Kx (Stt I0 H0 ctx mem) (.Return (some e) pos :: ss) (m.bind fun y => .ok (y, bb)) (rReg M H0 rc) := fun I H σ D g p => by
  refine b_cons (s_ret (je I H σ _ g ?_))
  cases m with
  | ok y => exact fun I' H' v f r => p I' H' v (g.fm.trans f) ⟨r, (g.step f).reg hj⟩
  | err e => exact fun I' H' c d f x => p I' H' σ c d (hx _ _ _ _ (g.step f) (x.1.back g.fm.h)) x.2
  | stuck => exact p
theorem JR.retX (j : Nat) {M : β → MF} (get : T → β) {m : Res (γ × T)} (je : JX X I0 H0 W Kx ctx C t0 e m rc) (hj : ∀ t, (C t)[j]? = some (M (get t)) := by intro _; rfl) : JR X I0 H0 W Kx (Stt I0 H0 ctx (C t0)) (.Return (some e) pos :: ss) (m.bindX fun y t => .ok (y, get t)) (rReg M H0 rc) := fun I H σ D g p => by
  refine b_cons (s_ret (je I H σ _ g ?_))
  cases m with
  | ok y => exact fun I' H' v s g' r => p I' H' v g'.fm ⟨r, g'.reg (hj y.2)⟩
  | err e => exact fun I' H' c d x => p I' H' σ c d x
  | stuck => exact p
theorem JR.retP {m : Res (γ × T)} (je : JX X I0 H0 W Kx ctx C t0 e m rc) : JR X I0 H0 W Kx (Stt I0 H0 ctx (C t0)) (.Return (some e) pos :: ss) (m.bindX fun y _ => .ok y) (rp rc) := fun I H σ D g p => by
  refine b_cons (s_ret (je I H σ _ g ?_))
  cases m with
  | ok y => exact fun I' H' v s g' r => p I' H' v g'.fm r
  | err e => exact fun I' H' c d x => p I' H' σ c d x
  | stuck => exact p
theorem JR.retRN (j : Nat) {M : β → MF} {bb : β} (hj : mem[j]? = some (M bb) := by rfl) : JR X I0 H0 W Kx (Stt I0 H0 ctx mem) (.Return none pos :: ss) (.ok ((), bb)) (rReg M H0 rNon) := fun I H σ D g p => b_cons (s_retN (p I H _ g.fm ⟨rfl, g.reg hj⟩))
end
theorem FunD.fnX {γ δ β : Type} {P : Program} {w : World} {K : PySem.W.Frag} {mg : Str → Option Value} {base : Heap} {x qual : Str} {params : Arguments} {body : List Stmt} {scope : Scope} {dvs : List V} {kws : List (Str × V)} {f : Addr} {fd : FuncData} {N ps : List Str} {k : Nat} {RG : Addr → β → MF} {R : Addr → Hp → Hp → List V → δ → Prop} {m : δ → β → Res (γ × β)} {rc : Rp γ} (F : FunD K x qual params body scope dvs kws f fd) (Sc : FnScope N ps scope) (len : ∀ l I H vs d, R l I H vs d → vs.length = ps.length)
    (hb : ∀ (cdv : Value) (A : Around) (outer : List Env) (s : Shared) (I0 H0 H1 : Hp) (E : XK) (vs : List V) (d : δ) (l : Addr) (b : β), Room k (A.deeper (envOfC qual scope s.heap.objs.size f cdv)) → Same I0 H1 → R l I0 H1 vs d →
      ∃ ctx : List (Option SF), ctx.length = N.length ∧ vs.length ≤ N.length ∧ IniR I0 vs ctx ∧ JR (bx P w K mg base N qual scope f cdv A outer s H1 E) I0 H0 (bW E) (bK I0 H0) (Stt I0 H0 ctx [RG l b]) body (m d b) (rReg (RG l) H0 rc)) : FnOk P w K mg base (L2.CX P w) (k + 1) f fd ps (spX K RG R m rc false) := by
  refine F.ok Sc (fun vs H Q E ⟨I, l, b, fp, d, _, h, _⟩ => len l I H vs d h) fun cdv A outer s H vs Q E hr ⟨I, l, b, fp, d, rs, h, p⟩ => ⟨_, pss_W, ?_⟩
  obtain ⟨ctx, l1, l2, ini, j⟩ := hb cdv A outer s I (rm H fp) H E vs d l b hr rs.s h
  refine j I H _ _ ?_ ?_
  · refine ⟨⟨Same.refl _, fun a u e => ?_, rs.s, fun a e n => e⟩, ?_, fun i sf e => IniR.get ini i sf e, [fp], ⟨rs.q, True.intro⟩, ?_, fun a ha => ?_⟩
    · by_cases hf : a ∈ fp
      · rw [rm_in hf] at e; cases e
      · rw [rm_out hf] at e; exact e
    · unfold L2.start
      rw [List.length_append, List.length_map, List.length_replicate, l1]
      omega
    · simpa using rs.nd
    · have ha : a ∈ fp := by simpa using ha
      exact ⟨rm_in ha, rs.own a ha⟩
  · revert p
    show PostC K (RG l) false b (m d b) rc I H fp E Q → PostR _ _ _ _ _ (m d b) _ _
    generalize m d b = z
    intro p
    cases z with
    | ok y => exact fun I' H' v fm ⟨r, fp', nd, own, q⟩ => p I' H' v fp' ⟨fm, nd, own, q⟩ r
    | err e => exact fun I' H' _ c d f x => p I' H' c d f.1 (fun z => by cases z) f.2 x
    | stuck => exact p
theorem FnOk.frX0 {γ δ β : Type} {P : Program} {w : World} {K : PySem.W.Frag} {mg : Str → Option Value} {base : Heap} {k : Nat} {f : Addr} {fd : FuncData} {ps : List Str} {RG : Addr → β → MF} {R : Addr → Hp → Hp → List V → δ → Prop} {m : δ → β → Res (γ × β)} {rc : Rp γ} {kp : Bool} (F : FnOk P w K mg base (L2.CX P w) k f fd ps (spX K RG R m rc kp)) (hb : Binds K fd ps []) :
    FnR P w K mg base (L2.CX P w) k f (spX K RG R m rc kp) := (FnOk.raw F hb .nil).imp fun vs H Q E h => by rw [List.append_nil]; exact h
end L2.Tr

namespace L2.Tr
open PySem PySem.Spec PyProof.Rows
section
variable {α β γ δ S T L : Type} {X : Cx} {I0 H0 I H I1 : Hp} {W : WX} {Kx : KnowsX} {G : Knows} {ctx : List (Option SF)} {mem : List MF} {C : T → List MF} {t0 t : T} {e a b c o iter elt ix : Expr} {es bs : List Expr} {st : Stmt} {ss s1 s2 body : List Stmt} {pos pos' p2 : Pos} {n : Str} {ra : Rp α} {rb : Rp β} {rc : Rp γ} {r : Rp α} {σ : St} {Q : VK} {R : Hp → Hp → List V → δ → Prop} {rr : Ra γ}
theorem JX.at {m : Res (α × T)} {c c' : List (Option SF)} {C C' : T → List MF} (j : JX X I0 H0 W Kx c' C' t0 e m r) (h : c = c' := by rfl) (h2 : C = C' := by rfl) : JX X I0 H0 W Kx c C t0 e m r := by rw [h, h2]; exact j
/-- s[k] of a text -/
def atS (z : Str) (i : Int) : Res Str := Res.guard (z.length ≤ sizeLine) (match atI z.cps.toList i with
  | some c => .ok ⟨#[c]⟩
  | none => .stuck)
theorem atS_post {z : Str} {i : Int} {K : PySem.W.Frag} {E : XK} (h : PostE K (atS z i) (rp rStr) I H E Q) : ∃ c, z.length ≤ sizeLine ∧ atI z.cps.toList i = some c ∧ PostE K (.ok ⟨#[c]⟩) (rp rStr) I H E Q := by
  unfold atS at h
  obtain ⟨h1, h2⟩ := post_guard h
  cases e : atI z.cps.toList i with
  | none => rw [e] at h2; exact h2.elim
  | some c => rw [e] at h2; exact ⟨c, h1, rfl, h2⟩
theorem JE.ixStr {m : Res Str} {mi : Res Int} (ja : JE X I0 H0 W ctx mem a m (rp rStr)) (jb : JE X I0 H0 W ctx mem b mi (rp rInt)) (hs : PlainIx b := by exact fun _ _ => rfl) :
    JE X I0 H0 W ctx mem (.Subscript a b pos) (m.bind fun xs => mi.bind fun i => atS xs i) (rp rStr) := fun I H σ Q st p => by
  refine PE.w (pe_ix ix_str pe_W pe_W hs) (ja I H σ _ st ?_)
  cases m with
  | ok xs =>
    intro I1 H1 u f1 r1
    refine jb I1 H1 σ _ (st.step f1) ?_
    have p1 := PostE.up p f1
    cases mi with
    | ok i =>
      intro I2 H2 v f2 r2
      have p2 : PostE X.K (atS xs i) (rp rStr) I2 H2 _ Q := PostE.up p1 f2
      obtain ⟨c, h1, h2, p3⟩ := atS_post p2
      exact ⟨xs, i, c, r1, r2, h1, h2, p3 I2 H2 _ (Fm.refl f2.ih) rfl⟩
    | err e => exact p1
    | stuck => exact p1
  | err e => exact p
  | stuck => exact p
theorem JX.ixStr {m : Res (Str × T)} {mi : T → Res (Int × T)} (ja : JX X I0 H0 W Kx ctx C t0 a m rStr) (jb : ∀ t, JX X I0 H0 W Kx ctx C t b (mi t) rInt) (hs : PlainIx b := by exact fun _ _ => rfl) :
    JX X I0 H0 W Kx ctx C t0 (.Subscript a b pos) (m.bindX fun xs t => (mi t).bindX fun i t' => (atS xs i).bind fun z => .ok (z, t')) rStr := fun I H σ Q st p => by
  refine PE.w (pe_ix ix_str pe_W pe_W hs) (ja I H σ _ st ?_)
  cases m with
  | ok xs =>
    intro I1 H1 u s1 g1 r1
    refine jb xs.2 I1 H1 σ _ g1 ?_
    have p1 : PostX X I0 H0 W Kx ctx C σ I1 ((mi xs.2).bindX fun i t' => (atS xs.1 i).bind fun z => .ok (z, t')) rStr Q := PostX.up p s1
    revert p1
    generalize mi xs.2 = z
    intro p1
    cases z with
    | ok i =>
      intro I2 H2 v s2 g2 r2
      have p2 : PostX X I0 H0 W Kx ctx C σ I2 ((atS xs.1 i.1).bind fun z => .ok (z, i.2)) rStr Q := PostX.up p1 s2
      unfold atS Res.guard at p2
      by_cases hz : xs.1.length ≤ sizeLine
      · rw [if_pos hz] at p2
        cases e : atI xs.1.cps.toList i.1 with
        | none => rw [e] at p2; exact p2.elim
        | some c =>
          rw [e] at p2
          exact ⟨xs.1, i.1, c, r1, r2, hz, e, p2 I2 H2 _ (Same.refl _) g2 rfl⟩
      · rw [if_neg hz] at p2; exact p2.elim
    | err e => exact p1
    | stuck => exact p1
  | err e => exact p
  | stuck => exact p
/-- an argument that is read as a list -/
theorem JXA.consRd {ma : Res (List α × T)} {m : T → Res (δ × T)} [mo : Mo r] (j : JX X I0 H0 W Kx ctx C t0 e ma (rL r)) (k : ∀ t, JXA X I0 H0 W Kx ctx C t es (m t) R) (hs : starEach (e :: es) X.env = (false, eval e X.env) :: starEach es X.env := by rfl) :
    JXA X I0 H0 W Kx ctx C t0 (e :: es) (ma.bindX fun x t => (m t).bindX fun y t' => .ok ((x, y), t')) (aCons (rdL X.K (rp r)) R) := fun I H σ Q st p => by
  refine Tr.w_cons (j I H σ _ st ?_) hs
  cases ma with
  | ok x =>
    intro I1 H1 v s1 g1 r1
    refine k x.2 I1 H1 σ _ g1 ?_
    have p1 : PostXA X I0 H0 W Kx ctx C σ I1 ((m x.2).bindX fun y t' => .ok ((x.1, y), t')) (aCons (rdL X.K (rp r)) R) Q := PostXA.up p s1
    revert p1
    generalize m x.2 = z
    intro p1
    cases z with
    | ok y => exact fun I2 H2 vs s2 g2 r2 => p1 I2 H2 _ s2 g2 ⟨v, vs, rfl, rL_rd g2.same (Mo.up (r := rL r) s2 r1), r2⟩
    | err e => exact p1
    | stuck => exact p1
  | err e => exact p
  | stuck => exact p
/-- a call that hands back a new list, frozen at once -/
theorem JX.callN {f : Addr} {g : δ → Res (List α)} [mo : Mo r] {md : Res (δ × T)} (k : JXA X I0 H0 W Kx ctx C t0 (e :: es) md R) (cn : CallN X W (.ref f) R g r) (hx : HX I0 H0 Kx ctx C) (hm : X.mg n = some (.ref f)) (hk : PySem.W.keepIn X.K (.ref f) = true) (hg : Gl X n := by rfl) (hdb : (n == ("__debug__" : Str)) = false := by decide)
    (he : starEach (e :: es) X.env = (false, eval e X.env) :: starEach es X.env := by rfl) (hpl : (backTo pos (starEach es X.env)).any (·.1) = false := by rfl) : JX X I0 H0 W Kx ctx C t0 (.Call (.Name n pos') (e :: es) [] pos) (md.bindX fun x t => (g x).bind fun z => .ok (z, t)) (rL r) := fun I H σ Q st p => by
  refine w_call (k I H σ _ st ?_) hm hk hg hdb he hpl
  cases md with
  | ok x =>
    intro I1 H1 vs s1 g1 r1
    refine cn I1 H1 σ Q vs x.1 g1.same r1 ?_
    have p1 : PostX X I0 H0 W Kx ctx C σ I1 ((g x.1).bind fun z => .ok (z, x.2)) (rL r) Q := PostX.up p s1
    revert p1
    generalize g x.1 = z
    intro p1
    cases z with
    | ok xs =>
      intro I2 H2 l vs f h1 h2 h3 pr
      obtain ⟨I3, s3, g3, h⟩ := (g1.adopt f h1 h2 h3 pr).ice1
      exact p1 I3 H2 _ (f.i.trans s3) g3 h
    | err e => exact fun I' H' c d f x => p1 I' H' c d (hx _ _ _ _ _ (g1.step f) (x.1.back g1.fm.h)) x.2
    | stuck => exact p1
  | err e => exact p
  | stuck => exact p
theorem JXI.list {tg : Expr} {m : Res (List β × T)} (j : JX X I0 H0 W Kx ctx C t0 iter m (rL rb)) : JXI X I0 H0 W Kx ctx C t0 tg iter m rb := fun I H σ R st p => by
  refine PI.w (pi_list pe_W) (j I H σ _ st ?_)
  cases m with
  | ok xs =>
    rintro I1 H1 v s1 g1 ⟨l, vs, rfl, hl, pr⟩
    exact ⟨l, rfl, ⟨vs, SqL.of (g1.same _ _ hl)⟩, p I1 H1 _ vs _ s1 g1 itr_list (fun I2 H2 s1 s2 _ => SqL.of (s2 _ _ (s1 _ _ hl))) pr⟩
  | err e => exact p
  | stuck => exact p
theorem JXI.range2 {tg : Expr} {m : Res (Int × T)} {m' : T → Res (Int × T)} (j : JX X I0 H0 W Kx ctx C t0 a m rInt) (j' : ∀ t, JX X I0 H0 W Kx ctx C t b (m' t) rInt) (hm : X.mg "range" = none) (hg : Gl X "range" := by rfl) (hs : starEach [a, b] X.env = (false, eval a X.env) :: starEach [b] X.env := by rfl) (hs2 : starEach [b] X.env = (false, eval b X.env) :: starEach [] X.env := by rfl) :
    JXI X I0 H0 W Kx ctx C t0 tg (.Call (.Name "range" pos') [a, b] [] pos) (m.bindX fun x t => (m' t).bindX fun y t' => (rangeM x y).bind fun z => .ok (z, t')) rInt := fun I H σ R st p => by
  refine PI.w (pi_range2 hg hm (pa_cons pe_W (pa_cons pe_W pa_nil hs2) hs) (by rw [hs, hs2]; rfl) (by rw [hs2]; rfl)) (j I H σ _ st ?_)
  cases m with
  | ok x =>
    intro I1 H1 v s1 g1 r1
    refine j' x.2 I1 H1 σ _ g1 ?_
    have p1 : PostXI X I0 H0 W Kx ctx C σ I1 ((m' x.2).bindX fun y t' => (rangeM x.1 y).bind fun z => .ok (z, t')) rInt R := by
      revert p
      show PostXI X I0 H0 W Kx ctx C σ I ((m' x.2).bindX fun y t' => (rangeM x.1 y).bind fun z => .ok (z, t')) rInt R → _
      generalize ((m' x.2).bindX fun y t' => (rangeM x.1 y).bind fun z => (.ok (z, t') : Res (List Int × T))) = z
      intro p
      cases z with
      | ok w => exact fun I' H' J vs okp s => p I' H' J vs okp (s1.trans s)
      | err e => exact p
      | stuck => exact p
    revert p1
    generalize m' x.2 = z
    intro p1
    cases z with
    | ok y =>
      intro I2 H2 v2 s2 g2 r2
      cases (show v = V.int x.1 from r1)
      cases (show v2 = V.int y.1 from r2)
      by_cases hh : -(2 ^ 62) ≤ x.1 ∧ x.1 < 2 ^ 62 ∧ -(2 ^ 62) ≤ y.1 ∧ y.1 < 2 ^ 62
      · have e : ((Res.ok y).bindX fun y t' => (rangeM x.1 y).bind fun z => .ok (z, t')) = .ok (rngI x.1 (y.1 - x.1).toNat, y.2) := by
          show (rangeM x.1 y.1).bind _ = _
          rw [show rangeM x.1 y.1 = _ from Res.guard_pos hh _]; rfl
        rw [e] at p1
        exact ⟨x.1, y.1, rfl, hh, p1 I2 H2 _ _ _ s2 g2 itr_rng (fun _ _ _ _ _ => True.intro) rng_pair⟩
      · have e : ((Res.ok y).bindX fun y t' => (rangeM x.1 y).bind fun z => .ok (z, t')) = .stuck := by
          show (rangeM x.1 y.1).bind _ = _
          rw [show rangeM x.1 y.1 = _ from if_neg hh]; rfl
        rw [e] at p1
        exact p1.elim
    | err e => exact p1
    | stuck => exact p1
  | err e => exact p
  | stuck => exact p
theorem JXI.forG (j : Nat) [mb : Mo rb] {m : Res (List β × T)} {cx : S → List (Option SF)} {me : S → List MF} {f : β → S → Res (Fl S S γ)} {s0 : T → S} {GL : L → Knows} (hp : PassesOwn (model X.prog X.w) X.A X.env X.xe) (ji : JXI X I0 H0 W Kx ctx C t0 (.Name n pos') iter m rb)
    (jb : ∀ x s, JG X I0 H0 W Kx (Stt I0 H0 ((cx s).set j (some ⟨rb, x⟩)) (me s)) body (f x s) (fun s' => Stt I0 H0 (cx s') (me s')) (fun s' => Stt I0 H0 (cx s') (me s')) rr) (hC : ∀ t, C t = me (s0 t)) (hw : ∀ t, weakC ctx (cx (s0 t))) (hN : X.N.Nodup) (hc : X.calm = true := by rfl)
    (hj : X.N[j]? = some n := by rfl) (hl : Loc X.env.scope n := by first | exact Or.inl rfl | exact Or.inr rfl) (hf : X.fn n = true ∨ X.env.scope.names.lookup n = some .local := by first | exact .inl rfl | exact .inr rfl | assumption) (hs : ∀ x, foldedSetIterable iter X.env x = pure x := by intro _; rfl) :
    J1G X I0 H0 W Kx (Stt I0 H0 ctx (C t0)) (.For (.Name n pos') iter body [] pos) (m.bindX fun xs t => (Tr.forG f xs (s0 t) : Res (Fl S L γ))) (fun s => Stt I0 H0 (cx s) (me s)) GL rr := fun I H σ D g p => by
  refine PS.w (ps_for hp hc pi_W (pg_name (i := j) hN hj hl hf) pss_W hs) (ji I H σ _ g ?_)
  cases m with
  | ok x0 =>
    obtain ⟨xs, t1⟩ := x0
    intro I1 H1 J vs okp f1 g1 itr stay pr
    have p0 : PostG X I0 H0 W Kx I1 (Tr.forG f xs (s0 t1)) (fun s => Stt I0 H0 (cx s) (me s)) GL rr D := PostG.up p f1
    have hlen : vs.length = xs.length := Paired.length pr
    have g1 : Stt I0 H0 (cx (s0 t1)) (me (s0 t1)) I1 H1 σ := by rw [← hC t1]; exact g1.weak (hw t1)
    refine ⟨fun i k σ' H' => k + i = vs.length ∧ ∃ I' s, Same I1 I' ∧ Stt I0 H0 (cx s) (me s) I' H' σ' ∧ PostG X I0 H0 W Kx I' (Tr.forG f (xs.drop i) s) (fun s => Stt I0 H0 (cx s) (me s)) GL rr D, ⟨vs.length, rfl, I1, s0 t1, Same.refl _, g1, p0⟩, ?_⟩
    rintro i k σ' H' ⟨hk, I', s, si, g', p'⟩
    have hok := stay I' H' si g'.same g'.fm.h
    by_cases hi : i < vs.length
    · obtain ⟨go, yl⟩ := (itr i H' hok).1 hi
      refine .inr ⟨go, fun σ2 H2 => ∃ I2 s2, Same I1 I2 ∧ Stt I0 H0 (cx s2) (me s2) I2 H2 σ2 ∧ PostG X I0 H0 W Kx I2 (Tr.forG f (xs.drop (i + 1)) s2) (fun s => Stt I0 H0 (cx s) (me s)) GL rr D, fun σ2 H2 h => ⟨k - 1, by omega, by omega, h⟩, fun v H2 hy => ?_⟩
      obtain ⟨rfl, ev⟩ := yl v H2 hy
      obtain ⟨x, ex, hr⟩ := paired_drop pr i ev
      rw [forG_drop ex] at p'
      refine jb x s I' H2 (σ'.set j (some v)) _ (g'.set j (mb.up si hr)) ?_
      revert p'
      generalize f x s = z
      intro p'
      cases z with
      | ok a => cases a with
        | nx s2 => exact fun I2 H2 σ2 q1 q2 => ⟨I2, s2, si.trans q1, q2, PostG.up p' q1⟩
        | ct s2 => exact fun I2 H2 σ2 q1 q2 => ⟨I2, s2, si.trans q1, q2, PostG.up p' q1⟩
        | bk s2 => exact p'
        | rt y => exact p'
      | err e => exact p'
      | stuck => exact p'.elim
    · refine .inl ⟨(itr i H' hok).2 (by omega), ?_⟩
      have : xs.drop i = [] := List.drop_eq_nil_of_le (by omega)
      rw [this] at p'
      exact p' I' H' σ' (Same.refl _) g'
  | err e => exact fun I' H' c d x => p I' H' σ c d x
  | stuck => exact p.elim
/-- return of a new list -/
theorem JR.retMX [mo : Mo r] {m : Res (List α × T)} (j : JXM X I0 H0 W Kx ctx C t0 e m r) : JR X I0 H0 W Kx (Stt I0 H0 ctx (C t0)) (.Return (some e) pos :: ss) (m.bindX fun y _ => .ok y) (rNew H0 r) := fun I H σ D g p => by
  refine b_cons (s_ret (j I H σ _ g ?_))
  cases m with
  | ok x =>
    intro I1 H1 l _ s g'
    obtain ⟨z1, z2, oo, zH, vs, eo, pr⟩ := g'.lstAt (j := 0) rfl
    subst eo
    exact p I1 H1 _ g'.fm ⟨l, vs, rfl, z1, z2, zH, pr⟩
  | err e => exact fun I' H' c d x => p I' H' σ c d x
  | stuck => exact p
/-- f(new list, ..) of a def that changes the list: nobody else knows it -/
theorem Fm.dropNew {I H I2 H2 I' H' : Hp} {l : Addr} (f : Fm I H I2 H2) (hl : H l = none) (g : Fm I2 (rm H2 [l]) I' H') : Fm I H I' H' := by
  have out : ∀ a, H a ≠ none → rm H2 [l] a = H2 a := fun a h => rm_out fun z => h (by rw [List.mem_singleton.mp z]; exact hl)
  refine ⟨f.i.trans g.i, fun b u e => g.h b u (by rw [out b (by rw [e]; intro z; cases z)]; exact f.h b u e), g.ih, fun a e n => g.mu a (f.mu a e n) ?_⟩
  rw [out a n]
  cases z : H a with
  | none => exact absurd z n
  | some o => rw [f.h a o z]; intro y; cases y
theorem JE.callCNew {Rn : Addr → Hp → Hp → List V → Unit × δ → Prop} {gc : Unit × δ → List α → Res (γ × List α)} {kp : Bool} {f : Addr} {m1 : Res (List α)} {md : Res δ} [mo : Mo r] (j : JM X I0 H0 W ctx mem e m1 r) (k : JA X I0 H0 W ctx mem es md R) (cc : CallC X W (.ref f) (fun l xs => MF.lst l r xs) Rn gc rc kp) (hR : ∀ l, Rn l = aCons (rp (rRef l)) R)
    (hm : X.mg n = some (.ref f)) (hkk : PySem.W.keepIn X.K (.ref f) = true) (hg : Gl X n := by rfl) (hdb : (n == ("__debug__" : Str)) = false := by decide)
    (he : starEach (e :: es) X.env = (false, eval e X.env) :: starEach es X.env := by rfl) (hpl : (backTo pos (starEach es X.env)).any (·.1) = false := by rfl) :
    JE X I0 H0 W ctx mem (.Call (.Name n pos') (e :: es) [] pos) (m1.bind fun xs => md.bind fun d => (gc ((), d) xs).bindX fun z _ => .ok z) (rp rc) := fun I H σ Q st p => by
  refine w_call (Tr.w_cons (j I H σ _ st ?_) he) hm hkk hg hdb he hpl
  cases m1 with
  | ok xs =>
    intro I1 H1 l vs f1 h1 h2 h3 pr
    refine k I1 H1 σ _ (st.step f1) ?_
    cases md with
    | ok d =>
      intro I2 H2 ws f2 r2
      have hI2 : I2 l = none := f2.mu l h2 (by rw [h3]; intro z; cases z)
      have hH2 : H2 l = some (.lst vs) := f2.h _ _ h3
      refine cc I2 H2 σ Q (.ref l :: ws) ((), d) l xs [l] ⟨f2.ih, ⟨rfl, _, hH2, vs, rfl, Paired.mapP pr fun _ _ z => mo.up f2.i z⟩, by simp, fun a ha => by
        rw [List.mem_singleton.mp ha]; exact ⟨hI2, by rw [hH2]; intro z; cases z⟩⟩ (by rw [hR]; exact ⟨_, ws, rfl, rfl, r2⟩) ?_
      revert p
      show PostE X.K ((gc ((), d) xs).bindX fun z _ => .ok z) (rp rc) I H _ Q → _
      generalize gc ((), d) xs = z
      intro p
      cases z with
      | ok x => exact fun I' H' v fp' rf h => p I' H' v ((f1.trans f2).dropNew h1 rf.fm) h
      | err e => exact fun I' H' cls d f _ fr x => p I' H' cls d ((f1.trans f2).dropNew h1 f) ⟨fun a e => by
          have := fr a e
          by_cases hl : a = l
          · rw [hl]; exact h1
          · rw [rm_out (fun z => hl (List.mem_singleton.mp z))] at this
            exact (f1.trans f2).h.free this, x⟩
      | stuck => exact p
    | err e => exact fun I' H' c d f x => p I' H' c d (f1.trans f) ⟨x.1.back f1.h, x.2⟩
    | stuck => exact p
  | err e => exact p
  | stuck => exact p
end
end L2.Tr

namespace L2.Tr
open PySem PySem.Spec PyProof.Rows
section
variable {α β γ δ ε : Type} {X : Cx} {I0 H0 : Hp} {W : WX} {ctx : List (Option SF)} {mem : List MF} {e a b c o : Expr} {es bs : List Expr} {kws : List Keyword} {pos pos' kpos : Pos} {n x : Str} {nm : Option Str} {r : Rp α}
variable {R : Hp → Hp → List V → δ → Prop} {R' : Hp → Hp → List V → ε → Prop} {md : Res δ} {me : Res ε} {g : δ → ε → Res (List α)} {ks : List Str}
/-! ### keyword calls that hand back a new list -/
def CallKN (X : Cx) (W : WX) (f : Value) (ks : List Str) (R : Hp → Hp → List V → δ → Prop) (R' : Hp → Hp → List V → ε → Prop) (g : δ → ε → Res (List α)) (r : Rp α) : Prop :=
  ∀ (I H : Hp) (σ : St) (Q : VK) (vs zs : List V) (x : δ) (y : ε), Same I H → R I H vs x → R' I H zs y → PostM X W σ I H (g x y) r Q → callKW X f ks σ vs zs H Q
theorem JM.callK0 {f : Addr} {g : Unit → ε → Res (List α)} (jk : JK X I0 H0 W ctx mem kws me R') (cj : CallKN X W (.ref f) ks aNil R' g r) (hm : X.mg n = some (.ref f)) (hk : PySem.W.keepIn X.K (.ref f) = true) (hg : Gl X n := by rfl) (hdb : (n == ("__debug__" : Str)) = false := by decide)
    (hall : (backToKw pos (keywordEach kws X.env)).all (·.1.isSome) = true := by rfl) (hks : (backToKw pos (keywordEach kws X.env)).filterMap (·.1) = ks := by rfl)
    (hpl : ((backTo pos (starEach [] X.env)).any (·.1) || (backToKw pos (keywordEach kws X.env)).any (·.1.isNone)) = false := by rfl) : JM X I0 H0 W ctx mem (.Call (.Name n pos') [] kws pos) (me.bind fun y => g () y) r := fun I H σ Q st p pins s Iv => by
  refine wpAny_Call_Name_kw (ld_glob Iv hg hm ?_ hdb)
  refine PySem.W.callWith_KW0 (h₀ := X.base) Iv.ok.mod.kin hk hall ?_ hpl
  rw [hks]
  refine thn (jk pos I H σ (fun zs H2 => callKW X (.ref f) ks σ [] zs H2 Q) st ?_ pins s Iv) fun ws s2 ⟨zs, H2, I2, r2, q2⟩ => ⟨I2.kIn, q2 pins s2 [] ws I2 .nil r2⟩
  cases me with
  | ok y => exact fun I2 H2 zs f2 r2 => cj I2 H2 σ Q [] zs () y f2.ih rfl r2 (PostM.up (m := g () y) p f2)
  | err e => exact p
  | stuck => exact p
theorem cjk_fnN {k n : Nat} {f : Addr} {fd : FuncData} {ps : List Str} {gg : List Value → List Value → List Value} {gV : List V → List V → List V} {η : Type} {Ri : Hp → Hp → List V → η → Prop} {m : η → Res (List α)} {h : δ → ε → η} (F : FnOk X.prog X.w X.K X.mg X.base (L2.CX X.prog X.w) k f fd ps (spN X.K Ri m r)) (hr : Room k X.A)
    (hb : KBn X.K fd ps n ks gg gV) (tk : Takes X W) (hR : ∀ I H vs zs x y, R I H vs x → R' I H zs y → vs.length = n ∧ zs.length = ks.length ∧ Ri I H (gV vs zs) (h x y)) : CallKN X W (.ref f) ks R R' (fun x y => m (h x y)) r := fun I H σ Q vs zs x y sm r r' p pins s us ws Iv rv rz => by
  obtain ⟨l1, l2, hRi⟩ := hR I H vs zs x y r r'
  refine wpAny_call (codeAny_mono (F.run X.A X.stack s H ⟨us, ks.zip ws⟩ (gg us ws) (gV vs zs) Q _ hr Iv.env0 (hb.to s us ws Iv.kIn (rv.length.symm.trans l1) (rz.length.symm.trans l2)) (hb.rel rv rz) ⟨I, h x y, sm, hRi, post_new p⟩) fun r s' hq => ?_)
  cases r with
  | error e => exact passAt tk σ pins H s e s' Iv hq
  | ok fl =>
    cases fl with
    | ret u => exact Iv.after hq
    | next => exact False.elim hq
    | brk => exact False.elim hq
    | cont => exact False.elim hq
def MkKN (P : Program) (w : World) (K : PySem.W.Frag) (mg : Str → Option Value) (base : Heap) (k : Nat) (f : Addr) (ks : List Str) (R : Hp → Hp → List V → δ → Prop) (R' : Hp → Hp → List V → ε → Prop) (g : δ → ε → Res (List α)) (r : Rp α) : Prop :=
  ∀ (X : Cx) (W : WX), X.prog = P → X.w = w → X.K = K → X.mg = mg → X.base = base → Room k X.A → Takes X W → CallKN X W (.ref f) ks R R' g r
theorem CallKN.froz [mo : Mo r] {f : Value} (c : CallKN X W f ks R R' g r) : CallKJ X W f ks R R' g (rp (rL r)) := fun I H σ Q vs zs x y s h h' p => c I H σ Q vs zs x y s h h' (by
  revert p
  show PostE X.K (g x y) _ I H _ Q → PostM X W σ I H (g x y) r Q
  generalize g x y = z
  intro p
  cases z with
  | ok xs =>
    intro I1 H1 l vs f hl hI h1 pr
    obtain ⟨f2, sm⟩ := f.ice hl hI h1
    exact p _ H1 _ f2 ⟨l, vs, rfl, upd_same, Paired.mapP pr fun _ _ z => mo.up sm z⟩
  | err e => exact p
  | stuck => exact p)
theorem JE.hrd {m : Res (List α)} (j : JE X I0 H0 W ctx mem e m (rH r)) : JE X I0 H0 W ctx mem e m (rdL X.K (rp r)) := j.co fun _ _ _ _ s ⟨l, vs, e, h, p⟩ => ⟨l, vs, e, SqL.of h, p⟩
end
end L2.Tr

namespace L2.Tr
open PySem PySem.Spec PyProof.Rows
section
variable {α β γ δ T U : Type}
theorem Res.okbX (a : α) (t : T) (f : α → T → Res β) : (Res.ok (a, t)).bindX f = f a t := by
  have h : (Res.ok (a, t)).bindX f = f a t := rfl
  exact h
theorem Res.bindX_bind (m : Res (α × T)) (f : α → T → Res β) (g : β → Res γ) : (m.bindX f).bind g = m.bindX fun a t => (f a t).bind g := by cases m <;> rfl
theorem Res.bind_bindX (m : Res α) (f : α → Res (β × T)) (g : β → T → Res γ) : (m.bind f).bindX g = m.bind fun a => (f a).bindX g := by cases m <;> rfl
theorem Res.bindX_bindX (m : Res (α × T)) (f : α → T → Res (β × U)) (g : β → U → Res γ) : (m.bindX f).bindX g = m.bindX fun a t => (f a t).bindX g := by cases m <;> rfl
theorem Res.bindX_ok (m : Res (α × T)) : (m.bindX fun a t => Res.ok (a, t)) = m := by cases m <;> rfl
theorem Res.bindX_eta (m : Res (α × T)) (f : α × T → Res β) : m.bind f = m.bindX fun a t => f (a, t) := by cases m <;> rfl
theorem Ok.bindX {m : Res (α × T)} {f : α → T → Res β} {P : α × T → Prop} {Q : β → Prop} (h : Ok m P) (k : ∀ a t, P (a, t) → Ok (f a t) Q) : Ok (m.bindX f) Q := by
  obtain ⟨⟨a, t⟩, e, p⟩ := h
  rw [e]
  exact k a t p
theorem lcXM_ok {f : β → T → Res (α × T)} {P : β → α → Prop} {Inv : T → Prop} : ∀ {xs : List β} {t : T}, Inv t → (∀ x t, x ∈ xs → Inv t → Ok (f x t) fun y => P x y.1 ∧ Inv y.2) → Ok (lcXM f xs t) fun y => y.1.length = xs.length ∧ (∀ (i : Nat) x z, xs[i]? = some x → y.1[i]? = some z → P x z) ∧ Inv y.2
  | [], t, h0, _ => .ok ⟨rfl, fun i x z h _ => by simp at h, h0⟩
  | x :: xs, t, h0, h => by
    obtain ⟨⟨a, t1⟩, e, p, q⟩ := h x t (List.mem_cons_self ..) h0
    unfold lcXM
    rw [e]
    show Ok ((lcXM f xs t1).bind fun z => .ok (a :: z.1, z.2)) _
    refine (lcXM_ok (t := t1) q fun y t hy => h y t (List.mem_cons_of_mem _ hy)).bind fun z ⟨z1, z2, z3⟩ => .ok ⟨by show (a :: z.1).length = _; rw [List.length_cons, List.length_cons, z1], fun i u v hu hv => ?_, z3⟩
    cases i with
    | zero =>
      have hu : x = u := by simpa using hu
      have hv : a = v := by simpa using hv
      rw [← hu, ← hv]; exact p
    | succ i => exact z2 i u v (by simpa using hu) (by simpa using hv)
theorem Ok.lcX {f : β → T → Res (α × T)} {P : β → α → Prop} {Inv : T → Prop} {xs : List β} {t : T} (hl : xs.length ≤ sizeLine) (h0 : Inv t) (h : ∀ x t, x ∈ xs → Inv t → Ok (f x t) fun y => P x y.1 ∧ Inv y.2) : Ok (Tr.lcX f xs t) fun y => y.1.length = xs.length ∧ (∀ (i : Nat) x z, xs[i]? = some x → y.1[i]? = some z → P x z) ∧ Inv y.2 := .guard hl (lcXM_ok h0 h)
/-! ### lists built item by item from those ahead -/
def cvl (g : Nat → List α → α) : Nat → List α
  | 0 => []
  | n + 1 => cvl g n ++ [g n (cvl g n)]
theorem cvl_vec (g : Nat → List α → α) : ∀ n, cvl g n = vec n fun i => g i (cvl g i)
  | 0 => rfl
  | n + 1 => by rw [vec_succ, ← cvl_vec g n]; rfl
end
/-- a tape: a cell and two mixers -/
def TP (t : List Int) : Prop := ∃ a b c : Int, t = [a, b, c] ∧ 0 ≤ a ∧ (0 ≤ b ∧ b < 2 ^ 40) ∧ (0 ≤ c ∧ c < 2 ^ 40)
end L2.Tr

namespace L2.Tr
/-! quadratic forms of a row of readings -/
def qf (r : Nat → Rat) (n : Nat) (p : Nat → Rat) : Rat := smQ (fun i => smQ (fun j => p i * p j * r (i + j)) n) n
/-- the readings that weights cannot bar -/
structure HM (r : Nat → Rat) : Prop where
  h0 : ∀ n p, 0 ≤ qf r n p
  h1 : ∀ n p, 0 ≤ qf (fun k => r (k + 1)) n p
  h2 : ∀ n p, 0 ≤ qf (fun k => r k - r (k + 1)) n p
  h3 : ∀ n p, 0 ≤ qf (fun k => r (k + 1) - r (k + 2)) n p
theorem smQ_shift {f : Nat → Rat} : ∀ {n : Nat}, smQ f (n + 1) = f 0 + smQ (fun i => f (i + 1)) n
  | 0 => by rw [smQ_succ]; show 0 + f 0 = f 0 + 0; grind
  | n + 1 => by rw [smQ_succ, smQ_shift (n := n), smQ_succ]; grind
/-- times x -/
theorem qf_x (r : Nat → Rat) (n : Nat) (p : Nat → Rat) : qf (fun k => r (k + 2)) n p = qf r (n + 1) (fun i => if i = 0 then 0 else p (i - 1)) := by
  unfold qf
  rw [smQ_shift]
  have e0 : smQ (fun j => (if (0 : Nat) = 0 then (0 : Rat) else p (0 - 1)) * (if j = 0 then 0 else p (j - 1)) * r (0 + j)) (n + 1) = 0 := smQ_null fun i _ => by rw [if_pos rfl]; grind
  rw [e0, Rat.zero_add]
  refine smQ_congr fun i _ => ?_
  rw [smQ_shift]
  dsimp only
  rw [if_neg (by omega), if_pos rfl]
  have : p (i + 1 - 1) * 0 * r (i + 1 + 0) + smQ (fun j => p (i + 1 - 1) * (if j + 1 = 0 then 0 else p (j + 1 - 1)) * r (i + 1 + (j + 1))) n = smQ (fun j => p i * p j * r (i + j + 2)) n := by
    rw [Rat.mul_zero, Rat.zero_mul, Rat.zero_add]
    refine smQ_congr fun j _ => ?_
    rw [if_neg (by omega), show i + 1 + (j + 1) = i + j + 2 by omega, Nat.add_sub_cancel, Nat.add_sub_cancel]
  exact this.symm
/-- times 1 - x -/
theorem qf_rest (r : Nat → Rat) (n : Nat) (p : Nat → Rat) : qf (fun k => r k - 2 * r (k + 1) + r (k + 2)) n p = qf r (n + 1) (fun i => (if i < n then p i else 0) - (if i = 0 then 0 else p (i - 1))) := by
  have split : qf r (n + 1) (fun i => (if i < n then p i else 0) - (if i = 0 then 0 else p (i - 1))) = qf r n p - 2 * qf (fun k => r (k + 1)) n p + qf (fun k => r (k + 2)) n p := by
    rw [qf_x]
    have a1 : qf r n p = qf r (n + 1) (fun i => if i < n then p i else 0) := by
      unfold qf
      rw [smQ_succ]
      have z : smQ (fun j => (if n < n then p n else 0) * (if j < n then p j else 0) * r (n + j)) (n + 1) = 0 := smQ_null fun j _ => by rw [if_neg (Nat.lt_irrefl n)]; grind
      rw [z, Rat.add_zero]
      refine smQ_congr fun i hi => ?_
      rw [smQ_succ]
      dsimp only
      rw [if_neg (Nat.lt_irrefl n), if_pos hi]
      have : smQ (fun j => p i * (if j < n then p j else 0) * r (i + j)) n = smQ (fun j => p i * p j * r (i + j)) n := smQ_congr fun j hj => by rw [if_pos hj]
      rw [this]; grind
    have a2 : qf (fun k => r (k + 1)) n p = smQ (fun i => smQ (fun j => (if i < n then p i else 0) * (if j = 0 then 0 else p (j - 1)) * r (i + j)) (n + 1)) (n + 1) := by
      rw [smQ_succ]
      have z : smQ (fun j => (if n < n then p n else 0) * (if j = 0 then 0 else p (j - 1)) * r (n + j)) (n + 1) = 0 := smQ_null fun j _ => by rw [if_neg (Nat.lt_irrefl n)]; grind
      rw [z, Rat.add_zero]
      unfold qf
      refine smQ_congr fun i hi => ?_
      rw [smQ_shift]
      dsimp only
      rw [if_pos hi, if_pos rfl, Rat.mul_zero, Rat.zero_mul, Rat.zero_add]
      refine smQ_congr fun j hj => ?_
      rw [if_neg (by omega), Nat.add_sub_cancel, show i + (j + 1) = i + j + 1 by omega]
    have a3 : smQ (fun i => smQ (fun j => (if i = 0 then 0 else p (i - 1)) * (if j < n then p j else 0) * r (i + j)) (n + 1)) (n + 1) = qf (fun k => r (k + 1)) n p := by
      rw [a2, smQ_comm]
      refine smQ_congr fun i _ => smQ_congr fun j _ => ?_
      rw [Nat.add_comm i j]; grind
    rw [a1]
    have e : qf r (n + 1) (fun i => (if i < n then p i else 0) - (if i = 0 then 0 else p (i - 1))) =
      qf r (n + 1) (fun i => if i < n then p i else 0)
      - smQ (fun i => smQ (fun j => (if i < n then p i else 0) * (if j = 0 then 0 else p (j - 1)) * r (i + j)) (n + 1)) (n + 1)
      - smQ (fun i => smQ (fun j => (if i = 0 then 0 else p (i - 1)) * (if j < n then p j else 0) * r (i + j)) (n + 1)) (n + 1)
      + qf r (n + 1) (fun i => if i = 0 then 0 else p (i - 1)) := by
      unfold qf
      rw [← smQ_sub, ← smQ_sub, ← smQ_add]
      refine smQ_congr fun i _ => ?_
      rw [← smQ_sub, ← smQ_sub, ← smQ_add]
      refine smQ_congr fun j _ => ?_
      grind
    rw [e, a3, ← a2]; grind
  rw [split]
  unfold qf
  rw [← smQ_mul, ← smQ_sub, ← smQ_add]
  refine smQ_congr fun i _ => ?_
  rw [← smQ_mul, ← smQ_sub, ← smQ_add]
  refine smQ_congr fun j _ => ?_
  grind
theorem qf_congr {r s : Nat → Rat} (h : ∀ k, r k = s k) (n : Nat) (p : Nat → Rat) : qf r n p = qf s n p := by
  rw [show r = s from funext h]
theorem HM.shift {r : Nat → Rat} (h : HM r) : HM fun k => r (k + 1) where
  h0 := h.h1
  h1 n p := by
    have := qf_x r n p
    rw [qf_congr (s := fun k => r (k + 2)) fun k => rfl, this]; exact h.h0 _ _
  h2 := h.h3
  h3 n p := by
    have := qf_x (fun k => r k - r (k + 1)) n p
    rw [qf_congr (s := fun k => r (k + 2) - r (k + 2 + 1)) fun k => rfl, this]
    exact h.h2 _ _
theorem HM.diff {r : Nat → Rat} (h : HM r) : HM fun k => r k - r (k + 1) where
  h0 := h.h2
  h1 := h.h3
  h2 n p := by
    rw [qf_congr (s := fun k => r k - 2 * r (k + 1) + r (k + 2)) fun k => by grind, qf_rest]
    exact h.h0 _ _
  h3 n p := by
    have := qf_rest (fun k => r (k + 1)) n p
    rw [qf_congr (s := fun k => r (k + 1) - 2 * r (k + 1 + 1) + r (k + 2 + 1)) fun k => by grind, this]
    exact h.h1 _ _
theorem HM.pos0 {r : Nat → Rat} (h : HM r) : 0 ≤ r 0 := by
  have := h.h0 1 fun _ => 1
  unfold qf at this
  have e : smQ (fun i => smQ (fun j => (1 : Rat) * 1 * r (i + j)) 1) 1 = r 0 := by
    rw [smQ_succ, smQ_succ]
    show (0 : Rat) + (0 + 1 * 1 * r (0 + 0)) = r 0
    grind
  rw [e] at this
  exact this
theorem HM.pos {r : Nat → Rat} (h : HM r) (k : Nat) : 0 ≤ r k := by
  induction k generalizing r with
  | zero => exact h.pos0
  | succ k ih => exact ih h.shift
end L2.Tr

namespace L2.Tr
/-! amounts that go back and forth -/
def dn (n : Nat) (w : Nat → Nat → Rat) (U : Nat → Rat) (x : Nat → Rat) (c : Nat) : Rat := smQ (fun i => w i c * x i) n / U c
def ip (T : Nat → Rat) (n : Nat) (x y : Nat → Rat) : Rat := smQ (fun i => T i * x i * y i) n
def lin (p : Nat → Rat) (v : Nat → Nat → Rat) (n : Nat) (i : Nat) : Rat := smQ (fun k => p k * v k i) n
structure RW (R C : Nat) (w : Nat → Nat → Rat) (T U : Nat → Rat) : Prop where
  w0 : ∀ i c, i < R → c < C → 0 ≤ w i c
  T0 : ∀ i, i < R → 0 < T i
  U0 : ∀ c, c < C → 0 < U c
  hT : ∀ i, i < R → smQ (w i) C ≤ T i
  hU : ∀ c, c < C → smQ (fun i => w i c) R ≤ U c
def tr (w : Nat → Nat → Rat) : Nat → Nat → Rat := fun i c => w c i
theorem RW.flip {R C : Nat} {w : Nat → Nat → Rat} {T U : Nat → Rat} (g : RW R C w T U) : RW C R (tr w) U T := ⟨fun i c hi hc => g.w0 c i hc hi, g.U0, g.T0, g.hU, g.hT⟩
theorem sq_nonneg (x : Rat) : 0 ≤ x * x := by
  rcases (Rat.le_total : 0 ≤ x ∨ x ≤ 0) with h | h
  · exact Rat.mul_nonneg h h
  · have : 0 ≤ -x := by grind
    have := Rat.mul_nonneg this this
    grind
theorem ip_self {T : Nat → Rat} {n : Nat} {x : Nat → Rat} (h : ∀ i, i < n → 0 < T i) : 0 ≤ ip T n x x := smQ_nonneg fun i hi => by
  have h1 := Rat.mul_nonneg (Rat.le_of_lt (h i hi)) (sq_nonneg (x i))
  grind
section
variable {R C : Nat} {w : Nat → Nat → Rat} {T U : Nat → Rat}
theorem dn_mul {x : Nat → Rat} {c : Nat} (h : 0 < U c) : U c * dn R w U x c = smQ (fun i => w i c * x i) R := by
  unfold dn
  rw [Rat.mul_comm]
  exact Rat.div_mul_cancel (by grind)
theorem dn_one {x : Nat → Rat} {c : Nat} (w0 : ∀ i, i < R → 0 ≤ w i c) (h0 : 0 < U c) (hU : smQ (fun i => w i c) R ≤ U c) : U c * dn R w U x c * dn R w U x c ≤ smQ (fun i => w i c * x i * x i) R := by
  have e := dn_mul (R := R) (w := w) (x := x) h0
  generalize dn R w U x c = y at *
  have h1 : 0 ≤ smQ (fun i => w i c * ((x i - y) * (x i - y))) R := smQ_nonneg fun i hi => Rat.mul_nonneg (w0 i hi) (sq_nonneg _)
  have h2 : smQ (fun i => w i c * ((x i - y) * (x i - y))) R = smQ (fun i => w i c * x i * x i) R - 2 * y * smQ (fun i => w i c * x i) R + y * y * smQ (fun i => w i c) R := by
    rw [← smQ_mul, ← smQ_mul, ← smQ_sub, ← smQ_add]
    exact smQ_congr fun i _ => by grind
  have h3 : y * y * smQ (fun i => w i c) R ≤ y * y * U c := Rat.mul_le_mul_of_nonneg_left hU (sq_nonneg y)
  rw [h2, ← e] at h1
  grind
theorem RW.contr (g : RW R C w T U) (x : Nat → Rat) : ip U C (dn R w U x) (dn R w U x) ≤ ip T R x x := by
  have h1 : ip U C (dn R w U x) (dn R w U x) ≤ smQ (fun c => smQ (fun i => w i c * x i * x i) R) C := smQ_le fun c hc => dn_one (fun i hi => g.w0 i c hi hc) (g.U0 c hc) (g.hU c hc)
  rw [smQ_comm] at h1
  refine Rat.le_trans h1 (smQ_le fun i hi => ?_)
  have e : smQ (fun c => w i c * x i * x i) C = x i * x i * smQ (w i) C := by
    rw [← smQ_mul]; exact smQ_congr fun c _ => by grind
  rw [e]
  have := Rat.mul_le_mul_of_nonneg_left (g.hT i hi) (sq_nonneg (x i))
  grind
theorem RW.adj (g : RW R C w T U) (x y : Nat → Rat) : ip U C (dn R w U x) y = ip T R x (dn C (tr w) T y) := by
  unfold ip
  have e1 : smQ (fun c => U c * dn R w U x c * y c) C = smQ (fun c => smQ (fun i => w i c * x i * y c) R) C := smQ_congr fun c hc => by
    rw [dn_mul (g.U0 c hc), ← smQ_mulr]
  have e2 : smQ (fun i => T i * x i * dn C (tr w) T y i) R = smQ (fun i => smQ (fun c => w i c * x i * y c) C) R := smQ_congr fun i hi => by
    have := dn_mul (R := C) (w := tr w) (U := T) (x := y) (g.T0 i hi)
    have e : T i * x i * dn C (tr w) T y i = x i * (T i * dn C (tr w) T y i) := by grind
    rw [e, this, ← smQ_mul]
    exact smQ_congr fun c _ => by show x i * (w i c * y c) = _; grind
  rw [e1, e2, smQ_comm]
theorem ip_comm {n : Nat} {x y : Nat → Rat} : ip T n x y = ip T n y x := smQ_congr fun i _ => by grind
theorem dn_lin {p : Nat → Rat} {v : Nat → Nat → Rat} {n c : Nat} (h : 0 < U c) : dn R w U (lin p v n) c = lin p (fun k => dn R w U (v k)) n c := by
  unfold dn lin
  have e : smQ (fun i => w i c * smQ (fun k => p k * v k i) n) R = smQ (fun k => p k * smQ (fun i => w i c * v k i) R) n := by
    rw [smQ_congr fun i _ => by rw [← smQ_mul], smQ_comm]
    refine smQ_congr fun k _ => ?_
    rw [← smQ_mul]
    exact smQ_congr fun i _ => by grind
  rw [e, Rat.div_def, ← smQ_mulr]
  refine smQ_congr fun k _ => ?_
  dsimp only
  rw [Rat.div_def, Rat.mul_assoc]
theorem ip_lin {p : Nat → Rat} {u v : Nat → Nat → Rat} {n m : Nat} : ip T m (lin p u n) (lin p v n) = smQ (fun i => smQ (fun j => p i * p j * ip T m (u i) (v j)) n) n := by
  unfold ip lin
  have e : ∀ i, T i * smQ (fun k => p k * u k i) n * smQ (fun k => p k * v k i) n = smQ (fun k => smQ (fun l => p k * p l * (T i * u k i * v l i)) n) n := fun i => by
    rw [show T i * smQ (fun k => p k * u k i) n * smQ (fun k => p k * v k i) n = smQ (fun k => p k * u k i) n * (T i * smQ (fun k => p k * v k i) n) by grind, ← smQ_mulr]
    refine smQ_congr fun k _ => ?_
    rw [← Rat.mul_assoc, ← smQ_mul]
    exact smQ_congr fun l _ => by grind
  rw [smQ_congr fun i _ => e i, smQ_comm]
  refine smQ_congr fun k _ => ?_
  rw [smQ_comm]
  refine smQ_congr fun l _ => ?_
  exact smQ_mul
theorem ip_congr {n : Nat} {x x' y y' : Nat → Rat} (h : ∀ i, i < n → x i = x' i) (k : ∀ i, i < n → y i = y' i) : ip T n x y = ip T n x' y' := smQ_congr fun i hi => by rw [h i hi, k i hi]
/-- both half ticks -/
def both (R C : Nat) (w : Nat → Nat → Rat) (T U : Nat → Rat) (x : Nat → Rat) : Nat → Rat := dn C (tr w) T (dn R w U x)
def pw (R C : Nat) (w : Nat → Nat → Rat) (T U : Nat → Rat) (e : Nat → Rat) : Nat → Nat → Rat
  | 0 => e
  | k + 1 => both R C w T U (pw R C w T U e k)
theorem RW.self (g : RW R C w T U) (x y : Nat → Rat) : ip T R (both R C w T U x) y = ip T R x (both R C w T U y) := by
  unfold both
  rw [← g.adj, ip_comm, ← g.adj, ip_comm]
theorem RW.half (g : RW R C w T U) (x y : Nat → Rat) : ip T R (both R C w T U x) y = ip U C (dn R w U x) (dn R w U y) := by
  unfold both
  rw [ip_comm, ← g.adj, ip_comm]
theorem RW.mom (g : RW R C w T U) (e : Nat → Rat) : ∀ i j, ip T R (pw R C w T U e i) (pw R C w T U e j) = ip T R (pw R C w T U e (i + j)) e
  | i, 0 => rfl
  | i, j + 1 => by
    show ip T R _ (both R C w T U (pw R C w T U e j)) = _
    rw [← g.self]
    have := g.mom e (i + 1) j
    rw [show i + (j + 1) = i + 1 + j by omega]
    exact this
theorem RW.hm (g : RW R C w T U) (e : Nat → Rat) : HM fun k => ip T R (pw R C w T U e k) e := by
  have a0 : ∀ n p, qf (fun k => ip T R (pw R C w T U e k) e) n p = ip T R (lin p (pw R C w T U e) n) (lin p (pw R C w T U e) n) := fun n p => by
    rw [ip_lin]
    exact smQ_congr fun i _ => smQ_congr fun j _ => by rw [g.mom]
  have dl : ∀ n p c, c < C → dn R w U (lin p (pw R C w T U e) n) c = lin p (fun k => dn R w U (pw R C w T U e k)) n c := fun n p c hc => dn_lin (g.U0 c hc)
  have a1 : ∀ n p, qf (fun k => ip T R (pw R C w T U e (k + 1)) e) n p = ip U C (dn R w U (lin p (pw R C w T U e) n)) (dn R w U (lin p (pw R C w T U e) n)) := fun n p => by
    rw [ip_congr (dl n p) (dl n p), ip_lin]
    refine smQ_congr fun i _ => smQ_congr fun j _ => ?_
    dsimp only
    rw [← g.half, show i + j + 1 = i + 1 + j by omega, ← g.mom]
    rfl
  have ul : ∀ n p i, i < R → both R C w T U (lin p (pw R C w T U e) n) i = lin p (fun k => pw R C w T U e (k + 1)) n i := fun n p i hi => by
    unfold both
    have := dn_lin (R := C) (w := tr w) (U := T) (p := p) (v := fun k => dn R w U (pw R C w T U e k)) (n := n) (c := i) (g.T0 i hi)
    rw [show lin p (fun k => pw R C w T U e (k + 1)) n i = lin p (fun k => dn C (tr w) T (dn R w U (pw R C w T U e k))) n i from rfl, ← this]
    unfold dn
    congr 1
    refine smQ_congr fun c hc => ?_
    show _ * dn R w U (lin p (pw R C w T U e) n) c = _
    rw [dl n p c hc]
    rfl
  have a2 : ∀ n p, qf (fun k => ip T R (pw R C w T U e (k + 2)) e) n p = ip T R (both R C w T U (lin p (pw R C w T U e) n)) (both R C w T U (lin p (pw R C w T U e) n)) := fun n p => by
    rw [ip_congr (ul n p) (ul n p), ip_lin]
    refine smQ_congr fun i _ => smQ_congr fun j _ => ?_
    dsimp only
    rw [show i + j + 2 = i + 1 + (j + 1) by omega, ← g.mom]
  have sb : ∀ (r s : Nat → Rat) n p, qf (fun k => r k - s k) n p = qf r n p - qf s n p := fun r s n p => by
    unfold qf
    rw [← smQ_sub]
    refine smQ_congr fun i _ => ?_
    rw [← smQ_sub]
    exact smQ_congr fun j _ => by grind
  refine ⟨fun n p => ?_, fun n p => ?_, fun n p => ?_, fun n p => ?_⟩
  · rw [a0]; exact ip_self g.T0
  · rw [a1]; exact ip_self g.U0
  · rw [sb, a0, a1]
    have := g.contr (lin p (pw R C w T U e) n)
    grind
  · rw [sb, a1, a2]
    have := g.flip.contr (dn R w U (lin p (pw R C w T U e) n))
    have e : ip T R (both R C w T U (lin p (pw R C w T U e) n)) (both R C w T U (lin p (pw R C w T U e) n)) = ip T R (dn C (tr w) T (dn R w U (lin p (pw R C w T U e) n))) (dn C (tr w) T (dn R w U (lin p (pw R C w T U e) n))) := rfl
    rw [e]
    grind
end
theorem HM.scale {r : Nat → Rat} (h : HM r) {c : Rat} (hc : 0 ≤ c) : HM fun k => c * r k := by
  have e : ∀ (s : Nat → Rat) n p, qf (fun k => c * s k) n p = c * qf s n p := fun s n p => by
    unfold qf
    rw [← smQ_mul]
    refine smQ_congr fun i _ => ?_
    rw [← smQ_mul]
    exact smQ_congr fun j _ => by grind
  refine ⟨fun n p => ?_, fun n p => ?_, fun n p => ?_, fun n p => ?_⟩
  · rw [e]; exact Rat.mul_nonneg hc (h.h0 n p)
  · rw [e (fun k => r (k + 1))]; exact Rat.mul_nonneg hc (h.h1 n p)
  · rw [qf_congr (s := fun k => c * (r k - r (k + 1))) fun k => by grind, e (fun k => r k - r (k + 1))]; exact Rat.mul_nonneg hc (h.h2 n p)
  · rw [qf_congr (s := fun k => c * (r (k + 1) - r (k + 2))) fun k => by grind, e (fun k => r (k + 1) - r (k + 2))]; exact Rat.mul_nonneg hc (h.h3 n p)
theorem HM.congr {r s : Nat → Rat} (h : HM r) (e : ∀ k, s k = r k) : HM s := by
  rw [show s = r from funext e]; exact h
end L2.Tr

namespace L2.Tr
/-! ### lines: amounts at the nodes of a row -/
def hstep (s : Nat → Rat) (v : Nat → Rat) (k : Nat) : Rat := (if k = 0 then 0 else (1 - s (k - 1)) * v (k - 1)) + s (k + 1) * v (k + 1)
/-- amounts after h half ticks from node m -/
def fr (s : Nat → Rat) (m : Nat) : Nat → Nat → Rat
  | 0 => fun k => if k = m then 1 else 0
  | h + 1 => hstep s (fr s m h)
def rl (s : Nat → Rat) (t : Nat) : Rat := fr s 0 (2 * t) 0
section
variable {s : Nat → Rat}
theorem hstep_lin {a b : Rat} {u v : Nat → Rat} {k : Nat} : hstep s (fun i => a * u i + b * v i) k = a * hstep s u k + b * hstep s v k := by
  unfold hstep
  by_cases h : k = 0
  · rw [if_pos h, if_pos h, if_pos h]; grind
  · rw [if_neg h, if_neg h, if_neg h]; grind
/-- the first half tick -/
theorem fr_first (h0 : s 0 = 0) (m : Nat) : ∀ h k, fr s m (h + 1) k = s m * fr s (m - 1) h k + (1 - s m) * fr s (m + 1) h k
  | 0, k => by
    show hstep s (fr s m 0) k = s m * (if k = m - 1 then 1 else 0) + (1 - s m) * (if k = m + 1 then 1 else 0)
    unfold hstep
    show (if k = 0 then 0 else (1 - s (k - 1)) * (if k - 1 = m then 1 else 0)) + s (k + 1) * (if k + 1 = m then 1 else 0) = _
    by_cases e1 : k = m + 1
    · subst e1
      rw [if_neg (by omega), Nat.add_sub_cancel, if_pos rfl, if_neg (by omega), if_pos rfl, if_neg (by omega)]
      grind
    · by_cases e2 : k + 1 = m
      · subst e2
        rw [Nat.add_sub_cancel, if_neg (show ¬ k - 1 = k + 1 by omega), if_neg e1, if_pos (show k + 1 = k + 1 from rfl), if_pos (show k = k from rfl)]
        by_cases e3 : k = 0
        · rw [if_pos e3]; grind
        · rw [if_neg e3]; grind
      · rw [if_neg e2, if_neg e1]
        by_cases e3 : k = 0
        · rw [if_pos e3]
          by_cases e4 : k = m - 1
          · have : m = 0 := by omega
            rw [this, h0]; grind
          · rw [if_neg e4]; grind
        · rw [if_neg e3, if_neg (by omega)]
          by_cases e4 : k = m - 1
          · omega
          · rw [if_neg e4]; grind
  | h + 1, k => by
    have e : fr s m (h + 1) = fun k => s m * fr s (m - 1) h k + (1 - s m) * fr s (m + 1) h k := funext fun k => fr_first h0 m h k
    show hstep s (fr s m (h + 1)) k = s m * hstep s (fr s (m - 1) h) k + (1 - s m) * hstep s (fr s (m + 1) h) k
    rw [e, hstep_lin]
def pd (s : Nat → Rat) : Nat → Rat
  | 0 => 1
  | m + 1 => pd s m * s (m + 1)
def pc (s : Nat → Rat) : Nat → Rat
  | 0 => 1
  | m + 1 => pc s m * (1 - s m)
theorem fr_far (h0 : s 0 = 0) : ∀ h m, h < m → fr s m h 0 = 0
  | 0, m, hm => if_neg (by omega)
  | h + 1, m, hm => by rw [fr_first h0, fr_far h0 h (m - 1) (by omega), fr_far h0 h (m + 1) (by omega)]; grind
theorem fr_near (h0 : s 0 = 0) : ∀ m, fr s m m 0 = pd s m
  | 0 => by show (if (0 : Nat) = 0 then (1 : Rat) else 0) = 1; rw [if_pos rfl]
  | m + 1 => by rw [fr_first h0, Nat.add_sub_cancel, fr_near h0 m, fr_far h0 m (m + 2) (by omega)]; show _ = pd s m * s (m + 1); grind
theorem fr_shut (h0 : s 0 = 0) {n : Nat} (hn : 0 < n) (hs : s n = 0) : ∀ h m, n ≤ m → fr s m h 0 = 0
  | 0, m, hm => if_neg (by omega)
  | h + 1, m, hm => by
    rw [fr_first h0, fr_shut h0 hn hs h (m + 1) (by omega)]
    by_cases e : m = n
    · rw [e, hs]; grind
    · rw [fr_shut h0 hn hs h (m - 1) (by omega)]; grind
/-! the polynomials -/
def gf (s : Nat → Rat) (i : Nat) : Rat := (1 - s (i - 1)) * s i
mutual
def pE (s : Nat → Rat) : Nat → Nat → Rat
  | 0 => fun k => if k = 0 then 1 else 0
  | j + 1 => fun k => (if k = 0 then 0 else pO s j (k - 1)) - pE s j k * gf s (2 * j + 1)
def pO (s : Nat → Rat) : Nat → Nat → Rat
  | 0 => fun k => if k = 0 then 1 else 0
  | j + 1 => fun k => (if k = 0 then 0 else pO s j (k - 1)) - pE s j k * gf s (2 * j + 1) - pO s j k * gf s (2 * j + 2)
end
theorem pE_zero (k : Nat) : pE s 0 k = if k = 0 then 1 else 0 := by rw [pE]
theorem pO_zero (k : Nat) : pO s 0 k = if k = 0 then 1 else 0 := by rw [pO]
theorem pE_succ (j k : Nat) : pE s (j + 1) k = (if k = 0 then 0 else pO s j (k - 1)) - pE s j k * gf s (2 * j + 1) := by rw [pE]
theorem pO_succ (j k : Nat) : pO s (j + 1) k = pE s (j + 1) k - pO s j k * gf s (2 * j + 2) := by rw [pO, pE_succ]
theorem p_high : ∀ j k, j < k → pE s j k = 0 ∧ pO s j k = 0
  | 0, k, h => by rw [pE_zero, pO_zero, if_neg (by omega)]; exact ⟨rfl, rfl⟩
  | j + 1, k, h => by
    obtain ⟨a, b⟩ := p_high j k (by omega)
    obtain ⟨_, d⟩ := p_high j (k - 1) (by omega)
    have e : pE s (j + 1) k = 0 := by rw [pE_succ, a, if_neg (by omega), d]; grind
    exact ⟨e, by rw [pO_succ, e, b]; grind⟩
theorem p_top : ∀ j, pE s j j = 1 ∧ pO s j j = 1
  | 0 => by rw [pE_zero, pO_zero, if_pos rfl]; exact ⟨rfl, rfl⟩
  | j + 1 => by
    obtain ⟨a, b⟩ := p_high (s := s) j (j + 1) (by omega)
    have e : pE s (j + 1) (j + 1) = 1 := by rw [pE_succ, a, if_neg (by omega), Nat.add_sub_cancel, (p_top j).2]; grind
    exact ⟨e, by rw [pO_succ, e, b]; grind⟩
theorem p_act (h0 : s 0 = 0) : ∀ j, (∀ h k, smQ (fun i => pE s j i * fr s 0 (2 * i + h) k) (j + 1) = pc s (2 * j) * fr s (2 * j) h k) ∧ (∀ h k, smQ (fun i => pO s j i * fr s 0 (2 * i + 1 + h) k) (j + 1) = pc s (2 * j + 1) * fr s (2 * j + 1) h k)
  | 0 => by
    refine ⟨fun h k => ?_, fun h k => ?_⟩
    · rw [smQ_succ]
      show (0 : Rat) + pE s 0 0 * fr s 0 (2 * 0 + h) k = 1 * fr s 0 h k
      rw [pE_zero, if_pos rfl, show 2 * 0 + h = h by omega]; grind
    · rw [smQ_succ]
      show (0 : Rat) + pO s 0 0 * fr s 0 (2 * 0 + 1 + h) k = 1 * (1 - s 0) * fr s 1 h k
      rw [pO_zero, if_pos rfl, show 2 * 0 + 1 + h = h + 1 by omega, fr_first h0, h0]; grind
  | j + 1 => by
    obtain ⟨hE, hO⟩ := p_act h0 j
    have kE : ∀ h k, smQ (fun i => pE s (j + 1) i * fr s 0 (2 * i + h) k) (j + 2) = pc s (2 * (j + 1)) * fr s (2 * (j + 1)) h k := fun h k => by
      have e1 : smQ (fun i => pE s (j + 1) i * fr s 0 (2 * i + h) k) (j + 2) = smQ (fun i => (if i = 0 then 0 else pO s j (i - 1)) * fr s 0 (2 * i + h) k) (j + 2) - gf s (2 * j + 1) * smQ (fun i => pE s j i * fr s 0 (2 * i + h) k) (j + 2) := by
        rw [← smQ_mul, ← smQ_sub]
        exact smQ_congr fun i _ => by rw [pE_succ]; grind
      have e2 : smQ (fun i => (if i = 0 then 0 else pO s j (i - 1)) * fr s 0 (2 * i + h) k) (j + 2) = smQ (fun i => pO s j i * fr s 0 (2 * i + 1 + (h + 1)) k) (j + 1) := by
        rw [smQ_shift, if_pos rfl, Rat.zero_mul, Rat.zero_add]
        exact smQ_congr fun i _ => by rw [if_neg (by omega), Nat.add_sub_cancel, show 2 * (i + 1) + h = 2 * i + 1 + (h + 1) by omega]
      have e3 : smQ (fun i => pE s j i * fr s 0 (2 * i + h) k) (j + 2) = smQ (fun i => pE s j i * fr s 0 (2 * i + h) k) (j + 1) := by
        rw [smQ_succ, (p_high j (j + 1) (by omega)).1]; grind
      rw [e1, e2, e3, hE, hO, fr_first h0, Nat.add_sub_cancel]
      have c1 : pc s (2 * (j + 1)) = pc s (2 * j + 1) * (1 - s (2 * j + 1)) := rfl
      have c2 : pc s (2 * j + 1) = pc s (2 * j) * (1 - s (2 * j)) := rfl
      rw [c1, c2, show 2 * (j + 1) = 2 * j + 1 + 1 by omega]
      unfold gf
      rw [Nat.add_sub_cancel]; grind
    refine ⟨kE, fun h k => ?_⟩
    have e1 : smQ (fun i => pO s (j + 1) i * fr s 0 (2 * i + 1 + h) k) (j + 2) = smQ (fun i => pE s (j + 1) i * fr s 0 (2 * i + (h + 1)) k) (j + 2) - gf s (2 * j + 2) * smQ (fun i => pO s j i * fr s 0 (2 * i + 1 + h) k) (j + 2) := by
      rw [← smQ_mul, ← smQ_sub]
      exact smQ_congr fun i _ => by rw [pO_succ, show 2 * i + (h + 1) = 2 * i + 1 + h by omega]; grind
    have e3 : smQ (fun i => pO s j i * fr s 0 (2 * i + 1 + h) k) (j + 2) = smQ (fun i => pO s j i * fr s 0 (2 * i + 1 + h) k) (j + 1) := by
      rw [smQ_succ, (p_high j (j + 1) (by omega)).2]; grind
    show smQ (fun i => pO s (j + 1) i * fr s 0 (2 * i + 1 + h) k) (j + 2) = _
    rw [e1, e3, kE, hO, fr_first h0]
    have c1 : pc s (2 * (j + 1) + 1) = pc s (2 * (j + 1)) * (1 - s (2 * (j + 1))) := rfl
    have c2 : pc s (2 * (j + 1)) = pc s (2 * j + 1) * (1 - s (2 * j + 1)) := rfl
    rw [c1, c2, show 2 * (j + 1) = 2 * j + 2 by omega]
    unfold gf
    rw [show 2 * j + 2 - 1 = 2 * j + 1 by omega]
    grind
/-- sums over the readings -/
theorem pE_sum (h0 : s 0 = 0) (j u : Nat) : smQ (fun i => pE s j i * rl s (u + i)) (j + 1) = pc s (2 * j) * fr s (2 * j) (2 * u) 0 := by
  rw [← (p_act h0 j).1]
  exact smQ_congr fun i _ => by unfold rl; rw [show 2 * (u + i) = 2 * i + 2 * u by omega]
theorem pO_sum (h0 : s 0 = 0) (j u : Nat) : smQ (fun i => pO s j i * rl s (u + 1 + i)) (j + 1) = pc s (2 * j + 1) * fr s (2 * j + 1) (2 * u + 1) 0 := by
  rw [← (p_act h0 j).2]
  exact smQ_congr fun i _ => by unfold rl; rw [show 2 * (u + 1 + i) = 2 * i + 1 + (2 * u + 1) by omega]
end
end L2.Tr

namespace L2.Tr
/-! ### the readings of a line -/
structure LS (s : Nat → Rat) (n e : Nat) : Prop where
  h0 : s 0 = 0
  n0 : 0 < n
  mid : ∀ k, 0 < k → k < n → 0 < s k ∧ s k < 1
  en : (e = 0 ∧ s n = 0) ∨ (e = 1 ∧ s n = 1)
def gp (s : Nat → Rat) (t : Nat) : Rat := pc s t * pd s (t - 1)
section
variable {s : Nat → Rat} {n e : Nat}
theorem gp_one (h0 : s 0 = 0) : gp s 1 = 1 := by
  show 1 * (1 - s 0) * 1 = 1
  rw [h0]; grind
theorem gp_succ {t : Nat} (ht : 0 < t) : gp s (t + 1) = gp s t * s t * (1 - s t) := by
  obtain ⟨u, rfl⟩ : ∃ u, t = u + 1 := ⟨t - 1, by omega⟩
  show pc s (u + 1) * (1 - s (u + 1)) * (pd s u * s (u + 1)) = pc s (u + 1) * pd s u * s (u + 1) * (1 - s (u + 1))
  grind
theorem LS.gone (g : LS s n e) {m h : Nat} (hm : n < m) (hm2 : m = n + 1) : pc s m * fr s m h 0 = 0 := by
  rcases g.en with ⟨_, z⟩ | ⟨_, z⟩
  · rw [fr_shut g.h0 g.n0 z h m (by omega)]; grind
  · rw [hm2]
    show pc s n * (1 - s n) * _ = 0
    rw [z]; grind
/-- what is known of the reading at tick t -/
def add (s : Nat → Rat) (n t : Nat) : Rat := if t ≤ n then s t * gp s t else 0
theorem LS.stepE (g : LS s n e) {t j : Nat} (ht : 0 < t) (hj : min t (n + 1) = 2 * j) : smQ (fun i => pE s j i * rl s (t - j + i)) j + rl s t = add s n t := by
  have h := pE_sum g.h0 j (t - j)
  rw [smQ_succ, (p_top j).1, show t - j + j = t by omega, Rat.one_mul] at h
  rw [h]
  unfold add
  by_cases hn : t ≤ n
  · rw [if_pos hn, show 2 * (t - j) = 2 * j by omega, fr_near g.h0, show 2 * j = t by omega]
    obtain ⟨u, rfl⟩ : ∃ u, t = u + 1 := ⟨t - 1, by omega⟩
    show pc s (u + 1) * (pd s u * s (u + 1)) = s (u + 1) * (pc s (u + 1) * pd s u)
    grind
  · rw [if_neg hn]; exact g.gone (by omega) (by omega)
theorem LS.stepO (g : LS s n e) {t j : Nat} (hj : min t (n + 1) = 2 * j + 1) : smQ (fun i => pO s j i * rl s (t - j + i)) j + rl s t = add s n t := by
  have h := pO_sum g.h0 j (t - j - 1)
  rw [show t - j - 1 + 1 = t - j by omega, smQ_succ, (p_top j).2, show t - j + j = t by omega, Rat.one_mul] at h
  rw [h]
  unfold add
  by_cases hn : t ≤ n
  · rw [if_pos hn, show 2 * (t - j - 1) + 1 = 2 * j + 1 by omega, fr_near g.h0, show 2 * j + 1 = t by omega]
    obtain ⟨u, rfl⟩ : ∃ u, t = u + 1 := ⟨t - 1, by omega⟩
    show pc s (u + 1) * (pd s u * s (u + 1)) = s (u + 1) * (pc s (u + 1) * pd s u)
    grind
  · rw [if_neg hn]; exact g.gone (by omega) (by omega)
theorem rl_zero : rl s 0 = 1 := by
  show (if (0 : Nat) = 0 then (1 : Rat) else 0) = 1
  rw [if_pos rfl]
/-! as a web -/
def nT (s : Nat → Rat) : Nat → Rat
  | 0 => 1
  | k + 1 => nT s k * (1 - s k) / s (k + 1)
def nW (s : Nat → Rat) (i c : Nat) : Rat := (if c = i + 1 then nT s i * (1 - s i) else 0) + (if c + 1 = i then nT s c * (1 - s c) else 0)
theorem LS.lt (g : LS s n e) {k : Nat} (hk : k < n + e) : 0 ≤ s k ∧ s k ≤ 1 ∧ (0 < k → 0 < s k) := by
  by_cases h : k = 0
  · subst h; rw [g.h0]; exact ⟨by decide, by decide, fun h => absurd h (Nat.lt_irrefl _)⟩
  · by_cases hn : k < n
    · have := g.mid k (by omega) hn
      exact ⟨Rat.le_of_lt this.1, Rat.le_of_lt this.2, fun _ => this.1⟩
    · rcases g.en with ⟨e0, z⟩ | ⟨e1, z⟩
      · omega
      · rw [show k = n by omega, z]; exact ⟨by decide, by decide, fun _ => by decide⟩
theorem LS.lt1 (g : LS s n e) {k : Nat} (hk : k + 1 < n + e) : s k < 1 := by
  by_cases h : k = 0
  · subst h; rw [g.h0]; decide
  · rcases g.en with ⟨e0, z⟩ | ⟨e1, z⟩
    · exact (g.mid k (by omega) (by omega)).2
    · exact (g.mid k (by omega) (by omega)).2
theorem LS.T0 (g : LS s n e) : ∀ k, k < n + e → 0 < nT s k
  | 0, _ => by show (0 : Rat) < 1; decide
  | k + 1, hk => by
    have h1 := g.T0 k (by omega)
    have h2 := g.lt1 hk
    have h3 := (g.lt hk).2.2 (by omega)
    show 0 < nT s k * (1 - s k) / s (k + 1)
    rw [Rat.div_def]
    exact Rat.mul_pos (Rat.mul_pos h1 (by grind)) (Rat.inv_pos.mpr h3)
theorem LS.Ts (g : LS s n e) {k : Nat} (hk : k + 1 < n + e) : nT s (k + 1) * s (k + 1) = nT s k * (1 - s k) := by
  have h3 := (g.lt hk).2.2 (by omega)
  show nT s k * (1 - s k) / s (k + 1) * s (k + 1) = _
  exact Rat.div_mul_cancel (by grind)
theorem smQ_at {f : Nat → Rat} {k m : Nat} : smQ (fun c => if c = k then f c else 0) m = if k < m then f k else 0 := by
  by_cases h : k < m
  · rw [if_pos h, smQ_one (k := k) h fun i _ hi => if_neg hi, if_pos rfl]
  · rw [if_neg h]; exact smQ_null fun i hi => if_neg (by omega)
theorem smQ_be {f : Nat → Rat} {k m : Nat} (hk : k < m) : smQ (fun c => if c + 1 = k then f c else 0) m = if 0 < k then f (k - 1) else 0 := by
  by_cases h : 0 < k
  · rw [if_pos h, smQ_one (k := k - 1) (by omega) fun i _ hi => if_neg (by omega), if_pos (by omega)]
  · rw [if_neg h]; exact smQ_null fun i hi => if_neg (by omega)
/-- the sum along a node's joints -/
theorem nW_sum {x : Nat → Rat} {i N : Nat} (hi : i < N) : smQ (fun c => nW s i c * x c) N = (if i + 1 < N then nT s i * (1 - s i) * x (i + 1) else 0) + (if 0 < i then nT s (i - 1) * (1 - s (i - 1)) * x (i - 1) else 0) := by
  have e : smQ (fun c => nW s i c * x c) N = smQ (fun c => if c = i + 1 then nT s i * (1 - s i) * x c else 0) N + smQ (fun c => if c + 1 = i then nT s c * (1 - s c) * x c else 0) N := by
    rw [← smQ_add]
    refine smQ_congr fun c _ => ?_
    unfold nW
    by_cases h1 : c = i + 1
    · rw [if_pos h1, if_pos h1, if_neg (by omega), if_neg (by omega)]; grind
    · rw [if_neg h1, if_neg h1]
      by_cases h2 : c + 1 = i
      · rw [if_pos h2, if_pos h2]; grind
      · rw [if_neg h2, if_neg h2]; grind
  rw [e, smQ_at, smQ_be hi]
theorem nW_symm (i c : Nat) : nW s i c = nW s c i := by
  unfold nW
  by_cases h1 : c = i + 1
  · rw [if_pos h1, if_neg (by omega), if_neg (by omega), if_pos (by omega)]; grind
  · rw [if_neg h1]
    by_cases h2 : c + 1 = i
    · rw [if_pos h2, if_pos (by omega), if_neg (by omega)]; grind
    · rw [if_neg h2, if_neg (by omega), if_neg (by omega)]
theorem LS.rw_ (g : LS s n e) : RW (n + e) (n + e) (nW s) (nT s) (nT s) := by
  have w0 : ∀ i c, i < n + e → c < n + e → 0 ≤ nW s i c := fun i c hi hc => by
    unfold nW
    have a : ∀ k, k < n + e → 0 ≤ nT s k * (1 - s k) := fun k hk => Rat.mul_nonneg (Rat.le_of_lt (g.T0 k hk)) (by have := (g.lt hk).2.1; grind)
    have b1 : 0 ≤ (if c = i + 1 then nT s i * (1 - s i) else 0) := by split; exact a i hi; exact Rat.le_refl
    have b2 : 0 ≤ (if c + 1 = i then nT s c * (1 - s c) else 0) := by split; exact a c hc; exact Rat.le_refl
    grind
  have hT : ∀ i, i < n + e → smQ (nW s i) (n + e) ≤ nT s i := fun i hi => by
    have h := nW_sum (s := s) (x := fun _ => 1) (i := i) (N := n + e) hi
    rw [show smQ (fun c => nW s i c * 1) (n + e) = smQ (nW s i) (n + e) from smQ_congr fun c _ => by grind] at h
    rw [h]
    have t0 := g.T0 i hi
    obtain ⟨s0, s1, _⟩ := g.lt hi
    have p1 : 0 ≤ nT s i * (1 - s i) := Rat.mul_nonneg (Rat.le_of_lt t0) (by grind)
    have p2 : 0 ≤ nT s i * s i := Rat.mul_nonneg (Rat.le_of_lt t0) s0
    have a1 : (if i + 1 < n + e then nT s i * (1 - s i) * 1 else 0) ≤ nT s i * (1 - s i) := by split <;> grind
    have a2 : (if 0 < i then nT s (i - 1) * (1 - s (i - 1)) * 1 else 0) ≤ nT s i * s i := by
      split
      · rename_i h
        obtain ⟨u, rfl⟩ : ∃ u, i = u + 1 := ⟨i - 1, by omega⟩
        rw [Nat.add_sub_cancel, g.Ts hi]; grind
      · exact p2
    grind
  exact ⟨w0, g.T0, g.T0, hT, fun c hc => by rw [show smQ (fun i => nW s i c) (n + e) = smQ (nW s c) (n + e) from smQ_congr fun i _ => nW_symm i c]; exact hT c hc⟩
theorem LS.none (g : LS s n e) (he : e = 1) : ∀ h k, n < k → fr s 0 h k = 0
  | 0, k, hk => if_neg (by omega)
  | h + 1, k, hk => by
    show hstep s (fr s 0 h) k = 0
    unfold hstep
    rw [if_neg (by omega), g.none he h (k + 1) (by omega)]
    by_cases hn : k - 1 = n
    · rcases g.en with ⟨e0, _⟩ | ⟨_, z⟩
      · omega
      · rw [hn, z]; grind
    · rw [g.none he h (k - 1) (by omega)]; grind
def hf (s : Nat → Rat) (N : Nat) : Nat → Nat → Rat
  | 0 => fun i => if i = 0 then 1 else 0
  | h + 1 => dn N (nW s) (nT s) (hf s N h)
theorem LS.flow (g : LS s n e) : ∀ h c, c < n + e → nT s c * hf s (n + e) h c = fr s 0 h c
  | 0, c, hc => by
    show nT s c * (if c = 0 then 1 else 0) = if c = 0 then 1 else 0
    by_cases h : c = 0
    · rw [if_pos h, h]; show (1 : Rat) * 1 = 1; rw [Rat.mul_one]
    · rw [if_neg h, Rat.mul_zero]
  | h + 1, c, hc => by
    show nT s c * dn (n + e) (nW s) (nT s) (hf s (n + e) h) c = hstep s (fr s 0 h) c
    rw [dn_mul (g.T0 c hc), smQ_congr fun i _ => by rw [nW_symm i c], nW_sum hc]
    unfold hstep
    have a1 : (if c + 1 < n + e then nT s c * (1 - s c) * hf s (n + e) h (c + 1) else 0) = s (c + 1) * fr s 0 h (c + 1) := by
      by_cases h1 : c + 1 < n + e
      · rw [if_pos h1, ← g.Ts h1, ← g.flow h (c + 1) h1]; grind
      · rw [if_neg h1]
        rcases g.en with ⟨e0, z⟩ | ⟨e1, z⟩
        · rw [show c + 1 = n by omega, z]; grind
        · rw [g.none e1 h (c + 1) (by omega)]; grind
    have a2 : (if 0 < c then nT s (c - 1) * (1 - s (c - 1)) * hf s (n + e) h (c - 1) else 0) = if c = 0 then 0 else (1 - s (c - 1)) * fr s 0 h (c - 1) := by
      by_cases h1 : 0 < c
      · rw [if_pos h1, if_neg (by omega), ← g.flow h (c - 1) (by omega)]; grind
      · rw [if_neg h1, if_pos (by omega)]
    rw [a1, a2]; grind
theorem hf_pw (N : Nat) : ∀ k, hf s N (2 * k) = pw N N (nW s) (nT s) (nT s) (fun i => if i = 0 then 1 else 0) k
  | 0 => rfl
  | k + 1 => by
    show dn N (nW s) (nT s) (dn N (nW s) (nT s) (hf s N (2 * k))) = both N N (nW s) (nT s) (nT s) (pw N N (nW s) (nT s) (nT s) _ k)
    rw [hf_pw N k]
    unfold both
    rw [show tr (nW s) = nW s from funext fun i => funext fun c => nW_symm c i]
theorem LS.ip0 (g : LS s n e) (x : Nat → Rat) : ip (nT s) (n + e) x (fun i => if i = 0 then 1 else 0) = x 0 := by
  unfold ip
  rw [smQ_one (k := 0) (by have := g.n0; omega) fun i _ hi => by dsimp only; rw [if_neg hi, Rat.mul_zero]]
  show (1 : Rat) * x 0 * 1 = x 0
  grind
theorem LS.rl_pw (g : LS s n e) (t : Nat) : rl s t = ip (nT s) (n + e) (pw (n + e) (n + e) (nW s) (nT s) (nT s) (fun i => if i = 0 then 1 else 0) t) (fun i => if i = 0 then 1 else 0) := by
  rw [g.ip0, ← hf_pw]
  have := g.flow (2 * t) 0 (by have := g.n0; omega)
  unfold rl
  rw [← this]
  show (1 : Rat) * _ = _
  grind
theorem LS.hm (g : LS s n e) : HM (rl s) := (g.rw_.hm (fun i => if i = 0 then 1 else 0)).congr fun k => g.rl_pw k
/-! the limit of a line with the end 1 -/
def evn (i : Nat) : Rat := if i % 2 = 0 then 1 else 0
theorem LS.still (g : LS s n e) (he : e = 1) : ∀ c, c < n + e → dn (n + e) (nW s) (nT s) evn c = evn (c + 1) ∧ dn (n + e) (nW s) (nT s) (fun i => evn (i + 1)) c = evn c := by
  have key : ∀ (x : Nat → Rat) (y : Rat) c, c < n + e → (∀ i, i + 1 = c ∨ i = c + 1 → x i = y) → dn (n + e) (nW s) (nT s) x c = y := fun x y c hc hx => by
    have h := dn_mul (R := n + e) (w := nW s) (U := nT s) (x := x) (c := c) (g.T0 c hc)
    rw [smQ_congr fun i _ => by rw [nW_symm i c], nW_sum hc] at h
    have t0 := g.T0 c hc
    have e1 : (if c + 1 < n + e then nT s c * (1 - s c) * x (c + 1) else 0) = nT s c * (1 - s c) * y := by
      by_cases h1 : c + 1 < n + e
      · rw [if_pos h1, hx (c + 1) (.inr rfl)]
      · rw [if_neg h1]
        rcases g.en with ⟨e0, z⟩ | ⟨_, z⟩
        · omega
        · rw [show c = n by omega, z]; grind
    have e2 : (if 0 < c then nT s (c - 1) * (1 - s (c - 1)) * x (c - 1) else 0) = nT s c * s c * y := by
      by_cases h1 : 0 < c
      · obtain ⟨u, rfl⟩ : ∃ u, c = u + 1 := ⟨c - 1, by omega⟩
        rw [if_pos h1, Nat.add_sub_cancel, hx u (.inl rfl), g.Ts hc]
      · rw [if_neg h1, show c = 0 by omega, g.h0]; grind
    rw [e1, e2] at h
    have h2 : nT s c * (dn (n + e) (nW s) (nT s) x c - y) = 0 := by grind
    rcases Rat.mul_eq_zero.mp h2 with z | z
    · grind
    · grind
  intro c hc
  have ev2 : ∀ i, evn (i + 2) = evn i := fun i => by unfold evn; rw [Nat.add_mod_right]
  refine ⟨key _ _ c hc fun i hi => ?_, key _ _ c hc fun i hi => ?_⟩
  · rcases hi with rfl | rfl
    · rw [show i + 1 + 1 = i + 2 by omega, ev2]
    · rfl
  · rcases hi with rfl | rfl
    · rfl
    · rw [show c + 1 + 1 = c + 2 by omega, ev2]
def lsum (s : Nat → Rat) (N : Nat) : Rat := smQ (fun i => nT s i * evn i) N
theorem evn_sq (i : Nat) : evn i * evn i = evn i := by unfold evn; split <;> grind
theorem LS.lsum_pos (g : LS s n e) : 0 < lsum s (n + e) := by
  have h := smQ_ge (f := fun i => nT s i * evn i) (n := n + e) (k := 0) (by have := g.n0; omega) fun i hi => Rat.mul_nonneg (Rat.le_of_lt (g.T0 i hi)) (by unfold evn; split <;> decide)
  have e : nT s 0 * evn 0 = 1 := by show (1 : Rat) * (if 0 % 2 = 0 then 1 else 0) = 1; rw [if_pos rfl, Rat.mul_one]
  rw [e] at h
  unfold lsum
  grind
theorem LS.above (g : LS s n e) (he : e = 1) (t : Nat) : 1 / lsum s (n + e) ≤ rl s t := by
  have down : ∀ a b, rl s (a + b) ≤ rl s a := fun a b => by
    induction b with
    | zero => exact Rat.le_refl
    | succ b ih => have := g.hm.diff.pos (a + b); show rl s (a + b + 1) ≤ _; grind
  refine Rat.le_trans ?_ (down t t)
  have hr := g.rw_
  have S0 := g.lsum_pos
  have hS : ip (nT s) (n + e) evn evn = lsum s (n + e) := smQ_congr fun i _ => by rw [Rat.mul_assoc, evn_sq]
  have st : ∀ x, ip (nT s) (n + e) (both (n + e) (n + e) (nW s) (nT s) (nT s) x) evn = ip (nT s) (n + e) x evn := fun x => by
    rw [hr.self]
    refine ip_congr (fun _ _ => rfl) fun i hi => ?_
    unfold both
    rw [show tr (nW s) = nW s from funext fun i => funext fun c => nW_symm c i]
    have e1 : ∀ c, c < n + e → dn (n + e) (nW s) (nT s) evn c = evn (c + 1) := fun c hc => (g.still he c hc).1
    have e2 : dn (n + e) (nW s) (nT s) (dn (n + e) (nW s) (nT s) evn) i = dn (n + e) (nW s) (nT s) (fun c => evn (c + 1)) i := by
      unfold dn
      congr 1
      refine smQ_congr fun c hc => ?_
      have := e1 c hc
      unfold dn at this
      rw [this]
    rw [e2, (g.still he i hi).2]
  have hx : ∀ k, ip (nT s) (n + e) (pw (n + e) (n + e) (nW s) (nT s) (nT s) (fun i => if i = 0 then 1 else 0) k) evn = 1 := fun k => by
    induction k with
    | zero =>
      show ip (nT s) (n + e) (fun i => if i = 0 then 1 else 0) evn = 1
      rw [ip_comm, g.ip0]; rfl
    | succ k ih => exact (st _).trans ih
  have hm := hr.mom (fun i => if i = 0 then 1 else 0) t t
  rw [← g.rl_pw (t + t)] at hm
  have hb := hx t
  generalize pw (n + e) (n + e) (nW s) (nT s) (nT s) (fun i => if i = 0 then 1 else 0) t = x at *
  have h1 := ip_self (T := nT s) (n := n + e) (x := fun i => x i - (1 / lsum s (n + e)) * evn i) g.T0
  have e1 : ∀ c : Rat, ip (nT s) (n + e) (fun i => x i - c * evn i) (fun i => x i - c * evn i) = ip (nT s) (n + e) x x - 2 * c * ip (nT s) (n + e) x evn + c * c * ip (nT s) (n + e) evn evn := fun c => by
    unfold ip
    rw [← smQ_mul, ← smQ_mul, ← smQ_sub, ← smQ_add]
    exact smQ_congr fun i _ => by grind
  rw [e1, hb, hS, hm] at h1
  generalize lsum s (n + e) = S at *
  have : 1 / S * S = 1 := Rat.div_mul_cancel (by grind)
  have h2 : 1 / S * (1 / S) * S = 1 / S := by rw [Rat.mul_assoc, this, Rat.mul_one]
  rw [h2] at h1
  grind
end
end L2.Tr

namespace L2.Tr
/-! ### sizes: a denominator and a bound of the value -/
def Fx (D M : Nat) (q : Rat) : Prop := DB D (M * D) q
section
variable {D E M N : Nat} {x y : Rat}
theorem Fx.add (h : Fx D M x) (k : Fx D N y) : Fx D (M + N) (x + y) := by
  have := DB.add h k
  unfold Fx; rwa [Nat.add_mul]
theorem Fx.sub (h : Fx D M x) (k : Fx D N y) : Fx D (M + N) (x - y) := by
  have := DB.sub h k
  unfold Fx; rwa [Nat.add_mul]
theorem Fx.neg (h : Fx D M x) : Fx D M (-x) := DB.neg h
theorem Fx.mul (h : Fx D M x) (k : Fx E N y) : Fx (D * E) (M * N) (x * y) := by
  have := DB.mul h k
  unfold Fx
  rwa [show M * N * (D * E) = M * D * (N * E) by grind]
theorem Fx.pos (h : Fx D M x) : 0 < D := h.1
theorem Fx.up (h : Fx D M x) (hd : D ∣ E) (hE : 0 < E) : Fx E M x := by
  have := DB.dvd h hd hE
  unfold Fx
  rwa [Nat.mul_assoc, Nat.mul_div_cancel' hd] at this
theorem Fx.mono (h : Fx D M x) (hM : M ≤ N) : Fx D N x := DB.mono h (Nat.mul_le_mul_right D hM)
theorem Fx.zero (h : 0 < D) : Fx D M 0 := DB.zero h _
theorem Fx.one (h : 0 < D) : Fx D 1 1 := (show Fx 1 1 1 from DB.one).up (Nat.one_dvd D) h
theorem Fx.fits {a b : Nat} (h : Fx D M x) (hD : D ≤ 2 ^ a) (hM : M ≤ 2 ^ b) (hab : a + b ≤ 4000) : fits x :=
  DB.fits h (Nat.le_trans hD (Nat.pow_le_pow_right (by decide) (by omega))) (Nat.le_trans (Nat.mul_le_mul hM hD) (by rw [← Nat.pow_add]; exact Nat.pow_le_pow_right (by decide) (by omega)))
theorem Fx.sz {a b : Nat} (h : Fx D M x) (hD : D ≤ 2 ^ a) (hM : M ≤ 2 ^ b) : Sz (a + b) x := by
  obtain ⟨h0, z, e, hz⟩ := h
  rw [e]
  refine sz_divInt (Nat.le_trans hz (Nat.le_trans (Nat.mul_le_mul hM hD) (by rw [← Nat.pow_add, Nat.add_comm]; exact Nat.le_refl _))) ?_
  rw [Int.natAbs_natCast]
  exact Nat.le_trans hD (Nat.pow_le_pow_right (by decide) (by omega))
theorem Fx.sum {f : Nat → Rat} (h0 : 0 < D) : ∀ {n : Nat}, (∀ i, i < n → Fx D M (f i)) → Fx D (n * M) (smQ f n)
  | 0, _ => by rw [Nat.zero_mul]; exact Fx.zero h0
  | n + 1, h => by
    rw [smQ_succ, Nat.succ_mul]
    exact (Fx.sum h0 fun i hi => h i (by omega)).add (h n (by omega))
end
section
variable {s : Nat → Rat} {Λ : Nat}
theorem pow_dvd' {a b : Nat} (h : a ≤ b) : Λ ^ a ∣ Λ ^ b := Nat.pow_dvd_pow Λ h
theorem fx_fr (hΛ : 0 < Λ) (hs : ∀ k, Fx Λ 1 (s k)) : ∀ h k, Fx (Λ ^ h) (4 ^ h) (fr s 0 h k)
  | 0, k => by
    show Fx (Λ ^ 0) 1 (if k = 0 then 1 else 0)
    split
    · exact Fx.one (Nat.pow_pos hΛ)
    · exact Fx.zero (Nat.pow_pos hΛ)
  | h + 1, k => by
    show Fx (Λ ^ (h + 1)) (4 ^ (h + 1)) (hstep s (fr s 0 h) k)
    unfold hstep
    have a1 : Fx (Λ ^ (h + 1)) (2 * 4 ^ h) (if k = 0 then 0 else (1 - s (k - 1)) * fr s 0 h (k - 1)) := by
      split
      · exact Fx.zero (Nat.pow_pos hΛ)
      · have := ((Fx.one hΛ).sub (hs (k - 1))).mul (fx_fr hΛ hs h (k - 1))
        rwa [Nat.mul_comm Λ, ← Nat.pow_succ] at this
    have a2 : Fx (Λ ^ (h + 1)) (4 ^ h) (s (k + 1) * fr s 0 h (k + 1)) := by
      have := (hs (k + 1)).mul (fx_fr hΛ hs h (k + 1))
      rwa [Nat.mul_comm Λ, ← Nat.pow_succ, Nat.one_mul] at this
    refine (a1.add a2).mono ?_
    rw [Nat.pow_succ]; omega
theorem fx_rl (hΛ : 0 < Λ) (hs : ∀ k, Fx Λ 1 (s k)) (t : Nat) : Fx (Λ ^ (2 * t)) (4 ^ (2 * t)) (rl s t) := fx_fr hΛ hs (2 * t) 0
theorem fx_gf (hs : ∀ k, Fx Λ 1 (s k)) (hΛ : 0 < Λ) (i : Nat) : Fx (Λ * Λ) 2 (gf s i) := ((Fx.one hΛ).sub (hs (i - 1))).mul (hs i)
theorem fx_p (hΛ : 0 < Λ) (hs : ∀ k, Fx Λ 1 (s k)) : ∀ j, (∀ k, Fx (Λ ^ (2 * j)) (3 ^ (2 * j)) (pE s j k)) ∧ ∀ k, Fx (Λ ^ (2 * j + 1)) (3 ^ (2 * j + 1)) (pO s j k)
  | 0 => by
    have p : ∀ a b, 0 < b → ∀ k : Nat, Fx (Λ ^ a) b (if k = 0 then (1 : Rat) else 0) := fun a b hb k => by
      split
      · exact (Fx.one (Nat.pow_pos hΛ)).mono hb
      · exact Fx.zero (Nat.pow_pos hΛ)
    exact ⟨fun k => by rw [pE_zero]; exact p _ _ (by decide) k, fun k => by rw [pO_zero]; exact p _ _ (by decide) k⟩
  | j + 1 => by
    obtain ⟨hE, hO⟩ := fx_p hΛ hs j
    have kE : ∀ k, Fx (Λ ^ (2 * (j + 1))) (3 ^ (2 * (j + 1))) (pE s (j + 1) k) := fun k => by
      rw [pE_succ]
      have a1 : Fx (Λ ^ (2 * (j + 1))) (3 ^ (2 * j + 1)) (if k = 0 then 0 else pO s j (k - 1)) := by
        split
        · exact Fx.zero (Nat.pow_pos hΛ)
        · exact (hO (k - 1)).up (pow_dvd' (by omega)) (Nat.pow_pos hΛ)
      have a2 : Fx (Λ ^ (2 * (j + 1))) (3 ^ (2 * j) * 2) (pE s j k * gf s (2 * j + 1)) := by
        have := (hE k).mul (fx_gf hs hΛ (2 * j + 1))
        rwa [show Λ ^ (2 * j) * (Λ * Λ) = Λ ^ (2 * (j + 1)) by rw [show 2 * (j + 1) = 2 * j + 1 + 1 by omega, Nat.pow_succ, Nat.pow_succ, Nat.mul_assoc]] at this
      refine (a1.sub a2).mono ?_
      have e1 : 3 ^ (2 * j + 1) = 3 ^ (2 * j) * 3 := Nat.pow_succ _ _
      have e2 : 3 ^ (2 * (j + 1)) = 3 ^ (2 * j) * 3 * 3 := by rw [show 2 * (j + 1) = 2 * j + 1 + 1 by omega, Nat.pow_succ, Nat.pow_succ]
      omega
    refine ⟨kE, fun k => ?_⟩
    rw [pO_succ]
    have a1 : Fx (Λ ^ (2 * (j + 1) + 1)) (3 ^ (2 * (j + 1))) (pE s (j + 1) k) := (kE k).up (pow_dvd' (by omega)) (Nat.pow_pos hΛ)
    have a2 : Fx (Λ ^ (2 * (j + 1) + 1)) (3 ^ (2 * j + 1) * 2) (pO s j k * gf s (2 * j + 2)) := by
      have := (hO k).mul (fx_gf hs hΛ (2 * j + 2))
      rwa [show Λ ^ (2 * j + 1) * (Λ * Λ) = Λ ^ (2 * (j + 1) + 1) by rw [show 2 * (j + 1) + 1 = 2 * j + 1 + 1 + 1 by omega, Nat.pow_succ _ (2 * j + 1 + 1), Nat.pow_succ _ (2 * j + 1), Nat.mul_assoc]] at this
    refine (a1.sub a2).mono ?_
    have e1 : 3 ^ (2 * j + 1) = 3 ^ (2 * j) * 3 := Nat.pow_succ _ _
    have e2 : 3 ^ (2 * (j + 1)) = 3 ^ (2 * j) * 3 * 3 := by rw [show 2 * (j + 1) = 2 * j + 1 + 1 by omega, Nat.pow_succ, Nat.pow_succ]
    have e3 : 3 ^ (2 * (j + 1) + 1) = 3 ^ (2 * (j + 1)) * 3 := Nat.pow_succ _ _
    omega
theorem fx_gp (hΛ : 0 < Λ) (h0 : s 0 = 0) (hs : ∀ k, Fx Λ 1 (s k)) : ∀ t, Fx (Λ ^ (2 * t)) (2 ^ t) (gp s (t + 1))
  | 0 => by rw [gp_one h0]; exact Fx.one (Nat.pow_pos hΛ)
  | t + 1 => by
    rw [gp_succ (by omega)]
    have := ((fx_gp hΛ h0 hs t).mul (hs (t + 1))).mul ((Fx.one hΛ).sub (hs (t + 1)))
    rw [Nat.mul_one, ← Nat.pow_succ, ← Nat.pow_succ, show (1 : Nat) + 1 = 2 from rfl] at this
    rw [Nat.pow_succ]
    exact this
end
theorem trimQ_getD (xs : List Rat) (k : Nat) : (trimQ xs).getD k 0 = xs.getD k 0 := by
  unfold trimQ
  have key : ∀ m, m ≤ xs.length → (xs.take (trimN (fun i => decide (xs.getD i 0 = 0)) m)).getD k 0 = (xs.take m).getD k 0 := fun m => by
    induction m with
    | zero => exact fun _ => rfl
    | succ m ih =>
      intro hm
      unfold trimN
      by_cases h : xs.getD m 0 = 0
      · rw [if_pos (decide_eq_true h), ih (by omega)]
        rw [List.getD_eq_getElem?_getD, List.getD_eq_getElem?_getD]
        by_cases hk : k < m
        · rw [List.getElem?_take_of_lt hk, List.getElem?_take_of_lt (by omega)]
        · rw [List.getElem?_eq_none (by rw [List.length_take]; omega)]
          by_cases hk2 : k = m
          · subst hk2
            rw [List.getElem?_take_of_lt (by omega), ← List.getD_eq_getElem?_getD, h]; rfl
          · rw [List.getElem?_eq_none (by rw [List.length_take]; omega)]
      · rw [if_neg (by simpa using h)]
  have := key xs.length (Nat.le_refl _)
  rwa [List.take_length] at this
theorem trimQ_vec {n : Nat} {f : Nat → Rat} (h : f n ≠ 0) : trimQ (vec (n + 1) f) = vec (n + 1) f := trimQ_id fun x hx => by
  rw [vec_succ, List.getLast?_append, List.getLast?_singleton] at hx
  cases hx
  exact h
theorem vec_getD {n k : Nat} {f : Nat → Rat} : (vec n f).getD k 0 = if k < n then f k else 0 := by
  rw [List.getD_eq_getElem?_getD]
  split
  · rename_i h; rw [vec_get h]; rfl
  · rename_i h; rw [vec_none (by omega)]; rfl
theorem qAddq {x y : Rat} (hx : fits x) (hy : fits y) : qAdd x (.q y) = .ok (x + y) := qAdd_ok (y := .q y) hx hy
theorem qSubq {x y : Rat} (hx : fits x) (hy : fits y) : qSub x (.q y) = .ok (x - y) := qSub_ok (y := .q y) hx hy
theorem qMulq {x y : Rat} (hx : fits x) (hy : fits y) : qMul x (.q y) = .ok (x * y) := qMul_ok (y := .q y) hx hy
theorem qOverq {x y : Rat} (hx : fits x) (hy : fits y) (h : y ≠ 0) : qOver x (.q y) = .ok (x / y) := qOver_ok (y := .q y) hx hy h
theorem fits_one : fits ((1 : Int) : Rat) := ⟨by decide, by decide⟩
theorem fits_1 : fits (1 : Rat) := ⟨by decide, by decide⟩
theorem fits_0 : fits (0 : Rat) := ⟨by decide, by decide⟩
theorem qRsub1 {x : Rat} (hx : fits x) : qRsub x 1 = .ok (1 - x) := qRsub_ok hx fits_one
theorem num_qd (q : Rat) : ((q.num : Int) : Rat) = q * ((q.den : Int) : Rat) := by
  have e := Rat.num_divInt_den q
  rw [Rat.divInt_eq_div] at e
  have h : ((q.den : Int) : Rat) ≠ 0 := by have := q.den_nz; exact_mod_cast this
  have h2 : (q.num : Rat) / ((q.den : Int) : Rat) * ((q.den : Int) : Rat) = (q.num : Rat) := Rat.div_mul_cancel h
  rw [e] at h2
  exact h2.symm
theorem den_q (q : Rat) : (0 : Rat) < ((q.den : Int) : Rat) := by
  have := q.den_pos
  have h : (0 : Int) < (q.den : Int) := by omega
  exact_mod_cast h
/-- a fraction against a pair -/
theorem cross_iff {q : Rat} {a b : Int} (hb : 0 < b) : q.num * b = a * (q.den : Int) ↔ q = (a : Rat) / (b : Rat) := by
  have h1 := num_qd q
  have h2 := den_q q
  have h3 : (0 : Rat) < (b : Rat) := by exact_mod_cast hb
  have key : q.num * b = a * (q.den : Int) ↔ ((q.num : Int) : Rat) * (b : Rat) = (a : Rat) * ((q.den : Int) : Rat) := by
    constructor
    · intro h; rw [← Rat.intCast_mul, ← Rat.intCast_mul, h]
    · intro h; rw [← Rat.intCast_mul, ← Rat.intCast_mul] at h; exact_mod_cast h
  rw [key, h1]
  constructor
  · intro h
    have : (q * (b : Rat) - (a : Rat)) * ((q.den : Int) : Rat) = 0 := by grind
    rcases Rat.mul_eq_zero.mp this with z | z
    · have e : q * (b : Rat) = (a : Rat) := by grind
      rw [← e]; grind
    · grind
  · intro h
    have e : (a : Rat) / (b : Rat) * (b : Rat) = (a : Rat) := Rat.div_mul_cancel (by grind)
    rw [← h] at e
    rw [← e]; grind
theorem lt_cross {x y : Rat} : x.num * (y.den : Int) < y.num * (x.den : Int) ↔ x < y := by
  rw [Rat.lt_iff]
theorem sz_one : Sz 0 (1 : Rat) := ⟨by decide, by decide⟩
theorem sz_nT {s : Nat → Rat} (hz : ∀ k, Sz 10 (s k)) : ∀ k, Sz (21 * k) (nT s k)
  | 0 => sz_one
  | k + 1 => by
    show Sz (21 * (k + 1)) (nT s k * (1 - s k) / s (k + 1))
    have h1 := (sz_nT hz k).mul (sz_one.sub (hz k))
    exact (h1.div (hz (k + 1))).mono (by omega)
theorem sz_lsum {s : Nat → Rat} (hz : ∀ k, Sz 10 (s k)) : ∀ N, N ≤ 14 → Sz (280 * N) (lsum s N)
  | 0, _ => show Sz 0 (0 : Rat) from ⟨by decide, by decide⟩
  | N + 1, h => by
    show Sz (280 * (N + 1)) (lsum s N + nT s N * evn N)
    have he : Sz 0 (evn N) := by unfold evn; split <;> exact ⟨by decide, by decide⟩
    exact ((sz_lsum hz N (by omega)).add ((sz_nT hz N).mul he)).mono (by omega)
end L2.Tr

namespace L2.Tr
open PySem PySem.Spec PyProof.Rows
def top (i : Nat) : Stmt := PySem.Challenge.pw_tracerline_k78_first_returns_and_reading.main.body.getD i (.Pass ⟨0, 0, 0, 0⟩)
abbrev s_law_tape : Stmt := top 14
abbrev s_law_pick : Stmt := top 15
abbrev s_common_divisor : Stmt := top 6
abbrev s_Fraction_init : Stmt := inClass (top 7) 0
abbrev s_law_flat : Stmt := top 17
abbrev s_law_raised : Stmt := top 18
abbrev s_law_first : Stmt := top 20
abbrev s_law_over_powers : Stmt := top 19
abbrev s_law_again : Stmt := top 21
abbrev s_as_fraction : Stmt := top 8
abbrev s_Fraction_eq : Stmt := inClass (top 7) 10
abbrev s_Fraction_mul : Stmt := inClass (top 7) 5
abbrev s_Fraction_add : Stmt := inClass (top 7) 1
abbrev s_total_of : Stmt := top 10
abbrev s_Fraction_sub : Stmt := inClass (top 7) 3
abbrev s_first_returns : Stmt := top 11
abbrev s_law_is : Stmt := top 16
abbrev s_law_listed : Stmt := top 22
abbrev s_returned : Stmt := top 12
abbrev s_law_refused : Stmt := top 23
abbrev s_law : Stmt := top 24
structure Txt (K : PySem.W.Frag) (mg : Str → Option Value) : Prop where
  g_law_tape : mg "_law_tape" = some (.ref (He.ga K "_law_tape"))
  k_law_tape : PySem.W.keepIn K (.ref (He.ga K "_law_tape")) = true
  g_law_pick : mg "_law_pick" = some (.ref (He.ga K "_law_pick"))
  k_law_pick : PySem.W.keepIn K (.ref (He.ga K "_law_pick")) = true
  n_int : mg "int" = none
  g_Fraction : mg "Fraction" = some (.ref (He.ga K "Fraction"))
  mk_Fraction : Mk K (He.ga K "Fraction") (He.ma K (He.ga K "Fraction") "__init__")
  g_law_flat : mg "_law_flat" = some (.ref (He.ga K "_law_flat"))
  k_law_flat : PySem.W.keepIn K (.ref (He.ga K "_law_flat")) = true
  g_law_raised : mg "_law_raised" = some (.ref (He.ga K "_law_raised"))
  k_law_raised : PySem.W.keepIn K (.ref (He.ga K "_law_raised")) = true
  g_law_first : mg "_law_first" = some (.ref (He.ga K "_law_first"))
  k_law_first : PySem.W.keepIn K (.ref (He.ga K "_law_first")) = true
  g_law_over_powers : mg "_law_over_powers" = some (.ref (He.ga K "_law_over_powers"))
  k_law_over_powers : PySem.W.keepIn K (.ref (He.ga K "_law_over_powers")) = true
  g_law_again : mg "_law_again" = some (.ref (He.ga K "_law_again"))
  k_law_again : PySem.W.keepIn K (.ref (He.ga K "_law_again")) = true
  n_range : mg "range" = none
  g_first_returns : mg "first_returns" = some (.ref (He.ga K "first_returns"))
  k_first_returns : PySem.W.keepIn K (.ref (He.ga K "first_returns")) = true
  g_law_listed : mg "_law_listed" = some (.ref (He.ga K "_law_listed"))
  k_law_listed : PySem.W.keepIn K (.ref (He.ga K "_law_listed")) = true
  g_returned : mg "returned" = some (.ref (He.ga K "returned"))
  k_returned : PySem.W.keepIn K (.ref (He.ga K "returned")) = true
  om_Fraction_eq : OMet K (He.ga K "Fraction") "__eq__" (He.ma K (He.ga K "Fraction") "__eq__")
  g_law_refused : mg "_law_refused" = some (.ref (He.ga K "_law_refused"))
  k_law_refused : PySem.W.keepIn K (.ref (He.ga K "_law_refused")) = true
  n_len : mg "len" = none
  n_abs : mg "abs" = none
  F_law_tape : ∃ fd, FunD K "_law_tape" "_law_tape" (defArgs s_law_tape) (defBody s_law_tape) (defScope s_law_tape) [] [] (He.ga K "_law_tape") fd
  F_law_pick : ∃ fd, FunD K "_law_pick" "_law_pick" (defArgs s_law_pick) (defBody s_law_pick) (defScope s_law_pick) [] [] (He.ga K "_law_pick") fd
  F_common_divisor : ∃ fd, FunD K "common_divisor" "common_divisor" (defArgs s_common_divisor) (defBody s_common_divisor) (defScope s_common_divisor) [] [] (He.ga K "common_divisor") fd
  F_law_flat : ∃ fd, FunD K "_law_flat" "_law_flat" (defArgs s_law_flat) (defBody s_law_flat) (defScope s_law_flat) [] [] (He.ga K "_law_flat") fd
  F_law_raised : ∃ fd, FunD K "_law_raised" "_law_raised" (defArgs s_law_raised) (defBody s_law_raised) (defScope s_law_raised) [] [] (He.ga K "_law_raised") fd
  n_sum : mg "sum" = none
  F_law_first : ∃ fd, FunD K "_law_first" "_law_first" (defArgs s_law_first) (defBody s_law_first) (defScope s_law_first) [] [] (He.ga K "_law_first") fd
  F_law_over_powers : ∃ fd, FunD K "_law_over_powers" "_law_over_powers" (defArgs s_law_over_powers) (defBody s_law_over_powers) (defScope s_law_over_powers) [] [] (He.ga K "_law_over_powers") fd
  F_law_again : ∃ fd, FunD K "_law_again" "_law_again" (defArgs s_law_again) (defBody s_law_again) (defScope s_law_again) [] [] (He.ga K "_law_again") fd
  g_as_fraction : mg "as_fraction" = some (.ref (He.ga K "as_fraction"))
  k_as_fraction : PySem.W.keepIn K (.ref (He.ga K "as_fraction")) = true
  o_Fraction : OCls K (He.ga K "Fraction")
  nf_Fraction : PySem.W.notFirst K (He.ga K "Fraction") (.ref (He.ga K "Fraction")) = true ∧ PySem.W.notFirst K (He.ga K "Fraction") (.type "int") = true
  ex_BadReadings : ExcP K mg "BadReadings"
  om_Fraction_mul : OMet K (He.ga K "Fraction") "__mul__" (He.ma K (He.ga K "Fraction") "__mul__")
  om_Fraction_rmul : OMet K (He.ga K "Fraction") "__rmul__" (He.ma K (He.ga K "Fraction") "__rmul__")
  im_mul : ∃ fo, PySem.W.findIn K (.type "int") "__mul__" = some fo
  im_rmul : ∃ fo, PySem.W.findIn K (.type "int") "__rmul__" = some fo
  g_total_of : mg "total_of" = some (.ref (He.ga K "total_of"))
  k_total_of : PySem.W.keepIn K (.ref (He.ga K "total_of")) = true
  om_Fraction_sub : OMet K (He.ga K "Fraction") "__sub__" (He.ma K (He.ga K "Fraction") "__sub__")
  kI_int_Fraction : PySem.W.kitOne K (.type "int") (.ref (He.ga K "Fraction")) = some false
  n_isinstance : mg "isinstance" = none
  kt_Fraction_Fraction : PySem.W.kitOne K (.ref (He.ga K "Fraction")) (.ref (He.ga K "Fraction")) = some true
  F_as_fraction : ∃ fd, FunD K "as_fraction" "as_fraction" (defArgs s_as_fraction) (defBody s_as_fraction) (defScope s_as_fraction) [] [] (He.ga K "as_fraction") fd
  na_Fraction_bottom : NoAttr K (He.ga K "Fraction") "bottom"
  na_Fraction_top : NoAttr K (He.ga K "Fraction") "top"
  kT_Fraction_int : PySem.W.kitOne K (.ref (He.ga K "Fraction")) (.type "int") = some false
  F_Fraction_eq : ∃ fd, FunD K "__eq__" "Fraction.__eq__" (defArgs s_Fraction_eq) (defBody s_Fraction_eq) (defScope s_Fraction_eq) [] [] (He.ma K (He.ga K "Fraction") "__eq__") fd
  F_Fraction_mul : ∃ fd, FunD K "__mul__" "Fraction.__mul__" (defArgs s_Fraction_mul) (defBody s_Fraction_mul) (defScope s_Fraction_mul) [] [] (He.ma K (He.ga K "Fraction") "__mul__") fd
  om_Fraction_add : OMet K (He.ga K "Fraction") "__add__" (He.ma K (He.ga K "Fraction") "__add__")
  F_Fraction_add : ∃ fd, FunD K "__add__" "Fraction.__add__" (defArgs s_Fraction_add) (defBody s_Fraction_add) (defScope s_Fraction_add) [] [] (He.ma K (He.ga K "Fraction") "__add__") fd
  F_total_of : ∃ fd, FunD K "total_of" "total_of" (defArgs s_total_of) (defBody s_total_of) (defScope s_total_of) [] [] (He.ga K "total_of") fd
  F_Fraction_sub : ∃ fd, FunD K "__sub__" "Fraction.__sub__" (defArgs s_Fraction_sub) (defBody s_Fraction_sub) (defScope s_Fraction_sub) [] [] (He.ma K (He.ga K "Fraction") "__sub__") fd
  F_first_returns : ∃ fd, FunD K "first_returns" "first_returns" (defArgs s_first_returns) (defBody s_first_returns) (defScope s_first_returns) [] [] (He.ga K "first_returns") fd
  n_list : mg "list" = none
  g_law_is : mg "_law_is" = some (.ref (He.ga K "_law_is"))
  k_law_is : PySem.W.keepIn K (.ref (He.ga K "_law_is")) = true
  n_bool : mg "bool" = none
  F_law_is : ∃ fd, FunD K "_law_is" "_law_is" (defArgs s_law_is) (defBody s_law_is) (defScope s_law_is) [] [] (He.ga K "_law_is") fd
  F_law_listed : ∃ fd, FunD K "_law_listed" "_law_listed" (defArgs s_law_listed) (defBody s_law_listed) (defScope s_law_listed) [] [] (He.ga K "_law_listed") fd
  F_returned : ∃ fd, FunD K "returned" "returned" (defArgs s_returned) (defBody s_returned) (defScope s_returned) [] [] (He.ga K "returned") fd
  g_TracerError : mg "TracerError" = some (.ref (He.ga K "TracerError"))
  kt_BadReadings_TracerError : PySem.W.kitOne K (.ref (He.ga K "BadReadings")) (.ref (He.ga K "TracerError")) = some true
  xc_BadReadings : ExcC K (He.ga K "BadReadings")
  n_ValueError : mg "ValueError" = none
  kT_BadReadings_ValueError : PySem.W.kitOne K (.ref (He.ga K "BadReadings")) (.type "ValueError") = some true
  xm_BadReadings_BadReadings : PySem.W.exmOne K (.ref (He.ga K "BadReadings")) (.ref (He.ga K "BadReadings")) = some true
  g_BadReadings : mg "BadReadings" = some (.ref (He.ga K "BadReadings"))
  F_law_refused : ∃ fd, FunD K "_law_refused" "_law_refused" (defArgs s_law_refused) (defBody s_law_refused) (defScope s_law_refused) [] [] (He.ga K "_law_refused") fd
  F_law : ∃ fd, FunD K "law" "law" (defArgs s_law) (defBody s_law) (defScope s_law) [] [] (He.ga K "law") fd
  g_law : mg "law" = some (.ref (He.ga K "law"))
  F_Fraction_init : ∃ fd, FunD K "__init__" "Fraction.__init__" (defArgs s_Fraction_init) (defBody s_Fraction_init) (defScope s_Fraction_init) [.int 1] [] (He.ma K (He.ga K "Fraction") "__init__") fd
  ex_BadFraction : ExcP K mg "BadFraction"
  g_common_divisor : mg "common_divisor" = some (.ref (He.ga K "common_divisor"))
  k_common_divisor : PySem.W.keepIn K (.ref (He.ga K "common_divisor")) = true
theorem sc_law_tape : FnScope ["_law_script", "_law_k", "_law_cell"] ["_law_script", "_law_k"] (defScope s_law_tape) := ⟨rfl, rfl, rfl, by decide +kernel, rfl, by decide +kernel, by decide +kernel⟩
def m_law_tape (p_law_script : (List Int)) (p_law_k : Int) : Res (List Int) :=
  ((Res.ok (0 : Int)).bind fun v_law_cell_435 => ((((Res.ok p_law_k).bind fun a439 => (((Res.ok p_law_script).bind fun a437 => (Res.ok ()).bind fun b438 => .ok (a437, b438)).bind (fun d => .ok (d.1.length : Int))).bind fun b440 => .ok (decide (a439 < b440))).bind fun x445 => if x445 = true then (((Res.ok p_law_script).bind fun a442 => (Res.ok p_law_k).bind fun b443 => atM a442 b443).bind fun v_law_cell_441 => (Res.ok v_law_cell_441)) else (Res.ok v_law_cell_435)).bind fun s444 => ((((Res.ok s444).bind fun a446 => (Res.ok ()).bind fun b447 => .ok (a446, b447)).bind (fun d => .ok (if d.1 < 0 then -d.1 else d.1))).bind fun a463 => (((Res.ok (104729 : Int)).bind fun a450 => ((Res.ok (7919 : Int)).bind fun a448 => (Res.ok p_law_k).bind fun b449 => mulI a448 b449).bind fun b451 => .ok (a450 + b451)).bind fun a460 => (((Res.ok (15485863 : Int)).bind fun a454 => ((Res.ok (1299709 : Int)).bind fun a452 => (Res.ok p_law_k).bind fun b453 => mulI a452 b453).bind fun b455 => .ok (a454 + b455)).bind fun a457 => (Res.ok []).bind fun b458 => .ok (a457 :: b458)).bind fun b461 => .ok (a460 :: b461)).bind fun b464 => .ok (a463 :: b464))))
abbrev C_law_tape (P : Program) (w : World) (K : PySem.W.Frag) (mg : Str → Option Value) (base : Heap) : Prop := FnR P w K mg base (L2.CX P w) 1 (He.ga K "_law_tape") (spN K (aCons (rdL K (rp rInt)) (aCons (rp rInt) aNil)) (fun d => m_law_tape d.1 d.2.1) rInt)
theorem ok_law_tape {P : Program} {w : World} {K : PySem.W.Frag} {mg : Str → Option Value} {base : Heap} (T : Txt K mg) {fd : FuncData} (F : FunD K "_law_tape" "_law_tape" (defArgs s_law_tape) (defBody s_law_tape) (defScope s_law_tape) [] [] (He.ga K "_law_tape") fd) : FnOk P w K mg base (L2.CX P w) 1 (He.ga K "_law_tape") fd ["_law_script", "_law_k"] (spN K (aCons (rdL K (rp rInt)) (aCons (rp rInt) aNil)) (fun d => m_law_tape d.1 d.2.1) rInt) := by
  refine FunD.fnN (k := 0) (N := ["_law_script", "_law_k", "_law_cell"]) (ps := ["_law_script", "_law_k"]) F sc_law_tape (fun I H vs d h => ?_) (fun cdv A outer s I0 H0 E vs d hr sm h => ?_)
  · obtain ⟨v0, _, rfl, h0, v1, _, rfl, h1, rfl⟩ := h; rfl
  obtain ⟨v0, _, rfl, h0, v1, _, rfl, h1, rfl⟩ := h
  have hx : ∀ {ctx : List (Option SF)} {mem : List MF} (I H : Hp) (σ : St) (d : Option Addr), Stt I0 H0 ctx mem I H σ → Fr H0 d → bK I0 H0 I H σ d := fun _ _ _ _ s f => ⟨s.fm, f⟩
  have tk : Takes (bx P w K mg base ["_law_script", "_law_k", "_law_cell"] "_law_tape" (defScope s_law_tape) (He.ga K "_law_tape") cdv A outer s H0 E) (bW E) := takes_of rfl rfl rfl rfl
  obtain ⟨p_law_script, p_law_k, _⟩ := d
  exact ⟨Stt I0 H0 [some (SF.mk (fun I v x => (rdL K (rp rInt)) I H0 v x) p_law_script), some (SF.mk rInt p_law_k), none] [], Stt.start sm ⟨h0, h1, ini_nil rfl⟩ rfl (by simp), (JR.seq (J1.cx (c' := fun v_law_cell_435 => [some (SF.mk (fun I v x => (rdL K (rp rInt)) I H0 v x) p_law_script), some (SF.mk rInt p_law_k), some (SF.mk rInt v_law_cell_435)]) (J1.set 2 JE.int hx sc_law_tape.nd)) fun v_law_cell_435 => (JR.seq (J1.if (S := Int) (G' := fun s444 => Stt I0 H0 [some (SF.mk (fun I v x => (rdL K (rp rInt)) I H0 v x) p_law_script), some (SF.mk rInt p_law_k), some (SF.mk rInt s444)] []) (JT.cmp (JE.var 1) (JE.callB (JA.cons (JE.varP 0 (r := (rdL K (rp rInt)))) JA.nil) cj_len T.n_len boot_len) opj_lt) (JN.seq (J1.cx (c' := fun v_law_cell_441 => [some (SF.mk (fun I v x => (rdL K (rp rInt)) I H0 v x) p_law_script), some (SF.mk rInt p_law_k), some (SF.mk rInt v_law_cell_441)]) (J1.set 2 (JE.ix (JE.varP 0 (r := (rdL K (rp rInt)))) (JE.var 1)) hx sc_law_tape.nd)) fun v_law_cell_441 => (JN.nil (fun _ _ _ h => h))) (JN.nil (fun _ _ _ h => h)) hx) fun s444 => (JR.retM (JM.lst (r := rInt) (JA.consL (JE.callB (JA.cons (JE.var 2) JA.nil) cj_abs T.n_abs boot_abs) (JA.consL (JE.bin JE.int (JE.bin JE.int (JE.var 1) opj_mul) opj_add) (JA.consL (JE.bin JE.int (JE.bin JE.int (JE.var 1) opj_mul) opj_add) JA.nilL)))) hx)))⟩
theorem fn_law_tape {P : Program} {w : World} {K : PySem.W.Frag} {mg : Str → Option Value} {base : Heap} (T : Txt K mg) : FnR P w K mg base (L2.CX P w) 1 (He.ga K "_law_tape") (spN K (aCons (rdL K (rp rInt)) (aCons (rp rInt) aNil)) (fun d => m_law_tape d.1 d.2.1) rInt) := by
  obtain ⟨fd, F⟩ := T.F_law_tape
  exact FnOk.frN0 (ok_law_tape T F) (F.bindsN fun _ _ _ _ _ _ us hl => match us, hl with | [_, _], _ => rfl)
theorem sc_law_pick : FnScope ["_law_tape_here", "_law_many", "_law_digit"] ["_law_tape_here", "_law_many"] (defScope s_law_pick) := ⟨rfl, rfl, rfl, by decide +kernel, rfl, by decide +kernel, by decide +kernel⟩
def m_law_pick (p_law_tape_here : List Int) (p_law_many : Int) : Res (Int × List Int) :=
  ((((Res.ok p_law_tape_here).bind fun a465 => (Res.ok (0 : Int)).bind fun b466 => atM a465 b466).bind fun a469 => ((Res.ok (10 : Int)).bind fun a467 => (Res.ok (18 : Int)).bind fun b468 => powI a467 b468).bind fun b470 => .ok (decide (a469 ≥ b470))).bind fun x471 => if x471 = true then ((((((Res.ok p_law_tape_here).bind fun a473 => (Res.ok (0 : Int)).bind fun b474 => atM a473 b474).bind fun a475 => (Res.ok ()).bind fun b476 => .ok (a475, b476)).bind (fun d => .ok d.1)).bind fun a477 => (Res.ok p_law_many).bind fun b478 => modI a477 b478).bind fun v_law_digit_472 => (((((Res.ok p_law_tape_here).bind fun a479 => (Res.ok (0 : Int)).bind fun b480 => atM a479 b480).bind fun a481 => (Res.ok p_law_many).bind fun b482 => fdivI a481 b482).bind fun y485 => (Res.ok (0 : Int)).bind fun k486 => putM p_law_tape_here k486 y485).bind fun v_law_tape_here_484 => ((Res.ok v_law_digit_472).bind fun y488 => Res.ok (y488, v_law_tape_here_484)))) else ((((((((((Res.ok p_law_tape_here).bind fun a489 => (Res.ok (1 : Int)).bind fun b490 => atM a489 b490).bind fun a491 => (Res.ok (69069 : Int)).bind fun b492 => mulI a491 b492).bind fun a497 => (((Res.ok p_law_tape_here).bind fun a493 => (Res.ok (0 : Int)).bind fun b494 => atM a493 b494).bind fun a495 => (Res.ok (7177 : Int)).bind fun b496 => mulI a495 b496).bind fun b498 => .ok (a497 + b498)).bind fun a499 => (Res.ok (12345 : Int)).bind fun b500 => .ok (a499 + b500)).bind fun a501 => (Res.ok ()).bind fun b502 => .ok (a501, b502)).bind (fun d => .ok d.1)).bind fun a503 => (Res.ok (2147483629 : Int)).bind fun b504 => modI a503 b504).bind fun y507 => (Res.ok (1 : Int)).bind fun k508 => putM p_law_tape_here k508 y507).bind fun v_law_tape_here_506 => ((((((((((Res.ok v_law_tape_here_506).bind fun a509 => (Res.ok (2 : Int)).bind fun b510 => atM a509 b510).bind fun a511 => (Res.ok (40014 : Int)).bind fun b512 => mulI a511 b512).bind fun a517 => (((Res.ok v_law_tape_here_506).bind fun a513 => (Res.ok (0 : Int)).bind fun b514 => atM a513 b514).bind fun a515 => (Res.ok (3571 : Int)).bind fun b516 => mulI a515 b516).bind fun b518 => .ok (a517 + b518)).bind fun a519 => (Res.ok (97 : Int)).bind fun b520 => .ok (a519 + b520)).bind fun a521 => (Res.ok ()).bind fun b522 => .ok (a521, b522)).bind (fun d => .ok d.1)).bind fun a523 => (Res.ok (2147483563 : Int)).bind fun b524 => modI a523 b524).bind fun y527 => (Res.ok (2 : Int)).bind fun k528 => putM v_law_tape_here_506 k528 y527).bind fun v_law_tape_here_526 => ((((((((((((Res.ok v_law_tape_here_526).bind fun a529 => (Res.ok (1 : Int)).bind fun b530 => atM a529 b530).bind fun a533 => ((Res.ok v_law_tape_here_526).bind fun a531 => (Res.ok (2 : Int)).bind fun b532 => atM a531 b532).bind fun b534 => mulI a533 b534).bind fun a535 => (Res.ok (5 : Int)).bind fun b536 => .ok (a535 + b536)).bind fun a537 => (Res.ok ()).bind fun b538 => .ok (a537, b538)).bind (fun d => .ok d.1)).bind fun a539 => (Res.ok (2147483587 : Int)).bind fun b540 => modI a539 b540).bind fun a541 => (Res.ok (32 : Int)).bind fun b542 => fdivI a541 b542).bind fun a543 => (Res.ok ()).bind fun b544 => .ok (a543, b544)).bind (fun d => .ok d.1)).bind fun a545 => (Res.ok p_law_many).bind fun b546 => modI a545 b546).bind fun y548 => Res.ok (y548, v_law_tape_here_526)))))
abbrev C_law_pick (P : Program) (w : World) (K : PySem.W.Frag) (mg : Str → Option Value) (base : Heap) : Prop := FnR P w K mg base (L2.CX P w) 1 (He.ga K "_law_pick") (spX K (fun l xs => MF.lst l rInt xs) (fun l => (aCons (rp (rRef l)) (aCons (rp rInt) aNil))) (fun (d : (Unit × Int × Unit)) b => m_law_pick b d.2.1) rInt false)
theorem fn_law_pick {P : Program} {w : World} {K : PySem.W.Frag} {mg : Str → Option Value} {base : Heap} (T : Txt K mg) : FnR P w K mg base (L2.CX P w) 1 (He.ga K "_law_pick") (spX K (fun l xs => MF.lst l rInt xs) (fun l => (aCons (rp (rRef l)) (aCons (rp rInt) aNil))) (fun (d : (Unit × Int × Unit)) b => m_law_pick b d.2.1) rInt false) := by
  obtain ⟨fd, F⟩ := T.F_law_pick
  refine FnOk.frX0 (ps := ["_law_tape_here", "_law_many"]) (FunD.fnX (k := 0) (N := ["_law_tape_here", "_law_many", "_law_digit"]) (ps := ["_law_tape_here", "_law_many"]) F sc_law_pick (fun l I H vs d h => ?_) (fun cdv A outer s I0 H0 H1 E vs d l b hr sm h => ?_)) (F.bindsN fun _ _ _ _ _ _ us hl => match us, hl with | [_, _], _ => rfl)
  · obtain ⟨v0, _, rfl, h0, v1, _, rfl, h1, rfl⟩ := h; rfl
  obtain ⟨v0, _, rfl, h0, v1, _, rfl, h1, rfl⟩ := h
  have hx : ∀ {ctx : List (Option SF)} {mem : List MF} (I H : Hp) (σ : St) (d : Option Addr), Stt I0 H0 ctx mem I H σ → Fr H0 d → bK I0 H0 I H σ d := fun _ _ _ _ s f => ⟨s.fm, f⟩
  have tk : Takes (bx P w K mg base ["_law_tape_here", "_law_many", "_law_digit"] "_law_pick" (defScope s_law_pick) (He.ga K "_law_pick") cdv A outer s H1 E) (bW E) := takes_of rfl rfl rfl rfl
  obtain ⟨_, p_law_many, _⟩ := d
  revert b; intro p_law_tape_here
  exact ⟨[some (SF.mk (rRef l) ()), some (SF.mk rInt p_law_many), none], rfl, by simp, ⟨h0, h1, ini_nil rfl⟩, (JR.ifR (JT.cmp (JE.ix (JE.rdM 0 0) JE.int) (JE.bin JE.int JE.int opj_pow) opj_ge) (JR.seq (J1.cx (c' := fun v_law_digit_472 => [some (SF.mk (rRef l) ()), some (SF.mk rInt p_law_many), some (SF.mk rInt v_law_digit_472)]) (J1.set 2 (JE.bin (JE.callTy (JA.cons (JE.ix (JE.rdM 0 0) JE.int) JA.nil) cj_int T.n_int boot_int) (JE.var 1) opj_mod) hx sc_law_pick.nd)) fun v_law_digit_472 => (JR.seq (J1.cm (c' := fun v_law_tape_here_484 => [some (SF.mk (rRef l) ()), some (SF.mk rInt p_law_many), some (SF.mk rInt v_law_digit_472)]) (me' := fun v_law_tape_here_484 => [MF.lst l rInt v_law_tape_here_484]) (J1.put 0 0 (JE.bin (JE.ix (JE.rdM 0 0) JE.int) (JE.var 1) opj_fdiv) JE.int hx)) fun v_law_tape_here_484 => (JR.retR (M := fun xs => MF.lst l rInt xs) 0 (JE.var 2) hx))) (JR.seq (J1.cm (c' := fun v_law_tape_here_506 => [some (SF.mk (rRef l) ()), some (SF.mk rInt p_law_many), none]) (me' := fun v_law_tape_here_506 => [MF.lst l rInt v_law_tape_here_506]) (J1.put 0 0 (JE.bin (JE.callTy (JA.cons (JE.bin (JE.bin (JE.bin (JE.ix (JE.rdM 0 0) JE.int) JE.int opj_mul) (JE.bin (JE.ix (JE.rdM 0 0) JE.int) JE.int opj_mul) opj_add) JE.int opj_add) JA.nil) cj_int T.n_int boot_int) JE.int opj_mod) JE.int hx)) fun v_law_tape_here_506 => (JR.seq (J1.cm (c' := fun v_law_tape_here_526 => [some (SF.mk (rRef l) ()), some (SF.mk rInt p_law_many), none]) (me' := fun v_law_tape_here_526 => [MF.lst l rInt v_law_tape_here_526]) (J1.put 0 0 (JE.bin (JE.callTy (JA.cons (JE.bin (JE.bin (JE.bin (JE.ix (JE.rdM 0 0) JE.int) JE.int opj_mul) (JE.bin (JE.ix (JE.rdM 0 0) JE.int) JE.int opj_mul) opj_add) JE.int opj_add) JA.nil) cj_int T.n_int boot_int) JE.int opj_mod) JE.int hx)) fun v_law_tape_here_526 => (JR.retR (M := fun xs => MF.lst l rInt xs) 0 (JE.bin (JE.callTy (JA.cons (JE.bin (JE.bin (JE.callTy (JA.cons (JE.bin (JE.bin (JE.ix (JE.rdM 0 0) JE.int) (JE.ix (JE.rdM 0 0) JE.int) opj_mul) JE.int opj_add) JA.nil) cj_int T.n_int boot_int) JE.int opj_mod) JE.int opj_fdiv) JA.nil) cj_int T.n_int boot_int) (JE.var 1) opj_mod) hx))) hx)⟩
theorem sc_common_divisor : FnScope ["first", "second"] ["first", "second"] (defScope s_common_divisor) := ⟨rfl, rfl, rfl, by decide +kernel, rfl, by decide +kernel, by decide +kernel⟩
def m_common_divisor (p_first : Int) (p_second : Int) : Res Int :=
  ((((Res.ok p_first).bind fun a550 => (Res.ok ()).bind fun b551 => .ok (a550, b551)).bind (fun d => .ok (if d.1 < 0 then -d.1 else d.1))).bind fun v_first_549 => ((((Res.ok p_second).bind fun a553 => (Res.ok ()).bind fun b554 => .ok (a553, b554)).bind (fun d => .ok (if d.1 < 0 then -d.1 else d.1))).bind fun v_second_552 => ((whileM (fun s555 : (Int × Int) => ((Res.ok s555.2).bind fun a556 => (Res.ok (0 : Int)).bind fun b557 => .ok (!decide (a556 = b557)))) (fun s555 => (((Res.ok s555.2).bind fun a561 => ((Res.ok s555.1).bind fun a559 => (Res.ok s555.2).bind fun b560 => modI a559 b560).bind fun b562 => .ok (a561, b562)).bind fun v558 => (Res.ok (v558.1, v558.2)))) ((v_second_552).toNat + 1) (v_first_549, v_second_552)).bind fun s555 => (Res.ok s555.1))))
abbrev C_common_divisor (P : Program) (w : World) (K : PySem.W.Frag) (mg : Str → Option Value) (base : Heap) : Prop := FnR P w K mg base (L2.CX P w) 1 (He.ga K "common_divisor") (spF K (aCons (rp rInt) (aCons (rp rInt) aNil)) (fun d => n_cd d.1 d.2.1) (rp rInt))
theorem ok_common_divisor {P : Program} {w : World} {K : PySem.W.Frag} {mg : Str → Option Value} {base : Heap} (T : Txt K mg) {fd : FuncData} (F : FunD K "common_divisor" "common_divisor" (defArgs s_common_divisor) (defBody s_common_divisor) (defScope s_common_divisor) [] [] (He.ga K "common_divisor") fd) : FnOk P w K mg base (L2.CX P w) 1 (He.ga K "common_divisor") fd ["first", "second"] (spF K (aCons (rp rInt) (aCons (rp rInt) aNil)) (fun d => m_common_divisor d.1 d.2.1) (rp rInt)) := by
  refine FunD.fn (k := 0) (N := ["first", "second"]) (ps := ["first", "second"]) F sc_common_divisor (fun I H vs d h => ?_) (fun cdv A outer s I0 H0 E vs d hr sm h => ?_)
  · obtain ⟨v0, _, rfl, h0, v1, _, rfl, h1, rfl⟩ := h; rfl
  obtain ⟨v0, _, rfl, h0, v1, _, rfl, h1, rfl⟩ := h
  have hx : ∀ {ctx : List (Option SF)} {mem : List MF} (I H : Hp) (σ : St) (d : Option Addr), Stt I0 H0 ctx mem I H σ → Fr H0 d → bK I0 H0 I H σ d := fun _ _ _ _ s f => ⟨s.fm, f⟩
  have tk : Takes (bx P w K mg base ["first", "second"] "common_divisor" (defScope s_common_divisor) (He.ga K "common_divisor") cdv A outer s H0 E) (bW E) := takes_of rfl rfl rfl rfl
  have hp : PassesOwn (model P w) (bx P w K mg base ["first", "second"] "common_divisor" (defScope s_common_divisor) (He.ga K "common_divisor") cdv A outer s H0 E).A (bx P w K mg base ["first", "second"] "common_divisor" (defScope s_common_divisor) (He.ga K "common_divisor") cdv A outer s H0 E).env (bx P w K mg base ["first", "second"] "common_divisor" (defScope s_common_divisor) (He.ga K "common_divisor") cdv A outer s H0 E).xe := passes_of rfl
  obtain ⟨p_first, p_second, _⟩ := d
  exact ⟨Stt I0 H0 [some (SF.mk rInt p_first), some (SF.mk rInt p_second)] [], Stt.start sm ⟨h0, h1, ini_nil rfl⟩ rfl (by simp), (JR.seq (J1.cx (c' := fun v_first_549 => [some (SF.mk rInt v_first_549), some (SF.mk rInt p_second)]) (J1.set 0 (JE.callB (JA.cons (JE.var 0) JA.nil) cj_abs T.n_abs boot_abs) hx sc_common_divisor.nd)) fun v_first_549 => (JR.seq (J1.cx (c' := fun v_second_552 => [some (SF.mk rInt v_first_549), some (SF.mk rInt v_second_552)]) (J1.set 1 (JE.callB (JA.cons (JE.var 1) JA.nil) cj_abs T.n_abs boot_abs) hx sc_common_divisor.nd)) fun v_second_552 => (JR.seq (J1.while (S := (Int × Int)) (cx := fun s555 => [some (SF.mk rInt s555.1), some (SF.mk rInt s555.2)]) (me := fun s555 => []) (s0 := (v_first_549, v_second_552)) (fuel := (v_second_552).toNat + 1) hp (fun s555 => (JT.cmp (JE.var 1) JE.int opj_ne)) (fun s555 => (JN.seq (J1.cx (c' := fun v558 => [some (SF.mk rInt v558.1), some (SF.mk rInt v558.2)]) (J1.par 0 1 (JE.var 1) (JE.bin (JE.var 0) (JE.var 1) opj_mod) hx sc_common_divisor.nd)) fun v558 => (JN.nil (fun _ _ _ h => h)))) fun _ => hx) fun s555 => (JR.ret (JE.var 0) hx))))⟩
theorem fn_common_divisor {P : Program} {w : World} {K : PySem.W.Frag} {mg : Str → Option Value} {base : Heap} (T : Txt K mg) : FnR P w K mg base (L2.CX P w) 1 (He.ga K "common_divisor") (spF K (aCons (rp rInt) (aCons (rp rInt) aNil)) (fun d => m_common_divisor d.1 d.2.1) (rp rInt)) := by
  obtain ⟨fd, F⟩ := T.F_common_divisor
  exact FnOk.fr0 (ok_common_divisor T F) (F.bindsN fun _ _ _ _ _ _ us hl => match us, hl with | [_, _], _ => rfl)
theorem nice_common_divisor : ∀ d : Int × Int × Unit, n_cd d.1 d.2.1 = .stuck ∨ n_cd d.1 d.2.1 = m_common_divisor d.1 d.2.1 := fun ⟨a, b, _⟩ => by
  right
  show Res.ok _ = m_common_divisor a b
  have e : m_common_divisor a b = (whileM _ _ ((absI b).toNat + 1) (absI a, absI b)).bind fun s => .ok s.1 := rfl
  rw [e, absI_eq a, absI_eq b]
  simp only [Res.ok_bind]
  rw [cd_loop (fun s => rfl) (fun s h => by simp only [Res.ok_bind, modI_ok h]) _ _ _ (by omega)]
  simp only [Res.ok_bind, Int.gcd, Nat.gcd_comm b.natAbs]
theorem sc_Fraction_init : FnScope ["self", "top", "bottom", "divisor"] ["self", "top", "bottom"] (defScope s_Fraction_init) := ⟨rfl, rfl, rfl, by decide +kernel, rfl, by decide +kernel, by decide +kernel⟩
def mi_Fraction (top bottom : Int) : Res (Int × Int) :=
  (((Res.ok bottom).bind fun a => (Res.ok (0 : Int)).bind fun b => .ok (decide (a = b))).bind fun x => if x = true then (Res.err eBF : Res Unit) else .ok ()).bind fun _ =>
  (((Res.ok top).bind fun a => ((Res.ok bottom).bind fun b => (Res.ok ()).bind fun c => .ok (b, c)).bind fun d => .ok (a, d)).bind fun d => n_cd d.1 d.2.1).bind fun dv =>
  (((Res.ok bottom).bind fun a => (Res.ok (0 : Int)).bind fun b => .ok (decide (a < b))).bind fun x => if x = true then ((Res.ok dv).bind fun a => .ok (-a)).bind fun v => (Res.ok v) else .ok dv).bind fun s =>
  ((Res.ok top).bind fun a => (Res.ok s).bind fun b => fdivI a b).bind fun x =>
  ((Res.ok bottom).bind fun a => (Res.ok s).bind fun b => fdivI a b).bind fun y => .ok (x, y)
theorem mi_Fraction_eq (t b : Int) : mi_Fraction t b = (qRaw t b).bind fun q => .ok (q.num, (q.den : Int)) := by
  unfold mi_Fraction qRaw
  simp only [Res.ok_bind, n_cd]
  by_cases hb : b = 0
  · simp [hb]
  · simp only [hb, decide_false, Bool.false_eq_true, if_false, Res.ok_bind]
    have key : ∀ dv : Int, dv = (if b < 0 then -(Int.gcd t b : Int) else (Int.gcd t b : Int)) → (fdivI t dv).bind (fun x => (fdivI b dv).bind fun y => .ok (x, y)) = (Res.guard ((Int.gcd t b).log2 < 9000) (.ok (Rat.divInt t b))).bind fun q => .ok (q.num, (q.den : Int)) := fun dv hd => by
      obtain ⟨e1, e2⟩ := div_num hb dv hd
      have hg : Int.gcd t b ≠ 0 := fun h => hb (Int.gcd_eq_zero_iff.mp h).2
      have na : dv.natAbs = Int.gcd t b := by rw [hd]; split <;> omega
      have nz : dv ≠ 0 := by omega
      unfold fdivI
      rw [na]
      by_cases hl : (Int.gcd t b).log2 < 9000
      · rw [Res.guard_pos ⟨nz, hl⟩, Res.guard_pos ⟨nz, hl⟩, Res.guard_pos hl, e1, e2]; rfl
      · unfold Res.guard; rw [if_neg (fun h => hl h.2), if_neg hl]; rfl
    by_cases hlt : b < 0
    · simp only [hlt, decide_true, if_true, Res.ok_bind]
      exact key _ (by rw [if_pos hlt])
    · simp only [hlt, decide_false, Bool.false_eq_true, if_false, Res.ok_bind]
      exact key _ (by rw [if_neg hlt])
theorem in_Fraction {P : Program} {w : World} {K : PySem.W.Frag} {mg : Str → Option Value} {base : Heap} (T : Txt K mg) (c_common_divisor : C_common_divisor P w K mg base) {fd : FuncData} (F : FunD K "__init__" "Fraction.__init__" (defArgs s_Fraction_init) (defBody s_Fraction_init) (defScope s_Fraction_init) [.int 1] [] (He.ma K (He.ga K "Fraction") "__init__") fd) :
    FnOk P w K mg base (L2.CX P w) 2 (He.ma K (He.ga K "Fraction") "__init__") fd ["self", "top", "bottom"] (spI K (He.ga K "Fraction") (aCons (rp rInt) (aCons (rp rInt) aNil)) (fun d => qRaw d.1 d.2.1) (rp (rFrac K))) := by
  refine FunD.init (k := 1) (N := ["self", "top", "bottom", "divisor"]) (S := Int × Int) F sc_Fraction_init (fun I H vs d h => ?_) (fun cdv A outer s I0 H0 H1 E vs d y dx hr sm h n1 n2 n3 eH => ?_)
  · obtain ⟨v0, _, rfl, h0, v1, _, rfl, h1, rfl⟩ := h; rfl
  obtain ⟨v0, _, rfl, h0, v1, _, rfl, h1, rfl⟩ := h
  obtain ⟨t, b, _⟩ := d
  have hx : ∀ {ctx : List (Option SF)} {mem : List MF} (I H : Hp) (σ : St) (d : Option Addr), Stt I0 H0 ctx mem I H σ → Fr H0 d → bK I0 H0 I H σ d := fun _ _ _ _ s f => ⟨s.fm, f⟩
  have tk : Takes (bx P w K mg base ["self", "top", "bottom", "divisor"] "Fraction.__init__" (defScope s_Fraction_init) (He.ma K (He.ga K "Fraction") "__init__") cdv A outer s H1 E) (bW E) := takes_of rfl rfl rfl rfl
  refine ⟨Stt I0 H0 [some ⟨rRef y, ()⟩, some ⟨rInt, t⟩, some ⟨rInt, b⟩, none] [.ins y (He.ga K "Fraction") dx []], Int × Int, mi_Fraction t b, fun s I H σ => ∃ ctx, Stt I0 H0 ctx [.ins y (He.ga K "Fraction") dx [("top", ⟨rInt, s.1⟩), ("bottom", ⟨rInt, s.2⟩)]] I H σ, ?_, ?_, ?_⟩
  · subst eH
    exact Stt.fresh sm n1 n2 n3 rfl fun i sf e => IniR.get (n := 1) (vs := [.ref y, v0, v1]) (c := [some ⟨rRef y, ()⟩, some ⟨rInt, t⟩, some ⟨rInt, b⟩, none]) ⟨rfl, h0, h1, ini_nil rfl⟩ i sf e
  · exact JN.seq (J1.if (S := Unit) (G' := fun _ => Stt I0 H0 [some ⟨rRef y, ()⟩, some ⟨rInt, t⟩, some ⟨rInt, b⟩, none] [.ins y (He.ga K "Fraction") dx []]) (JT.cmp (JE.var 2) JE.int opj_eq) (JN.last (J1.raiseP rfl tk T.ex_BadFraction hx)) (JN.nil fun _ _ _ h => h) hx) fun _ =>
      JN.seq (J1.set 3 (JE.call (JA.cons (JE.var 1) (JA.cons (JE.var 2) JA.nil)) (cj_of c_common_divisor (hr.mono (by decide)) tk) T.g_common_divisor T.k_common_divisor) hx sc_Fraction_init.nd) fun dv =>
      JN.seq (J1.if (S := Int) (G' := fun s => Stt I0 H0 [some ⟨rRef y, ()⟩, some ⟨rInt, t⟩, some ⟨rInt, b⟩, some ⟨rInt, s⟩] [.ins y (He.ga K "Fraction") dx []]) (JT.cmp (JE.var 2) JE.int opj_lt) (JN.seq (J1.set 3 (JE.un (JE.var 3) unj_neg) hx sc_Fraction_init.nd) fun v => JN.nil fun _ _ _ h => h) (JN.nil fun _ _ _ h => h) hx) fun s =>
      JN.seq (J1.sfld 0 (JE.bin (JE.var 1) (JE.var 3) opj_fdiv) T.o_Fraction.cl T.na_Fraction_top (by decide) hx) fun x =>
      JN.seq (J1.sfld 0 (JE.bin (JE.var 2) (JE.var 3) opj_fdiv) T.o_Fraction.cl T.na_Fraction_bottom (by simp [putG]) hx) fun y' => JN.nil fun _ _ _ h => ⟨_, h⟩
  · rw [mi_Fraction_eq]
    dsimp only
    generalize qRaw t b = z
    cases z with
    | err e => rfl
    | stuck => rfl
    | ok q =>
      refine ⟨q, rfl, fun I' H' σ' ⟨ctx, g⟩ => ?_⟩
      obtain ⟨fs, I2, e1, hf, g2, sm2, e2⟩ := g.freeze
      exact ⟨I2, g2.fm, y, dx, rfl, by rw [e2, frF_of rfl rfl hf]⟩
abbrev C_Fraction_2 (P : Program) (w : World) (K : PySem.W.Frag) (mg : Str → Option Value) (base : Heap) : Prop := MkR P w K mg base 3 (He.ga K "Fraction") (aCons (rp rInt) (aCons (rp rInt) aNil)) (fun d => qMk d.1 d.2.1) (rp (rFrac K))
theorem fn_Fraction_2 {P : Program} {w : World} {K : PySem.W.Frag} {mg : Str → Option Value} {base : Heap} (T : Txt K mg) (c_common_divisor : C_common_divisor P w K mg base) : C_Fraction_2 P w K mg base := by
  obtain ⟨fd, F⟩ := T.F_Fraction_init
  obtain ⟨ds, hd, hb⟩ := FunD.binds1 (ps := ["self", "top", "bottom"]) F 3 1 (by simp) rfl fun T kV doc pm an cdv ct us its hl hi => match us, hl, its, hi with | [_, _, _], _, [_], _ => ⟨_, rfl, rfl⟩
  exact MkR.nice (mkR_of (h := fun d => d) T.mk_Fraction (in_Fraction T c_common_divisor F) hb hd fun I H vs d h => by rw [show List.drop 1 [V.int 1] = [] from rfl, List.append_nil]; exact h) fun d => qMk_raw d.1 d.2.1
abbrev C_Fraction_1 (P : Program) (w : World) (K : PySem.W.Frag) (mg : Str → Option Value) (base : Heap) : Prop := MkR P w K mg base 3 (He.ga K "Fraction") (aCons (rp rInt) aNil) (fun d => qInt d.1) (rp (rFrac K))
theorem fn_Fraction_1 {P : Program} {w : World} {K : PySem.W.Frag} {mg : Str → Option Value} {base : Heap} (T : Txt K mg) (c_common_divisor : C_common_divisor P w K mg base) : C_Fraction_1 P w K mg base := by
  obtain ⟨fd, F⟩ := T.F_Fraction_init
  obtain ⟨ds, hd, hb⟩ := FunD.binds1 (ps := ["self", "top", "bottom"]) F 2 0 (by simp) rfl fun T kV doc pm an cdv ct us its hl hi => match us, hl, its, hi with | [_, _], _, [_], _ => ⟨_, rfl, rfl⟩
  exact MkR.nice (mkR_of (h := fun d : Int × Unit => (d.1, 1, ())) T.mk_Fraction (in_Fraction T c_common_divisor F) hb hd fun I H vs d h => by
    obtain ⟨v0, _, rfl, h0, rfl⟩ := h
    exact ⟨v0, _, rfl, h0, _, _, rfl, rfl, rfl⟩) fun d => qInt_raw d.1

theorem sc_law_flat : FnScope ["_law_tape_here", "_law_bottom", "_law_many", "_law_k"] ["_law_tape_here", "_law_bottom", "_law_many"] (defScope s_law_flat) := ⟨rfl, rfl, rfl, by decide +kernel, rfl, by decide +kernel, by decide +kernel⟩
def m_law_flat (p_law_tape_here : List Int) (p_law_bottom : Int) (p_law_many : Int) : Res ((List Int) × List Int) :=
  (((((Res.ok p_law_many).bind fun a564 => rangeM1 a564).bind fun a565 => Res.ok (a565, p_law_tape_here)).bindX fun l607 t608 => lcX (fun (i566 : Int) (t567 : (List Int)) => (((((Res.ok ((), t567)).bindX fun x575 t576 => (((((Res.ok (2 : Int)).bind fun a577 => (Res.ok p_law_bottom).bind fun b578 => mulI a577 b578).bind fun a579 => (Res.ok (3 : Int)).bind fun b580 => .ok (a579 + b580)).bind fun a581 => Res.ok (a581, t576)).bindX fun x583 t584 => (Res.ok ((), t584)).bindX fun y585 t586 => Res.ok ((x583, y585), t586)).bindX fun y587 t588 => Res.ok ((x575, y587), t588)).bindX fun x571 t573 => (m_law_pick t573 x571.2.1).bindX fun z572 b574 => Res.ok (z572, b574)).bindX fun x591 t592 => (((Res.ok p_law_bottom).bind fun a593 => (Res.ok (2 : Int)).bind fun b594 => fdivI a593 b594).bind fun a595 => Res.ok (a595, t592)).bindX fun y596 t598 => (.ok (x591 - y596) : Res Int).bind fun z597 => Res.ok (z597, t598)).bindX fun x599 t600 => ((Res.ok (1 : Int)).bind fun a601 => Res.ok (a601, t600)).bindX fun y602 t604 => (.ok (x599 - y602) : Res Int).bind fun z603 => Res.ok (z603, t604))) l607 t608).bindX fun y610 t611 => Res.ok (y610, t611))
abbrev C_law_flat (P : Program) (w : World) (K : PySem.W.Frag) (mg : Str → Option Value) (base : Heap) : Prop := FnR P w K mg base (L2.CX P w) 2 (He.ga K "_law_flat") (spX K (fun l xs => MF.lst l rInt xs) (fun l => (aCons (rp (rRef l)) (aCons (rp rInt) (aCons (rp rInt) aNil)))) (fun (d : (Unit × Int × Int × Unit)) b => m_law_flat b d.2.1 d.2.2.1) (rL rInt) false)
theorem fn_law_flat {P : Program} {w : World} {K : PySem.W.Frag} {mg : Str → Option Value} {base : Heap} (T : Txt K mg) (c_law_pick : C_law_pick P w K mg base) : FnR P w K mg base (L2.CX P w) 2 (He.ga K "_law_flat") (spX K (fun l xs => MF.lst l rInt xs) (fun l => (aCons (rp (rRef l)) (aCons (rp rInt) (aCons (rp rInt) aNil)))) (fun (d : (Unit × Int × Int × Unit)) b => m_law_flat b d.2.1 d.2.2.1) (rL rInt) false) := by
  obtain ⟨fd, F⟩ := T.F_law_flat
  refine FnOk.frX0 (ps := ["_law_tape_here", "_law_bottom", "_law_many"]) (FunD.fnX (k := 1) (N := ["_law_tape_here", "_law_bottom", "_law_many", "_law_k"]) (ps := ["_law_tape_here", "_law_bottom", "_law_many"]) F sc_law_flat (fun l I H vs d h => ?_) (fun cdv A outer s I0 H0 H1 E vs d l b hr sm h => ?_)) (F.bindsN fun _ _ _ _ _ _ us hl => match us, hl with | [_, _, _], _ => rfl)
  · obtain ⟨v0, _, rfl, h0, v1, _, rfl, h1, v2, _, rfl, h2, rfl⟩ := h; rfl
  obtain ⟨v0, _, rfl, h0, v1, _, rfl, h1, v2, _, rfl, h2, rfl⟩ := h
  have hx : ∀ {ctx : List (Option SF)} {mem : List MF} (I H : Hp) (σ : St) (d : Option Addr), Stt I0 H0 ctx mem I H σ → Fr H0 d → bK I0 H0 I H σ d := fun _ _ _ _ s f => ⟨s.fm, f⟩
  have tk : Takes (bx P w K mg base ["_law_tape_here", "_law_bottom", "_law_many", "_law_k"] "_law_flat" (defScope s_law_flat) (He.ga K "_law_flat") cdv A outer s H1 E) (bW E) := takes_of rfl rfl rfl rfl
  obtain ⟨_, p_law_bottom, p_law_many, _⟩ := d
  revert b; intro p_law_tape_here
  exact ⟨[some (SF.mk (rRef l) ()), some (SF.mk rInt p_law_bottom), some (SF.mk rInt p_law_many), none], rfl, by simp, ⟨h0, h1, h2, ini_nil rfl⟩, (JR.retX (M := fun xs => MF.lst l rInt xs) (C := (fun (t612 : (List Int)) => [MF.lst l rInt t612])) (t0 := p_law_tape_here) 0 (fun t611 => t611) (JX.ofM (JXM.lc (r := rInt) 3 (JXI.of (JI.range1 (JE.var 2) T.n_range) (fun _ => hx)) (fun _ _ _ _ _ D568 acc569 i566 t567 tk570 => JX.at (c' := [some (SF.mk (rRef l) ()), some (SF.mk rInt p_law_bottom), some (SF.mk rInt p_law_many), some (SF.mk rInt i566)]) (C' := (fun (t606 : (List Int)) => [MF.lst D568 rInt acc569, MF.lst l rInt t606])) (JX.bin (JX.bin (JX.callC 1 (fun (t589 : (List Int)) => t589) (fun (t589 : (List Int)) b590 => b590) (JXA.cons (JX.of (JE.var 0 (r := rRef l)) (fun _ => (fun _ _ _ _ _ _ => True.intro))) (fun t576 => (JXA.cons (JX.of (JE.bin (JE.bin JE.int (JE.var 1) opj_mul) JE.int opj_add) (fun _ => (fun _ _ _ _ _ _ => True.intro))) (fun t584 => JXA.nil)))) (cc_of c_law_pick (hr.mono (by decide)) tk570) (fun _ => rfl) (fun _ _ => rfl) (fun _ _ _ _ _ _ => True.intro) T.g_law_pick T.k_law_pick) (fun t592 => (JX.of (JE.bin (JE.var 1) JE.int opj_fdiv) (fun _ => (fun _ _ _ _ _ _ => True.intro)))) opj_sub (fun _ => (fun _ _ _ _ _ _ => True.intro))) (fun t600 => (JX.of JE.int (fun _ => (fun _ _ _ _ _ _ => True.intro)))) opj_sub (fun _ => (fun _ _ _ _ _ _ => True.intro)))) sc_law_flat.nd (blkok_of (by kernel_rfl)))))⟩
theorem sc_law_raised : FnScope ["_law_tops", "_law_bottom", "_law_start", "_law_out", "_law_power", "_law_top"] ["_law_tops", "_law_bottom", "_law_start"] (defScope s_law_raised) := ⟨rfl, rfl, rfl, by decide +kernel, rfl, by decide +kernel, by decide +kernel⟩
def m_law_raised (p_law_tops : (List Int)) (p_law_bottom : Int) (p_law_start : Int) : Res (List Int) :=
  (((Res.ok p_law_start).bind fun a615 => (Res.ok []).bind fun b616 => .ok (a615 :: b616)).bind fun v_law_out_613 => ((Res.ok (1 : Int)).bind fun v_law_power_618 => (((Res.ok p_law_tops).bind fun l629 => forS (fun (i620 : Int) (s619 : (Int × (List Int))) => ((((Res.ok i620).bind fun a622 => (Res.ok s619.1).bind fun b623 => mulI a622 b623).bind fun y625 => appM s619.2 y625).bind fun v_law_out_621 => (((Res.ok s619.1).bind fun a627 => (Res.ok p_law_bottom).bind fun b628 => mulI a627 b628).bind fun v_law_power_626 => (Res.ok (v_law_power_626, v_law_out_621))))) l629 (v_law_power_618, v_law_out_613)).bind fun s619 => (Res.ok s619.2))))
abbrev C_law_raised (P : Program) (w : World) (K : PySem.W.Frag) (mg : Str → Option Value) (base : Heap) : Prop := FnR P w K mg base (L2.CX P w) 1 (He.ga K "_law_raised") (spN K (aCons (rdL K (rp rInt)) (aCons (rp rInt) (aCons (rp rInt) aNil))) (fun d => m_law_raised d.1 d.2.1 d.2.2.1) rInt)
theorem ok_law_raised {P : Program} {w : World} {K : PySem.W.Frag} {mg : Str → Option Value} {base : Heap} (T : Txt K mg) {fd : FuncData} (F : FunD K "_law_raised" "_law_raised" (defArgs s_law_raised) (defBody s_law_raised) (defScope s_law_raised) [] [] (He.ga K "_law_raised") fd) : FnOk P w K mg base (L2.CX P w) 1 (He.ga K "_law_raised") fd ["_law_tops", "_law_bottom", "_law_start"] (spN K (aCons (rdL K (rp rInt)) (aCons (rp rInt) (aCons (rp rInt) aNil))) (fun d => m_law_raised d.1 d.2.1 d.2.2.1) rInt) := by
  refine FunD.fnN (k := 0) (N := ["_law_tops", "_law_bottom", "_law_start", "_law_out", "_law_power", "_law_top"]) (ps := ["_law_tops", "_law_bottom", "_law_start"]) F sc_law_raised (fun I H vs d h => ?_) (fun cdv A outer s I0 H0 E vs d hr sm h => ?_)
  · obtain ⟨v0, _, rfl, h0, v1, _, rfl, h1, v2, _, rfl, h2, rfl⟩ := h; rfl
  obtain ⟨v0, _, rfl, h0, v1, _, rfl, h1, v2, _, rfl, h2, rfl⟩ := h
  have hx : ∀ {ctx : List (Option SF)} {mem : List MF} (I H : Hp) (σ : St) (d : Option Addr), Stt I0 H0 ctx mem I H σ → Fr H0 d → bK I0 H0 I H σ d := fun _ _ _ _ s f => ⟨s.fm, f⟩
  have tk : Takes (bx P w K mg base ["_law_tops", "_law_bottom", "_law_start", "_law_out", "_law_power", "_law_top"] "_law_raised" (defScope s_law_raised) (He.ga K "_law_raised") cdv A outer s H0 E) (bW E) := takes_of rfl rfl rfl rfl
  have hp : PassesOwn (model P w) (bx P w K mg base ["_law_tops", "_law_bottom", "_law_start", "_law_out", "_law_power", "_law_top"] "_law_raised" (defScope s_law_raised) (He.ga K "_law_raised") cdv A outer s H0 E).A (bx P w K mg base ["_law_tops", "_law_bottom", "_law_start", "_law_out", "_law_power", "_law_top"] "_law_raised" (defScope s_law_raised) (He.ga K "_law_raised") cdv A outer s H0 E).env (bx P w K mg base ["_law_tops", "_law_bottom", "_law_start", "_law_out", "_law_power", "_law_top"] "_law_raised" (defScope s_law_raised) (He.ga K "_law_raised") cdv A outer s H0 E).xe := passes_of rfl
  obtain ⟨p_law_tops, p_law_bottom, p_law_start, _⟩ := d
  exact ⟨Stt I0 H0 [some (SF.mk (fun I v x => (rdL K (rp rInt)) I H0 v x) p_law_tops), some (SF.mk rInt p_law_bottom), some (SF.mk rInt p_law_start), none, none, none] [], Stt.start sm ⟨h0, h1, h2, ini_nil rfl⟩ rfl (by simp), (JR.seq (J1.cn (c' := fun v_law_out_613 l617 => [some (SF.mk (fun I v x => (rdL K (rp rInt)) I H0 v x) p_law_tops), some (SF.mk rInt p_law_bottom), some (SF.mk rInt p_law_start), some (SF.mk (rRef l617) ()), none, none]) (me' := fun v_law_out_613 l617 => [MF.lst l617 rInt v_law_out_613]) (J1.setM 3 (JM.lst (r := rInt) (JA.consL (JE.var 2) JA.nilL)) hx sc_law_raised.nd)) fun v_law_out_613 => JR.ex fun l617 => (JR.seq (J1.cx (c' := fun v_law_power_618 => [some (SF.mk (fun I v x => (rdL K (rp rInt)) I H0 v x) p_law_tops), some (SF.mk rInt p_law_bottom), some (SF.mk rInt p_law_start), some (SF.mk (rRef l617) ()), some (SF.mk rInt v_law_power_618), none]) (J1.set 4 JE.int hx sc_law_raised.nd)) fun v_law_power_618 => (JR.seq (J1.forS (S := (Int × (List Int))) (cx := fun s619 => [some (SF.mk (fun I v x => (rdL K (rp rInt)) I H0 v x) p_law_tops), some (SF.mk rInt p_law_bottom), some (SF.mk rInt p_law_start), some (SF.mk (rRef l617) ()), some (SF.mk rInt s619.1), none]) (me := fun s619 => [MF.lst l617 rInt s619.2]) (s0 := (v_law_power_618, v_law_out_613)) 5 hp (JI.par 0) (fun i620 s619 => JN.at (c' := [some (SF.mk (fun I v x => (rdL K (rp rInt)) I H0 v x) p_law_tops), some (SF.mk rInt p_law_bottom), some (SF.mk rInt p_law_start), some (SF.mk (rRef l617) ()), some (SF.mk rInt s619.1), some (SF.mk rInt i620)]) (JN.seq (J1.cm (c' := fun v_law_out_621 => [some (SF.mk (fun I v x => (rdL K (rp rInt)) I H0 v x) p_law_tops), some (SF.mk rInt p_law_bottom), some (SF.mk rInt p_law_start), some (SF.mk (rRef l617) ()), some (SF.mk rInt s619.1), some (SF.mk rInt i620)]) (me' := fun v_law_out_621 => [MF.lst l617 rInt v_law_out_621]) (J1.app 3 0 (JE.bin (JE.var 5) (JE.var 4) opj_mul) hx)) fun v_law_out_621 => (JN.seq (J1.cx (c' := fun v_law_power_626 => [some (SF.mk (fun I v x => (rdL K (rp rInt)) I H0 v x) p_law_tops), some (SF.mk rInt p_law_bottom), some (SF.mk rInt p_law_start), some (SF.mk (rRef l617) ()), some (SF.mk rInt v_law_power_626), some (SF.mk rInt i620)]) (J1.set 4 (JE.bin (JE.var 4) (JE.var 1) opj_mul) hx sc_law_raised.nd)) fun v_law_power_626 => (JN.nil (fun _ _ _ h => (Stt.weak h (weak_some (weak_some (weak_some (weak_some (weak_some (weak_none weak_nil)))))))))))) hx (weak_some (weak_some (weak_some (weak_some (weak_some (weak_none weak_nil)))))) sc_law_raised.nd) fun s619 => (JR.retC 3 0))))⟩
theorem fn_law_raised {P : Program} {w : World} {K : PySem.W.Frag} {mg : Str → Option Value} {base : Heap} (T : Txt K mg) : FnR P w K mg base (L2.CX P w) 1 (He.ga K "_law_raised") (spN K (aCons (rdL K (rp rInt)) (aCons (rp rInt) (aCons (rp rInt) aNil))) (fun d => m_law_raised d.1 d.2.1 d.2.2.1) rInt) := by
  obtain ⟨fd, F⟩ := T.F_law_raised
  exact FnOk.frN0 (ok_law_raised T F) (F.bindsN fun _ _ _ _ _ _ us hl => match us, hl with | [_, _, _], _ => rfl)
theorem sc_law_first : FnScope ["_law_tops", "_law_out", "_law_t", "_law_k"] ["_law_tops"] (defScope s_law_first) := ⟨rfl, rfl, rfl, by decide +kernel, rfl, by decide +kernel, by decide +kernel⟩
def m_law_first (p_law_tops : (List Int)) : Res (List Int) :=
  (((Res.ok (0 : Int)).bind fun a632 => (Res.ok []).bind fun b633 => .ok (a632 :: b633)).bind fun v_law_out_630 => ((((Res.ok (1 : Int)).bind fun a639 => (((Res.ok p_law_tops).bind fun a637 => (Res.ok ()).bind fun b638 => .ok (a637, b638)).bind (fun d => .ok (d.1.length : Int))).bind fun b640 => rangeM a639 b640).bind fun l666 => forS (fun (i641 : Int) (s635 : (List Int)) => (((((Res.ok p_law_tops).bind fun a643 => (Res.ok i641).bind fun b644 => atM a643 b644).bind fun a662 => (((((Res.ok (1 : Int)).bind fun a645 => (Res.ok i641).bind fun b646 => rangeM a645 b646).bind fun l658 => lcR (fun (i647 : Int) => (((Res.ok s635).bind fun a649 => (Res.ok i647).bind fun b650 => atM a649 b650).bind fun a655 => ((Res.ok p_law_tops).bind fun a653 => ((Res.ok i641).bind fun a651 => (Res.ok i647).bind fun b652 => .ok (a651 - b652)).bind fun b654 => atM a653 b654).bind fun b656 => mulI a655 b656)) l658).bind fun a660 => (Res.ok ()).bind fun b661 => .ok (a660, b661)).bind (fun d => .ok d.1.sum)).bind fun b663 => .ok (a662 - b663)).bind fun y665 => appM s635 y665).bind fun v_law_out_642 => (Res.ok v_law_out_642))) l666 v_law_out_630).bind fun s635 => (Res.ok s635)))
abbrev C_law_first (P : Program) (w : World) (K : PySem.W.Frag) (mg : Str → Option Value) (base : Heap) : Prop := FnR P w K mg base (L2.CX P w) 1 (He.ga K "_law_first") (spN K (aCons (rdL K (rp rInt)) aNil) (fun d => m_law_first d.1) rInt)
theorem ok_law_first {P : Program} {w : World} {K : PySem.W.Frag} {mg : Str → Option Value} {base : Heap} (T : Txt K mg) {fd : FuncData} (F : FunD K "_law_first" "_law_first" (defArgs s_law_first) (defBody s_law_first) (defScope s_law_first) [] [] (He.ga K "_law_first") fd) : FnOk P w K mg base (L2.CX P w) 1 (He.ga K "_law_first") fd ["_law_tops"] (spN K (aCons (rdL K (rp rInt)) aNil) (fun d => m_law_first d.1) rInt) := by
  refine FunD.fnN (k := 0) (N := ["_law_tops", "_law_out", "_law_t", "_law_k"]) (ps := ["_law_tops"]) F sc_law_first (fun I H vs d h => ?_) (fun cdv A outer s I0 H0 E vs d hr sm h => ?_)
  · obtain ⟨v0, _, rfl, h0, rfl⟩ := h; rfl
  obtain ⟨v0, _, rfl, h0, rfl⟩ := h
  have hx : ∀ {ctx : List (Option SF)} {mem : List MF} (I H : Hp) (σ : St) (d : Option Addr), Stt I0 H0 ctx mem I H σ → Fr H0 d → bK I0 H0 I H σ d := fun _ _ _ _ s f => ⟨s.fm, f⟩
  have tk : Takes (bx P w K mg base ["_law_tops", "_law_out", "_law_t", "_law_k"] "_law_first" (defScope s_law_first) (He.ga K "_law_first") cdv A outer s H0 E) (bW E) := takes_of rfl rfl rfl rfl
  have hp : PassesOwn (model P w) (bx P w K mg base ["_law_tops", "_law_out", "_law_t", "_law_k"] "_law_first" (defScope s_law_first) (He.ga K "_law_first") cdv A outer s H0 E).A (bx P w K mg base ["_law_tops", "_law_out", "_law_t", "_law_k"] "_law_first" (defScope s_law_first) (He.ga K "_law_first") cdv A outer s H0 E).env (bx P w K mg base ["_law_tops", "_law_out", "_law_t", "_law_k"] "_law_first" (defScope s_law_first) (He.ga K "_law_first") cdv A outer s H0 E).xe := passes_of rfl
  obtain ⟨p_law_tops, _⟩ := d
  exact ⟨Stt I0 H0 [some (SF.mk (fun I v x => (rdL K (rp rInt)) I H0 v x) p_law_tops), none, none, none] [], Stt.start sm ⟨h0, ini_nil rfl⟩ rfl (by simp), (JR.seq (J1.cn (c' := fun v_law_out_630 l634 => [some (SF.mk (fun I v x => (rdL K (rp rInt)) I H0 v x) p_law_tops), some (SF.mk (rRef l634) ()), none, none]) (me' := fun v_law_out_630 l634 => [MF.lst l634 rInt v_law_out_630]) (J1.setM 1 (JM.lst (r := rInt) (JA.consL JE.int JA.nilL)) hx sc_law_first.nd)) fun v_law_out_630 => JR.ex fun l634 => (JR.seq (J1.forS (S := (List Int)) (cx := fun s635 => [some (SF.mk (fun I v x => (rdL K (rp rInt)) I H0 v x) p_law_tops), some (SF.mk (rRef l634) ()), none, none]) (me := fun s635 => [MF.lst l634 rInt s635]) (s0 := v_law_out_630) 2 hp (JI.range2 JE.int (JE.callB (JA.cons (JE.varP 0 (r := (rdL K (rp rInt)))) JA.nil) cj_len T.n_len boot_len) T.n_range) (fun i641 s635 => JN.at (c' := [some (SF.mk (fun I v x => (rdL K (rp rInt)) I H0 v x) p_law_tops), some (SF.mk (rRef l634) ()), some (SF.mk rInt i641), none]) (JN.seq (J1.cm (c' := fun v_law_out_642 => [some (SF.mk (fun I v x => (rdL K (rp rInt)) I H0 v x) p_law_tops), some (SF.mk (rRef l634) ()), some (SF.mk rInt i641), none]) (me' := fun v_law_out_642 => [MF.lst l634 rInt v_law_out_642]) (J1.app 1 0 (JE.bin (JE.ix (JE.varP 0 (r := (rdL K (rp rInt)))) (JE.var 2)) (JE.callB (JA.cons (JE.rd (JE.ofM (JM.lcT (r := rInt) 3 (JI.range2 JE.int (JE.var 2) T.n_range) (fun _ _ _ _ _ D acc i647 tk648 => (JE.at (c' := [some (SF.mk (fun I v x => (rdL K (rp rInt)) I H0 v x) p_law_tops), some (SF.mk (rRef l634) ()), some (SF.mk rInt i641), some (SF.mk rInt i647)]) (JE.bin (JE.ix (JE.rdM 1 1) (JE.var 3)) (JE.ix (JE.varP 0 (r := (rdL K (rp rInt)))) (JE.bin (JE.var 2) (JE.var 3) opj_sub)) opj_mul))) sc_law_first.nd (blkok_of (by kernel_rfl))))) JA.nil) (cj_sum rfl) T.n_sum boot_sum) opj_sub) hx)) fun v_law_out_642 => (JN.nil (fun _ _ _ h => (Stt.weak h (weak_some (weak_some (weak_none (weak_none weak_nil))))))))) hx (weak_some (weak_some (weak_none (weak_none weak_nil)))) sc_law_first.nd) fun s635 => (JR.retC 1 0)))⟩
theorem fn_law_first {P : Program} {w : World} {K : PySem.W.Frag} {mg : Str → Option Value} {base : Heap} (T : Txt K mg) : FnR P w K mg base (L2.CX P w) 1 (He.ga K "_law_first") (spN K (aCons (rdL K (rp rInt)) aNil) (fun d => m_law_first d.1) rInt) := by
  obtain ⟨fd, F⟩ := T.F_law_first
  exact FnOk.frN0 (ok_law_first T F) (F.bindsN fun _ _ _ _ _ _ us hl => match us, hl with | [_], _ => rfl)
theorem sc_law_over_powers : FnScope ["_law_numbers", "_law_bottom", "_law_out", "_law_power", "_law_number"] ["_law_numbers", "_law_bottom"] (defScope s_law_over_powers) := ⟨rfl, rfl, rfl, by decide +kernel, rfl, by decide +kernel, by decide +kernel⟩
def m_law_over_powers (p_law_numbers : (List Int)) (p_law_bottom : Int) : Res (List (Int × Int × Unit)) :=
  ((Res.ok ([] : List (Int × Int × Unit))).bind fun v_law_out_667 => ((Res.ok (1 : Int)).bind fun v_law_power_669 => (((Res.ok p_law_numbers).bind fun l684 => forS (fun (i671 : Int) (s670 : (Int × (List (Int × Int × Unit)))) => ((((Res.ok i671).bind fun a677 => ((Res.ok s670.1).bind fun a675 => (Res.ok ()).bind fun b676 => .ok (a675, b676)).bind fun b678 => .ok (a677, b678)).bind fun y680 => appM s670.2 y680).bind fun v_law_out_672 => (((Res.ok s670.1).bind fun a682 => (Res.ok p_law_bottom).bind fun b683 => mulI a682 b683).bind fun v_law_power_681 => (Res.ok (v_law_power_681, v_law_out_672))))) l684 (v_law_power_669, v_law_out_667)).bind fun s670 => (Res.ok s670.2))))
abbrev C_law_over_powers (P : Program) (w : World) (K : PySem.W.Frag) (mg : Str → Option Value) (base : Heap) : Prop := FnR P w K mg base (L2.CX P w) 1 (He.ga K "_law_over_powers") (spN K (aCons (rdL K (rp rInt)) (aCons (rp rInt) aNil)) (fun d => m_law_over_powers d.1 d.2.1) (rTu (aCons (rp rInt) (aCons (rp rInt) aNil))))
theorem ok_law_over_powers {P : Program} {w : World} {K : PySem.W.Frag} {mg : Str → Option Value} {base : Heap} (T : Txt K mg) {fd : FuncData} (F : FunD K "_law_over_powers" "_law_over_powers" (defArgs s_law_over_powers) (defBody s_law_over_powers) (defScope s_law_over_powers) [] [] (He.ga K "_law_over_powers") fd) : FnOk P w K mg base (L2.CX P w) 1 (He.ga K "_law_over_powers") fd ["_law_numbers", "_law_bottom"] (spN K (aCons (rdL K (rp rInt)) (aCons (rp rInt) aNil)) (fun d => m_law_over_powers d.1 d.2.1) (rTu (aCons (rp rInt) (aCons (rp rInt) aNil)))) := by
  refine FunD.fnN (k := 0) (N := ["_law_numbers", "_law_bottom", "_law_out", "_law_power", "_law_number"]) (ps := ["_law_numbers", "_law_bottom"]) F sc_law_over_powers (fun I H vs d h => ?_) (fun cdv A outer s I0 H0 E vs d hr sm h => ?_)
  · obtain ⟨v0, _, rfl, h0, v1, _, rfl, h1, rfl⟩ := h; rfl
  obtain ⟨v0, _, rfl, h0, v1, _, rfl, h1, rfl⟩ := h
  have hx : ∀ {ctx : List (Option SF)} {mem : List MF} (I H : Hp) (σ : St) (d : Option Addr), Stt I0 H0 ctx mem I H σ → Fr H0 d → bK I0 H0 I H σ d := fun _ _ _ _ s f => ⟨s.fm, f⟩
  have tk : Takes (bx P w K mg base ["_law_numbers", "_law_bottom", "_law_out", "_law_power", "_law_number"] "_law_over_powers" (defScope s_law_over_powers) (He.ga K "_law_over_powers") cdv A outer s H0 E) (bW E) := takes_of rfl rfl rfl rfl
  have hp : PassesOwn (model P w) (bx P w K mg base ["_law_numbers", "_law_bottom", "_law_out", "_law_power", "_law_number"] "_law_over_powers" (defScope s_law_over_powers) (He.ga K "_law_over_powers") cdv A outer s H0 E).A (bx P w K mg base ["_law_numbers", "_law_bottom", "_law_out", "_law_power", "_law_number"] "_law_over_powers" (defScope s_law_over_powers) (He.ga K "_law_over_powers") cdv A outer s H0 E).env (bx P w K mg base ["_law_numbers", "_law_bottom", "_law_out", "_law_power", "_law_number"] "_law_over_powers" (defScope s_law_over_powers) (He.ga K "_law_over_powers") cdv A outer s H0 E).xe := passes_of rfl
  obtain ⟨p_law_numbers, p_law_bottom, _⟩ := d
  exact ⟨Stt I0 H0 [some (SF.mk (fun I v x => (rdL K (rp rInt)) I H0 v x) p_law_numbers), some (SF.mk rInt p_law_bottom), none, none, none] [], Stt.start sm ⟨h0, h1, ini_nil rfl⟩ rfl (by simp), (JR.seq (J1.cn (c' := fun v_law_out_667 l668 => [some (SF.mk (fun I v x => (rdL K (rp rInt)) I H0 v x) p_law_numbers), some (SF.mk rInt p_law_bottom), some (SF.mk (rRef l668) ()), none, none]) (me' := fun v_law_out_667 l668 => [MF.lst l668 (rTu (aCons (rp rInt) (aCons (rp rInt) aNil))) v_law_out_667]) (J1.setM 2 (JM.lst (r := (rTu (aCons (rp rInt) (aCons (rp rInt) aNil)))) JA.nilL) hx sc_law_over_powers.nd)) fun v_law_out_667 => JR.ex fun l668 => (JR.seq (J1.cx (c' := fun v_law_power_669 => [some (SF.mk (fun I v x => (rdL K (rp rInt)) I H0 v x) p_law_numbers), some (SF.mk rInt p_law_bottom), some (SF.mk (rRef l668) ()), some (SF.mk rInt v_law_power_669), none]) (J1.set 3 JE.int hx sc_law_over_powers.nd)) fun v_law_power_669 => (JR.seq (J1.forS (S := (Int × (List (Int × Int × Unit)))) (cx := fun s670 => [some (SF.mk (fun I v x => (rdL K (rp rInt)) I H0 v x) p_law_numbers), some (SF.mk rInt p_law_bottom), some (SF.mk (rRef l668) ()), some (SF.mk rInt s670.1), none]) (me := fun s670 => [MF.lst l668 (rTu (aCons (rp rInt) (aCons (rp rInt) aNil))) s670.2]) (s0 := (v_law_power_669, v_law_out_667)) 4 hp (JI.par 0) (fun i671 s670 => JN.at (c' := [some (SF.mk (fun I v x => (rdL K (rp rInt)) I H0 v x) p_law_numbers), some (SF.mk rInt p_law_bottom), some (SF.mk (rRef l668) ()), some (SF.mk rInt s670.1), some (SF.mk rInt i671)]) (JN.seq (J1.cm (c' := fun v_law_out_672 => [some (SF.mk (fun I v x => (rdL K (rp rInt)) I H0 v x) p_law_numbers), some (SF.mk rInt p_law_bottom), some (SF.mk (rRef l668) ()), some (SF.mk rInt s670.1), some (SF.mk rInt i671)]) (me' := fun v_law_out_672 => [MF.lst l668 (rTu (aCons (rp rInt) (aCons (rp rInt) aNil))) v_law_out_672]) (J1.app 2 0 (JE.tupD (k := 2) (JA.cons (JE.var 4) (JA.cons (JE.var 3) JA.nil)) (by rintro _ _ _ _ ⟨_, _, rfl, _, _, _, rfl, _, rfl⟩; rfl)) hx)) fun v_law_out_672 => (JN.seq (J1.cx (c' := fun v_law_power_681 => [some (SF.mk (fun I v x => (rdL K (rp rInt)) I H0 v x) p_law_numbers), some (SF.mk rInt p_law_bottom), some (SF.mk (rRef l668) ()), some (SF.mk rInt v_law_power_681), some (SF.mk rInt i671)]) (J1.set 3 (JE.bin (JE.var 3) (JE.var 1) opj_mul) hx sc_law_over_powers.nd)) fun v_law_power_681 => (JN.nil (fun _ _ _ h => (Stt.weak h (weak_some (weak_some (weak_some (weak_some (weak_none weak_nil))))))))))) hx (weak_some (weak_some (weak_some (weak_some (weak_none weak_nil))))) sc_law_over_powers.nd) fun s670 => (JR.retC 2 0))))⟩
theorem fn_law_over_powers {P : Program} {w : World} {K : PySem.W.Frag} {mg : Str → Option Value} {base : Heap} (T : Txt K mg) : FnR P w K mg base (L2.CX P w) 1 (He.ga K "_law_over_powers") (spN K (aCons (rdL K (rp rInt)) (aCons (rp rInt) aNil)) (fun d => m_law_over_powers d.1 d.2.1) (rTu (aCons (rp rInt) (aCons (rp rInt) aNil)))) := by
  obtain ⟨fd, F⟩ := T.F_law_over_powers
  exact FnOk.frN0 (ok_law_over_powers T F) (F.bindsN fun _ _ _ _ _ _ us hl => match us, hl with | [_, _], _ => rfl)
theorem sc_law_again : FnScope ["_law_firsts", "_law_out", "_law_t", "_law_k"] ["_law_firsts"] (defScope s_law_again) := ⟨rfl, rfl, rfl, by decide +kernel, rfl, by decide +kernel, by decide +kernel⟩
def m_law_again (p_law_firsts : (List Int)) : Res (List Int) :=
  (((Res.ok (1 : Int)).bind fun a687 => (Res.ok []).bind fun b688 => .ok (a687 :: b688)).bind fun v_law_out_685 => ((((Res.ok (1 : Int)).bind fun a694 => (((Res.ok p_law_firsts).bind fun a692 => (Res.ok ()).bind fun b693 => .ok (a692, b693)).bind (fun d => .ok (d.1.length : Int))).bind fun b695 => rangeM a694 b695).bind fun l719 => forS (fun (i696 : Int) (s690 : (List Int)) => (((((((Res.ok (1 : Int)).bind fun a700 => ((Res.ok i696).bind fun a698 => (Res.ok (1 : Int)).bind fun b699 => .ok (a698 + b699)).bind fun b701 => rangeM a700 b701).bind fun l713 => lcR (fun (i702 : Int) => (((Res.ok p_law_firsts).bind fun a704 => (Res.ok i702).bind fun b705 => atM a704 b705).bind fun a710 => ((Res.ok s690).bind fun a708 => ((Res.ok i696).bind fun a706 => (Res.ok i702).bind fun b707 => .ok (a706 - b707)).bind fun b709 => atM a708 b709).bind fun b711 => mulI a710 b711)) l713).bind fun a715 => (Res.ok ()).bind fun b716 => .ok (a715, b716)).bind (fun d => .ok d.1.sum)).bind fun y718 => appM s690 y718).bind fun v_law_out_697 => (Res.ok v_law_out_697))) l719 v_law_out_685).bind fun s690 => (Res.ok s690)))
abbrev C_law_again (P : Program) (w : World) (K : PySem.W.Frag) (mg : Str → Option Value) (base : Heap) : Prop := FnR P w K mg base (L2.CX P w) 1 (He.ga K "_law_again") (spN K (aCons (rdL K (rp rInt)) aNil) (fun d => m_law_again d.1) rInt)
theorem ok_law_again {P : Program} {w : World} {K : PySem.W.Frag} {mg : Str → Option Value} {base : Heap} (T : Txt K mg) {fd : FuncData} (F : FunD K "_law_again" "_law_again" (defArgs s_law_again) (defBody s_law_again) (defScope s_law_again) [] [] (He.ga K "_law_again") fd) : FnOk P w K mg base (L2.CX P w) 1 (He.ga K "_law_again") fd ["_law_firsts"] (spN K (aCons (rdL K (rp rInt)) aNil) (fun d => m_law_again d.1) rInt) := by
  refine FunD.fnN (k := 0) (N := ["_law_firsts", "_law_out", "_law_t", "_law_k"]) (ps := ["_law_firsts"]) F sc_law_again (fun I H vs d h => ?_) (fun cdv A outer s I0 H0 E vs d hr sm h => ?_)
  · obtain ⟨v0, _, rfl, h0, rfl⟩ := h; rfl
  obtain ⟨v0, _, rfl, h0, rfl⟩ := h
  have hx : ∀ {ctx : List (Option SF)} {mem : List MF} (I H : Hp) (σ : St) (d : Option Addr), Stt I0 H0 ctx mem I H σ → Fr H0 d → bK I0 H0 I H σ d := fun _ _ _ _ s f => ⟨s.fm, f⟩
  have tk : Takes (bx P w K mg base ["_law_firsts", "_law_out", "_law_t", "_law_k"] "_law_again" (defScope s_law_again) (He.ga K "_law_again") cdv A outer s H0 E) (bW E) := takes_of rfl rfl rfl rfl
  have hp : PassesOwn (model P w) (bx P w K mg base ["_law_firsts", "_law_out", "_law_t", "_law_k"] "_law_again" (defScope s_law_again) (He.ga K "_law_again") cdv A outer s H0 E).A (bx P w K mg base ["_law_firsts", "_law_out", "_law_t", "_law_k"] "_law_again" (defScope s_law_again) (He.ga K "_law_again") cdv A outer s H0 E).env (bx P w K mg base ["_law_firsts", "_law_out", "_law_t", "_law_k"] "_law_again" (defScope s_law_again) (He.ga K "_law_again") cdv A outer s H0 E).xe := passes_of rfl
  obtain ⟨p_law_firsts, _⟩ := d
  exact ⟨Stt I0 H0 [some (SF.mk (fun I v x => (rdL K (rp rInt)) I H0 v x) p_law_firsts), none, none, none] [], Stt.start sm ⟨h0, ini_nil rfl⟩ rfl (by simp), (JR.seq (J1.cn (c' := fun v_law_out_685 l689 => [some (SF.mk (fun I v x => (rdL K (rp rInt)) I H0 v x) p_law_firsts), some (SF.mk (rRef l689) ()), none, none]) (me' := fun v_law_out_685 l689 => [MF.lst l689 rInt v_law_out_685]) (J1.setM 1 (JM.lst (r := rInt) (JA.consL JE.int JA.nilL)) hx sc_law_again.nd)) fun v_law_out_685 => JR.ex fun l689 => (JR.seq (J1.forS (S := (List Int)) (cx := fun s690 => [some (SF.mk (fun I v x => (rdL K (rp rInt)) I H0 v x) p_law_firsts), some (SF.mk (rRef l689) ()), none, none]) (me := fun s690 => [MF.lst l689 rInt s690]) (s0 := v_law_out_685) 2 hp (JI.range2 JE.int (JE.callB (JA.cons (JE.varP 0 (r := (rdL K (rp rInt)))) JA.nil) cj_len T.n_len boot_len) T.n_range) (fun i696 s690 => JN.at (c' := [some (SF.mk (fun I v x => (rdL K (rp rInt)) I H0 v x) p_law_firsts), some (SF.mk (rRef l689) ()), some (SF.mk rInt i696), none]) (JN.seq (J1.cm (c' := fun v_law_out_697 => [some (SF.mk (fun I v x => (rdL K (rp rInt)) I H0 v x) p_law_firsts), some (SF.mk (rRef l689) ()), some (SF.mk rInt i696), none]) (me' := fun v_law_out_697 => [MF.lst l689 rInt v_law_out_697]) (J1.app 1 0 (JE.callB (JA.cons (JE.rd (JE.ofM (JM.lcT (r := rInt) 3 (JI.range2 JE.int (JE.bin (JE.var 2) JE.int opj_add) T.n_range) (fun _ _ _ _ _ D acc i702 tk703 => (JE.at (c' := [some (SF.mk (fun I v x => (rdL K (rp rInt)) I H0 v x) p_law_firsts), some (SF.mk (rRef l689) ()), some (SF.mk rInt i696), some (SF.mk rInt i702)]) (JE.bin (JE.ix (JE.varP 0 (r := (rdL K (rp rInt)))) (JE.var 3)) (JE.ix (JE.rdM 1 1) (JE.bin (JE.var 2) (JE.var 3) opj_sub)) opj_mul))) sc_law_again.nd (blkok_of (by kernel_rfl))))) JA.nil) (cj_sum rfl) T.n_sum boot_sum) hx)) fun v_law_out_697 => (JN.nil (fun _ _ _ h => (Stt.weak h (weak_some (weak_some (weak_none (weak_none weak_nil))))))))) hx (weak_some (weak_some (weak_none (weak_none weak_nil)))) sc_law_again.nd) fun s690 => (JR.retC 1 0)))⟩
theorem fn_law_again {P : Program} {w : World} {K : PySem.W.Frag} {mg : Str → Option Value} {base : Heap} (T : Txt K mg) : FnR P w K mg base (L2.CX P w) 1 (He.ga K "_law_again") (spN K (aCons (rdL K (rp rInt)) aNil) (fun d => m_law_again d.1) rInt) := by
  obtain ⟨fd, F⟩ := T.F_law_again
  exact FnOk.frN0 (ok_law_again T F) (F.bindsN fun _ _ _ _ _ _ us hl => match us, hl with | [_], _ => rfl)
theorem sc_as_fraction : FnScope ["number"] ["number"] (defScope s_as_fraction) := ⟨rfl, rfl, rfl, by decide +kernel, rfl, by decide +kernel, by decide +kernel⟩
def m_as_fraction (p_number : Num) : Res Rat :=
  (match p_number with | .i p_number_i => (((Res.ok p_number_i).bind fun a778 => .ok false).bind fun x779 => if x779 = true then .stuck else (((Res.ok p_number_i).bind fun a781 => (Res.ok ()).bind fun b782 => .ok (a781, b782)).bind (fun d => qInt d.1))) | .q p_number_q => (((Res.ok p_number_q).bind fun a784 => .ok true).bind fun x785 => if x785 = true then (Res.ok p_number_q) else .stuck))
abbrev C_as_fraction (P : Program) (w : World) (K : PySem.W.Frag) (mg : Str → Option Value) (base : Heap) : Prop := FnR P w K mg base (L2.CX P w) 4 (He.ga K "as_fraction") (spF K (aCons (rp (rNum K)) aNil) (fun d => qAs d.1) (rp (rFrac K)))
theorem ok_as_fraction {P : Program} {w : World} {K : PySem.W.Frag} {mg : Str → Option Value} {base : Heap} (T : Txt K mg) (c_Fraction_1 : C_Fraction_1 P w K mg base) {fd : FuncData} (F : FunD K "as_fraction" "as_fraction" (defArgs s_as_fraction) (defBody s_as_fraction) (defScope s_as_fraction) [] [] (He.ga K "as_fraction") fd) : FnOk P w K mg base (L2.CX P w) 4 (He.ga K "as_fraction") fd ["number"] (spF K (aCons (rp (rNum K)) aNil) (fun d => m_as_fraction d.1) (rp (rFrac K))) := by
  refine FunD.fn (k := 3) (N := ["number"]) (ps := ["number"]) F sc_as_fraction (fun I H vs d h => ?_) (fun cdv A outer s I0 H0 E vs d hr sm h => ?_)
  · obtain ⟨v0, _, rfl, h0, rfl⟩ := h; rfl
  obtain ⟨v0, _, rfl, h0, rfl⟩ := h
  have hx : ∀ {ctx : List (Option SF)} {mem : List MF} (I H : Hp) (σ : St) (d : Option Addr), Stt I0 H0 ctx mem I H σ → Fr H0 d → bK I0 H0 I H σ d := fun _ _ _ _ s f => ⟨s.fm, f⟩
  have tk : Takes (bx P w K mg base ["number"] "as_fraction" (defScope s_as_fraction) (He.ga K "as_fraction") cdv A outer s H0 E) (bW E) := takes_of rfl rfl rfl rfl
  obtain ⟨p_number, _⟩ := d
  exact ⟨Stt I0 H0 [some (SF.mk (rNum K) p_number)] [], Stt.start sm ⟨h0, ini_nil rfl⟩ rfl (by simp), (JR.num (K := K) 0 (fun p_number_i => JR.at (c' := [some (SF.mk rInt p_number_i)]) (JR.ifR (JT.of (JE.isi (JE.var 0) (w_glob_at T.g_Fraction rfl (by decide)) (.own _) (tyr_intC T.kI_int_Fraction) T.n_isinstance)) JR.dead (JR.ret (JE.call (JA.cons (JE.var 0) JA.nil) (c_Fraction_1 _ _ rfl rfl rfl rfl rfl (hr.mono (by decide)) tk) T.g_Fraction T.mk_Fraction.kp) hx) hx)) (fun p_number_q => JR.at (c' := [some (SF.mk (rFrac K) p_number_q)]) (JR.ifR (JT.of (JE.isi (JE.var 0) (w_glob_at T.g_Fraction rfl (by decide)) (.own _) (tyr_ins T.o_Fraction insF T.kt_Fraction_Fraction) T.n_isinstance)) (JR.ret (JE.var 0) hx) JR.dead hx)))⟩
theorem fn_as_fraction {P : Program} {w : World} {K : PySem.W.Frag} {mg : Str → Option Value} {base : Heap} (T : Txt K mg) (c_Fraction_1 : C_Fraction_1 P w K mg base) : FnR P w K mg base (L2.CX P w) 4 (He.ga K "as_fraction") (spF K (aCons (rp (rNum K)) aNil) (fun d => m_as_fraction d.1) (rp (rFrac K))) := by
  obtain ⟨fd, F⟩ := T.F_as_fraction
  exact FnOk.fr0 (ok_as_fraction T c_Fraction_1 F) (F.bindsN fun _ _ _ _ _ _ us hl => match us, hl with | [_], _ => rfl)
theorem nice_as_fraction : ∀ d : Num × Unit, qAs d.1 = .stuck ∨ qAs d.1 = m_as_fraction d.1 := fun ⟨y, _⟩ => by
  right
  cases y with
  | i n => rfl
  | q y => rfl
theorem sc_Fraction_eq : FnScope ["self", "other"] ["self", "other"] (defScope s_Fraction_eq) := ⟨rfl, rfl, rfl, by decide +kernel, rfl, by decide +kernel, by decide +kernel⟩
def m_Fraction_eq (p_self : Rat) (p_other : Num) : Res Bool :=
  (match p_other with | .i p_other_i => (((Res.ok p_other_i).bind fun a787 => .ok true).bind fun x788 => if x788 = true then ((((Res.ok p_self).bind fun a789 => .ok (a789.den : Int)).bind fun a790 => (Res.ok (1 : Int)).bind fun b791 => .ok (decide (a790 = b791))).bind fun a795 => if a795 = true then (((Res.ok p_self).bind fun a792 => .ok a792.num).bind fun a793 => (Res.ok p_other_i).bind fun b794 => .ok (decide (a793 = b794))) else .ok false) else .stuck) | .q p_other_q => (((Res.ok p_other_q).bind fun a797 => .ok false).bind fun x798 => if x798 = true then .stuck else ((((Res.ok p_other_q).bind fun a799 => .ok true).bind fun a800 => .ok (!a800)).bind fun x801 => if x801 = true then .stuck else ((((Res.ok p_self).bind fun a802 => .ok a802.num).bind fun a804 => ((Res.ok p_other_q).bind fun a803 => .ok a803.num).bind fun b805 => .ok (decide (a804 = b805))).bind fun a810 => if a810 = true then (((Res.ok p_self).bind fun a806 => .ok (a806.den : Int)).bind fun a808 => ((Res.ok p_other_q).bind fun a807 => .ok (a807.den : Int)).bind fun b809 => .ok (decide (a808 = b809))) else .ok false))))
abbrev C_Fraction_eq (P : Program) (w : World) (K : PySem.W.Frag) (mg : Str → Option Value) (base : Heap) : Prop := FnR P w K mg base (L2.CX P w) 1 (He.ma K (He.ga K "Fraction") "__eq__") (spF K (aCons (rp (rFrac K)) (aCons (rp (rNum K)) aNil)) (fun d => qEq d.1 d.2.1) (rp rBl))
theorem ok_Fraction_eq {P : Program} {w : World} {K : PySem.W.Frag} {mg : Str → Option Value} {base : Heap} (T : Txt K mg) {fd : FuncData} (F : FunD K "__eq__" "Fraction.__eq__" (defArgs s_Fraction_eq) (defBody s_Fraction_eq) (defScope s_Fraction_eq) [] [] (He.ma K (He.ga K "Fraction") "__eq__") fd) : FnOk P w K mg base (L2.CX P w) 1 (He.ma K (He.ga K "Fraction") "__eq__") fd ["self", "other"] (spF K (aCons (rp (rFrac K)) (aCons (rp (rNum K)) aNil)) (fun d => m_Fraction_eq d.1 d.2.1) (rp rBl)) := by
  refine FunD.fn (k := 0) (N := ["self", "other"]) (ps := ["self", "other"]) F sc_Fraction_eq (fun I H vs d h => ?_) (fun cdv A outer s I0 H0 E vs d hr sm h => ?_)
  · obtain ⟨v0, _, rfl, h0, v1, _, rfl, h1, rfl⟩ := h; rfl
  obtain ⟨v0, _, rfl, h0, v1, _, rfl, h1, rfl⟩ := h
  have hx : ∀ {ctx : List (Option SF)} {mem : List MF} (I H : Hp) (σ : St) (d : Option Addr), Stt I0 H0 ctx mem I H σ → Fr H0 d → bK I0 H0 I H σ d := fun _ _ _ _ s f => ⟨s.fm, f⟩
  have tk : Takes (bx P w K mg base ["self", "other"] "Fraction.__eq__" (defScope s_Fraction_eq) (He.ma K (He.ga K "Fraction") "__eq__") cdv A outer s H0 E) (bW E) := takes_of rfl rfl rfl rfl
  obtain ⟨p_self, p_other, _⟩ := d
  exact ⟨Stt I0 H0 [some (SF.mk (rFrac K) p_self), some (SF.mk (rNum K) p_other)] [], Stt.start sm ⟨h0, h1, ini_nil rfl⟩ rfl (by simp), (JR.num (K := K) 1 (fun p_other_i => JR.at (c' := [some (SF.mk (rFrac K) p_self), some (SF.mk rInt p_other_i)]) (JR.ifR (JT.of (JE.isi (JE.var 1) (w_type_at T.n_int (by decide +kernel) rfl (by decide) (by decide)) (.ty _) (tyr_int (t := "int") (by decide +kernel)) T.n_isinstance)) (JR.ret (JE.and (JE.cmp (JE.fld (JE.var 0) fld_bottom T.o_Fraction.cl T.na_Fraction_bottom) JE.int opj_eq) (JE.one (JE.cmp (JE.fld (JE.var 0) fld_top T.o_Fraction.cl T.na_Fraction_top) (JE.var 1) opj_eq))) hx) JR.dead hx)) (fun p_other_q => JR.at (c' := [some (SF.mk (rFrac K) p_self), some (SF.mk (rFrac K) p_other_q)]) (JR.ifR (JT.of (JE.isi (JE.var 1) (w_type_at T.n_int (by decide +kernel) rfl (by decide) (by decide)) (.ty _) (tyr_ins T.o_Fraction insF T.kT_Fraction_int) T.n_isinstance)) JR.dead (JR.ifR (JT.not (JT.of (JE.isi (JE.var 1) (w_glob_at T.g_Fraction rfl (by decide)) (.own _) (tyr_ins T.o_Fraction insF T.kt_Fraction_Fraction) T.n_isinstance))) JR.dead (JR.ret (JE.and (JE.cmp (JE.fld (JE.var 0) fld_top T.o_Fraction.cl T.na_Fraction_top) (JE.fld (JE.var 1) fld_top T.o_Fraction.cl T.na_Fraction_top) opj_eq) (JE.one (JE.cmp (JE.fld (JE.var 0) fld_bottom T.o_Fraction.cl T.na_Fraction_bottom) (JE.fld (JE.var 1) fld_bottom T.o_Fraction.cl T.na_Fraction_bottom) opj_eq))) hx) hx) hx)))⟩
theorem fn_Fraction_eq {P : Program} {w : World} {K : PySem.W.Frag} {mg : Str → Option Value} {base : Heap} (T : Txt K mg) : FnR P w K mg base (L2.CX P w) 1 (He.ma K (He.ga K "Fraction") "__eq__") (spF K (aCons (rp (rFrac K)) (aCons (rp (rNum K)) aNil)) (fun d => m_Fraction_eq d.1 d.2.1) (rp rBl)) := by
  obtain ⟨fd, F⟩ := T.F_Fraction_eq
  exact FnOk.fr0 (ok_Fraction_eq T F) (F.bindsN fun _ _ _ _ _ _ us hl => match us, hl with | [_, _], _ => rfl)
theorem nice_Fraction_eq : ∀ d : Rat × Num × Unit, qEq d.1 d.2.1 = .stuck ∨ qEq d.1 d.2.1 = m_Fraction_eq d.1 d.2.1 := fun ⟨x, y, _⟩ => by
  right
  cases y with
  | i n =>
      simp only [m_Fraction_eq, Res.ok_bind, Bool.not_true, Bool.not_false, Bool.false_eq_true, if_true, if_false]
      exact (eq_dec1 x n).symm
  | q y =>
      simp only [m_Fraction_eq, Res.ok_bind, Bool.not_true, Bool.not_false, Bool.false_eq_true, if_true, if_false]
      exact (eq_dec x y).symm
theorem sc_Fraction_mul : FnScope ["self", "other"] ["self", "other"] (defScope s_Fraction_mul) := ⟨rfl, rfl, rfl, by decide +kernel, rfl, by decide +kernel, by decide +kernel⟩
def m_Fraction_mul (p_self : Rat) (p_other : Num) : Res Rat :=
  (match p_other with | .i p_other_i => (((Res.ok p_other_i).bind fun a812 => .ok true).bind fun x813 => if x813 = true then (((((Res.ok p_self).bind fun a814 => .ok a814.num).bind fun a815 => (Res.ok p_other_i).bind fun b816 => mulI a815 b816).bind fun a822 => (((Res.ok p_self).bind fun a818 => .ok (a818.den : Int)).bind fun a820 => (Res.ok ()).bind fun b821 => .ok (a820, b821)).bind fun b823 => .ok (a822, b823)).bind (fun d => qMk d.1 d.2.1)) else .stuck) | .q p_other_q => (((Res.ok p_other_q).bind fun a825 => .ok false).bind fun x826 => if x826 = true then .stuck else ((((Res.ok p_other_q).bind fun a827 => .ok true).bind fun a828 => .ok (!a828)).bind fun x829 => if x829 = true then .stuck else (((((Res.ok p_self).bind fun a830 => .ok a830.num).bind fun a832 => ((Res.ok p_other_q).bind fun a831 => .ok a831.num).bind fun b833 => mulI a832 b833).bind fun a842 => ((((Res.ok p_self).bind fun a835 => .ok (a835.den : Int)).bind fun a837 => ((Res.ok p_other_q).bind fun a836 => .ok (a836.den : Int)).bind fun b838 => mulI a837 b838).bind fun a840 => (Res.ok ()).bind fun b841 => .ok (a840, b841)).bind fun b843 => .ok (a842, b843)).bind (fun d => qMk d.1 d.2.1)))))
abbrev C_Fraction_mul (P : Program) (w : World) (K : PySem.W.Frag) (mg : Str → Option Value) (base : Heap) : Prop := FnR P w K mg base (L2.CX P w) 4 (He.ma K (He.ga K "Fraction") "__mul__") (spF K (aCons (rp (rFrac K)) (aCons (rp (rNum K)) aNil)) (fun d => qMul d.1 d.2.1) (rp (rFrac K)))
theorem ok_Fraction_mul {P : Program} {w : World} {K : PySem.W.Frag} {mg : Str → Option Value} {base : Heap} (T : Txt K mg) (c_Fraction_2 : C_Fraction_2 P w K mg base) {fd : FuncData} (F : FunD K "__mul__" "Fraction.__mul__" (defArgs s_Fraction_mul) (defBody s_Fraction_mul) (defScope s_Fraction_mul) [] [] (He.ma K (He.ga K "Fraction") "__mul__") fd) : FnOk P w K mg base (L2.CX P w) 4 (He.ma K (He.ga K "Fraction") "__mul__") fd ["self", "other"] (spF K (aCons (rp (rFrac K)) (aCons (rp (rNum K)) aNil)) (fun d => m_Fraction_mul d.1 d.2.1) (rp (rFrac K))) := by
  refine FunD.fn (k := 3) (N := ["self", "other"]) (ps := ["self", "other"]) F sc_Fraction_mul (fun I H vs d h => ?_) (fun cdv A outer s I0 H0 E vs d hr sm h => ?_)
  · obtain ⟨v0, _, rfl, h0, v1, _, rfl, h1, rfl⟩ := h; rfl
  obtain ⟨v0, _, rfl, h0, v1, _, rfl, h1, rfl⟩ := h
  have hx : ∀ {ctx : List (Option SF)} {mem : List MF} (I H : Hp) (σ : St) (d : Option Addr), Stt I0 H0 ctx mem I H σ → Fr H0 d → bK I0 H0 I H σ d := fun _ _ _ _ s f => ⟨s.fm, f⟩
  have tk : Takes (bx P w K mg base ["self", "other"] "Fraction.__mul__" (defScope s_Fraction_mul) (He.ma K (He.ga K "Fraction") "__mul__") cdv A outer s H0 E) (bW E) := takes_of rfl rfl rfl rfl
  obtain ⟨p_self, p_other, _⟩ := d
  exact ⟨Stt I0 H0 [some (SF.mk (rFrac K) p_self), some (SF.mk (rNum K) p_other)] [], Stt.start sm ⟨h0, h1, ini_nil rfl⟩ rfl (by simp), (JR.num (K := K) 1 (fun p_other_i => JR.at (c' := [some (SF.mk (rFrac K) p_self), some (SF.mk rInt p_other_i)]) (JR.ifR (JT.of (JE.isi (JE.var 1) (w_type_at T.n_int (by decide +kernel) rfl (by decide) (by decide)) (.ty _) (tyr_int (t := "int") (by decide +kernel)) T.n_isinstance)) (JR.ret (JE.call (JA.cons (JE.bin (JE.fld (JE.var 0) fld_top T.o_Fraction.cl T.na_Fraction_top) (JE.var 1) opj_mul) (JA.cons (JE.fld (JE.var 0) fld_bottom T.o_Fraction.cl T.na_Fraction_bottom) JA.nil)) (c_Fraction_2 _ _ rfl rfl rfl rfl rfl (hr.mono (by decide)) tk) T.g_Fraction T.mk_Fraction.kp) hx) JR.dead hx)) (fun p_other_q => JR.at (c' := [some (SF.mk (rFrac K) p_self), some (SF.mk (rFrac K) p_other_q)]) (JR.ifR (JT.of (JE.isi (JE.var 1) (w_type_at T.n_int (by decide +kernel) rfl (by decide) (by decide)) (.ty _) (tyr_ins T.o_Fraction insF T.kT_Fraction_int) T.n_isinstance)) JR.dead (JR.ifR (JT.not (JT.of (JE.isi (JE.var 1) (w_glob_at T.g_Fraction rfl (by decide)) (.own _) (tyr_ins T.o_Fraction insF T.kt_Fraction_Fraction) T.n_isinstance))) JR.dead (JR.ret (JE.call (JA.cons (JE.bin (JE.fld (JE.var 0) fld_top T.o_Fraction.cl T.na_Fraction_top) (JE.fld (JE.var 1) fld_top T.o_Fraction.cl T.na_Fraction_top) opj_mul) (JA.cons (JE.bin (JE.fld (JE.var 0) fld_bottom T.o_Fraction.cl T.na_Fraction_bottom) (JE.fld (JE.var 1) fld_bottom T.o_Fraction.cl T.na_Fraction_bottom) opj_mul) JA.nil)) (c_Fraction_2 _ _ rfl rfl rfl rfl rfl (hr.mono (by decide)) tk) T.g_Fraction T.mk_Fraction.kp) hx) hx) hx)))⟩
theorem fn_Fraction_mul {P : Program} {w : World} {K : PySem.W.Frag} {mg : Str → Option Value} {base : Heap} (T : Txt K mg) (c_Fraction_2 : C_Fraction_2 P w K mg base) : FnR P w K mg base (L2.CX P w) 4 (He.ma K (He.ga K "Fraction") "__mul__") (spF K (aCons (rp (rFrac K)) (aCons (rp (rNum K)) aNil)) (fun d => m_Fraction_mul d.1 d.2.1) (rp (rFrac K))) := by
  obtain ⟨fd, F⟩ := T.F_Fraction_mul
  exact FnOk.fr0 (ok_Fraction_mul T c_Fraction_2 F) (F.bindsN fun _ _ _ _ _ _ us hl => match us, hl with | [_, _], _ => rfl)
theorem nice_Fraction_mul : ∀ d : Rat × Num × Unit, qMul d.1 d.2.1 = .stuck ∨ qMul d.1 d.2.1 = m_Fraction_mul d.1 d.2.1 := fun ⟨x, y, _⟩ => by
  cases y with
  | i n =>
      refine stuck_or fun h => ?_
      obtain ⟨hx, hn⟩ := h
      dsimp only at hx ⊢
      have hn := fits_int.mp hn
      simp only [m_Fraction_mul, Res.ok_bind, Bool.not_true, Bool.not_false, Bool.false_eq_true, if_true, if_false, mul_fit hn (fd hx), mul_fit hx.1 hn, qMk_d hx, mul_div1]
      rfl
  | q y =>
      refine stuck_or fun h => ?_
      obtain ⟨hx, hy⟩ := h
      dsimp only at hx ⊢
      have hy : fits y := hy
      simp only [m_Fraction_mul, Res.ok_bind, Bool.not_true, Bool.not_false, Bool.false_eq_true, if_true, if_false, mul_fit hx.1 (fd hy), mul_fit hy.1 (fd hx), mul_fit (fd hx) (fd hy), mul_fit hx.1 hy.1, qMk_dd hx hy, mul_divs]
      rfl
theorem sc_Fraction_add : FnScope ["self", "other"] ["self", "other"] (defScope s_Fraction_add) := ⟨rfl, rfl, rfl, by decide +kernel, rfl, by decide +kernel, by decide +kernel⟩
def m_Fraction_add (p_self : Rat) (p_other : Num) : Res Rat :=
  (match p_other with | .i p_other_i => (((Res.ok p_other_i).bind fun a856 => .ok true).bind fun x857 => if x857 = true then (((((Res.ok p_self).bind fun a858 => .ok a858.num).bind fun a862 => ((Res.ok p_other_i).bind fun a860 => ((Res.ok p_self).bind fun a859 => .ok (a859.den : Int)).bind fun b861 => mulI a860 b861).bind fun b863 => .ok (a862 + b863)).bind fun a869 => (((Res.ok p_self).bind fun a865 => .ok (a865.den : Int)).bind fun a867 => (Res.ok ()).bind fun b868 => .ok (a867, b868)).bind fun b870 => .ok (a869, b870)).bind (fun d => qMk d.1 d.2.1)) else .stuck) | .q p_other_q => (((Res.ok p_other_q).bind fun a872 => .ok false).bind fun x873 => if x873 = true then .stuck else ((((Res.ok p_other_q).bind fun a874 => .ok true).bind fun a875 => .ok (!a875)).bind fun x876 => if x876 = true then .stuck else ((((((Res.ok p_self).bind fun a877 => .ok a877.num).bind fun a879 => ((Res.ok p_other_q).bind fun a878 => .ok (a878.den : Int)).bind fun b880 => mulI a879 b880).bind fun a885 => (((Res.ok p_other_q).bind fun a881 => .ok a881.num).bind fun a883 => ((Res.ok p_self).bind fun a882 => .ok (a882.den : Int)).bind fun b884 => mulI a883 b884).bind fun b886 => .ok (a885 + b886)).bind fun a895 => ((((Res.ok p_self).bind fun a888 => .ok (a888.den : Int)).bind fun a890 => ((Res.ok p_other_q).bind fun a889 => .ok (a889.den : Int)).bind fun b891 => mulI a890 b891).bind fun a893 => (Res.ok ()).bind fun b894 => .ok (a893, b894)).bind fun b896 => .ok (a895, b896)).bind (fun d => qMk d.1 d.2.1)))))
abbrev C_Fraction_add (P : Program) (w : World) (K : PySem.W.Frag) (mg : Str → Option Value) (base : Heap) : Prop := FnR P w K mg base (L2.CX P w) 4 (He.ma K (He.ga K "Fraction") "__add__") (spF K (aCons (rp (rFrac K)) (aCons (rp (rNum K)) aNil)) (fun d => qAdd d.1 d.2.1) (rp (rFrac K)))
theorem ok_Fraction_add {P : Program} {w : World} {K : PySem.W.Frag} {mg : Str → Option Value} {base : Heap} (T : Txt K mg) (c_Fraction_2 : C_Fraction_2 P w K mg base) {fd : FuncData} (F : FunD K "__add__" "Fraction.__add__" (defArgs s_Fraction_add) (defBody s_Fraction_add) (defScope s_Fraction_add) [] [] (He.ma K (He.ga K "Fraction") "__add__") fd) : FnOk P w K mg base (L2.CX P w) 4 (He.ma K (He.ga K "Fraction") "__add__") fd ["self", "other"] (spF K (aCons (rp (rFrac K)) (aCons (rp (rNum K)) aNil)) (fun d => m_Fraction_add d.1 d.2.1) (rp (rFrac K))) := by
  refine FunD.fn (k := 3) (N := ["self", "other"]) (ps := ["self", "other"]) F sc_Fraction_add (fun I H vs d h => ?_) (fun cdv A outer s I0 H0 E vs d hr sm h => ?_)
  · obtain ⟨v0, _, rfl, h0, v1, _, rfl, h1, rfl⟩ := h; rfl
  obtain ⟨v0, _, rfl, h0, v1, _, rfl, h1, rfl⟩ := h
  have hx : ∀ {ctx : List (Option SF)} {mem : List MF} (I H : Hp) (σ : St) (d : Option Addr), Stt I0 H0 ctx mem I H σ → Fr H0 d → bK I0 H0 I H σ d := fun _ _ _ _ s f => ⟨s.fm, f⟩
  have tk : Takes (bx P w K mg base ["self", "other"] "Fraction.__add__" (defScope s_Fraction_add) (He.ma K (He.ga K "Fraction") "__add__") cdv A outer s H0 E) (bW E) := takes_of rfl rfl rfl rfl
  obtain ⟨p_self, p_other, _⟩ := d
  exact ⟨Stt I0 H0 [some (SF.mk (rFrac K) p_self), some (SF.mk (rNum K) p_other)] [], Stt.start sm ⟨h0, h1, ini_nil rfl⟩ rfl (by simp), (JR.num (K := K) 1 (fun p_other_i => JR.at (c' := [some (SF.mk (rFrac K) p_self), some (SF.mk rInt p_other_i)]) (JR.ifR (JT.of (JE.isi (JE.var 1) (w_type_at T.n_int (by decide +kernel) rfl (by decide) (by decide)) (.ty _) (tyr_int (t := "int") (by decide +kernel)) T.n_isinstance)) (JR.ret (JE.call (JA.cons (JE.bin (JE.fld (JE.var 0) fld_top T.o_Fraction.cl T.na_Fraction_top) (JE.bin (JE.var 1) (JE.fld (JE.var 0) fld_bottom T.o_Fraction.cl T.na_Fraction_bottom) opj_mul) opj_add) (JA.cons (JE.fld (JE.var 0) fld_bottom T.o_Fraction.cl T.na_Fraction_bottom) JA.nil)) (c_Fraction_2 _ _ rfl rfl rfl rfl rfl (hr.mono (by decide)) tk) T.g_Fraction T.mk_Fraction.kp) hx) JR.dead hx)) (fun p_other_q => JR.at (c' := [some (SF.mk (rFrac K) p_self), some (SF.mk (rFrac K) p_other_q)]) (JR.ifR (JT.of (JE.isi (JE.var 1) (w_type_at T.n_int (by decide +kernel) rfl (by decide) (by decide)) (.ty _) (tyr_ins T.o_Fraction insF T.kT_Fraction_int) T.n_isinstance)) JR.dead (JR.ifR (JT.not (JT.of (JE.isi (JE.var 1) (w_glob_at T.g_Fraction rfl (by decide)) (.own _) (tyr_ins T.o_Fraction insF T.kt_Fraction_Fraction) T.n_isinstance))) JR.dead (JR.ret (JE.call (JA.cons (JE.bin (JE.bin (JE.fld (JE.var 0) fld_top T.o_Fraction.cl T.na_Fraction_top) (JE.fld (JE.var 1) fld_bottom T.o_Fraction.cl T.na_Fraction_bottom) opj_mul) (JE.bin (JE.fld (JE.var 1) fld_top T.o_Fraction.cl T.na_Fraction_top) (JE.fld (JE.var 0) fld_bottom T.o_Fraction.cl T.na_Fraction_bottom) opj_mul) opj_add) (JA.cons (JE.bin (JE.fld (JE.var 0) fld_bottom T.o_Fraction.cl T.na_Fraction_bottom) (JE.fld (JE.var 1) fld_bottom T.o_Fraction.cl T.na_Fraction_bottom) opj_mul) JA.nil)) (c_Fraction_2 _ _ rfl rfl rfl rfl rfl (hr.mono (by decide)) tk) T.g_Fraction T.mk_Fraction.kp) hx) hx) hx)))⟩
theorem fn_Fraction_add {P : Program} {w : World} {K : PySem.W.Frag} {mg : Str → Option Value} {base : Heap} (T : Txt K mg) (c_Fraction_2 : C_Fraction_2 P w K mg base) : FnR P w K mg base (L2.CX P w) 4 (He.ma K (He.ga K "Fraction") "__add__") (spF K (aCons (rp (rFrac K)) (aCons (rp (rNum K)) aNil)) (fun d => m_Fraction_add d.1 d.2.1) (rp (rFrac K))) := by
  obtain ⟨fd, F⟩ := T.F_Fraction_add
  exact FnOk.fr0 (ok_Fraction_add T c_Fraction_2 F) (F.bindsN fun _ _ _ _ _ _ us hl => match us, hl with | [_, _], _ => rfl)
theorem nice_Fraction_add : ∀ d : Rat × Num × Unit, qAdd d.1 d.2.1 = .stuck ∨ qAdd d.1 d.2.1 = m_Fraction_add d.1 d.2.1 := fun ⟨x, y, _⟩ => by
  cases y with
  | i n =>
      refine stuck_or fun h => ?_
      obtain ⟨hx, hn⟩ := h
      dsimp only at hx ⊢
      have hn := fits_int.mp hn
      simp only [m_Fraction_add, Res.ok_bind, Bool.not_true, Bool.not_false, Bool.false_eq_true, if_true, if_false, mul_fit hn (fd hx), mul_fit hx.1 hn, qMk_d hx, add_div1]
      rfl
  | q y =>
      refine stuck_or fun h => ?_
      obtain ⟨hx, hy⟩ := h
      dsimp only at hx ⊢
      have hy : fits y := hy
      simp only [m_Fraction_add, Res.ok_bind, Bool.not_true, Bool.not_false, Bool.false_eq_true, if_true, if_false, mul_fit hx.1 (fd hy), mul_fit hy.1 (fd hx), mul_fit (fd hx) (fd hy), mul_fit hx.1 hy.1, qMk_dd hx hy, add_divs]
      rfl
theorem sc_total_of : FnScope ["numbers", "total", "number"] ["numbers"] (defScope s_total_of) := ⟨rfl, rfl, rfl, by decide +kernel, rfl, by decide +kernel, by decide +kernel⟩
def m_total_of (p_numbers : (List Rat)) : Res Rat :=
  ((((Res.ok (0 : Int)).bind fun a847 => (Res.ok ()).bind fun b848 => .ok (a847, b848)).bind (fun d => qInt d.1)).bind fun v_total_845 => (((Res.ok p_numbers).bind fun l854 => forS (fun (i850 : Rat) (s849 : Rat) => (((Res.ok s849).bind fun a852 => (Res.ok i850).bind fun b853 => qAdd a852 (.q b853)).bind fun v_total_851 => (Res.ok v_total_851))) l854 v_total_845).bind fun s849 => (Res.ok s849)))
abbrev C_total_of (P : Program) (w : World) (K : PySem.W.Frag) (mg : Str → Option Value) (base : Heap) : Prop := FnR P w K mg base (L2.CX P w) 5 (He.ga K "total_of") (spF K (aCons (rdL K (rp (rFrac K))) aNil) (fun d => m_total_of d.1) (rp (rFrac K)))
theorem ok_total_of {P : Program} {w : World} {K : PySem.W.Frag} {mg : Str → Option Value} {base : Heap} (T : Txt K mg) (c_Fraction_1 : C_Fraction_1 P w K mg base) (c_Fraction_add : C_Fraction_add P w K mg base) {fd : FuncData} (F : FunD K "total_of" "total_of" (defArgs s_total_of) (defBody s_total_of) (defScope s_total_of) [] [] (He.ga K "total_of") fd) : FnOk P w K mg base (L2.CX P w) 5 (He.ga K "total_of") fd ["numbers"] (spF K (aCons (rdL K (rp (rFrac K))) aNil) (fun d => m_total_of d.1) (rp (rFrac K))) := by
  refine FunD.fn (k := 4) (N := ["numbers", "total", "number"]) (ps := ["numbers"]) F sc_total_of (fun I H vs d h => ?_) (fun cdv A outer s I0 H0 E vs d hr sm h => ?_)
  · obtain ⟨v0, _, rfl, h0, rfl⟩ := h; rfl
  obtain ⟨v0, _, rfl, h0, rfl⟩ := h
  have hx : ∀ {ctx : List (Option SF)} {mem : List MF} (I H : Hp) (σ : St) (d : Option Addr), Stt I0 H0 ctx mem I H σ → Fr H0 d → bK I0 H0 I H σ d := fun _ _ _ _ s f => ⟨s.fm, f⟩
  have tk : Takes (bx P w K mg base ["numbers", "total", "number"] "total_of" (defScope s_total_of) (He.ga K "total_of") cdv A outer s H0 E) (bW E) := takes_of rfl rfl rfl rfl
  have hp : PassesOwn (model P w) (bx P w K mg base ["numbers", "total", "number"] "total_of" (defScope s_total_of) (He.ga K "total_of") cdv A outer s H0 E).A (bx P w K mg base ["numbers", "total", "number"] "total_of" (defScope s_total_of) (He.ga K "total_of") cdv A outer s H0 E).env (bx P w K mg base ["numbers", "total", "number"] "total_of" (defScope s_total_of) (He.ga K "total_of") cdv A outer s H0 E).xe := passes_of rfl
  obtain ⟨p_numbers, _⟩ := d
  exact ⟨Stt I0 H0 [some (SF.mk (fun I v x => (rdL K (rp (rFrac K))) I H0 v x) p_numbers), none, none] [], Stt.start sm ⟨h0, ini_nil rfl⟩ rfl (by simp), (JR.seq (J1.cx (c' := fun v_total_845 => [some (SF.mk (fun I v x => (rdL K (rp (rFrac K))) I H0 v x) p_numbers), some (SF.mk (rFrac K) v_total_845), none]) (J1.set 1 (JE.call (JA.cons JE.int JA.nil) (c_Fraction_1 _ _ rfl rfl rfl rfl rfl (hr.mono (by decide)) tk) T.g_Fraction T.mk_Fraction.kp) hx sc_total_of.nd)) fun v_total_845 => (JR.seq (J1.forS (S := Rat) (cx := fun s849 => [some (SF.mk (fun I v x => (rdL K (rp (rFrac K))) I H0 v x) p_numbers), some (SF.mk (rFrac K) s849), none]) (me := fun s849 => []) (s0 := v_total_845) 2 hp (JI.par 0) (fun i850 s849 => JN.at (c' := [some (SF.mk (fun I v x => (rdL K (rp (rFrac K))) I H0 v x) p_numbers), some (SF.mk (rFrac K) s849), some (SF.mk (rFrac K) i850)]) (JN.seq (J1.cx (c' := fun v_total_851 => [some (SF.mk (fun I v x => (rdL K (rp (rFrac K))) I H0 v x) p_numbers), some (SF.mk (rFrac K) v_total_851), some (SF.mk (rFrac K) i850)]) (J1.set 1 (JE.bin (JE.var 1) (JE.var 2) (opj_qq (op := .Add) (g := fun d => qAdd d.1 d.2.1) T.o_Fraction T.om_Fraction_add c_Fraction_add (hr.mono (by decide)) tk)) hx sc_total_of.nd)) fun v_total_851 => (JN.nil (fun _ _ _ h => (Stt.weak h (weak_some (weak_some (weak_none weak_nil)))))))) hx (weak_some (weak_some (weak_none weak_nil))) sc_total_of.nd) fun s849 => (JR.ret (JE.var 1) hx)))⟩
theorem fn_total_of {P : Program} {w : World} {K : PySem.W.Frag} {mg : Str → Option Value} {base : Heap} (T : Txt K mg) (c_Fraction_1 : C_Fraction_1 P w K mg base) (c_Fraction_add : C_Fraction_add P w K mg base) : FnR P w K mg base (L2.CX P w) 5 (He.ga K "total_of") (spF K (aCons (rdL K (rp (rFrac K))) aNil) (fun d => m_total_of d.1) (rp (rFrac K))) := by
  obtain ⟨fd, F⟩ := T.F_total_of
  exact FnOk.fr0 (ok_total_of T c_Fraction_1 c_Fraction_add F) (F.bindsN fun _ _ _ _ _ _ us hl => match us, hl with | [_], _ => rfl)
theorem sc_Fraction_sub : FnScope ["self", "other"] ["self", "other"] (defScope s_Fraction_sub) := ⟨rfl, rfl, rfl, by decide +kernel, rfl, by decide +kernel, by decide +kernel⟩
def m_Fraction_sub (p_self : Rat) (p_other : Num) : Res Rat :=
  (match p_other with | .i p_other_i => (((Res.ok p_other_i).bind fun a898 => .ok true).bind fun x899 => if x899 = true then (((((Res.ok p_self).bind fun a900 => .ok a900.num).bind fun a904 => ((Res.ok p_other_i).bind fun a902 => ((Res.ok p_self).bind fun a901 => .ok (a901.den : Int)).bind fun b903 => mulI a902 b903).bind fun b905 => .ok (a904 - b905)).bind fun a911 => (((Res.ok p_self).bind fun a907 => .ok (a907.den : Int)).bind fun a909 => (Res.ok ()).bind fun b910 => .ok (a909, b910)).bind fun b912 => .ok (a911, b912)).bind (fun d => qMk d.1 d.2.1)) else .stuck) | .q p_other_q => (((Res.ok p_other_q).bind fun a914 => .ok false).bind fun x915 => if x915 = true then .stuck else ((((Res.ok p_other_q).bind fun a916 => .ok true).bind fun a917 => .ok (!a917)).bind fun x918 => if x918 = true then .stuck else ((((((Res.ok p_self).bind fun a919 => .ok a919.num).bind fun a921 => ((Res.ok p_other_q).bind fun a920 => .ok (a920.den : Int)).bind fun b922 => mulI a921 b922).bind fun a927 => (((Res.ok p_other_q).bind fun a923 => .ok a923.num).bind fun a925 => ((Res.ok p_self).bind fun a924 => .ok (a924.den : Int)).bind fun b926 => mulI a925 b926).bind fun b928 => .ok (a927 - b928)).bind fun a937 => ((((Res.ok p_self).bind fun a930 => .ok (a930.den : Int)).bind fun a932 => ((Res.ok p_other_q).bind fun a931 => .ok (a931.den : Int)).bind fun b933 => mulI a932 b933).bind fun a935 => (Res.ok ()).bind fun b936 => .ok (a935, b936)).bind fun b938 => .ok (a937, b938)).bind (fun d => qMk d.1 d.2.1)))))
abbrev C_Fraction_sub (P : Program) (w : World) (K : PySem.W.Frag) (mg : Str → Option Value) (base : Heap) : Prop := FnR P w K mg base (L2.CX P w) 4 (He.ma K (He.ga K "Fraction") "__sub__") (spF K (aCons (rp (rFrac K)) (aCons (rp (rNum K)) aNil)) (fun d => qSub d.1 d.2.1) (rp (rFrac K)))
theorem ok_Fraction_sub {P : Program} {w : World} {K : PySem.W.Frag} {mg : Str → Option Value} {base : Heap} (T : Txt K mg) (c_Fraction_2 : C_Fraction_2 P w K mg base) {fd : FuncData} (F : FunD K "__sub__" "Fraction.__sub__" (defArgs s_Fraction_sub) (defBody s_Fraction_sub) (defScope s_Fraction_sub) [] [] (He.ma K (He.ga K "Fraction") "__sub__") fd) : FnOk P w K mg base (L2.CX P w) 4 (He.ma K (He.ga K "Fraction") "__sub__") fd ["self", "other"] (spF K (aCons (rp (rFrac K)) (aCons (rp (rNum K)) aNil)) (fun d => m_Fraction_sub d.1 d.2.1) (rp (rFrac K))) := by
  refine FunD.fn (k := 3) (N := ["self", "other"]) (ps := ["self", "other"]) F sc_Fraction_sub (fun I H vs d h => ?_) (fun cdv A outer s I0 H0 E vs d hr sm h => ?_)
  · obtain ⟨v0, _, rfl, h0, v1, _, rfl, h1, rfl⟩ := h; rfl
  obtain ⟨v0, _, rfl, h0, v1, _, rfl, h1, rfl⟩ := h
  have hx : ∀ {ctx : List (Option SF)} {mem : List MF} (I H : Hp) (σ : St) (d : Option Addr), Stt I0 H0 ctx mem I H σ → Fr H0 d → bK I0 H0 I H σ d := fun _ _ _ _ s f => ⟨s.fm, f⟩
  have tk : Takes (bx P w K mg base ["self", "other"] "Fraction.__sub__" (defScope s_Fraction_sub) (He.ma K (He.ga K "Fraction") "__sub__") cdv A outer s H0 E) (bW E) := takes_of rfl rfl rfl rfl
  obtain ⟨p_self, p_other, _⟩ := d
  exact ⟨Stt I0 H0 [some (SF.mk (rFrac K) p_self), some (SF.mk (rNum K) p_other)] [], Stt.start sm ⟨h0, h1, ini_nil rfl⟩ rfl (by simp), (JR.num (K := K) 1 (fun p_other_i => JR.at (c' := [some (SF.mk (rFrac K) p_self), some (SF.mk rInt p_other_i)]) (JR.ifR (JT.of (JE.isi (JE.var 1) (w_type_at T.n_int (by decide +kernel) rfl (by decide) (by decide)) (.ty _) (tyr_int (t := "int") (by decide +kernel)) T.n_isinstance)) (JR.ret (JE.call (JA.cons (JE.bin (JE.fld (JE.var 0) fld_top T.o_Fraction.cl T.na_Fraction_top) (JE.bin (JE.var 1) (JE.fld (JE.var 0) fld_bottom T.o_Fraction.cl T.na_Fraction_bottom) opj_mul) opj_sub) (JA.cons (JE.fld (JE.var 0) fld_bottom T.o_Fraction.cl T.na_Fraction_bottom) JA.nil)) (c_Fraction_2 _ _ rfl rfl rfl rfl rfl (hr.mono (by decide)) tk) T.g_Fraction T.mk_Fraction.kp) hx) JR.dead hx)) (fun p_other_q => JR.at (c' := [some (SF.mk (rFrac K) p_self), some (SF.mk (rFrac K) p_other_q)]) (JR.ifR (JT.of (JE.isi (JE.var 1) (w_type_at T.n_int (by decide +kernel) rfl (by decide) (by decide)) (.ty _) (tyr_ins T.o_Fraction insF T.kT_Fraction_int) T.n_isinstance)) JR.dead (JR.ifR (JT.not (JT.of (JE.isi (JE.var 1) (w_glob_at T.g_Fraction rfl (by decide)) (.own _) (tyr_ins T.o_Fraction insF T.kt_Fraction_Fraction) T.n_isinstance))) JR.dead (JR.ret (JE.call (JA.cons (JE.bin (JE.bin (JE.fld (JE.var 0) fld_top T.o_Fraction.cl T.na_Fraction_top) (JE.fld (JE.var 1) fld_bottom T.o_Fraction.cl T.na_Fraction_bottom) opj_mul) (JE.bin (JE.fld (JE.var 1) fld_top T.o_Fraction.cl T.na_Fraction_top) (JE.fld (JE.var 0) fld_bottom T.o_Fraction.cl T.na_Fraction_bottom) opj_mul) opj_sub) (JA.cons (JE.bin (JE.fld (JE.var 0) fld_bottom T.o_Fraction.cl T.na_Fraction_bottom) (JE.fld (JE.var 1) fld_bottom T.o_Fraction.cl T.na_Fraction_bottom) opj_mul) JA.nil)) (c_Fraction_2 _ _ rfl rfl rfl rfl rfl (hr.mono (by decide)) tk) T.g_Fraction T.mk_Fraction.kp) hx) hx) hx)))⟩
theorem fn_Fraction_sub {P : Program} {w : World} {K : PySem.W.Frag} {mg : Str → Option Value} {base : Heap} (T : Txt K mg) (c_Fraction_2 : C_Fraction_2 P w K mg base) : FnR P w K mg base (L2.CX P w) 4 (He.ma K (He.ga K "Fraction") "__sub__") (spF K (aCons (rp (rFrac K)) (aCons (rp (rNum K)) aNil)) (fun d => m_Fraction_sub d.1 d.2.1) (rp (rFrac K))) := by
  obtain ⟨fd, F⟩ := T.F_Fraction_sub
  exact FnOk.fr0 (ok_Fraction_sub T c_Fraction_2 F) (F.bindsN fun _ _ _ _ _ _ us hl => match us, hl with | [_, _], _ => rfl)
theorem nice_Fraction_sub : ∀ d : Rat × Num × Unit, qSub d.1 d.2.1 = .stuck ∨ qSub d.1 d.2.1 = m_Fraction_sub d.1 d.2.1 := fun ⟨x, y, _⟩ => by
  cases y with
  | i n =>
      refine stuck_or fun h => ?_
      obtain ⟨hx, hn⟩ := h
      dsimp only at hx ⊢
      have hn := fits_int.mp hn
      simp only [m_Fraction_sub, Res.ok_bind, Bool.not_true, Bool.not_false, Bool.false_eq_true, if_true, if_false, mul_fit hn (fd hx), mul_fit hx.1 hn, qMk_d hx, sub_div1]
      rfl
  | q y =>
      refine stuck_or fun h => ?_
      obtain ⟨hx, hy⟩ := h
      dsimp only at hx ⊢
      have hy : fits y := hy
      simp only [m_Fraction_sub, Res.ok_bind, Bool.not_true, Bool.not_false, Bool.false_eq_true, if_true, if_false, mul_fit hx.1 (fd hy), mul_fit hy.1 (fd hx), mul_fit (fd hx) (fd hy), mul_fit hx.1 hy.1, qMk_dd hx hy, sub_divs]
      rfl
theorem sc_first_returns : FnScope ["readings", "returns", "t", "known", "k"] ["readings"] (defScope s_first_returns) := ⟨rfl, rfl, rfl, by decide +kernel, rfl, by decide +kernel, by decide +kernel⟩
def m_first_returns (p_readings : (List Num)) : Res (List Rat) :=
  ((((((Res.ok p_readings).bind fun a721 => (Res.ok ()).bind fun b722 => .ok (a721, b722)).bind (fun d => .ok (d.1.length : Int))).bind fun a723 => (Res.ok (0 : Int)).bind fun b724 => .ok (decide (a723 = b724))).bind fun a732 => if a732 = true then .ok true else (((((Res.ok p_readings).bind fun a725 => (Res.ok (0 : Int)).bind fun b726 => atM a725 b726).bind fun a728 => (Res.ok ()).bind fun b729 => .ok (a728, b729)).bind (fun d => qAs d.1)).bind fun a730 => (Res.ok (1 : Int)).bind fun b731 => (qEq a730 (.i b731)).bind fun z => .ok (!z))).bind fun x733 => if x733 = true then (Res.err ⟨"BadReadings", []⟩) else (((((Res.ok (0 : Int)).bind fun a736 => (Res.ok ()).bind fun b737 => .ok (a736, b737)).bind (fun d => qInt d.1)).bind fun a739 => (Res.ok []).bind fun b740 => .ok (a739 :: b740)).bind fun v_returns_734 => ((((Res.ok (1 : Int)).bind fun a746 => (((Res.ok p_readings).bind fun a744 => (Res.ok ()).bind fun b745 => .ok (a744, b745)).bind (fun d => .ok (d.1.length : Int))).bind fun b747 => rangeM a746 b747).bind fun l777 => forS (fun (i748 : Int) (s742 : (List Rat)) => ((((((Res.ok (1 : Int)).bind fun a750 => (Res.ok i748).bind fun b751 => rangeM a750 b751).bind fun l763 => lcR (fun (i752 : Int) => (((Res.ok s742).bind fun a754 => (Res.ok i752).bind fun b755 => atM a754 b755).bind fun a760 => ((Res.ok p_readings).bind fun a758 => ((Res.ok i748).bind fun a756 => (Res.ok i752).bind fun b757 => .ok (a756 - b757)).bind fun b759 => atM a758 b759).bind fun b761 => qMul a760 b761)) l763).bind fun a765 => (Res.ok ()).bind fun b766 => .ok (a765, b766)).bind (fun d => m_total_of d.1)).bind fun v_known_749 => (((((((Res.ok p_readings).bind fun a768 => (Res.ok i748).bind fun b769 => atM a768 b769).bind fun a771 => (Res.ok ()).bind fun b772 => .ok (a771, b772)).bind (fun d => qAs d.1)).bind fun a773 => (Res.ok v_known_749).bind fun b774 => qSub a773 (.q b774)).bind fun y776 => appM s742 y776).bind fun v_returns_767 => (Res.ok v_returns_767)))) l777 v_returns_734).bind fun s742 => (Res.ok s742))))
abbrev C_first_returns (P : Program) (w : World) (K : PySem.W.Frag) (mg : Str → Option Value) (base : Heap) : Prop := FnR P w K mg base (L2.CX P w) 7 (He.ga K "first_returns") (spN K (aCons (rdL K (rp (rNum K))) aNil) (fun d => m_first_returns d.1) (rFrac K))
theorem ok_first_returns {P : Program} {w : World} {K : PySem.W.Frag} {mg : Str → Option Value} {base : Heap} (T : Txt K mg) (c_as_fraction : C_as_fraction P w K mg base) (c_Fraction_eq : C_Fraction_eq P w K mg base) (c_Fraction_1 : C_Fraction_1 P w K mg base) (c_Fraction_mul : C_Fraction_mul P w K mg base) (c_total_of : C_total_of P w K mg base) (c_Fraction_sub : C_Fraction_sub P w K mg base) {fd : FuncData} (F : FunD K "first_returns" "first_returns" (defArgs s_first_returns) (defBody s_first_returns) (defScope s_first_returns) [] [] (He.ga K "first_returns") fd) : FnOk P w K mg base (L2.CX P w) 7 (He.ga K "first_returns") fd ["readings"] (spN K (aCons (rdL K (rp (rNum K))) aNil) (fun d => m_first_returns d.1) (rFrac K)) := by
  refine FunD.fnN (k := 6) (N := ["readings", "returns", "t", "known", "k"]) (ps := ["readings"]) F sc_first_returns (fun I H vs d h => ?_) (fun cdv A outer s I0 H0 E vs d hr sm h => ?_)
  · obtain ⟨v0, _, rfl, h0, rfl⟩ := h; rfl
  obtain ⟨v0, _, rfl, h0, rfl⟩ := h
  have hx : ∀ {ctx : List (Option SF)} {mem : List MF} (I H : Hp) (σ : St) (d : Option Addr), Stt I0 H0 ctx mem I H σ → Fr H0 d → bK I0 H0 I H σ d := fun _ _ _ _ s f => ⟨s.fm, f⟩
  have tk : Takes (bx P w K mg base ["readings", "returns", "t", "known", "k"] "first_returns" (defScope s_first_returns) (He.ga K "first_returns") cdv A outer s H0 E) (bW E) := takes_of rfl rfl rfl rfl
  have hp : PassesOwn (model P w) (bx P w K mg base ["readings", "returns", "t", "known", "k"] "first_returns" (defScope s_first_returns) (He.ga K "first_returns") cdv A outer s H0 E).A (bx P w K mg base ["readings", "returns", "t", "known", "k"] "first_returns" (defScope s_first_returns) (He.ga K "first_returns") cdv A outer s H0 E).env (bx P w K mg base ["readings", "returns", "t", "known", "k"] "first_returns" (defScope s_first_returns) (He.ga K "first_returns") cdv A outer s H0 E).xe := passes_of rfl
  obtain ⟨p_readings, _⟩ := d
  exact ⟨Stt I0 H0 [some (SF.mk (fun I v x => (rdL K (rp (rNum K))) I H0 v x) p_readings), none, none, none, none] [], Stt.start sm ⟨h0, ini_nil rfl⟩ rfl (by simp), (JR.ifR (JT.bool (JW.or (JT.cmp (JE.callB (JA.cons (JE.varP 0 (r := (rdL K (rp (rNum K))))) JA.nil) cj_len T.n_len boot_len) JE.int opj_eq) (JW.or1 (JT.cmp (JE.call (JA.cons (JE.ix (JE.varP 0 (r := (rdL K (rp (rNum K))))) JE.int) JA.nil) (cj_of c_as_fraction (hr.mono (by decide)) tk) T.g_as_fraction T.k_as_fraction) JE.int (opj_neqi (gb := fun d => qEq d.1 d.2.1) T.o_Fraction T.om_Fraction_eq T.nf_Fraction.2 c_Fraction_eq (hr.mono (by decide)) tk))))) (JR.raiseP rfl tk T.ex_BadReadings hx) (JR.seq (J1.cn (c' := fun v_returns_734 l741 => [some (SF.mk (fun I v x => (rdL K (rp (rNum K))) I H0 v x) p_readings), some (SF.mk (rRef l741) ()), none, none, none]) (me' := fun v_returns_734 l741 => [MF.lst l741 (rFrac K) v_returns_734]) (J1.setM 1 (JM.lst (r := (rFrac K)) (JA.consL (JE.call (JA.cons JE.int JA.nil) (c_Fraction_1 _ _ rfl rfl rfl rfl rfl (hr.mono (by decide)) tk) T.g_Fraction T.mk_Fraction.kp) JA.nilL)) hx sc_first_returns.nd)) fun v_returns_734 => JR.ex fun l741 => (JR.seq (J1.forS (S := (List Rat)) (cx := fun s742 => [some (SF.mk (fun I v x => (rdL K (rp (rNum K))) I H0 v x) p_readings), some (SF.mk (rRef l741) ()), none, none, none]) (me := fun s742 => [MF.lst l741 (rFrac K) s742]) (s0 := v_returns_734) 2 hp (JI.range2 JE.int (JE.callB (JA.cons (JE.varP 0 (r := (rdL K (rp (rNum K))))) JA.nil) cj_len T.n_len boot_len) T.n_range) (fun i748 s742 => JN.at (c' := [some (SF.mk (fun I v x => (rdL K (rp (rNum K))) I H0 v x) p_readings), some (SF.mk (rRef l741) ()), some (SF.mk rInt i748), none, none]) (JN.seq (J1.cx (c' := fun v_known_749 => [some (SF.mk (fun I v x => (rdL K (rp (rNum K))) I H0 v x) p_readings), some (SF.mk (rRef l741) ()), some (SF.mk rInt i748), some (SF.mk (rFrac K) v_known_749), none]) (J1.set 3 (JE.call (JA.cons (JE.rd (JE.ofM (JM.lcT (r := (rFrac K)) 4 (JI.range2 JE.int (JE.var 2) T.n_range) (fun _ _ _ _ _ D acc i752 tk753 => (JE.at (c' := [some (SF.mk (fun I v x => (rdL K (rp (rNum K))) I H0 v x) p_readings), some (SF.mk (rRef l741) ()), some (SF.mk rInt i748), none, some (SF.mk rInt i752)]) (JE.bin (JE.ix (JE.rdM 1 1) (JE.var 4)) (JE.ix (JE.varP 0 (r := (rdL K (rp (rNum K))))) (JE.bin (JE.var 2) (JE.var 4) opj_sub)) (opj_qn (g := fun d => qMul d.1 d.2.1) (opj_qq (op := .Mult) (g := fun d => qMul d.1 d.2.1) T.o_Fraction T.om_Fraction_mul c_Fraction_mul (hr.mono (by decide)) tk753) (opj_qi (op := .Mult) (g := fun d => qMul d.1 d.2.1) T.o_Fraction T.om_Fraction_mul T.om_Fraction_rmul T.im_mul.choose_spec T.im_rmul.choose_spec c_Fraction_mul (hr.mono (by decide)) tk753))))) sc_first_returns.nd (blkok_of (by kernel_rfl))))) JA.nil) (cj_of c_total_of (hr.mono (by decide)) tk) T.g_total_of T.k_total_of) hx sc_first_returns.nd)) fun v_known_749 => (JN.seq (J1.cm (c' := fun v_returns_767 => [some (SF.mk (fun I v x => (rdL K (rp (rNum K))) I H0 v x) p_readings), some (SF.mk (rRef l741) ()), some (SF.mk rInt i748), some (SF.mk (rFrac K) v_known_749), none]) (me' := fun v_returns_767 => [MF.lst l741 (rFrac K) v_returns_767]) (J1.app 1 0 (JE.bin (JE.call (JA.cons (JE.ix (JE.varP 0 (r := (rdL K (rp (rNum K))))) (JE.var 2)) JA.nil) (cj_of c_as_fraction (hr.mono (by decide)) tk) T.g_as_fraction T.k_as_fraction) (JE.var 3) (opj_qq (op := .Sub) (g := fun d => qSub d.1 d.2.1) T.o_Fraction T.om_Fraction_sub c_Fraction_sub (hr.mono (by decide)) tk)) hx)) fun v_returns_767 => (JN.nil (fun _ _ _ h => (Stt.weak h (weak_some (weak_some (weak_none (weak_none (weak_none weak_nil))))))))))) hx (weak_some (weak_some (weak_none (weak_none (weak_none weak_nil))))) sc_first_returns.nd) fun s742 => (JR.retC 1 0))) hx)⟩
theorem fn_first_returns {P : Program} {w : World} {K : PySem.W.Frag} {mg : Str → Option Value} {base : Heap} (T : Txt K mg) (c_as_fraction : C_as_fraction P w K mg base) (c_Fraction_eq : C_Fraction_eq P w K mg base) (c_Fraction_1 : C_Fraction_1 P w K mg base) (c_Fraction_mul : C_Fraction_mul P w K mg base) (c_total_of : C_total_of P w K mg base) (c_Fraction_sub : C_Fraction_sub P w K mg base) : FnR P w K mg base (L2.CX P w) 7 (He.ga K "first_returns") (spN K (aCons (rdL K (rp (rNum K))) aNil) (fun d => m_first_returns d.1) (rFrac K)) := by
  obtain ⟨fd, F⟩ := T.F_first_returns
  exact FnOk.frN0 (ok_first_returns T c_as_fraction c_Fraction_eq c_Fraction_1 c_Fraction_mul c_total_of c_Fraction_sub F) (F.bindsN fun _ _ _ _ _ _ us hl => match us, hl with | [_], _ => rfl)
abbrev C_first_returns_0_readings (P : Program) (w : World) (K : PySem.W.Frag) (mg : Str → Option Value) (base : Heap) : Prop := MkKN P w K mg base 7 (He.ga K "first_returns") ["readings"] aNil (aCons (rdL K (rp (rNum K))) aNil) (fun (x : (Unit)) (y : ((List Num) × Unit)) => m_first_returns y.1) (rFrac K)
theorem fn_first_returns_0_readings {P : Program} {w : World} {K : PySem.W.Frag} {mg : Str → Option Value} {base : Heap} (T : Txt K mg) (c_as_fraction : C_as_fraction P w K mg base) (c_Fraction_eq : C_Fraction_eq P w K mg base) (c_Fraction_1 : C_Fraction_1 P w K mg base) (c_Fraction_mul : C_Fraction_mul P w K mg base) (c_total_of : C_total_of P w K mg base) (c_Fraction_sub : C_Fraction_sub P w K mg base) : C_first_returns_0_readings P w K mg base := by
  obtain ⟨fd, F⟩ := T.F_first_returns
  have hb := kbindsN (ps := ["readings"]) F 0 ["readings"] (fun us ws => us ++ ws) (fun a c => a.append c) fun kV doc pm an cdv ct us ws hl hw => match us, hl, ws, hw with | [], _, [_], _ => rfl
  exact fun X W e1 e2 e3 e4 e5 hr tk => by
    subst e1; subst e2; subst e3; subst e4; subst e5
    exact cjk_fnN (n := 0) (R := aNil) (R' := (aCons (rdL X.K (rp (rNum X.K))) aNil)) (m := (fun d => m_first_returns d.1)) (h := fun (x : (Unit)) (y : ((List Num) × Unit)) => (y.1, ())) (ok_first_returns T c_as_fraction c_Fraction_eq c_Fraction_1 c_Fraction_mul c_total_of c_Fraction_sub F) hr hb tk fun I H vs zs x y r r' => by
      obtain rfl := r
      obtain ⟨w0, _, rfl, k0, rfl⟩ := r'
      exact ⟨rfl, rfl, _, _, rfl, k0, rfl⟩
theorem sc_law_is : FnScope ["_law_actual", "_law_pair", "_law_part"] ["_law_actual", "_law_pair"] (defScope s_law_is) := ⟨rfl, rfl, rfl, by decide +kernel, rfl, by decide +kernel, by decide +kernel⟩
def m_law_is (p_law_actual : Rat) (p_law_pair : (Int × Int × Unit)) : Res Bool :=
  ((((Res.ok p_law_actual).bind fun a975 => .ok true).bind fun a976 => .ok (!a976)).bind fun x977 => if x977 = true then .stuck else (((((Res.ok p_law_actual).bind fun a979 => .ok a979.num).bind fun a985 => (((Res.ok p_law_actual).bind fun a980 => .ok (a980.den : Int)).bind fun a982 => (Res.ok []).bind fun b983 => .ok (a982 :: b983)).bind fun b986 => .ok (a985 :: b986)).bind fun l995 => (forG (fun (i987 : Int) (s978 : Unit) => ((((((Res.ok i987).bind fun a988 => .ok true).bind fun a989 => .ok (!a989)).bind fun a991 => if a991 = true then .ok true else ((Res.ok i987).bind fun a990 => .ok false)).bind fun x992 => if x992 = true then ((Res.ok false).bind fun r994 => .ok (Fl.rt r994)) else (Res.ok (Fl.nx ()))) : Res (Fl Unit Unit Bool))) l995 () : Res (Fl Unit Unit Bool))).bind (Fl.out fun s978 => ((((Res.ok p_law_actual).bind fun a996 => .ok (a996.den : Int)).bind fun a997 => (Res.ok (1 : Int)).bind fun b998 => .ok (decide (a997 ≥ b998))).bind fun a1009 => if a1009 = true then ((((Res.ok p_law_actual).bind fun a999 => .ok a999.num).bind fun a1001 => ((Res.ok p_law_pair).bind fun a1000 => .ok a1000.2.1).bind fun b1002 => mulI a1001 b1002).bind fun a1007 => (((Res.ok p_law_pair).bind fun a1003 => .ok a1003.1).bind fun a1005 => ((Res.ok p_law_actual).bind fun a1004 => .ok (a1004.den : Int)).bind fun b1006 => mulI a1005 b1006).bind fun b1008 => .ok (decide (a1007 = b1008))) else .ok false))))
abbrev C_law_is (P : Program) (w : World) (K : PySem.W.Frag) (mg : Str → Option Value) (base : Heap) : Prop := FnR P w K mg base (L2.CX P w) 1 (He.ga K "_law_is") (spF K (aCons (rp (rFrac K)) (aCons (rp (rTu (aCons (rp rInt) (aCons (rp rInt) aNil)))) aNil)) (fun d => m_law_is d.1 d.2.1) (rp rBl))
theorem ok_law_is {P : Program} {w : World} {K : PySem.W.Frag} {mg : Str → Option Value} {base : Heap} (T : Txt K mg) {fd : FuncData} (F : FunD K "_law_is" "_law_is" (defArgs s_law_is) (defBody s_law_is) (defScope s_law_is) [] [] (He.ga K "_law_is") fd) : FnOk P w K mg base (L2.CX P w) 1 (He.ga K "_law_is") fd ["_law_actual", "_law_pair"] (spF K (aCons (rp (rFrac K)) (aCons (rp (rTu (aCons (rp rInt) (aCons (rp rInt) aNil)))) aNil)) (fun d => m_law_is d.1 d.2.1) (rp rBl)) := by
  refine FunD.fn (k := 0) (N := ["_law_actual", "_law_pair", "_law_part"]) (ps := ["_law_actual", "_law_pair"]) F sc_law_is (fun I H vs d h => ?_) (fun cdv A outer s I0 H0 E vs d hr sm h => ?_)
  · obtain ⟨v0, _, rfl, h0, v1, _, rfl, h1, rfl⟩ := h; rfl
  obtain ⟨v0, _, rfl, h0, v1, _, rfl, h1, rfl⟩ := h
  have hx : ∀ {ctx : List (Option SF)} {mem : List MF} (I H : Hp) (σ : St) (d : Option Addr), Stt I0 H0 ctx mem I H σ → Fr H0 d → bK I0 H0 I H σ d := fun _ _ _ _ s f => ⟨s.fm, f⟩
  have tk : Takes (bx P w K mg base ["_law_actual", "_law_pair", "_law_part"] "_law_is" (defScope s_law_is) (He.ga K "_law_is") cdv A outer s H0 E) (bW E) := takes_of rfl rfl rfl rfl
  have hp : PassesOwn (model P w) (bx P w K mg base ["_law_actual", "_law_pair", "_law_part"] "_law_is" (defScope s_law_is) (He.ga K "_law_is") cdv A outer s H0 E).A (bx P w K mg base ["_law_actual", "_law_pair", "_law_part"] "_law_is" (defScope s_law_is) (He.ga K "_law_is") cdv A outer s H0 E).env (bx P w K mg base ["_law_actual", "_law_pair", "_law_part"] "_law_is" (defScope s_law_is) (He.ga K "_law_is") cdv A outer s H0 E).xe := passes_of rfl
  obtain ⟨p_law_actual, p_law_pair, _⟩ := d
  exact ⟨Stt I0 H0 [some (SF.mk (rFrac K) p_law_actual), some (SF.mk (rTu (aCons (rp rInt) (aCons (rp rInt) aNil))) p_law_pair), none] [], Stt.start sm ⟨h0, h1, ini_nil rfl⟩ rfl (by simp), (JR.ifR (JT.not (JT.of (JE.isi (JE.var 0) (w_glob_at T.g_Fraction rfl (by decide)) (.own _) (tyr_ins T.o_Fraction insF T.kt_Fraction_Fraction) T.n_isinstance))) JR.dead (JR.seqG (GL := fun _ _ _ _ => False) (J1G.forG (S := Unit) (cx := fun s978 => [some (SF.mk (rFrac K) p_law_actual), some (SF.mk (rTu (aCons (rp rInt) (aCons (rp rInt) aNil))) p_law_pair), none]) (me := fun s978 => []) (s0 := ()) 2 hp (JI.list (JE.ofM (JM.lst (r := rInt) (JA.consL (JE.fld (JE.var 0) fld_top T.o_Fraction.cl T.na_Fraction_top) (JA.consL (JE.fld (JE.var 0) fld_bottom T.o_Fraction.cl T.na_Fraction_bottom) JA.nilL))))) (fun i987 s978 => JG.at (c' := [some (SF.mk (rFrac K) p_law_actual), some (SF.mk (rTu (aCons (rp rInt) (aCons (rp rInt) aNil))) p_law_pair), some (SF.mk rInt i987)]) (JG.ifT (JT.bool (JW.or (JT.not (JT.of (JE.isi (JE.var 2) (w_type_at T.n_int (by decide +kernel) rfl (by decide) (by decide)) (.ty _) (tyr_int (t := "int") (by decide +kernel)) T.n_isinstance))) (JW.or1 (JT.of (JE.isi (JE.var 2) (w_type_at T.n_bool (by decide +kernel) rfl (by decide) (by decide)) (.ty _) (tyr_int (t := "bool") (by decide +kernel)) T.n_isinstance))))) (JG.rt (JR.ret JE.bl hx)) (JG.nil (fun _ _ _ h => (Stt.weak h (weak_some (weak_some (weak_none weak_nil)))))) hx)) hx (weak_some (weak_some (weak_none weak_nil))) sc_law_is.nd) fun s978 => (JR.ret (JE.and (JE.cmp (JE.fld (JE.var 0) fld_bottom T.o_Fraction.cl T.na_Fraction_bottom) JE.int opj_ge) (JE.one (JE.cmp (JE.bin (JE.fld (JE.var 0) fld_top T.o_Fraction.cl T.na_Fraction_top) (JE.ixD 1 (JE.var 1) (AtR.succ AtR.zero)) opj_mul) (JE.bin (JE.ixD 0 (JE.var 1) AtR.zero) (JE.fld (JE.var 0) fld_bottom T.o_Fraction.cl T.na_Fraction_bottom) opj_mul) opj_eq))) hx)) hx)⟩
theorem fn_law_is {P : Program} {w : World} {K : PySem.W.Frag} {mg : Str → Option Value} {base : Heap} (T : Txt K mg) : FnR P w K mg base (L2.CX P w) 1 (He.ga K "_law_is") (spF K (aCons (rp (rFrac K)) (aCons (rp (rTu (aCons (rp rInt) (aCons (rp rInt) aNil)))) aNil)) (fun d => m_law_is d.1 d.2.1) (rp rBl)) := by
  obtain ⟨fd, F⟩ := T.F_law_is
  exact FnOk.fr0 (ok_law_is T F) (F.bindsN fun _ _ _ _ _ _ us hl => match us, hl with | [_, _], _ => rfl)
theorem sc_law_listed : FnScope ["_law_actual", "_law_pairs", "_law_k"] ["_law_actual", "_law_pairs"] (defScope s_law_listed) := ⟨rfl, rfl, rfl, by decide +kernel, rfl, by decide +kernel, by decide +kernel⟩
def m_law_listed (p_law_actual : (List Rat)) (p_law_pairs : (List (Int × Int × Unit))) : Res Bool :=
  (((((Res.ok p_law_actual).bind fun a940 => .ok true).bind fun a941 => .ok (!a941)).bind fun a950 => if a950 = true then .ok true else ((((Res.ok p_law_actual).bind fun a943 => (Res.ok ()).bind fun b944 => .ok (a943, b944)).bind (fun d => .ok (d.1.length : Int))).bind fun a948 => (((Res.ok p_law_pairs).bind fun a946 => (Res.ok ()).bind fun b947 => .ok (a946, b947)).bind (fun d => .ok (d.1.length : Int))).bind fun b949 => .ok (!decide (a948 = b949)))).bind fun x951 => if x951 = true then (Res.ok false) else ((((((Res.ok p_law_pairs).bind fun a955 => (Res.ok ()).bind fun b956 => .ok (a955, b956)).bind (fun d => .ok (d.1.length : Int))).bind fun a957 => rangeM1 a957).bind fun l973 => (forG (fun (i958 : Int) (s953 : Unit) => (((((((Res.ok p_law_actual).bind fun a959 => (Res.ok i958).bind fun b960 => atM a959 b960).bind fun a967 => (((Res.ok p_law_pairs).bind fun a962 => (Res.ok i958).bind fun b963 => atM a962 b963).bind fun a965 => (Res.ok ()).bind fun b966 => .ok (a965, b966)).bind fun b968 => .ok (a967, b968)).bind (fun d => m_law_is d.1 d.2.1)).bind fun a969 => .ok (!a969)).bind fun x970 => if x970 = true then ((Res.ok false).bind fun r972 => .ok (Fl.rt r972)) else (Res.ok (Fl.nx ()))) : Res (Fl Unit Unit Bool))) l973 () : Res (Fl Unit Unit Bool))).bind (Fl.out fun s953 => (Res.ok true))))
abbrev C_law_listed (P : Program) (w : World) (K : PySem.W.Frag) (mg : Str → Option Value) (base : Heap) : Prop := FnR P w K mg base (L2.CX P w) 2 (He.ga K "_law_listed") (spF K (aCons (rH (rFrac K)) (aCons (rdL K (rp (rTu (aCons (rp rInt) (aCons (rp rInt) aNil))))) aNil)) (fun d => m_law_listed d.1 d.2.1) (rp rBl))
theorem ok_law_listed {P : Program} {w : World} {K : PySem.W.Frag} {mg : Str → Option Value} {base : Heap} (T : Txt K mg) (c_law_is : C_law_is P w K mg base) {fd : FuncData} (F : FunD K "_law_listed" "_law_listed" (defArgs s_law_listed) (defBody s_law_listed) (defScope s_law_listed) [] [] (He.ga K "_law_listed") fd) : FnOk P w K mg base (L2.CX P w) 2 (He.ga K "_law_listed") fd ["_law_actual", "_law_pairs"] (spF K (aCons (rH (rFrac K)) (aCons (rdL K (rp (rTu (aCons (rp rInt) (aCons (rp rInt) aNil))))) aNil)) (fun d => m_law_listed d.1 d.2.1) (rp rBl)) := by
  refine FunD.fn (k := 1) (N := ["_law_actual", "_law_pairs", "_law_k"]) (ps := ["_law_actual", "_law_pairs"]) F sc_law_listed (fun I H vs d h => ?_) (fun cdv A outer s I0 H0 E vs d hr sm h => ?_)
  · obtain ⟨v0, _, rfl, h0, v1, _, rfl, h1, rfl⟩ := h; rfl
  obtain ⟨v0, _, rfl, h0, v1, _, rfl, h1, rfl⟩ := h
  have hx : ∀ {ctx : List (Option SF)} {mem : List MF} (I H : Hp) (σ : St) (d : Option Addr), Stt I0 H0 ctx mem I H σ → Fr H0 d → bK I0 H0 I H σ d := fun _ _ _ _ s f => ⟨s.fm, f⟩
  have tk : Takes (bx P w K mg base ["_law_actual", "_law_pairs", "_law_k"] "_law_listed" (defScope s_law_listed) (He.ga K "_law_listed") cdv A outer s H0 E) (bW E) := takes_of rfl rfl rfl rfl
  have hp : PassesOwn (model P w) (bx P w K mg base ["_law_actual", "_law_pairs", "_law_k"] "_law_listed" (defScope s_law_listed) (He.ga K "_law_listed") cdv A outer s H0 E).A (bx P w K mg base ["_law_actual", "_law_pairs", "_law_k"] "_law_listed" (defScope s_law_listed) (He.ga K "_law_listed") cdv A outer s H0 E).env (bx P w K mg base ["_law_actual", "_law_pairs", "_law_k"] "_law_listed" (defScope s_law_listed) (He.ga K "_law_listed") cdv A outer s H0 E).xe := passes_of rfl
  obtain ⟨p_law_actual, p_law_pairs, _⟩ := d
  exact ⟨Stt I0 H0 [some (SF.mk (fun I v x => (rH (rFrac K)) I H0 v x) p_law_actual), some (SF.mk (fun I v x => (rdL K (rp (rTu (aCons (rp rInt) (aCons (rp rInt) aNil))))) I H0 v x) p_law_pairs), none] [], Stt.start sm ⟨h0, h1, ini_nil rfl⟩ rfl (by simp), (JR.ifR (JT.bool (JW.or (JT.not (JT.of (JE.isi (JE.varP 0 (r := (rH (rFrac K)))) (w_type_at T.n_list (by decide +kernel) rfl (by decide) (by decide)) (.ty _) (tyr_listH (t := "list") (by decide +kernel)) T.n_isinstance))) (JW.or1 (JT.cmp (JE.callB (JA.cons (JE.hrd (JE.varP 0 (r := (rH (rFrac K))))) JA.nil) cj_len T.n_len boot_len) (JE.callB (JA.cons (JE.varP 1 (r := (rdL K (rp (rTu (aCons (rp rInt) (aCons (rp rInt) aNil))))))) JA.nil) cj_len T.n_len boot_len) opj_ne)))) (JR.ret JE.bl hx) (JR.seqG (GL := fun _ _ _ _ => False) (J1G.forG (S := Unit) (cx := fun s953 => [some (SF.mk (fun I v x => (rH (rFrac K)) I H0 v x) p_law_actual), some (SF.mk (fun I v x => (rdL K (rp (rTu (aCons (rp rInt) (aCons (rp rInt) aNil))))) I H0 v x) p_law_pairs), none]) (me := fun s953 => []) (s0 := ()) 2 hp (JI.range1 (JE.callB (JA.cons (JE.varP 1 (r := (rdL K (rp (rTu (aCons (rp rInt) (aCons (rp rInt) aNil))))))) JA.nil) cj_len T.n_len boot_len) T.n_range) (fun i958 s953 => JG.at (c' := [some (SF.mk (fun I v x => (rH (rFrac K)) I H0 v x) p_law_actual), some (SF.mk (fun I v x => (rdL K (rp (rTu (aCons (rp rInt) (aCons (rp rInt) aNil))))) I H0 v x) p_law_pairs), some (SF.mk rInt i958)]) (JG.ifT (JT.not (JT.of (JE.call (JA.cons (JE.ix (JE.hrd (JE.varP 0 (r := (rH (rFrac K))))) (JE.var 2)) (JA.cons (JE.ix (JE.varP 1 (r := (rdL K (rp (rTu (aCons (rp rInt) (aCons (rp rInt) aNil))))))) (JE.var 2)) JA.nil)) (cj_of c_law_is (hr.mono (by decide)) tk) T.g_law_is T.k_law_is))) (JG.rt (JR.ret JE.bl hx)) (JG.nil (fun _ _ _ h => (Stt.weak h (weak_some (weak_some (weak_none weak_nil)))))) hx)) hx (weak_some (weak_some (weak_none weak_nil))) sc_law_listed.nd) fun s953 => (JR.ret JE.bl hx)) hx)⟩
theorem fn_law_listed {P : Program} {w : World} {K : PySem.W.Frag} {mg : Str → Option Value} {base : Heap} (T : Txt K mg) (c_law_is : C_law_is P w K mg base) : FnR P w K mg base (L2.CX P w) 2 (He.ga K "_law_listed") (spF K (aCons (rH (rFrac K)) (aCons (rdL K (rp (rTu (aCons (rp rInt) (aCons (rp rInt) aNil))))) aNil)) (fun d => m_law_listed d.1 d.2.1) (rp rBl)) := by
  obtain ⟨fd, F⟩ := T.F_law_listed
  exact FnOk.fr0 (ok_law_listed T c_law_is F) (F.bindsN fun _ _ _ _ _ _ us hl => match us, hl with | [_, _], _ => rfl)
theorem sc_returned : FnScope ["returns", "readings", "t", "k"] ["returns"] (defScope s_returned) := ⟨rfl, rfl, rfl, by decide +kernel, rfl, by decide +kernel, by decide +kernel⟩
def m_returned (p_returns : (List Num)) : Res (List Rat) :=
  ((((((Res.ok p_returns).bind fun a1012 => (Res.ok ()).bind fun b1013 => .ok (a1012, b1013)).bind (fun d => .ok (d.1.length : Int))).bind fun a1014 => (Res.ok (0 : Int)).bind fun b1015 => .ok (decide (a1014 = b1015))).bind fun a1023 => if a1023 = true then .ok true else (((((Res.ok p_returns).bind fun a1016 => (Res.ok (0 : Int)).bind fun b1017 => atM a1016 b1017).bind fun a1019 => (Res.ok ()).bind fun b1020 => .ok (a1019, b1020)).bind (fun d => qAs d.1)).bind fun a1021 => (Res.ok (0 : Int)).bind fun b1022 => (qEq a1021 (.i b1022)).bind fun z => .ok (!z))).bind fun x1024 => if x1024 = true then (Res.err ⟨"BadReadings", []⟩) else (((((Res.ok (1 : Int)).bind fun a1027 => (Res.ok ()).bind fun b1028 => .ok (a1027, b1028)).bind (fun d => qInt d.1)).bind fun a1030 => (Res.ok []).bind fun b1031 => .ok (a1030 :: b1031)).bind fun v_readings_1025 => ((((Res.ok (1 : Int)).bind fun a1037 => (((Res.ok p_returns).bind fun a1035 => (Res.ok ()).bind fun b1036 => .ok (a1035, b1036)).bind (fun d => .ok (d.1.length : Int))).bind fun b1038 => rangeM a1037 b1038).bind fun l1062 => forS (fun (i1039 : Int) (s1033 : (List Rat)) => (((((((Res.ok (1 : Int)).bind fun a1043 => ((Res.ok i1039).bind fun a1041 => (Res.ok (1 : Int)).bind fun b1042 => .ok (a1041 + b1042)).bind fun b1044 => rangeM a1043 b1044).bind fun l1056 => lcR (fun (i1045 : Int) => (((Res.ok s1033).bind fun a1049 => ((Res.ok i1039).bind fun a1047 => (Res.ok i1045).bind fun b1048 => .ok (a1047 - b1048)).bind fun b1050 => atM a1049 b1050).bind fun a1053 => ((Res.ok p_returns).bind fun a1051 => (Res.ok i1045).bind fun b1052 => atM a1051 b1052).bind fun b1054 => qMul a1053 b1054)) l1056).bind fun a1058 => (Res.ok ()).bind fun b1059 => .ok (a1058, b1059)).bind (fun d => m_total_of d.1)).bind fun y1061 => appM s1033 y1061).bind fun v_readings_1040 => (Res.ok v_readings_1040))) l1062 v_readings_1025).bind fun s1033 => (Res.ok s1033))))
abbrev C_returned (P : Program) (w : World) (K : PySem.W.Frag) (mg : Str → Option Value) (base : Heap) : Prop := FnR P w K mg base (L2.CX P w) 7 (He.ga K "returned") (spN K (aCons (rdL K (rp (rNum K))) aNil) (fun d => m_returned d.1) (rFrac K))
theorem ok_returned {P : Program} {w : World} {K : PySem.W.Frag} {mg : Str → Option Value} {base : Heap} (T : Txt K mg) (c_as_fraction : C_as_fraction P w K mg base) (c_Fraction_eq : C_Fraction_eq P w K mg base) (c_Fraction_1 : C_Fraction_1 P w K mg base) (c_Fraction_mul : C_Fraction_mul P w K mg base) (c_total_of : C_total_of P w K mg base) {fd : FuncData} (F : FunD K "returned" "returned" (defArgs s_returned) (defBody s_returned) (defScope s_returned) [] [] (He.ga K "returned") fd) : FnOk P w K mg base (L2.CX P w) 7 (He.ga K "returned") fd ["returns"] (spN K (aCons (rdL K (rp (rNum K))) aNil) (fun d => m_returned d.1) (rFrac K)) := by
  refine FunD.fnN (k := 6) (N := ["returns", "readings", "t", "k"]) (ps := ["returns"]) F sc_returned (fun I H vs d h => ?_) (fun cdv A outer s I0 H0 E vs d hr sm h => ?_)
  · obtain ⟨v0, _, rfl, h0, rfl⟩ := h; rfl
  obtain ⟨v0, _, rfl, h0, rfl⟩ := h
  have hx : ∀ {ctx : List (Option SF)} {mem : List MF} (I H : Hp) (σ : St) (d : Option Addr), Stt I0 H0 ctx mem I H σ → Fr H0 d → bK I0 H0 I H σ d := fun _ _ _ _ s f => ⟨s.fm, f⟩
  have tk : Takes (bx P w K mg base ["returns", "readings", "t", "k"] "returned" (defScope s_returned) (He.ga K "returned") cdv A outer s H0 E) (bW E) := takes_of rfl rfl rfl rfl
  have hp : PassesOwn (model P w) (bx P w K mg base ["returns", "readings", "t", "k"] "returned" (defScope s_returned) (He.ga K "returned") cdv A outer s H0 E).A (bx P w K mg base ["returns", "readings", "t", "k"] "returned" (defScope s_returned) (He.ga K "returned") cdv A outer s H0 E).env (bx P w K mg base ["returns", "readings", "t", "k"] "returned" (defScope s_returned) (He.ga K "returned") cdv A outer s H0 E).xe := passes_of rfl
  obtain ⟨p_returns, _⟩ := d
  exact ⟨Stt I0 H0 [some (SF.mk (fun I v x => (rdL K (rp (rNum K))) I H0 v x) p_returns), none, none, none] [], Stt.start sm ⟨h0, ini_nil rfl⟩ rfl (by simp), (JR.ifR (JT.bool (JW.or (JT.cmp (JE.callB (JA.cons (JE.varP 0 (r := (rdL K (rp (rNum K))))) JA.nil) cj_len T.n_len boot_len) JE.int opj_eq) (JW.or1 (JT.cmp (JE.call (JA.cons (JE.ix (JE.varP 0 (r := (rdL K (rp (rNum K))))) JE.int) JA.nil) (cj_of c_as_fraction (hr.mono (by decide)) tk) T.g_as_fraction T.k_as_fraction) JE.int (opj_neqi (gb := fun d => qEq d.1 d.2.1) T.o_Fraction T.om_Fraction_eq T.nf_Fraction.2 c_Fraction_eq (hr.mono (by decide)) tk))))) (JR.raiseP rfl tk T.ex_BadReadings hx) (JR.seq (J1.cn (c' := fun v_readings_1025 l1032 => [some (SF.mk (fun I v x => (rdL K (rp (rNum K))) I H0 v x) p_returns), some (SF.mk (rRef l1032) ()), none, none]) (me' := fun v_readings_1025 l1032 => [MF.lst l1032 (rFrac K) v_readings_1025]) (J1.setM 1 (JM.lst (r := (rFrac K)) (JA.consL (JE.call (JA.cons JE.int JA.nil) (c_Fraction_1 _ _ rfl rfl rfl rfl rfl (hr.mono (by decide)) tk) T.g_Fraction T.mk_Fraction.kp) JA.nilL)) hx sc_returned.nd)) fun v_readings_1025 => JR.ex fun l1032 => (JR.seq (J1.forS (S := (List Rat)) (cx := fun s1033 => [some (SF.mk (fun I v x => (rdL K (rp (rNum K))) I H0 v x) p_returns), some (SF.mk (rRef l1032) ()), none, none]) (me := fun s1033 => [MF.lst l1032 (rFrac K) s1033]) (s0 := v_readings_1025) 2 hp (JI.range2 JE.int (JE.callB (JA.cons (JE.varP 0 (r := (rdL K (rp (rNum K))))) JA.nil) cj_len T.n_len boot_len) T.n_range) (fun i1039 s1033 => JN.at (c' := [some (SF.mk (fun I v x => (rdL K (rp (rNum K))) I H0 v x) p_returns), some (SF.mk (rRef l1032) ()), some (SF.mk rInt i1039), none]) (JN.seq (J1.cm (c' := fun v_readings_1040 => [some (SF.mk (fun I v x => (rdL K (rp (rNum K))) I H0 v x) p_returns), some (SF.mk (rRef l1032) ()), some (SF.mk rInt i1039), none]) (me' := fun v_readings_1040 => [MF.lst l1032 (rFrac K) v_readings_1040]) (J1.app 1 0 (JE.call (JA.cons (JE.rd (JE.ofM (JM.lcT (r := (rFrac K)) 3 (JI.range2 JE.int (JE.bin (JE.var 2) JE.int opj_add) T.n_range) (fun _ _ _ _ _ D acc i1045 tk1046 => (JE.at (c' := [some (SF.mk (fun I v x => (rdL K (rp (rNum K))) I H0 v x) p_returns), some (SF.mk (rRef l1032) ()), some (SF.mk rInt i1039), some (SF.mk rInt i1045)]) (JE.bin (JE.ix (JE.rdM 1 1) (JE.bin (JE.var 2) (JE.var 3) opj_sub)) (JE.ix (JE.varP 0 (r := (rdL K (rp (rNum K))))) (JE.var 3)) (opj_qn (g := fun d => qMul d.1 d.2.1) (opj_qq (op := .Mult) (g := fun d => qMul d.1 d.2.1) T.o_Fraction T.om_Fraction_mul c_Fraction_mul (hr.mono (by decide)) tk1046) (opj_qi (op := .Mult) (g := fun d => qMul d.1 d.2.1) T.o_Fraction T.om_Fraction_mul T.om_Fraction_rmul T.im_mul.choose_spec T.im_rmul.choose_spec c_Fraction_mul (hr.mono (by decide)) tk1046))))) sc_returned.nd (blkok_of (by kernel_rfl))))) JA.nil) (cj_of c_total_of (hr.mono (by decide)) tk) T.g_total_of T.k_total_of) hx)) fun v_readings_1040 => (JN.nil (fun _ _ _ h => (Stt.weak h (weak_some (weak_some (weak_none (weak_none weak_nil))))))))) hx (weak_some (weak_some (weak_none (weak_none weak_nil)))) sc_returned.nd) fun s1033 => (JR.retC 1 0))) hx)⟩
theorem fn_returned {P : Program} {w : World} {K : PySem.W.Frag} {mg : Str → Option Value} {base : Heap} (T : Txt K mg) (c_as_fraction : C_as_fraction P w K mg base) (c_Fraction_eq : C_Fraction_eq P w K mg base) (c_Fraction_1 : C_Fraction_1 P w K mg base) (c_Fraction_mul : C_Fraction_mul P w K mg base) (c_total_of : C_total_of P w K mg base) : FnR P w K mg base (L2.CX P w) 7 (He.ga K "returned") (spN K (aCons (rdL K (rp (rNum K))) aNil) (fun d => m_returned d.1) (rFrac K)) := by
  obtain ⟨fd, F⟩ := T.F_returned
  exact FnOk.frN0 (ok_returned T c_as_fraction c_Fraction_eq c_Fraction_1 c_Fraction_mul c_total_of F) (F.bindsN fun _ _ _ _ _ _ us hl => match us, hl with | [_], _ => rfl)
abbrev C_returned_0_returns (P : Program) (w : World) (K : PySem.W.Frag) (mg : Str → Option Value) (base : Heap) : Prop := MkKN P w K mg base 7 (He.ga K "returned") ["returns"] aNil (aCons (rdL K (rp (rNum K))) aNil) (fun (x : (Unit)) (y : ((List Num) × Unit)) => m_returned y.1) (rFrac K)
theorem fn_returned_0_returns {P : Program} {w : World} {K : PySem.W.Frag} {mg : Str → Option Value} {base : Heap} (T : Txt K mg) (c_as_fraction : C_as_fraction P w K mg base) (c_Fraction_eq : C_Fraction_eq P w K mg base) (c_Fraction_1 : C_Fraction_1 P w K mg base) (c_Fraction_mul : C_Fraction_mul P w K mg base) (c_total_of : C_total_of P w K mg base) : C_returned_0_returns P w K mg base := by
  obtain ⟨fd, F⟩ := T.F_returned
  have hb := kbindsN (ps := ["returns"]) F 0 ["returns"] (fun us ws => us ++ ws) (fun a c => a.append c) fun kV doc pm an cdv ct us ws hl hw => match us, hl, ws, hw with | [], _, [_], _ => rfl
  exact fun X W e1 e2 e3 e4 e5 hr tk => by
    subst e1; subst e2; subst e3; subst e4; subst e5
    exact cjk_fnN (n := 0) (R := aNil) (R' := (aCons (rdL X.K (rp (rNum X.K))) aNil)) (m := (fun d => m_returned d.1)) (h := fun (x : (Unit)) (y : ((List Num) × Unit)) => (y.1, ())) (ok_returned T c_as_fraction c_Fraction_eq c_Fraction_1 c_Fraction_mul c_total_of F) hr hb tk fun I H vs zs x y r r' => by
      obtain rfl := r
      obtain ⟨w0, _, rfl, k0, rfl⟩ := r'
      exact ⟨rfl, rfl, _, _, rfl, k0, rfl⟩
theorem sc_law_refused : FnScope ["_law_door", "_law_entries", "e"] ["_law_door", "_law_entries"] (defScope s_law_refused) := ⟨rfl, rfl, rfl, by decide +kernel, rfl, by decide +kernel, by decide +kernel⟩
def m_law_refused (p_law_door : Int) (p_law_entries : (List Num)) : Res Bool :=
  ((tryG (((((Res.ok p_law_door).bind fun a1064 => (Res.ok (0 : Int)).bind fun b1065 => .ok (decide (a1064 = b1065))).bind fun x1075 => if x1075 = true then ((((Res.ok p_law_entries).bind fun a1067 => (Res.ok ()).bind fun b1068 => .ok (a1067, b1068)).bind (fun d => m_first_returns d.1)).bind fun u1069 => (Res.ok ())) else ((((Res.ok p_law_entries).bind fun a1071 => (Res.ok ()).bind fun b1072 => .ok (a1071, b1072)).bind (fun d => m_returned d.1)).bind fun u1073 => (Res.ok ()))).bind fun s1074 => (Res.ok (Fl.nx ()))) : Res (Fl Unit Unit Bool)) [("BadReadings", true)] (fun ee => if ee.pay.isEmpty = true then (((Res.ok true).bind fun a1078 => if a1078 = true then (Res.ok true) else .ok false).bind fun r1080 => .ok (Fl.rt r1080)) else .stuck)).bind (Fl.out fun s1081 => (Res.ok false)))
abbrev C_law_refused (P : Program) (w : World) (K : PySem.W.Frag) (mg : Str → Option Value) (base : Heap) : Prop := FnR P w K mg base (L2.CX P w) 8 (He.ga K "_law_refused") (spF K (aCons (rp rInt) (aCons (rp (rL (rNum K))) aNil)) (fun d => m_law_refused d.1 d.2.1) (rp rBl))
theorem ok_law_refused {P : Program} {w : World} {K : PySem.W.Frag} {mg : Str → Option Value} {base : Heap} (T : Txt K mg) (c_first_returns : C_first_returns P w K mg base) (c_returned : C_returned P w K mg base) {fd : FuncData} (F : FunD K "_law_refused" "_law_refused" (defArgs s_law_refused) (defBody s_law_refused) (defScope s_law_refused) [] [] (He.ga K "_law_refused") fd) : FnOk P w K mg base (L2.CX P w) 8 (He.ga K "_law_refused") fd ["_law_door", "_law_entries"] (spF K (aCons (rp rInt) (aCons (rp (rL (rNum K))) aNil)) (fun d => m_law_refused d.1 d.2.1) (rp rBl)) := by
  refine FunD.fn (k := 7) (N := ["_law_door", "_law_entries", "e"]) (ps := ["_law_door", "_law_entries"]) F sc_law_refused (fun I H vs d h => ?_) (fun cdv A outer s I0 H0 E vs d hr sm h => ?_)
  · obtain ⟨v0, _, rfl, h0, v1, _, rfl, h1, rfl⟩ := h; rfl
  obtain ⟨v0, _, rfl, h0, v1, _, rfl, h1, rfl⟩ := h
  have hx : ∀ {ctx : List (Option SF)} {mem : List MF} (I H : Hp) (σ : St) (d : Option Addr), Stt I0 H0 ctx mem I H σ → Fr H0 d → bK I0 H0 I H σ d := fun _ _ _ _ s f => ⟨s.fm, f⟩
  have tk : Takes (bx P w K mg base ["_law_door", "_law_entries", "e"] "_law_refused" (defScope s_law_refused) (He.ga K "_law_refused") cdv A outer s H0 E) (bW E) := takes_of rfl rfl rfl rfl
  have hp : PassesOwn (model P w) (bx P w K mg base ["_law_door", "_law_entries", "e"] "_law_refused" (defScope s_law_refused) (He.ga K "_law_refused") cdv A outer s H0 E).A (bx P w K mg base ["_law_door", "_law_entries", "e"] "_law_refused" (defScope s_law_refused) (He.ga K "_law_refused") cdv A outer s H0 E).env (bx P w K mg base ["_law_door", "_law_entries", "e"] "_law_refused" (defScope s_law_refused) (He.ga K "_law_refused") cdv A outer s H0 E).xe := passes_of rfl
  obtain ⟨p_law_door, p_law_entries, _⟩ := d
  exact ⟨Stt I0 H0 [some (SF.mk rInt p_law_door), some (SF.mk (rL (rNum K)) p_law_entries), none] [], Stt.start sm ⟨h0, h1, ini_nil rfl⟩ rfl (by simp), (JR.seqG (GL := fun _ _ _ _ => False) (J1G.tryAs0 2 (c0 := "BadReadings") (mh := (((Res.ok true).bind fun a1078 => if a1078 = true then (Res.ok true) else .ok false).bind fun r1080 => .ok (Fl.rt r1080))) (cv := .ref (He.ga K "BadReadings")) (Ls := [("BadReadings", true)]) (cw := [some (SF.mk rInt p_law_door), some (SF.mk (rL (rNum K)) p_law_entries), none]) (me' := fun I1063 => [MF.same I1063]) (G' := fun s1081 => Stt I0 H0 [some (SF.mk rInt p_law_door), some (SF.mk (rL (rNum K)) p_law_entries), none] []) tk (fun W' pn xe I1063 tk hp => (JG.seq (J1.if (S := Unit) (G' := fun s1074 => Stt I0 H0 [some (SF.mk rInt p_law_door), some (SF.mk (rL (rNum K)) p_law_entries), none] [MF.same I1063]) (JT.cmp (JE.var 0) JE.int opj_eq) (JN.seq (J1.expr (JE.ofM (JM.call (JA.cons (JE.rd (JE.var 1)) JA.nil) (cn_of c_first_returns (hr.mono (by decide)) tk) T.g_first_returns T.k_first_returns)) (fun _ _ _ _ s f => ⟨s.weak (by repeat (first | exact weak_nil | apply weak_some | apply weak_none)), f⟩)) fun u1069 => (JN.nil (fun _ _ _ h => h))) (JN.seq (J1.expr (JE.ofM (JM.call (JA.cons (JE.rd (JE.var 1)) JA.nil) (cn_of c_returned (hr.mono (by decide)) tk) T.g_returned T.k_returned)) (fun _ _ _ _ s f => ⟨s.weak (by repeat (first | exact weak_nil | apply weak_some | apply weak_none)), f⟩)) fun u1073 => (JN.nil (fun _ _ _ h => h))) (fun _ _ _ _ s f => ⟨s.weak (by repeat (first | exact weak_nil | apply weak_some | apply weak_none)), f⟩)) fun s1074 => (JG.nil (fun _ _ _ h => (Stt.forgetAt h 0 rfl))))) (fun a oe pn hz hf => (JG.rt (JR.ret (JE.and (JE.isE hz hf T.xc_BadReadings T.kt_BadReadings_TracerError (JE.var 2) (w_glob_at T.g_TracerError rfl (by decide)) (.own _) T.n_isinstance) (JE.one (JE.isE hz hf T.xc_BadReadings T.kT_BadReadings_ValueError (JE.var 2) (w_type_at T.n_ValueError (by decide +kernel) rfl (by decide) (by decide)) (.ty _) T.n_isinstance))) (fun _ _ _ _ _ _ => True.intro)))) (fun c h => by simpa using h) (fun y b h => by
        simp only [List.mem_cons, List.mem_nil_iff, or_false, Prod.mk.injEq] at h
        obtain ⟨rfl, rfl⟩ := h
        exact T.xm_BadReadings_BadReadings) ⟨rfl, by decide, .inl T.g_BadReadings⟩ hx sc_law_refused.nd (hmx := (by repeat (first | exact True.intro | refine ⟨noxd_lst, ?_⟩ | refine ⟨noxd_ins, ?_⟩)))) fun s1081 => (JR.ret JE.bl hx))⟩
theorem fn_law_refused {P : Program} {w : World} {K : PySem.W.Frag} {mg : Str → Option Value} {base : Heap} (T : Txt K mg) (c_first_returns : C_first_returns P w K mg base) (c_returned : C_returned P w K mg base) : FnR P w K mg base (L2.CX P w) 8 (He.ga K "_law_refused") (spF K (aCons (rp rInt) (aCons (rp (rL (rNum K))) aNil)) (fun d => m_law_refused d.1 d.2.1) (rp rBl)) := by
  obtain ⟨fd, F⟩ := T.F_law_refused
  exact FnOk.fr0 (ok_law_refused T c_first_returns c_returned F) (F.bindsN fun _ _ _ _ _ _ us hl => match us, hl with | [_, _], _ => rfl)
theorem sc_law : FnScope ["_law_script", "_law_tape_here", "_law_many", "_law_bottom", "_law_odd", "_law_tops", "_law_entries", "_law_top", "_law_rising", "_law_firsts", "_law_coming", "_law_again_here", "_law_turn", "_law_handed", "_law_found", "_law_door"] ["_law_script"] (defScope s_law) := ⟨rfl, rfl, rfl, by decide +kernel, rfl, by decide +kernel, by decide +kernel⟩
def m_law (p_law_script : (List Int)) : Res Bool :=
  ((((Res.ok p_law_script).bind fun a6 => ((Res.ok (0 : Int)).bind fun a4 => (Res.ok ()).bind fun b5 => .ok (a4, b5)).bind fun b7 => .ok (a6, b7)).bind (fun d => m_law_tape d.1 d.2.1)).bind fun v_law_tape_here_1 => ((((Res.ok ((), v_law_tape_here_1)).bindX fun x15 t16 => (((Res.ok (13 : Int)).bind fun a17 => Res.ok (a17, t16)).bindX fun x19 t20 => (Res.ok ((), t20)).bindX fun y21 t22 => Res.ok ((x19, y21), t22)).bindX fun y23 t24 => Res.ok ((x15, y23), t24)).bindX fun x11 t13 => (m_law_pick t13 x11.2.1).bindX fun z12 b14 => Res.ok (z12, b14)).bind fun v_law_many_10 => ((((((Res.ok (1 : Int)).bind fun a30 => Res.ok (a30, v_law_many_10.2)).bindX fun x31 t32 => (((Res.ok ((), t32)).bindX fun x37 t38 => (((Res.ok (12 : Int)).bind fun a39 => Res.ok (a39, t38)).bindX fun x41 t42 => (Res.ok ((), t42)).bindX fun y43 t44 => Res.ok ((x41, y43), t44)).bindX fun y45 t46 => Res.ok ((x37, y45), t46)).bindX fun x33 t35 => (m_law_pick t35 x33.2.1).bindX fun z34 b36 => Res.ok (z34, b36)).bindX fun y49 t51 => (.ok (x31 + y49) : Res Int).bind fun z50 => Res.ok (z50, t51)).bindX fun x53 t54 => (((((Res.ok (10 : Int)).bind fun a55 => (Res.ok (10 : Int)).bind fun b56 => powI a55 b56).bind fun a57 => (Res.ok (33 : Int)).bind fun b58 => .ok (a57 - b58)).bind fun a59 => Res.ok (a59, t54)).bindX fun x61 t62 => (((((Res.ok (10 : Int)).bind fun a63 => (Res.ok (30 : Int)).bind fun b64 => powI a63 b64).bind fun a65 => (Res.ok (57 : Int)).bind fun b66 => .ok (a65 + b66)).bind fun a67 => Res.ok (a67, t62)).bindX fun x69 t70 => (Res.ok (([] : List Int), t70)).bindX fun y71 t72 => Res.ok (x69 :: y71, t72)).bindX fun y73 t74 => Res.ok (x61 :: y73, t74)).bindX fun y75 t76 => Res.ok (x53 :: y75, t76)).bindX fun x77 t78 => ((((((Res.ok ((), t78)).bindX fun x105 t106 => (((Res.ok (5 : Int)).bind fun a107 => Res.ok (a107, t106)).bindX fun x109 t110 => (Res.ok ((), t110)).bindX fun y111 t112 => Res.ok ((x109, y111), t112)).bindX fun y113 t114 => Res.ok ((x105, y113), t114)).bindX fun x101 t103 => (m_law_pick t103 x101.2.1).bindX fun z102 b104 => Res.ok (z102, b104)).bindX fun x118 t119 => (Res.ok ((), t119)).bindX fun y120 t121 => Res.ok ((x118, y120), t121)).bindX fun x79 t81 => ((fun (d : Int × Unit) => (Res.ok d.1 : Res Int)) x79).bind fun z80 => Res.ok (z80, t81)).bindX fun x122 t123 => ((Res.ok (3 : Int)).bind fun a124 => Res.ok (a124, t123)).bindX fun y125 t127 => (modI x122 y125 : Res Int).bind fun z126 => Res.ok (z126, t127)).bindX fun y128 t130 => (atM x77 y128).bind fun z129 => Res.ok (z129, t130)).bind fun v_law_bottom_29 => ((((((Res.ok (2 : Int)).bind fun a173 => .ok (Num.i a173)).bind fun a174 => ((((Res.ok (1 : Int)).bind fun a134 => .ok (-a134)).bind fun a170 => .ok (Num.i a170)).bind fun a171 => (((((Res.ok (1 : Int)).bind fun a139 => ((Res.ok (2 : Int)).bind fun a137 => (Res.ok ()).bind fun b138 => .ok (a137, b138)).bind fun b140 => .ok (a139, b140)).bind (fun d => qMk d.1 d.2.1)).bind fun a167 => .ok (Num.q a167)).bind fun a168 => (((((((Res.ok (10 : Int)).bind fun a141 => (Res.ok (20 : Int)).bind fun b142 => powI a141 b142).bind fun a143 => (Res.ok (1 : Int)).bind fun b144 => .ok (a143 + b144)).bind fun a151 => (((Res.ok (10 : Int)).bind fun a146 => (Res.ok (20 : Int)).bind fun b147 => powI a146 b147).bind fun a149 => (Res.ok ()).bind fun b150 => .ok (a149, b150)).bind fun b152 => .ok (a151, b152)).bind (fun d => qMk d.1 d.2.1)).bind fun a164 => .ok (Num.q a164)).bind fun a165 => (((((Res.ok (1 : Int)).bind fun a159 => (((Res.ok (10 : Int)).bind fun a154 => (Res.ok (20 : Int)).bind fun b155 => powI a154 b155).bind fun a157 => (Res.ok ()).bind fun b158 => .ok (a157, b158)).bind fun b160 => .ok (a159, b160)).bind (fun d => qMk d.1 d.2.1)).bind fun a161 => .ok (Num.q a161)).bind fun a162 => (Res.ok []).bind fun b163 => .ok (a162 :: b163)).bind fun b166 => .ok (a165 :: b166)).bind fun b169 => .ok (a168 :: b169)).bind fun b172 => .ok (a171 :: b172)).bind fun b175 => .ok (a174 :: b175)).bind fun a176 => Res.ok (a176, v_law_bottom_29.2)).bindX fun x177 t178 => (((Res.ok ((), t178)).bindX fun x183 t184 => (((Res.ok (5 : Int)).bind fun a185 => Res.ok (a185, t184)).bindX fun x187 t188 => (Res.ok ((), t188)).bindX fun y189 t190 => Res.ok ((x187, y189), t190)).bindX fun y191 t192 => Res.ok ((x183, y191), t192)).bindX fun x179 t181 => (m_law_pick t181 x179.2.1).bindX fun z180 b182 => Res.ok (z180, b182)).bindX fun y195 t197 => (atM x177 y195).bind fun z196 => Res.ok (z196, t197)).bind fun v_law_odd_133 => (((((Res.ok p_law_script).bind fun a204 => ((Res.ok (1 : Int)).bind fun a202 => (Res.ok ()).bind fun b203 => .ok (a202, b203)).bind fun b205 => .ok (a204, b205)).bind (fun d => m_law_tape d.1 d.2.1)).bind fun l212 => ((Res.ok v_law_bottom_29.1).bind fun a210 => ((Res.ok v_law_many_10.1).bind fun a208 => (Res.ok ()).bind fun b209 => .ok (a208, b209)).bind fun b211 => .ok (a210, b211)).bind fun d213 => (m_law_flat l212 d213.1 d213.2.1).bindX fun z214 _ => Res.ok z214).bind fun v_law_tops_199 => (((Res.ok v_law_tops_199).bind fun l230 => lcR (fun (i216 : Int) => (((Res.ok v_law_bottom_29.1).bind fun a218 => (Res.ok (1 : Int)).bind fun b219 => .ok (decide (a218 > b219))).bind fun a228 => if a228 = true then ((((Res.ok i216).bind fun a224 => ((Res.ok v_law_bottom_29.1).bind fun a222 => (Res.ok ()).bind fun b223 => .ok (a222, b223)).bind fun b225 => .ok (a224, b225)).bind (fun d => qMk d.1 d.2.1)).bind fun a226 => .ok (Num.q a226)) else ((Res.ok i216).bind fun a227 => .ok (Num.i a227)))) l230).bind fun v_law_entries_215 => ((((Res.ok v_law_tops_199).bind fun a240 => ((Res.ok v_law_bottom_29.1).bind fun a238 => ((Res.ok (1 : Int)).bind fun a236 => (Res.ok ()).bind fun b237 => .ok (a236, b237)).bind fun b239 => .ok (a238, b239)).bind fun b241 => .ok (a240, b241)).bind (fun d => m_law_raised d.1 d.2.1 d.2.2.1)).bind fun v_law_rising_232 => ((((Res.ok v_law_tops_199).bind fun a250 => ((Res.ok v_law_bottom_29.1).bind fun a248 => ((Res.ok (0 : Int)).bind fun a246 => (Res.ok ()).bind fun b247 => .ok (a246, b247)).bind fun b249 => .ok (a248, b249)).bind fun b251 => .ok (a250, b251)).bind (fun d => m_law_raised d.1 d.2.1 d.2.2.1)).bind fun v_law_firsts_242 => ((((((Res.ok v_law_rising_232).bind fun a254 => (Res.ok ()).bind fun b255 => .ok (a254, b255)).bind (fun d => m_law_first d.1)).bind fun a260 => ((Res.ok v_law_bottom_29.1).bind fun a258 => (Res.ok ()).bind fun b259 => .ok (a258, b259)).bind fun b261 => .ok (a260, b261)).bind (fun d => m_law_over_powers d.1 d.2.1)).bind fun v_law_coming_252 => ((((((Res.ok v_law_firsts_242).bind fun a264 => (Res.ok ()).bind fun b265 => .ok (a264, b265)).bind (fun d => m_law_again d.1)).bind fun a270 => ((Res.ok v_law_bottom_29.1).bind fun a268 => (Res.ok ()).bind fun b269 => .ok (a268, b269)).bind fun b271 => .ok (a270, b271)).bind (fun d => m_law_over_powers d.1 d.2.1)).bind fun v_law_again_here_262 => ((((Res.ok (2 : Int)).bind fun a273 => rangeM1 a273).bind fun l377 => (forG (fun (i274 : Int) (s272 : Unit) => ((((((Res.ok (1 : Int)).bind fun a276 => .ok (Num.i a276)).bind fun a277 => (Res.ok []).bind fun b278 => .ok (a277 :: b278)).bind fun a279 => (Res.ok v_law_entries_215).bind fun b280 => catM a279 b280).bind fun v_law_handed_275 => ((((Res.ok v_law_handed_275).bind fun a284 => (Res.ok ()).bind fun b285 => .ok (a284, b285)).bind fun y286 => (fun (x : (Unit)) (y : ((List Num) × Unit)) => m_first_returns y.1) () y286).bind fun v_law_found_282 => ((((((Res.ok v_law_found_282).bind fun a293 => ((Res.ok v_law_coming_252).bind fun a291 => (Res.ok ()).bind fun b292 => .ok (a291, b292)).bind fun b294 => .ok (a293, b294)).bind (fun d => m_law_listed d.1 d.2.1)).bind fun a295 => .ok (!a295)).bind fun a312 => if a312 = true then .ok true else (((((((Res.ok v_law_found_282).bind fun a296 => .ok (a296.map Num.q)).bind fun a297 => (Res.ok ()).bind fun b298 => .ok (a297, b298)).bind (fun d => m_returned d.1)).bind fun a309 => ((((Res.ok v_law_rising_232).bind fun a304 => ((Res.ok v_law_bottom_29.1).bind fun a302 => (Res.ok ()).bind fun b303 => .ok (a302, b303)).bind fun b305 => .ok (a304, b305)).bind (fun d => m_law_over_powers d.1 d.2.1)).bind fun a307 => (Res.ok ()).bind fun b308 => .ok (a307, b308)).bind fun b310 => .ok (a309, b310)).bind (fun d => m_law_listed d.1 d.2.1)).bind fun a311 => .ok (!a311))).bind fun x313 => if x313 = true then ((Res.ok false).bind fun r315 => .ok (Fl.rt r315)) else (((((Res.ok (3 : Int)).bind fun a317 => (Res.ok ()).bind fun b318 => .ok (a317, b318)).bind (fun d => qInt d.1)).bind fun y321 => (Res.ok (0 : Int)).bind fun k322 => putM v_law_found_282 k322 y321).bind fun v_law_found_320 => ((((Res.ok (0 : Int)).bind fun a323 => .ok (Num.i a323)).bind fun y325 => (Res.ok (0 : Int)).bind fun k326 => putM v_law_handed_275 k326 y325).bind fun v_law_handed_324 => ((((Res.ok v_law_handed_324).bind fun a329 => (Res.ok ()).bind fun b330 => .ok (a329, b330)).bind fun y331 => (fun (x : (Unit)) (y : ((List Num) × Unit)) => m_returned y.1) () y331).bind fun v_law_found_327 => ((((((Res.ok v_law_found_327).bind fun a338 => ((Res.ok v_law_again_here_262).bind fun a336 => (Res.ok ()).bind fun b337 => .ok (a336, b337)).bind fun b339 => .ok (a338, b339)).bind (fun d => m_law_listed d.1 d.2.1)).bind fun a340 => .ok (!a340)).bind fun a357 => if a357 = true then .ok true else (((((((Res.ok v_law_found_327).bind fun a341 => .ok (a341.map Num.q)).bind fun a342 => (Res.ok ()).bind fun b343 => .ok (a342, b343)).bind (fun d => m_first_returns d.1)).bind fun a354 => ((((Res.ok v_law_firsts_242).bind fun a349 => ((Res.ok v_law_bottom_29.1).bind fun a347 => (Res.ok ()).bind fun b348 => .ok (a347, b348)).bind fun b350 => .ok (a349, b350)).bind (fun d => m_law_over_powers d.1 d.2.1)).bind fun a352 => (Res.ok ()).bind fun b353 => .ok (a352, b353)).bind fun b355 => .ok (a354, b355)).bind (fun d => m_law_listed d.1 d.2.1)).bind fun a356 => .ok (!a356))).bind fun x358 => if x358 = true then ((Res.ok false).bind fun r360 => .ok (Fl.rt r360)) else (((((Res.ok (4 : Int)).bind fun a363 => (Res.ok ()).bind fun b364 => .ok (a363, b364)).bind (fun d => qInt d.1)).bind fun y366 => appM v_law_found_327 y366).bind fun v_law_found_361 => (((Res.ok v_law_handed_324).bind fun a372 => ((((Res.ok (0 : Int)).bind fun a367 => .ok (Num.i a367)).bind fun a368 => (Res.ok []).bind fun b369 => .ok (a368 :: b369)).bind fun a370 => (Res.ok v_law_entries_215).bind fun b371 => catM a370 b371).bind fun b373 => Res.guard (a372 = b373) (.ok false)).bind fun x374 => if x374 = true then ((Res.ok false).bind fun r376 => .ok (Fl.rt r376)) else (Res.ok (Fl.nx ()))))))))))) : Res (Fl Unit Unit Bool))) l377 () : Res (Fl Unit Unit Bool))).bind (Fl.out fun s272 => ((((Res.ok (2 : Int)).bind fun a379 => rangeM1 a379).bind fun l433 => (forG (fun (i380 : Int) (s378 : Unit) => (((((((Res.ok i380).bind fun a385 => ((Res.ok ([] : List Num)).bind fun a383 => (Res.ok ()).bind fun b384 => .ok (a383, b384)).bind fun b386 => .ok (a385, b386)).bind (fun d => m_law_refused d.1 d.2.1)).bind fun a387 => .ok (!a387)).bind fun a400 => if a400 = true then .ok true else ((((Res.ok i380).bind fun a397 => ((((Res.ok v_law_odd_133.1).bind fun a390 => (Res.ok []).bind fun b391 => .ok (a390 :: b391)).bind fun a392 => (Res.ok v_law_entries_215).bind fun b393 => catM a392 b393).bind fun a395 => (Res.ok ()).bind fun b396 => .ok (a395, b396)).bind fun b398 => .ok (a397, b398)).bind (fun d => m_law_refused d.1 d.2.1)).bind fun a399 => .ok (!a399))).bind fun x401 => if x401 = true then ((Res.ok false).bind fun r403 => .ok (Fl.rt r403)) else ((((((Res.ok i380).bind fun a413 => (((((Res.ok i380).bind fun a405 => .ok (Num.i a405)).bind fun a406 => (Res.ok []).bind fun b407 => .ok (a406 :: b407)).bind fun a408 => (Res.ok v_law_entries_215).bind fun b409 => catM a408 b409).bind fun a411 => (Res.ok ()).bind fun b412 => .ok (a411, b412)).bind fun b414 => .ok (a413, b414)).bind (fun d => m_law_refused d.1 d.2.1)).bind fun a415 => .ok (!a415)).bind fun a429 => if a429 = true then .ok true else (((Res.ok i380).bind fun a427 => ((((((Res.ok (1 : Int)).bind fun a417 => (Res.ok i380).bind fun b418 => .ok (a417 - b418)).bind fun a419 => .ok (Num.i a419)).bind fun a420 => (Res.ok []).bind fun b421 => .ok (a420 :: b421)).bind fun a422 => (Res.ok v_law_entries_215).bind fun b423 => catM a422 b423).bind fun a425 => (Res.ok ()).bind fun b426 => .ok (a425, b426)).bind fun b428 => .ok (a427, b428)).bind (fun d => m_law_refused d.1 d.2.1))).bind fun x430 => if x430 = true then ((Res.ok false).bind fun r432 => .ok (Fl.rt r432)) else (Res.ok (Fl.nx ())))) : Res (Fl Unit Unit Bool))) l433 () : Res (Fl Unit Unit Bool))).bind (Fl.out fun s378 => (Res.ok true)))))))))))))))
abbrev C_law (P : Program) (w : World) (K : PySem.W.Frag) (mg : Str → Option Value) (base : Heap) : Prop := FnR P w K mg base (L2.CX P w) 10 (He.ga K "law") (spF K (aCons (rdL K (rp rInt)) aNil) (fun d => m_law d.1) (rp rBl))
theorem fn_law {P : Program} {w : World} {K : PySem.W.Frag} {mg : Str → Option Value} {base : Heap} (T : Txt K mg) (c_law_tape : C_law_tape P w K mg base) (c_law_pick : C_law_pick P w K mg base) (c_Fraction_2 : C_Fraction_2 P w K mg base) (c_law_flat : C_law_flat P w K mg base) (c_law_raised : C_law_raised P w K mg base) (c_law_first : C_law_first P w K mg base) (c_law_over_powers : C_law_over_powers P w K mg base) (c_law_again : C_law_again P w K mg base) (c_first_returns_0_readings : C_first_returns_0_readings P w K mg base) (c_law_listed : C_law_listed P w K mg base) (c_returned : C_returned P w K mg base) (c_Fraction_1 : C_Fraction_1 P w K mg base) (c_returned_0_returns : C_returned_0_returns P w K mg base) (c_first_returns : C_first_returns P w K mg base) (c_Fraction_eq : C_Fraction_eq P w K mg base) (c_law_refused : C_law_refused P w K mg base) {fd : FuncData} (F : FunD K "law" "law" (defArgs s_law) (defBody s_law) (defScope s_law) [] [] (He.ga K "law") fd) : FnOk P w K mg base (L2.CX P w) 10 (He.ga K "law") fd ["_law_script"] (spF K (aCons (rdL K (rp rInt)) aNil) (fun d => m_law d.1) (rp rBl)) := by
  refine FunD.fn (k := 9) (N := ["_law_script", "_law_tape_here", "_law_many", "_law_bottom", "_law_odd", "_law_tops", "_law_entries", "_law_top", "_law_rising", "_law_firsts", "_law_coming", "_law_again_here", "_law_turn", "_law_handed", "_law_found", "_law_door"]) (ps := ["_law_script"]) F sc_law (fun I H vs d h => ?_) (fun cdv A outer s I0 H0 E vs d hr sm h => ?_)
  · obtain ⟨v0, _, rfl, h0, rfl⟩ := h; rfl
  obtain ⟨v0, _, rfl, h0, rfl⟩ := h
  have hx : ∀ {ctx : List (Option SF)} {mem : List MF} (I H : Hp) (σ : St) (d : Option Addr), Stt I0 H0 ctx mem I H σ → Fr H0 d → bK I0 H0 I H σ d := fun _ _ _ _ s f => ⟨s.fm, f⟩
  have tk : Takes (bx P w K mg base ["_law_script", "_law_tape_here", "_law_many", "_law_bottom", "_law_odd", "_law_tops", "_law_entries", "_law_top", "_law_rising", "_law_firsts", "_law_coming", "_law_again_here", "_law_turn", "_law_handed", "_law_found", "_law_door"] "law" (defScope s_law) (He.ga K "law") cdv A outer s H0 E) (bW E) := takes_of rfl rfl rfl rfl
  have hp : PassesOwn (model P w) (bx P w K mg base ["_law_script", "_law_tape_here", "_law_many", "_law_bottom", "_law_odd", "_law_tops", "_law_entries", "_law_top", "_law_rising", "_law_firsts", "_law_coming", "_law_again_here", "_law_turn", "_law_handed", "_law_found", "_law_door"] "law" (defScope s_law) (He.ga K "law") cdv A outer s H0 E).A (bx P w K mg base ["_law_script", "_law_tape_here", "_law_many", "_law_bottom", "_law_odd", "_law_tops", "_law_entries", "_law_top", "_law_rising", "_law_firsts", "_law_coming", "_law_again_here", "_law_turn", "_law_handed", "_law_found", "_law_door"] "law" (defScope s_law) (He.ga K "law") cdv A outer s H0 E).env (bx P w K mg base ["_law_script", "_law_tape_here", "_law_many", "_law_bottom", "_law_odd", "_law_tops", "_law_entries", "_law_top", "_law_rising", "_law_firsts", "_law_coming", "_law_again_here", "_law_turn", "_law_handed", "_law_found", "_law_door"] "law" (defScope s_law) (He.ga K "law") cdv A outer s H0 E).xe := passes_of rfl
  obtain ⟨p_law_script, _⟩ := d
  exact ⟨Stt I0 H0 [some (SF.mk (fun I v x => (rdL K (rp rInt)) I H0 v x) p_law_script), none, none, none, none, none, none, none, none, none, none, none, none, none, none, none] [], Stt.start sm ⟨h0, ini_nil rfl⟩ rfl (by simp), (JR.seq (J1.cn (c' := fun v_law_tape_here_1 l8 => [some (SF.mk (fun I v x => (rdL K (rp rInt)) I H0 v x) p_law_script), some (SF.mk (rRef l8) ()), none, none, none, none, none, none, none, none, none, none, none, none, none, none]) (me' := fun v_law_tape_here_1 l8 => [MF.lst l8 rInt v_law_tape_here_1]) (J1.setM 1 (JM.call (JA.cons (JE.varP 0 (r := (rdL K (rp rInt)))) (JA.cons JE.int JA.nil)) (cn_of c_law_tape (hr.mono (by decide)) tk) T.g_law_tape T.k_law_tape) hx sc_law.nd)) fun v_law_tape_here_1 => JR.ex fun l8 => (JR.seq (J1.cm (c' := fun v_law_many_10 => [some (SF.mk (fun I v x => (rdL K (rp rInt)) I H0 v x) p_law_script), some (SF.mk (rRef l8) ()), some (SF.mk rInt v_law_many_10.1), none, none, none, none, none, none, none, none, none, none, none, none, none]) (me' := fun v_law_many_10 => [MF.lst l8 rInt v_law_many_10.2]) (J1.setX (C := (fun (t9 : (List Int)) => [MF.lst l8 rInt t9])) (t0 := v_law_tape_here_1) 2 (JX.callC 0 (fun (t25 : (List Int)) => t25) (fun (t25 : (List Int)) b26 => b26) (JXA.cons (JX.of (JE.var 1 (r := rRef l8)) (fun _ => hx)) (fun t16 => (JXA.cons (JX.of JE.int (fun _ => hx)) (fun t20 => JXA.nil)))) (cc_of c_law_pick (hr.mono (by decide)) tk) (fun _ => rfl) (fun _ _ => rfl) (fun _ _ _ _ f r => ⟨f, r⟩) T.g_law_pick T.k_law_pick) sc_law.nd)) fun v_law_many_10 => (JR.seq (J1.cm (c' := fun v_law_bottom_29 => [some (SF.mk (fun I v x => (rdL K (rp rInt)) I H0 v x) p_law_script), some (SF.mk (rRef l8) ()), some (SF.mk rInt v_law_many_10.1), some (SF.mk rInt v_law_bottom_29.1), none, none, none, none, none, none, none, none, none, none, none, none]) (me' := fun v_law_bottom_29 => [MF.lst l8 rInt v_law_bottom_29.2]) (J1.setX (C := (fun (t28 : (List Int)) => [MF.lst l8 rInt t28])) (t0 := v_law_many_10.2) 3 (JX.ix (JX.ofM (JXM.lst (r := rInt) (JXA.consL (JX.bin (JX.of JE.int (fun _ => hx)) (fun t32 => (JX.callC 0 (fun (t47 : (List Int)) => t47) (fun (t47 : (List Int)) b48 => b48) (JXA.cons (JX.of (JE.var 1 (r := rRef l8)) (fun _ => hx)) (fun t38 => (JXA.cons (JX.of JE.int (fun _ => hx)) (fun t42 => JXA.nil)))) (cc_of c_law_pick (hr.mono (by decide)) tk) (fun _ => rfl) (fun _ _ => rfl) (fun _ _ _ _ f r => ⟨f, r⟩) T.g_law_pick T.k_law_pick)) opj_add (fun _ => hx)) (fun t54 => (JXA.consL (JX.of (JE.bin (JE.bin JE.int JE.int opj_pow) JE.int opj_sub) (fun _ => hx)) (fun t62 => (JXA.consL (JX.of (JE.bin (JE.bin JE.int JE.int opj_pow) JE.int opj_add) (fun _ => hx)) (fun t70 => JXA.nilL)))))))) (fun t78 => (JX.bin (JX.callTy (JXA.cons (JX.callC 0 (fun (t115 : (List Int)) => t115) (fun (t115 : (List Int)) b116 => b116) (JXA.cons (JX.of (JE.var 1 (r := rRef l8)) (fun _ => hx)) (fun t106 => (JXA.cons (JX.of JE.int (fun _ => hx)) (fun t110 => JXA.nil)))) (cc_of c_law_pick (hr.mono (by decide)) tk) (fun _ => rfl) (fun _ _ => rfl) (fun _ _ _ _ f r => ⟨f, r⟩) T.g_law_pick T.k_law_pick) (fun t119 => JXA.nil)) cj_int (fun _ => hx) T.n_int boot_int) (fun t123 => (JX.of JE.int (fun _ => hx))) opj_mod (fun _ => hx)))) sc_law.nd)) fun v_law_bottom_29 => (JR.seq (J1.cm (c' := fun v_law_odd_133 => [some (SF.mk (fun I v x => (rdL K (rp rInt)) I H0 v x) p_law_script), some (SF.mk (rRef l8) ()), some (SF.mk rInt v_law_many_10.1), some (SF.mk rInt v_law_bottom_29.1), some (SF.mk (rNum K) v_law_odd_133.1), none, none, none, none, none, none, none, none, none, none, none]) (me' := fun v_law_odd_133 => [MF.lst l8 rInt v_law_odd_133.2]) (J1.setX (C := (fun (t132 : (List Int)) => [MF.lst l8 rInt t132])) (t0 := v_law_bottom_29.2) 4 (JX.ix (JX.ofM (JXM.of (JM.lst (r := (rNum K)) (JA.consL (JE.num JE.int) (JA.consL (JE.num (JE.un JE.int unj_neg)) (JA.consL (JE.numq (JE.call (JA.cons JE.int (JA.cons JE.int JA.nil)) (c_Fraction_2 _ _ rfl rfl rfl rfl rfl (hr.mono (by decide)) tk) T.g_Fraction T.mk_Fraction.kp)) (JA.consL (JE.numq (JE.call (JA.cons (JE.bin (JE.bin JE.int JE.int opj_pow) JE.int opj_add) (JA.cons (JE.bin JE.int JE.int opj_pow) JA.nil)) (c_Fraction_2 _ _ rfl rfl rfl rfl rfl (hr.mono (by decide)) tk) T.g_Fraction T.mk_Fraction.kp)) (JA.consL (JE.numq (JE.call (JA.cons JE.int (JA.cons (JE.bin JE.int JE.int opj_pow) JA.nil)) (c_Fraction_2 _ _ rfl rfl rfl rfl rfl (hr.mono (by decide)) tk) T.g_Fraction T.mk_Fraction.kp)) JA.nilL)))))) (fun _ => hx))) (fun t178 => (JX.callC 0 (fun (t193 : (List Int)) => t193) (fun (t193 : (List Int)) b194 => b194) (JXA.cons (JX.of (JE.var 1 (r := rRef l8)) (fun _ => hx)) (fun t184 => (JXA.cons (JX.of JE.int (fun _ => hx)) (fun t188 => JXA.nil)))) (cc_of c_law_pick (hr.mono (by decide)) tk) (fun _ => rfl) (fun _ _ => rfl) (fun _ _ _ _ f r => ⟨f, r⟩) T.g_law_pick T.k_law_pick))) sc_law.nd)) fun v_law_odd_133 => (JR.fz 1 0 (ctx' := [some (SF.mk (fun I v x => (rdL K (rp rInt)) I H0 v x) p_law_script), some (SF.mk (rL rInt) v_law_odd_133.2), some (SF.mk rInt v_law_many_10.1), some (SF.mk rInt v_law_bottom_29.1), some (SF.mk (rNum K) v_law_odd_133.1), none, none, none, none, none, none, none, none, none, none, none]) (mem' := []) (JR.seq (J1.cx (c' := fun v_law_tops_199 => [some (SF.mk (fun I v x => (rdL K (rp rInt)) I H0 v x) p_law_script), some (SF.mk (rL rInt) v_law_odd_133.2), some (SF.mk rInt v_law_many_10.1), some (SF.mk rInt v_law_bottom_29.1), some (SF.mk (rNum K) v_law_odd_133.1), some (SF.mk (rL rInt) v_law_tops_199), none, none, none, none, none, none, none, none, none, none]) (J1.set 5 (JE.callCNew (JM.call (JA.cons (JE.varP 0 (r := (rdL K (rp rInt)))) (JA.cons JE.int JA.nil)) (cn_of c_law_tape (hr.mono (by decide)) tk) T.g_law_tape T.k_law_tape) (JA.cons (JE.var 3) (JA.cons (JE.var 2) JA.nil)) (cc_of c_law_flat (hr.mono (by decide)) tk) (fun _ => rfl) T.g_law_flat T.k_law_flat) hx sc_law.nd)) fun v_law_tops_199 => (JR.seq (J1.cn (c' := fun v_law_entries_215 l231 => [some (SF.mk (fun I v x => (rdL K (rp rInt)) I H0 v x) p_law_script), some (SF.mk (rL rInt) v_law_odd_133.2), some (SF.mk rInt v_law_many_10.1), some (SF.mk rInt v_law_bottom_29.1), some (SF.mk (rNum K) v_law_odd_133.1), some (SF.mk (rL rInt) v_law_tops_199), some (SF.mk (rRef l231) ()), none, none, none, none, none, none, none, none, none]) (me' := fun v_law_entries_215 l231 => [MF.lst l231 (rNum K) v_law_entries_215]) (J1.setLcT (r := (rNum K)) 6 7 (JI.list (JE.var 5)) (fun _ _ _ _ _ D acc i216 tk217 => (JE.at (c' := [some (SF.mk (fun I v x => (rdL K (rp rInt)) I H0 v x) p_law_script), some (SF.mk (rL rInt) v_law_odd_133.2), some (SF.mk rInt v_law_many_10.1), some (SF.mk rInt v_law_bottom_29.1), some (SF.mk (rNum K) v_law_odd_133.1), some (SF.mk (rL rInt) v_law_tops_199), none, some (SF.mk rInt i216), none, none, none, none, none, none, none, none]) (JE.ifx (JT.cmp (JE.var 3) JE.int opj_gt) (JE.numq (JE.call (JA.cons (JE.var 7) (JA.cons (JE.var 3) JA.nil)) (c_Fraction_2 _ _ rfl rfl rfl rfl rfl (hr.mono (by decide)) tk217) T.g_Fraction T.mk_Fraction.kp)) (JE.num (JE.var 7))))) hx sc_law.nd (blkok_of (by kernel_rfl)))) fun v_law_entries_215 => JR.ex fun l231 => (JR.fz 6 0 (ctx' := [some (SF.mk (fun I v x => (rdL K (rp rInt)) I H0 v x) p_law_script), some (SF.mk (rL rInt) v_law_odd_133.2), some (SF.mk rInt v_law_many_10.1), some (SF.mk rInt v_law_bottom_29.1), some (SF.mk (rNum K) v_law_odd_133.1), some (SF.mk (rL rInt) v_law_tops_199), some (SF.mk (rL (rNum K)) v_law_entries_215), none, none, none, none, none, none, none, none, none]) (mem' := []) (JR.seq (J1.cx (c' := fun v_law_rising_232 => [some (SF.mk (fun I v x => (rdL K (rp rInt)) I H0 v x) p_law_script), some (SF.mk (rL rInt) v_law_odd_133.2), some (SF.mk rInt v_law_many_10.1), some (SF.mk rInt v_law_bottom_29.1), some (SF.mk (rNum K) v_law_odd_133.1), some (SF.mk (rL rInt) v_law_tops_199), some (SF.mk (rL (rNum K)) v_law_entries_215), none, some (SF.mk (rL rInt) v_law_rising_232), none, none, none, none, none, none, none]) (J1.set 8 (JE.ofM (JM.call (JA.cons (JE.rd (JE.var 5)) (JA.cons (JE.var 3) (JA.cons JE.int JA.nil))) (cn_of c_law_raised (hr.mono (by decide)) tk) T.g_law_raised T.k_law_raised)) hx sc_law.nd)) fun v_law_rising_232 => (JR.seq (J1.cx (c' := fun v_law_firsts_242 => [some (SF.mk (fun I v x => (rdL K (rp rInt)) I H0 v x) p_law_script), some (SF.mk (rL rInt) v_law_odd_133.2), some (SF.mk rInt v_law_many_10.1), some (SF.mk rInt v_law_bottom_29.1), some (SF.mk (rNum K) v_law_odd_133.1), some (SF.mk (rL rInt) v_law_tops_199), some (SF.mk (rL (rNum K)) v_law_entries_215), none, some (SF.mk (rL rInt) v_law_rising_232), some (SF.mk (rL rInt) v_law_firsts_242), none, none, none, none, none, none]) (J1.set 9 (JE.ofM (JM.call (JA.cons (JE.rd (JE.var 5)) (JA.cons (JE.var 3) (JA.cons JE.int JA.nil))) (cn_of c_law_raised (hr.mono (by decide)) tk) T.g_law_raised T.k_law_raised)) hx sc_law.nd)) fun v_law_firsts_242 => (JR.seq (J1.cx (c' := fun v_law_coming_252 => [some (SF.mk (fun I v x => (rdL K (rp rInt)) I H0 v x) p_law_script), some (SF.mk (rL rInt) v_law_odd_133.2), some (SF.mk rInt v_law_many_10.1), some (SF.mk rInt v_law_bottom_29.1), some (SF.mk (rNum K) v_law_odd_133.1), some (SF.mk (rL rInt) v_law_tops_199), some (SF.mk (rL (rNum K)) v_law_entries_215), none, some (SF.mk (rL rInt) v_law_rising_232), some (SF.mk (rL rInt) v_law_firsts_242), some (SF.mk (rL (rTu (aCons (rp rInt) (aCons (rp rInt) aNil)))) v_law_coming_252), none, none, none, none, none]) (J1.set 10 (JE.ofM (JM.call (JA.cons (JE.rd (JE.ofM (JM.call (JA.cons (JE.rd (JE.var 8)) JA.nil) (cn_of c_law_first (hr.mono (by decide)) tk) T.g_law_first T.k_law_first))) (JA.cons (JE.var 3) JA.nil)) (cn_of c_law_over_powers (hr.mono (by decide)) tk) T.g_law_over_powers T.k_law_over_powers)) hx sc_law.nd)) fun v_law_coming_252 => (JR.seq (J1.cx (c' := fun v_law_again_here_262 => [some (SF.mk (fun I v x => (rdL K (rp rInt)) I H0 v x) p_law_script), some (SF.mk (rL rInt) v_law_odd_133.2), some (SF.mk rInt v_law_many_10.1), some (SF.mk rInt v_law_bottom_29.1), some (SF.mk (rNum K) v_law_odd_133.1), some (SF.mk (rL rInt) v_law_tops_199), some (SF.mk (rL (rNum K)) v_law_entries_215), none, some (SF.mk (rL rInt) v_law_rising_232), some (SF.mk (rL rInt) v_law_firsts_242), some (SF.mk (rL (rTu (aCons (rp rInt) (aCons (rp rInt) aNil)))) v_law_coming_252), some (SF.mk (rL (rTu (aCons (rp rInt) (aCons (rp rInt) aNil)))) v_law_again_here_262), none, none, none, none]) (J1.set 11 (JE.ofM (JM.call (JA.cons (JE.rd (JE.ofM (JM.call (JA.cons (JE.rd (JE.var 9)) JA.nil) (cn_of c_law_again (hr.mono (by decide)) tk) T.g_law_again T.k_law_again))) (JA.cons (JE.var 3) JA.nil)) (cn_of c_law_over_powers (hr.mono (by decide)) tk) T.g_law_over_powers T.k_law_over_powers)) hx sc_law.nd)) fun v_law_again_here_262 => (JR.seqG (GL := fun _ _ _ _ => False) (J1G.forG (S := Unit) (cx := fun s272 => [some (SF.mk (fun I v x => (rdL K (rp rInt)) I H0 v x) p_law_script), some (SF.mk (rL rInt) v_law_odd_133.2), some (SF.mk rInt v_law_many_10.1), some (SF.mk rInt v_law_bottom_29.1), some (SF.mk (rNum K) v_law_odd_133.1), some (SF.mk (rL rInt) v_law_tops_199), some (SF.mk (rL (rNum K)) v_law_entries_215), none, some (SF.mk (rL rInt) v_law_rising_232), some (SF.mk (rL rInt) v_law_firsts_242), some (SF.mk (rL (rTu (aCons (rp rInt) (aCons (rp rInt) aNil)))) v_law_coming_252), some (SF.mk (rL (rTu (aCons (rp rInt) (aCons (rp rInt) aNil)))) v_law_again_here_262), none, none, none, none]) (me := fun s272 => []) (s0 := ()) 12 hp (JI.range1 JE.int T.n_range) (fun i274 s272 => JG.at (c' := [some (SF.mk (fun I v x => (rdL K (rp rInt)) I H0 v x) p_law_script), some (SF.mk (rL rInt) v_law_odd_133.2), some (SF.mk rInt v_law_many_10.1), some (SF.mk rInt v_law_bottom_29.1), some (SF.mk (rNum K) v_law_odd_133.1), some (SF.mk (rL rInt) v_law_tops_199), some (SF.mk (rL (rNum K)) v_law_entries_215), none, some (SF.mk (rL rInt) v_law_rising_232), some (SF.mk (rL rInt) v_law_firsts_242), some (SF.mk (rL (rTu (aCons (rp rInt) (aCons (rp rInt) aNil)))) v_law_coming_252), some (SF.mk (rL (rTu (aCons (rp rInt) (aCons (rp rInt) aNil)))) v_law_again_here_262), some (SF.mk rInt i274), none, none, none]) (JG.seq (J1.cn (c' := fun v_law_handed_275 l281 => [some (SF.mk (fun I v x => (rdL K (rp rInt)) I H0 v x) p_law_script), some (SF.mk (rL rInt) v_law_odd_133.2), some (SF.mk rInt v_law_many_10.1), some (SF.mk rInt v_law_bottom_29.1), some (SF.mk (rNum K) v_law_odd_133.1), some (SF.mk (rL rInt) v_law_tops_199), some (SF.mk (rL (rNum K)) v_law_entries_215), none, some (SF.mk (rL rInt) v_law_rising_232), some (SF.mk (rL rInt) v_law_firsts_242), some (SF.mk (rL (rTu (aCons (rp rInt) (aCons (rp rInt) aNil)))) v_law_coming_252), some (SF.mk (rL (rTu (aCons (rp rInt) (aCons (rp rInt) aNil)))) v_law_again_here_262), some (SF.mk rInt i274), some (SF.mk (rRef l281) ()), none, none]) (me' := fun v_law_handed_275 l281 => [MF.lst l281 (rNum K) v_law_handed_275]) (J1.setM 13 (JM.cat (JE.hp (JE.ofM (JM.lst (r := (rNum K)) (JA.consL (JE.num JE.int) JA.nilL)))) (JE.hp (JE.var 6))) hx sc_law.nd)) fun v_law_handed_275 => JG.ex fun l281 => (JG.seq (J1.cn (c' := fun v_law_found_282 l288 => [some (SF.mk (fun I v x => (rdL K (rp rInt)) I H0 v x) p_law_script), some (SF.mk (rL rInt) v_law_odd_133.2), some (SF.mk rInt v_law_many_10.1), some (SF.mk rInt v_law_bottom_29.1), some (SF.mk (rNum K) v_law_odd_133.1), some (SF.mk (rL rInt) v_law_tops_199), some (SF.mk (rL (rNum K)) v_law_entries_215), none, some (SF.mk (rL rInt) v_law_rising_232), some (SF.mk (rL rInt) v_law_firsts_242), some (SF.mk (rL (rTu (aCons (rp rInt) (aCons (rp rInt) aNil)))) v_law_coming_252), some (SF.mk (rL (rTu (aCons (rp rInt) (aCons (rp rInt) aNil)))) v_law_again_here_262), some (SF.mk rInt i274), some (SF.mk (rRef l281) ()), some (SF.mk (rRef l288) ()), none]) (me' := fun v_law_found_282 l288 => [MF.lst l288 (rFrac K) v_law_found_282, MF.lst l281 (rNum K) v_law_handed_275]) (J1.setM 14 (JM.callK0 (g := (fun (x : (Unit)) (y : ((List Num) × Unit)) => m_first_returns y.1)) (JK.cons (JE.rdM 13 0) JK.nil) (c_first_returns_0_readings _ _ rfl rfl rfl rfl rfl (hr.mono (by decide)) tk) T.g_first_returns T.k_first_returns) hx sc_law.nd)) fun v_law_found_282 => JG.ex fun l288 => (JG.ifT (JT.bool (JW.or (JT.not (JT.of (JE.call (JA.cons (JE.hM 14 0) (JA.cons (JE.rd (JE.var 10)) JA.nil)) (cj_of c_law_listed (hr.mono (by decide)) tk) T.g_law_listed T.k_law_listed))) (JW.or1 (JT.not (JT.of (JE.call (JA.cons (JE.hp (JE.ofM (JM.call (JA.cons (JE.rdMap (JE.rdM 14 0) co_qN) JA.nil) (cn_of c_returned (hr.mono (by decide)) tk) T.g_returned T.k_returned))) (JA.cons (JE.rd (JE.ofM (JM.call (JA.cons (JE.rd (JE.var 8)) (JA.cons (JE.var 3) JA.nil)) (cn_of c_law_over_powers (hr.mono (by decide)) tk) T.g_law_over_powers T.k_law_over_powers))) JA.nil)) (cj_of c_law_listed (hr.mono (by decide)) tk) T.g_law_listed T.k_law_listed)))))) (JG.rt (JR.ret JE.bl hx)) (JG.seq (J1.cm (c' := fun v_law_found_320 => [some (SF.mk (fun I v x => (rdL K (rp rInt)) I H0 v x) p_law_script), some (SF.mk (rL rInt) v_law_odd_133.2), some (SF.mk rInt v_law_many_10.1), some (SF.mk rInt v_law_bottom_29.1), some (SF.mk (rNum K) v_law_odd_133.1), some (SF.mk (rL rInt) v_law_tops_199), some (SF.mk (rL (rNum K)) v_law_entries_215), none, some (SF.mk (rL rInt) v_law_rising_232), some (SF.mk (rL rInt) v_law_firsts_242), some (SF.mk (rL (rTu (aCons (rp rInt) (aCons (rp rInt) aNil)))) v_law_coming_252), some (SF.mk (rL (rTu (aCons (rp rInt) (aCons (rp rInt) aNil)))) v_law_again_here_262), some (SF.mk rInt i274), some (SF.mk (rRef l281) ()), some (SF.mk (rRef l288) ()), none]) (me' := fun v_law_found_320 => [MF.lst l288 (rFrac K) v_law_found_320, MF.lst l281 (rNum K) v_law_handed_275]) (J1.put 14 0 (JE.call (JA.cons JE.int JA.nil) (c_Fraction_1 _ _ rfl rfl rfl rfl rfl (hr.mono (by decide)) tk) T.g_Fraction T.mk_Fraction.kp) JE.int hx)) fun v_law_found_320 => (JG.seq (J1.cm (c' := fun v_law_handed_324 => [some (SF.mk (fun I v x => (rdL K (rp rInt)) I H0 v x) p_law_script), some (SF.mk (rL rInt) v_law_odd_133.2), some (SF.mk rInt v_law_many_10.1), some (SF.mk rInt v_law_bottom_29.1), some (SF.mk (rNum K) v_law_odd_133.1), some (SF.mk (rL rInt) v_law_tops_199), some (SF.mk (rL (rNum K)) v_law_entries_215), none, some (SF.mk (rL rInt) v_law_rising_232), some (SF.mk (rL rInt) v_law_firsts_242), some (SF.mk (rL (rTu (aCons (rp rInt) (aCons (rp rInt) aNil)))) v_law_coming_252), some (SF.mk (rL (rTu (aCons (rp rInt) (aCons (rp rInt) aNil)))) v_law_again_here_262), some (SF.mk rInt i274), some (SF.mk (rRef l281) ()), some (SF.mk (rRef l288) ()), none]) (me' := fun v_law_handed_324 => [MF.lst l288 (rFrac K) v_law_found_320, MF.lst l281 (rNum K) v_law_handed_324]) (J1.put 13 1 (JE.num JE.int) JE.int hx)) fun v_law_handed_324 => (JG.fz 13 1 (ctx' := [some (SF.mk (fun I v x => (rdL K (rp rInt)) I H0 v x) p_law_script), some (SF.mk (rL rInt) v_law_odd_133.2), some (SF.mk rInt v_law_many_10.1), some (SF.mk rInt v_law_bottom_29.1), some (SF.mk (rNum K) v_law_odd_133.1), some (SF.mk (rL rInt) v_law_tops_199), some (SF.mk (rL (rNum K)) v_law_entries_215), none, some (SF.mk (rL rInt) v_law_rising_232), some (SF.mk (rL rInt) v_law_firsts_242), some (SF.mk (rL (rTu (aCons (rp rInt) (aCons (rp rInt) aNil)))) v_law_coming_252), some (SF.mk (rL (rTu (aCons (rp rInt) (aCons (rp rInt) aNil)))) v_law_again_here_262), some (SF.mk rInt i274), some (SF.mk (rL (rNum K)) v_law_handed_324), some (SF.mk (rRef l288) ()), none]) (mem' := [MF.lst l288 (rFrac K) v_law_found_320]) (JG.seq (J1.cn (c' := fun v_law_found_327 l333 => [some (SF.mk (fun I v x => (rdL K (rp rInt)) I H0 v x) p_law_script), some (SF.mk (rL rInt) v_law_odd_133.2), some (SF.mk rInt v_law_many_10.1), some (SF.mk rInt v_law_bottom_29.1), some (SF.mk (rNum K) v_law_odd_133.1), some (SF.mk (rL rInt) v_law_tops_199), some (SF.mk (rL (rNum K)) v_law_entries_215), none, some (SF.mk (rL rInt) v_law_rising_232), some (SF.mk (rL rInt) v_law_firsts_242), some (SF.mk (rL (rTu (aCons (rp rInt) (aCons (rp rInt) aNil)))) v_law_coming_252), some (SF.mk (rL (rTu (aCons (rp rInt) (aCons (rp rInt) aNil)))) v_law_again_here_262), some (SF.mk rInt i274), some (SF.mk (rL (rNum K)) v_law_handed_324), some (SF.mk (rRef l333) ()), none]) (me' := fun v_law_found_327 l333 => [MF.lst l333 (rFrac K) v_law_found_327, MF.lst l288 (rFrac K) v_law_found_320]) (J1.setM 14 (JM.callK0 (g := (fun (x : (Unit)) (y : ((List Num) × Unit)) => m_returned y.1)) (JK.cons (JE.rd (JE.var 13)) JK.nil) (c_returned_0_returns _ _ rfl rfl rfl rfl rfl (hr.mono (by decide)) tk) T.g_returned T.k_returned) hx sc_law.nd)) fun v_law_found_327 => JG.ex fun l333 => (JG.ifT (JT.bool (JW.or (JT.not (JT.of (JE.call (JA.cons (JE.hM 14 0) (JA.cons (JE.rd (JE.var 11)) JA.nil)) (cj_of c_law_listed (hr.mono (by decide)) tk) T.g_law_listed T.k_law_listed))) (JW.or1 (JT.not (JT.of (JE.call (JA.cons (JE.hp (JE.ofM (JM.call (JA.cons (JE.rdMap (JE.rdM 14 0) co_qN) JA.nil) (cn_of c_first_returns (hr.mono (by decide)) tk) T.g_first_returns T.k_first_returns))) (JA.cons (JE.rd (JE.ofM (JM.call (JA.cons (JE.rd (JE.var 9)) (JA.cons (JE.var 3) JA.nil)) (cn_of c_law_over_powers (hr.mono (by decide)) tk) T.g_law_over_powers T.k_law_over_powers))) JA.nil)) (cj_of c_law_listed (hr.mono (by decide)) tk) T.g_law_listed T.k_law_listed)))))) (JG.rt (JR.ret JE.bl hx)) (JG.seq (J1.cm (c' := fun v_law_found_361 => [some (SF.mk (fun I v x => (rdL K (rp rInt)) I H0 v x) p_law_script), some (SF.mk (rL rInt) v_law_odd_133.2), some (SF.mk rInt v_law_many_10.1), some (SF.mk rInt v_law_bottom_29.1), some (SF.mk (rNum K) v_law_odd_133.1), some (SF.mk (rL rInt) v_law_tops_199), some (SF.mk (rL (rNum K)) v_law_entries_215), none, some (SF.mk (rL rInt) v_law_rising_232), some (SF.mk (rL rInt) v_law_firsts_242), some (SF.mk (rL (rTu (aCons (rp rInt) (aCons (rp rInt) aNil)))) v_law_coming_252), some (SF.mk (rL (rTu (aCons (rp rInt) (aCons (rp rInt) aNil)))) v_law_again_here_262), some (SF.mk rInt i274), some (SF.mk (rL (rNum K)) v_law_handed_324), some (SF.mk (rRef l333) ()), none]) (me' := fun v_law_found_361 => [MF.lst l333 (rFrac K) v_law_found_361, MF.lst l288 (rFrac K) v_law_found_320]) (J1.app 14 0 (JE.call (JA.cons JE.int JA.nil) (c_Fraction_1 _ _ rfl rfl rfl rfl rfl (hr.mono (by decide)) tk) T.g_Fraction T.mk_Fraction.kp) hx)) fun v_law_found_361 => (JG.fz 14 0 (ctx' := [some (SF.mk (fun I v x => (rdL K (rp rInt)) I H0 v x) p_law_script), some (SF.mk (rL rInt) v_law_odd_133.2), some (SF.mk rInt v_law_many_10.1), some (SF.mk rInt v_law_bottom_29.1), some (SF.mk (rNum K) v_law_odd_133.1), some (SF.mk (rL rInt) v_law_tops_199), some (SF.mk (rL (rNum K)) v_law_entries_215), none, some (SF.mk (rL rInt) v_law_rising_232), some (SF.mk (rL rInt) v_law_firsts_242), some (SF.mk (rL (rTu (aCons (rp rInt) (aCons (rp rInt) aNil)))) v_law_coming_252), some (SF.mk (rL (rTu (aCons (rp rInt) (aCons (rp rInt) aNil)))) v_law_again_here_262), some (SF.mk rInt i274), some (SF.mk (rL (rNum K)) v_law_handed_324), some (SF.mk (rL (rFrac K)) v_law_found_361), none]) (mem' := [MF.lst l288 (rFrac K) v_law_found_320]) (JG.ifT (JT.cmp (JE.hp (JE.var 13)) (JE.hp (JE.ofM (JM.cat (JE.hp (JE.ofM (JM.lst (r := (rNum K)) (JA.consL (JE.num JE.int) JA.nilL)))) (JE.hp (JE.var 6))))) (opj_neNL (gb := fun d => qEq d.1 d.2.1) T.om_Fraction_eq c_Fraction_eq tk qEq_refl (hr.mono (by decide)))) (JG.rt (JR.ret JE.bl hx)) (JG.nil (fun _ _ _ h => (Stt.weak (Stt.forgetAt h 0 rfl) (weak_some (weak_some (weak_some (weak_some (weak_some (weak_some (weak_some (weak_none (weak_some (weak_some (weak_some (weak_some (weak_none (weak_none (weak_none (weak_none weak_nil))))))))))))))))))) hx))) hx))))) hx)))) hx (weak_some (weak_some (weak_some (weak_some (weak_some (weak_some (weak_some (weak_none (weak_some (weak_some (weak_some (weak_some (weak_none (weak_none (weak_none (weak_none weak_nil)))))))))))))))) sc_law.nd) fun s272 => (JR.seqG (GL := fun _ _ _ _ => False) (J1G.forG (S := Unit) (cx := fun s378 => [some (SF.mk (fun I v x => (rdL K (rp rInt)) I H0 v x) p_law_script), some (SF.mk (rL rInt) v_law_odd_133.2), some (SF.mk rInt v_law_many_10.1), some (SF.mk rInt v_law_bottom_29.1), some (SF.mk (rNum K) v_law_odd_133.1), some (SF.mk (rL rInt) v_law_tops_199), some (SF.mk (rL (rNum K)) v_law_entries_215), none, some (SF.mk (rL rInt) v_law_rising_232), some (SF.mk (rL rInt) v_law_firsts_242), some (SF.mk (rL (rTu (aCons (rp rInt) (aCons (rp rInt) aNil)))) v_law_coming_252), some (SF.mk (rL (rTu (aCons (rp rInt) (aCons (rp rInt) aNil)))) v_law_again_here_262), none, none, none, none]) (me := fun s378 => []) (s0 := ()) 15 hp (JI.range1 JE.int T.n_range) (fun i380 s378 => JG.at (c' := [some (SF.mk (fun I v x => (rdL K (rp rInt)) I H0 v x) p_law_script), some (SF.mk (rL rInt) v_law_odd_133.2), some (SF.mk rInt v_law_many_10.1), some (SF.mk rInt v_law_bottom_29.1), some (SF.mk (rNum K) v_law_odd_133.1), some (SF.mk (rL rInt) v_law_tops_199), some (SF.mk (rL (rNum K)) v_law_entries_215), none, some (SF.mk (rL rInt) v_law_rising_232), some (SF.mk (rL rInt) v_law_firsts_242), some (SF.mk (rL (rTu (aCons (rp rInt) (aCons (rp rInt) aNil)))) v_law_coming_252), some (SF.mk (rL (rTu (aCons (rp rInt) (aCons (rp rInt) aNil)))) v_law_again_here_262), none, none, none, some (SF.mk rInt i380)]) (JG.ifT (JT.bool (JW.or (JT.not (JT.of (JE.call (JA.cons (JE.var 15) (JA.cons (JE.ofM (JM.lst (r := (rNum K)) JA.nilL)) JA.nil)) (cj_of c_law_refused (hr.mono (by decide)) tk) T.g_law_refused T.k_law_refused))) (JW.or1 (JT.not (JT.of (JE.call (JA.cons (JE.var 15) (JA.cons (JE.ofM (JM.cat (JE.hp (JE.ofM (JM.lst (r := (rNum K)) (JA.consL (JE.var 4) JA.nilL)))) (JE.hp (JE.var 6)))) JA.nil)) (cj_of c_law_refused (hr.mono (by decide)) tk) T.g_law_refused T.k_law_refused)))))) (JG.rt (JR.ret JE.bl hx)) (JG.ifT (JT.bool (JW.or (JT.not (JT.of (JE.call (JA.cons (JE.var 15) (JA.cons (JE.ofM (JM.cat (JE.hp (JE.ofM (JM.lst (r := (rNum K)) (JA.consL (JE.num (JE.var 15)) JA.nilL)))) (JE.hp (JE.var 6)))) JA.nil)) (cj_of c_law_refused (hr.mono (by decide)) tk) T.g_law_refused T.k_law_refused))) (JW.or1 (JT.of (JE.call (JA.cons (JE.var 15) (JA.cons (JE.ofM (JM.cat (JE.hp (JE.ofM (JM.lst (r := (rNum K)) (JA.consL (JE.num (JE.bin JE.int (JE.var 15) opj_sub)) JA.nilL)))) (JE.hp (JE.var 6)))) JA.nil)) (cj_of c_law_refused (hr.mono (by decide)) tk) T.g_law_refused T.k_law_refused))))) (JG.rt (JR.ret JE.bl hx)) (JG.nil (fun _ _ _ h => (Stt.weak h (weak_some (weak_some (weak_some (weak_some (weak_some (weak_some (weak_some (weak_none (weak_some (weak_some (weak_some (weak_some (weak_none (weak_none (weak_none (weak_none weak_nil))))))))))))))))))) hx) hx)) hx (weak_some (weak_some (weak_some (weak_some (weak_some (weak_some (weak_some (weak_none (weak_some (weak_some (weak_some (weak_some (weak_none (weak_none (weak_none (weak_none weak_nil)))))))))))))))) sc_law.nd) fun s378 => (JR.ret JE.bl hx)))))))))))))))⟩
end L2.Tr

namespace L2.Tr
open PySem PySem.Spec PyProof.Rows
theorem tape_ok (ns : List Int) {k : Int} (h0 : 0 ≤ k) (h1 : k ≤ 1000) : Ok (m_law_tape ns k) TP := by
  unfold m_law_tape
  simp only [Res.okb, Res.bind_assoc, Res.bind_ok]
  refine Ok.bind (P := fun _ => True) ?_ fun x _ => ?_
  · by_cases h : k < (ns.length : Int)
    · rw [if_pos (by rw [decide_eq_true_eq]; exact h), atM_lt h0 (by omega)]
      exact .ok True.intro
    · rw [if_neg (by rw [decide_eq_true_eq]; exact h)]
      exact .ok True.intro
  · rw [mulI_le (s := 13) (t := 10) (by decide) (by omega) (by decide), Res.okb, mulI_le (s := 21) (t := 10) (by decide) (by omega) (by decide)]
    simp only [Res.okb]
    exact .ok ⟨_, _, _, rfl, by split <;> omega, by omega, by omega⟩
theorem pick_ok {t : List Int} {m : Int} (ht : TP t) (h0 : 0 < m) (h1 : m < 2 ^ 4000) : Ok (m_law_pick t m) fun x => TP x.2 ∧ 0 ≤ x.1 ∧ x.1 < m := by
  obtain ⟨a, b, c, rfl, ha, hb, hc⟩ := ht
  unfold m_law_pick
  simp only [Res.okb, Res.bind_assoc, Res.bind_ok]
  rw [show atM [a, b, c] 0 = .ok a from rfl, show powI 10 18 = .ok (10 ^ 18) from powI_le (x := 10) (y := 18) (s := 4) (by decide) (by decide), Res.okb, Res.okb]
  by_cases h : a ≥ 10 ^ 18
  · rw [if_pos (by rw [decide_eq_true_eq]; exact h), Res.okb, modI_pos h0, Res.okb, Res.okb, fdivI_pos h0 h1, Res.okb, show putM [a, b, c] 0 (a / m) = .ok [a / m, b, c] from rfl, Res.okb]
    exact .ok ⟨⟨_, _, _, rfl, Int.ediv_nonneg ha (by omega), hb, hc⟩, Int.emod_nonneg _ (by omega), Int.emod_lt_of_pos _ h0⟩
  · have e1 : mulI b 69069 = .ok (b * 69069) := mulI_le (s := 40) (t := 17) (by omega) (by decide) (by decide)
    have e2 : mulI a 7177 = .ok (a * 7177) := mulI_le (s := 60) (t := 13) (by omega) (by decide) (by decide)
    have e3 : mulI c 40014 = .ok (c * 40014) := mulI_le (s := 40) (t := 17) (by omega) (by decide) (by decide)
    have e4 : mulI a 3571 = .ok (a * 3571) := mulI_le (s := 60) (t := 13) (by omega) (by decide) (by decide)
    rw [if_neg (by rw [decide_eq_true_eq]; exact h), show atM [a, b, c] 1 = .ok b from rfl, Res.okb, e1, Res.okb, Res.okb, e2, Res.okb, modI_pos (by decide), Res.okb]
    have hB : 0 ≤ (b * 69069 + a * 7177 + 12345) % 2147483629 ∧ (b * 69069 + a * 7177 + 12345) % 2147483629 < 2147483629 := ⟨Int.emod_nonneg _ (by decide), Int.emod_lt_of_pos _ (by decide)⟩
    generalize (b * 69069 + a * 7177 + 12345) % 2147483629 = B at *
    rw [show putM [a, b, c] 1 B = .ok [a, B, c] from rfl, Res.okb, show atM [a, B, c] 2 = .ok c from rfl, Res.okb, e3, Res.okb, show atM [a, B, c] 0 = .ok a from rfl, Res.okb, e4, Res.okb, modI_pos (by decide), Res.okb]
    have hC : 0 ≤ (c * 40014 + a * 3571 + 97) % 2147483563 ∧ (c * 40014 + a * 3571 + 97) % 2147483563 < 2147483563 := ⟨Int.emod_nonneg _ (by decide), Int.emod_lt_of_pos _ (by decide)⟩
    generalize (c * 40014 + a * 3571 + 97) % 2147483563 = D at *
    rw [show putM [a, B, c] 2 D = .ok [a, B, D] from rfl, Res.okb, show atM [a, B, D] 1 = .ok B from rfl, Res.okb, show atM [a, B, D] 2 = .ok D from rfl, Res.okb, mulI_le (s := 40) (t := 40) (by omega) (by omega) (by decide), Res.okb, modI_pos (by decide), Res.okb, fdivI_pos (by decide) (by decide), Res.okb, modI_pos h0, Res.okb]
    exact .ok ⟨⟨_, _, _, rfl, ha, by omega, by omega⟩, Int.emod_nonneg _ (by omega), Int.emod_lt_of_pos _ h0⟩

theorem lawis_ok {q : Rat} {p : Pr} (hq : fits q) (hp : p.1.natAbs ≤ 2 ^ 8000) (hb : p.2.1.natAbs ≤ 2 ^ 8000) (h0 : 0 < p.2.1) : m_law_is q p = .ok (decide (q = (p.1 : Rat) / (p.2.1 : Rat))) := by
  unfold m_law_is
  simp only [Res.okb, Res.bind_assoc, Res.bind_ok]
  have hd := q.den_pos
  have e1 : mulI q.num p.2.1 = .ok (q.num * p.2.1) := mulI_le (s := 4000) hq.1 hb (by decide)
  have e2 : mulI p.1 (q.den : Int) = .ok (p.1 * (q.den : Int)) := mulI_le (t := 4000) hp (by rw [Int.natAbs_natCast]; exact hq.2) (by decide)
  rw [if_neg (by decide), forG_all fun x hx => by rfl, Res.okb, Fl.okb_out, if_pos (by rw [decide_eq_true_eq]; omega), e1, Res.okb, e2, Res.okb]
  congr 1
  exact decide_eq_decide.mpr (cross_iff h0)

theorem tryG_ok' {S L γ : Type} {x : Fl S L γ} {Ls : List (Str × Bool)} {h : Exn → Res (Fl S L γ)} : tryG (.ok x) Ls h = .ok x := by
  have k : ∀ m : Res (Fl S L γ), m = .ok x → tryG m Ls h = .ok x := fun m e => by subst e; rfl
  exact k _ rfl
theorem optM_no {α β : Type} {f1 : β} {f2 : α → β} : optM none f1 f2 = f1 := by
  have h : ∀ m : Option α, m = none → optM m f1 f2 = f1 := fun m e => by subst e; rfl
  exact h _ rfl
theorem optM_so {α β : Type} {y : α} {f1 : β} {f2 : α → β} : optM (some y) f1 f2 = f2 y := by
  have h : ∀ m : Option α, m = some y → optM m f1 f2 = f2 y := fun m e => by subst e; rfl
  exact h _ rfl

/-! ### first returns -/
/-- the next first return out of those ahead -/
def gFR (r : Nat → Rat) (t : Nat) (l : List Rat) : Rat := if t = 0 then 0 else r t - smQ (fun j => l.getD (j + 1) 0 * r (t - 1 - j)) (t - 1)
def gRD (f : Nat → Rat) (t : Nat) (l : List Rat) : Rat := if t = 0 then 1 else smQ (fun j => l.getD (t - 1 - j) 0 * f (j + 1)) t
def frsQ (r : Nat → Rat) (t : Nat) : Rat := gFR r t (cvl (gFR r) t)
def rdsQ (f : Nat → Rat) (t : Nat) : Rat := gRD f t (cvl (gRD f) t)
theorem frsQ_eq (r : Nat → Rat) (t : Nat) : frsQ r t = if t = 0 then 0 else r t - smQ (fun j => frsQ r (j + 1) * r (t - 1 - j)) (t - 1) := by
  show gFR r t (cvl (gFR r) t) = _
  unfold gFR
  by_cases h : t = 0
  · rw [if_pos h, if_pos h]
  · rw [if_neg h, if_neg h]
    congr 1
    refine smQ_congr fun j hj => ?_
    rw [cvl_vec, vec_getD, if_pos (by omega)]
    rfl
theorem rdsQ_eq (f : Nat → Rat) (t : Nat) : rdsQ f t = if t = 0 then 1 else smQ (fun j => rdsQ f (t - 1 - j) * f (j + 1)) t := by
  show gRD f t (cvl (gRD f) t) = _
  unfold gRD
  by_cases h : t = 0
  · rw [if_pos h, if_pos h]
  · rw [if_neg h, if_neg h]
    refine smQ_congr fun j hj => ?_
    rw [cvl_vec, vec_getD, if_pos (by omega)]
    rfl
theorem frs_rds {f : Nat → Rat} (h0 : f 0 = 0) (t : Nat) : frsQ (rdsQ f) t = f t := by
  induction t using Nat.strongRecOn with
  | ind t ih =>
    rw [frsQ_eq]
    by_cases h : t = 0
    · rw [if_pos h, h, h0]
    · rw [if_neg h, rdsQ_eq f t, if_neg h]
      obtain ⟨s, rfl⟩ : ∃ s, t = s + 1 := ⟨t - 1, by omega⟩
      rw [smQ_succ, show s + 1 - 1 = s by omega]
      have e : smQ (fun j => frsQ (rdsQ f) (j + 1) * rdsQ f (s - j)) s = smQ (fun j => rdsQ f (s - j) * f (j + 1)) s := smQ_congr fun j hj => by rw [ih (j + 1) (by omega)]; grind
      rw [e, Nat.sub_self, rdsQ_eq f 0, if_pos rfl]
      grind
theorem rds_frs {r : Nat → Rat} (h0 : r 0 = 1) (t : Nat) : rdsQ (frsQ r) t = r t := by
  induction t using Nat.strongRecOn with
  | ind t ih =>
    rw [rdsQ_eq]
    by_cases h : t = 0
    · rw [if_pos h, h, h0]
    · rw [if_neg h]
      obtain ⟨s, rfl⟩ : ∃ s, t = s + 1 := ⟨t - 1, by omega⟩
      rw [smQ_succ, show s + 1 - 1 = s by omega, Nat.sub_self, ih 0 (by omega), h0, frsQ_eq r (s + 1), if_neg h, show s + 1 - 1 = s by omega]
      have e : smQ (fun j => rdsQ (frsQ r) (s - j) * frsQ r (j + 1)) s = smQ (fun j => frsQ r (j + 1) * r (s - j)) s := smQ_congr fun j hj => by rw [ih (s - j) (by omega)]; grind
      rw [e]
      grind
/-! ### the same in whole numbers -/
def gFI (r : Nat → Int) (t : Nat) (l : List Int) : Int := if t = 0 then 0 else r t - sm (fun j => l.getD (j + 1) 0 * r (t - 1 - j)) (t - 1)
def gRI (f : Nat → Int) (t : Nat) (l : List Int) : Int := if t = 0 then 1 else sm (fun j => f (j + 1) * l.getD (t - 1 - j) 0) t
def frsI (r : Nat → Int) (t : Nat) : Int := gFI r t (cvl (gFI r) t)
def rdsI (f : Nat → Int) (t : Nat) : Int := gRI f t (cvl (gRI f) t)
theorem vec_getDI {n k : Nat} {f : Nat → Int} : (vec n f).getD k 0 = if k < n then f k else 0 := by
  rw [List.getD_eq_getElem?_getD]
  by_cases h : k < n
  · rw [if_pos h, vec_get h]; rfl
  · rw [if_neg h, vec_none (by omega)]; rfl
theorem frsI_eq (r : Nat → Int) (t : Nat) : frsI r t = if t = 0 then 0 else r t - sm (fun j => frsI r (j + 1) * r (t - 1 - j)) (t - 1) := by
  show gFI r t (cvl (gFI r) t) = _
  unfold gFI
  by_cases h : t = 0
  · rw [if_pos h, if_pos h]
  · rw [if_neg h, if_neg h]
    congr 1
    refine sm_congr fun j hj => ?_
    rw [cvl_vec, vec_getDI, if_pos (by omega)]
    rfl
theorem rdsI_eq (f : Nat → Int) (t : Nat) : rdsI f t = if t = 0 then 1 else sm (fun j => f (j + 1) * rdsI f (t - 1 - j)) t := by
  show gRI f t (cvl (gRI f) t) = _
  unfold gRI
  by_cases h : t = 0
  · rw [if_pos h, if_pos h]
  · rw [if_neg h, if_neg h]
    refine sm_congr fun j hj => ?_
    rw [cvl_vec, vec_getDI, if_pos (by omega)]
    rfl
/-- R over the powers of b -/
def ovp (b : Nat) (R : Nat → Int) (k : Nat) : Rat := (R k : Rat) / ((b : Rat) ^ k)
theorem ratpow_add (x : Rat) (i : Nat) : ∀ j, x ^ (i + j) = x ^ i * x ^ j
  | 0 => by rw [Rat.pow_zero, Rat.mul_one]; rfl
  | j + 1 => by rw [← Nat.add_assoc, Rat.pow_succ, ratpow_add x i j, Rat.pow_succ, Rat.mul_assoc]
theorem ovp_mul {b : Nat} {R S : Nat → Int} {i j : Nat} : ovp b R i * ovp b S j = ((R i * S j : Int) : Rat) / ((b : Rat) ^ (i + j)) := by
  unfold ovp
  rw [ratpow_add, Rat.intCast_mul, Rat.div_def, Rat.div_def, Rat.div_def, Rat.inv_mul_rev]
  grind
theorem ovp_sum {c : Rat} {F : Nat → Int} : ∀ n, smQ (fun j => ((F j : Int) : Rat) / c) n = ((sm F n : Int) : Rat) / c
  | 0 => by show (0 : Rat) = ((0 : Int) : Rat) / c; rw [Rat.div_def]; have : ((0 : Int) : Rat) = 0 := rfl; rw [this]; grind
  | n + 1 => by rw [smQ_succ, sm_succ, ovp_sum n, Rat.intCast_add, Rat.div_def, Rat.div_def, Rat.div_def]; grind
theorem sub_div' (x y c : Rat) : (x - y) / c = x / c - y / c := by rw [Rat.div_def, Rat.div_def, Rat.div_def]; grind
theorem frs_ovp (b : Nat) (R : Nat → Int) (t : Nat) : frsQ (ovp b R) t = ovp b (frsI R) t := by
  induction t using Nat.strongRecOn with
  | ind t ih =>
    rw [frsQ_eq]
    show _ = ((frsI R t : Int) : Rat) / _
    rw [frsI_eq R t]
    by_cases h : t = 0
    · rw [if_pos h, if_pos h]; have : ((0 : Int) : Rat) = 0 := rfl; rw [this, Rat.div_def]; grind
    · rw [if_neg h, if_neg h, Rat.intCast_sub, sub_div', ← ovp_sum]
      congr 1
      refine smQ_congr fun j hj => ?_
      rw [ih (j + 1) (by omega), ovp_mul, show j + 1 + (t - 1 - j) = t by omega]
theorem rds_ovp (b : Nat) (F : Nat → Int) (t : Nat) : rdsQ (ovp b F) t = ovp b (rdsI F) t := by
  induction t using Nat.strongRecOn with
  | ind t ih =>
    rw [rdsQ_eq]
    show _ = ((rdsI F t : Int) : Rat) / _
    rw [rdsI_eq F t]
    by_cases h : t = 0
    · rw [if_pos h, if_pos h, h]; have : ((1 : Int) : Rat) = 1 := rfl; rw [this, Rat.pow_zero, Rat.div_def]; grind
    · rw [if_neg h, if_neg h, ← ovp_sum]
      refine smQ_congr fun j hj => ?_
      rw [ih (t - 1 - j) (by omega), ovp_mul, show t - 1 - j + (j + 1) = t by omega, Int.mul_comm]
/-! ### the walks -/
theorem for_vec {α S : Type} {F : α → S → Res S} {n : Nat} {f : Nat → α} {s0 : S} (st : Nat → S) (h0 : st 0 = s0) (hF : ∀ i : Nat, i < n → F (f i) (st i) = .ok (st (i + 1))) : forS F (vec n f) s0 = .ok (st n) := by
  refine Ok.eq ?_
  refine (Ok.forS (fun i s => s = st i) h0.symm fun i x s ex hs => ?_).mono fun s h => by rw [vec_len] at h; exact h
  have hi : i < n := by
    have := (List.getElem?_eq_some_iff.mp ex).1; rw [vec_len] at this; exact this
  rw [vec_get hi] at ex
  cases ex
  rw [hs]
  exact .of (hF i hi) rfl
theorem rngI_vec (lo : Int) (n : Nat) : rngI lo n = vec n fun i => lo + (i : Int) := rfl
theorem qInt_z : qInt 0 = .ok 0 := rfl
theorem qInt_1 : qInt 1 = .ok 1 := rfl
theorem total_ok {n D M : Nat} {f : Nat → Rat} (hD : D ≤ 2 ^ 1400) (hM : M ≤ 2 ^ 210) (h0 : 0 < D) (hn : n ≤ 20) (hf : ∀ i, i < n → Fx D M (f i)) : m_total_of (vec n f) = .ok (smQ f n) := by
  unfold m_total_of
  simp only [Res.okb, Res.bind_assoc, Res.bind_ok]
  rw [qInt_z, Res.okb]
  refine for_vec (smQ f) rfl fun i hi => ?_
  have h1 : fits (smQ f i) := (Fx.sum h0 (M := M) fun k hk => hf k (by omega)).fits hD (Nat.le_trans (Nat.mul_le_mul (show i ≤ 2 ^ 5 by omega) hM) (by rw [← Nat.pow_add]; exact Nat.le_refl _)) (by decide)
  have h2 : fits (f i) := (hf i hi).fits hD hM (by decide)
  rw [qAddq h1 h2]
  rfl
/-- numbers over the powers of b -/
def GP (b M n : Nat) (r : Nat → Rat) : Prop := ∀ k, k < n → Fx (b ^ k) M (r k)
theorem gp_mul {b M n i j : Nat} {r s : Nat → Rat} (hr : GP b M n r) (hs : GP b M n s) (hi : i < n) (hj : j < n) : Fx (b ^ (i + j)) (M * M) (r i * s j) := by
  rw [Nat.pow_add]; exact (hr i hi).mul (hs j hj)
structure Bnd (b M n : Nat) : Prop where
  b0 : 0 < b
  hb : b ^ n ≤ 2 ^ 1400
  hM : M ≤ 2 ^ 105
  hn : n ≤ 14
theorem Bnd.pow {b M n k : Nat} (g : Bnd b M n) (hk : k ≤ n) : b ^ k ≤ 2 ^ 1400 := Nat.le_trans (Nat.pow_le_pow_right g.b0 hk) g.hb
theorem Bnd.MM {b M n : Nat} (g : Bnd b M n) : M * M ≤ 2 ^ 210 := Nat.le_trans (Nat.mul_le_mul g.hM g.hM) (by rw [← Nat.pow_add]; exact Nat.le_refl _)
theorem Bnd.fits {b M n k : Nat} {r : Nat → Rat} (g : Bnd b M n) (hr : GP b M n r) (hk : k < n) : Tr.fits (r k) := (hr k hk).fits (g.pow (by omega)) g.hM (by decide)
theorem qMulv {x : Rat} {y : Num} {z : Rat} (e : y.val = z) (hx : fits x) (hy : fits z) : qMul x y = .ok (x * z) := by rw [qMul_ok hx (by rw [e]; exact hy), e]
theorem firsts_ok {b M n : Nat} {r : Nat → Rat} {ν : Nat → Num} (g : Bnd b M n) (h0 : 0 < n) (hν : ∀ k, k < n → (ν k).val = r k) (h1 : r 0 = 1) (hr : GP b M n r) (hf : GP b M n (frsQ r)) : m_first_returns (vec n ν) = .ok (vec n (frsQ r)) := by
  have hn := g.hn
  unfold m_first_returns
  simp only [Res.okb, Res.bind_assoc, Res.bind_ok]
  rw [vec_len, if_neg (by rw [decide_eq_true_eq]; omega), vec_at (by decide) h0, Res.okb]
  unfold qAs qEq
  simp only [Res.okb]
  rw [if_neg (by
    show ¬ (!decide ((ν 0).val = ((1 : Int) : Rat))) = true
    rw [hν 0 h0, h1]; decide), qInt_z, Res.okb, rangeM_ok ⟨by decide, by decide, by omega, by omega⟩, Res.okb, rngI_vec]
  have key := for_vec (F := fun (i : Int) (s : List Rat) => (rangeM 1 i).bind fun l => (lcR (fun (k : Int) => (atM s k).bind fun a => (atM (vec n ν) (i - k)).bind fun b => qMul a b) l).bind fun a => (m_total_of a).bind fun known => (atM (vec n ν) i).bind fun x => (Res.ok x.val).bind fun x => (qSub x (.q known)).bind fun y => appM s y) (n := n - 1) (f := fun i => 1 + (i : Int)) (s0 := [0]) (fun i => vec (i + 1) (frsQ r)) (by show [frsQ r 0] = [0]; rw [frsQ_eq, if_pos rfl]) fun i hi => ?_
  · rw [show ((n : Int) - 1).toNat = n - 1 by omega]
    have e : n - 1 + 1 = n := by omega
    simp only [Res.okb] at key
    rw [e] at key
    exact key
  · show (rangeM 1 (1 + (i : Int))).bind _ = _
    rw [rangeM_ok ⟨by decide, by decide, by omega, by omega⟩, Res.okb, show (1 + (i : Int) - 1).toNat = i by omega, rngI_vec]
    rw [lcR_vec (h := fun j => frsQ r (j + 1) * r (i - j)) (by omega) fun j hj => by
      rw [show (1 : Int) + (j : Int) = ((j + 1 : Nat) : Int) by omega, vec_atN (show j + 1 < i + 1 by omega), Res.okb, show (1 : Int) + (i : Int) - ((j + 1 : Nat) : Int) = ((i - j : Nat) : Int) by omega, vec_atN (show i - j < n by omega), Res.okb]
      exact qMulv (hν _ (by omega)) (g.fits hf (by omega)) (g.fits hr (by omega)), Res.okb]
    have ht : ∀ j, j < i → Fx (b ^ (i + 1)) (M * M) (frsQ r (j + 1) * r (i - j)) := fun j hj => by
      have := gp_mul hf hr (i := j + 1) (j := i - j) (by omega) (by omega)
      rw [show j + 1 + (i - j) = i + 1 by omega] at this; exact this
    have hD := g.pow (k := i + 1) (by omega)
    have hp : 0 < b ^ (i + 1) := Nat.pow_pos g.b0
    rw [total_ok hD g.MM hp (by omega) ht, Res.okb, show (1 : Int) + (i : Int) = ((i + 1 : Nat) : Int) by omega, vec_atN (show i + 1 < n by omega), Res.okb, Res.okb, hν (i + 1) (by omega)]
    have f1 : fits (r (i + 1)) := g.fits hr (by omega)
    have f2 : fits (smQ (fun j => frsQ r (j + 1) * r (i - j)) i) := (Fx.sum hp ht).fits hD (Nat.le_trans (Nat.mul_le_mul (show i ≤ 2 ^ 5 by omega) g.MM) (by rw [← Nat.pow_add]; exact Nat.le_refl _)) (by decide)
    rw [qSubq f1 f2, Res.okb, appM_ok (by rw [vec_len]; omega), vec_succ (n := i + 1), frsQ_eq r (i + 1), if_neg (by omega), show i + 1 - 1 = i by omega]
theorem readings_ok {b M n : Nat} {f : Nat → Rat} {ν : Nat → Num} (g : Bnd b M n) (h0 : 0 < n) (hν : ∀ k, k < n → (ν k).val = f k) (h1 : f 0 = 0) (hr : GP b M n (rdsQ f)) (hf : GP b M n f) : m_returned (vec n ν) = .ok (vec n (rdsQ f)) := by
  have hn := g.hn
  unfold m_returned
  simp only [Res.okb, Res.bind_assoc, Res.bind_ok]
  rw [vec_len, if_neg (by rw [decide_eq_true_eq]; omega), vec_at (by decide) h0, Res.okb]
  unfold qAs qEq
  simp only [Res.okb]
  rw [if_neg (by
    show ¬ (!decide ((ν 0).val = ((0 : Int) : Rat))) = true
    rw [hν 0 h0, h1]; decide), qInt_1, Res.okb, rangeM_ok ⟨by decide, by decide, by omega, by omega⟩, Res.okb, rngI_vec]
  have key := for_vec (F := fun (i : Int) (s : List Rat) => (rangeM 1 (i + 1)).bind fun l => (lcR (fun (k : Int) => (atM s (i - k)).bind fun a => (atM (vec n ν) k).bind fun b => qMul a b) l).bind fun a => (m_total_of a).bind fun y => appM s y) (n := n - 1) (f := fun i => 1 + (i : Int)) (s0 := [1]) (fun i => vec (i + 1) (rdsQ f)) (by show [rdsQ f 0] = [1]; rw [rdsQ_eq, if_pos rfl]) fun i hi => ?_
  · rw [show ((n : Int) - 1).toNat = n - 1 by omega]
    have e : n - 1 + 1 = n := by omega
    rw [e] at key
    exact key
  · show (rangeM 1 (1 + (i : Int) + 1)).bind _ = _
    rw [rangeM_ok ⟨by decide, by decide, by omega, by omega⟩, Res.okb, show (1 + (i : Int) + 1 - 1).toNat = i + 1 by omega, rngI_vec]
    rw [lcR_vec (h := fun j => rdsQ f (i - j) * f (j + 1)) (by omega) fun j hj => by
      rw [show (1 : Int) + (j : Int) = ((j + 1 : Nat) : Int) by omega, show (1 : Int) + (i : Int) - ((j + 1 : Nat) : Int) = ((i - j : Nat) : Int) by omega, vec_atN (show i - j < i + 1 by omega), Res.okb, vec_atN (show j + 1 < n by omega), Res.okb]
      exact qMulv (hν _ (by omega)) (g.fits hr (by omega)) (g.fits hf (by omega)), Res.okb]
    have ht : ∀ j, j < i + 1 → Fx (b ^ (i + 1)) (M * M) (rdsQ f (i - j) * f (j + 1)) := fun j hj => by
      have := gp_mul hr hf (i := i - j) (j := j + 1) (by omega) (by omega)
      rw [show i - j + (j + 1) = i + 1 by omega] at this; exact this
    have hp : 0 < b ^ (i + 1) := Nat.pow_pos g.b0
    rw [total_ok (g.pow (k := i + 1) (by omega)) g.MM hp (by omega) ht, Res.okb, appM_ok (by rw [vec_len]; omega), vec_succ (n := i + 1), rdsQ_eq f (i + 1), if_neg (by omega), show i + 1 - 1 = i by omega]
theorem raised_ok {b : Nat} {n : Nat} {tp : Nat → Int} (s : Int) (hb : b ^ n ≤ 2 ^ 1400) (b0 : 0 < b) (hn : n ≤ 12) (ht : ∀ i, i < n → (tp i).natAbs ≤ 5 * b) : m_law_raised (vec n tp) (b : Int) s = .ok (vec (n + 1) fun k => if k = 0 then s else tp (k - 1) * (b : Int) ^ (k - 1)) := by
  unfold m_law_raised
  simp only [Res.okb, Res.bind_assoc, Res.bind_ok]
  have hb1 : ∀ k, k ≤ n → ((b : Int) ^ k).natAbs ≤ 2 ^ 1400 := fun k hk => by
    rw [Int.natAbs_pow, Int.natAbs_natCast]; exact Nat.le_trans (Nat.pow_le_pow_right b0 hk) hb
  have key := for_vec (n := n) (f := tp) (F := fun (i : Int) (s : Int × List Int) => (mulI i s.1).bind fun y => (appM s.2 y).bind fun o => (mulI s.1 (b : Int)).bind fun p => .ok (p, o)) (s0 := (1, [s])) (fun i => ((b : Int) ^ i, vec (i + 1) fun k => if k = 0 then s else tp (k - 1) * (b : Int) ^ (k - 1))) rfl fun i hi => by
    have hbb : b ≤ 2 ^ 1400 := by
      have := hb1 1 (by omega)
      rw [Int.pow_one] at this
      simpa using this
    have h5 : (tp i).natAbs ≤ 2 ^ 1403 := Nat.le_trans (ht i hi) (Nat.le_trans (Nat.mul_le_mul_left 5 hbb) (by decide))
    show (mulI (tp i) ((b : Int) ^ i)).bind _ = _
    rw [mulI_le h5 (hb1 i (by omega)) (by decide), Res.okb]
    show (appM (vec (i + 1) _) _).bind _ = _
    rw [appM_ok (by rw [vec_len]; omega), Res.okb, mulI_le (hb1 i (by omega)) (t := 1400) (by rw [Int.natAbs_natCast]; exact hbb) (by decide), Res.okb]
    show _ = Res.ok ((b : Int) ^ (i + 1), vec (i + 1 + 1) _)
    rw [vec_succ (n := i + 1), if_neg (by omega)]
    rfl
  exact congrArg (fun m => m.bind fun s => Res.ok s.2) key
theorem over_ok {b n : Nat} {R : Nat → Int} (hb : b ^ n ≤ 2 ^ 1400) (b0 : 0 < b) (h0 : 0 < n) (hn : n ≤ 20) : m_law_over_powers (vec n R) (b : Int) = .ok (vec n fun k => (R k, (b : Int) ^ k, ())) := by
  unfold m_law_over_powers
  simp only [Res.okb, Res.bind_assoc, Res.bind_ok]
  have hb1 : ∀ k, k ≤ n → ((b : Int) ^ k).natAbs ≤ 2 ^ 1400 := fun k hk => by
    rw [Int.natAbs_pow, Int.natAbs_natCast]; exact Nat.le_trans (Nat.pow_le_pow_right b0 hk) hb
  have key := for_vec (n := n) (f := R) (F := fun (i : Int) (s : Int × List Pr) => (appM s.2 (i, s.1, ())).bind fun o => (mulI s.1 (b : Int)).bind fun p => .ok (p, o)) (s0 := (1, [])) (fun i => ((b : Int) ^ i, vec i fun k => (R k, (b : Int) ^ k, ()))) rfl fun i hi => by
    have hbb : b ≤ 2 ^ 1400 := by
      have := hb1 1 (by omega)
      rw [Int.pow_one] at this
      simpa using this
    show (appM (vec i _) _).bind _ = _
    rw [appM_ok (by rw [vec_len]; omega), Res.okb, mulI_le (hb1 i (by omega)) (t := 1400) (by rw [Int.natAbs_natCast]; exact hbb) (by decide), Res.okb]
    show _ = Res.ok ((b : Int) ^ (i + 1), vec (i + 1) _)
    rw [vec_succ (n := i)]
    rfl
  exact congrArg (fun m => m.bind fun s => Res.ok s.2) key
theorem lawfirst_ok {n : Nat} {R : Nat → Int} (h0 : 0 < n) (hn : n ≤ 14) (hR : ∀ k, k < n → (R k).natAbs ≤ 2 ^ 1600) (hF : ∀ k, k < n → (frsI R k).natAbs ≤ 2 ^ 1600) : m_law_first (vec n R) = .ok (vec n (frsI R)) := by
  unfold m_law_first
  simp only [Res.okb, Res.bind_assoc, Res.bind_ok]
  rw [vec_len, rangeM_ok ⟨by decide, by decide, by omega, by omega⟩, Res.okb, rngI_vec]
  have key := for_vec (F := fun (i : Int) (s : List Int) => (atM (vec n R) i).bind fun x => (rangeM 1 i).bind fun l => (lcR (fun (k : Int) => (atM s k).bind fun a => (atM (vec n R) (i - k)).bind fun b => mulI a b) l).bind fun a => appM s (x - a.sum)) (n := n - 1) (f := fun i => 1 + (i : Int)) (s0 := [0]) (fun i => vec (i + 1) (frsI R)) (by show [frsI R 0] = [0]; rw [frsI_eq, if_pos rfl]) fun i hi => ?_
  · rw [show ((n : Int) - 1).toNat = n - 1 by omega]
    have e : n - 1 + 1 = n := by omega
    rw [e] at key
    exact key
  · show (atM (vec n R) (1 + (i : Int))).bind _ = _
    rw [show (1 : Int) + (i : Int) = ((i + 1 : Nat) : Int) by omega, vec_atN (show i + 1 < n by omega), Res.okb, rangeM_ok ⟨by decide, by decide, by omega, by omega⟩, Res.okb, show (((i + 1 : Nat) : Int) - 1).toNat = i by omega, rngI_vec]
    rw [lcR_vec (h := fun j => frsI R (j + 1) * R (i - j)) (by omega) fun j hj => by
      rw [show (1 : Int) + (j : Int) = ((j + 1 : Nat) : Int) by omega, vec_atN (show j + 1 < i + 1 by omega), Res.okb, show ((i + 1 : Nat) : Int) - ((j + 1 : Nat) : Int) = ((i - j : Nat) : Int) by omega, vec_atN (show i - j < n by omega), Res.okb]
      exact mulI_le (hF _ (by omega)) (hR _ (by omega)) (by decide), Res.okb, sum_vec, appM_ok (by rw [vec_len]; omega), vec_succ (n := i + 1), frsI_eq R (i + 1), if_neg (by omega), show i + 1 - 1 = i by omega]
theorem lawagain_ok {n : Nat} {F : Nat → Int} (h0 : 0 < n) (hn : n ≤ 14) (hF : ∀ k, k < n → (F k).natAbs ≤ 2 ^ 1600) (hR : ∀ k, k < n → (rdsI F k).natAbs ≤ 2 ^ 1600) : m_law_again (vec n F) = .ok (vec n (rdsI F)) := by
  unfold m_law_again
  simp only [Res.okb, Res.bind_assoc, Res.bind_ok]
  rw [vec_len, rangeM_ok ⟨by decide, by decide, by omega, by omega⟩, Res.okb, rngI_vec]
  have key := for_vec (F := fun (i : Int) (s : List Int) => (rangeM 1 (i + 1)).bind fun l => (lcR (fun (k : Int) => (atM (vec n F) k).bind fun a => (atM s (i - k)).bind fun b => mulI a b) l).bind fun a => appM s a.sum) (n := n - 1) (f := fun i => 1 + (i : Int)) (s0 := [1]) (fun i => vec (i + 1) (rdsI F)) (by show [rdsI F 0] = [1]; rw [rdsI_eq, if_pos rfl]) fun i hi => ?_
  · rw [show ((n : Int) - 1).toNat = n - 1 by omega]
    have e : n - 1 + 1 = n := by omega
    rw [e] at key
    exact key
  · show (rangeM 1 (1 + (i : Int) + 1)).bind _ = _
    rw [rangeM_ok ⟨by decide, by decide, by omega, by omega⟩, Res.okb, show (1 + (i : Int) + 1 - 1).toNat = i + 1 by omega, rngI_vec]
    rw [lcR_vec (h := fun j => F (j + 1) * rdsI F (i - j)) (by omega) fun j hj => by
      rw [show (1 : Int) + (j : Int) = ((j + 1 : Nat) : Int) by omega, vec_atN (show j + 1 < n by omega), Res.okb, show (1 : Int) + (i : Int) - ((j + 1 : Nat) : Int) = ((i - j : Nat) : Int) by omega, vec_atN (show i - j < i + 1 by omega), Res.okb]
      exact mulI_le (hF _ (by omega)) (hR _ (by omega)) (by decide), Res.okb, sum_vec, appM_ok (by rw [vec_len]; omega), vec_succ (n := i + 1), rdsI_eq F (i + 1), if_neg (by omega), show i + 1 - 1 = i by omega]
theorem listed_ok {b n : Nat} {f : Nat → Rat} {R : Nat → Int} (b0 : 0 < b) (hb : b ^ n ≤ 2 ^ 1400) (hn : n ≤ 20) (hR : ∀ k, k < n → (R k).natAbs ≤ 2 ^ 8000) (hf : ∀ k, k < n → fits (f k)) (e : ∀ k, k < n → f k = ovp b R k) : m_law_listed (vec n f) (vec n fun k => (R k, (b : Int) ^ k, ())) = .ok true := by
  unfold m_law_listed
  simp only [Res.okb, Res.bind_assoc, Res.bind_ok]
  rw [if_neg (by decide), vec_len, vec_len, Res.okb, if_neg (by simp), rangeM1_ok ⟨by omega, by omega⟩, Res.okb, forG_all fun x hx => ?_, Res.okb, Fl.okb_out]
  rw [rngI_vec] at hx
  obtain ⟨k, hk, rfl⟩ := vec_mem hx
  have hk : k < n := by omega
  have hbk : ((b : Int) ^ k).natAbs ≤ 2 ^ 8000 := by rw [Int.natAbs_pow, Int.natAbs_natCast]; exact Nat.le_trans (Nat.pow_le_pow_right b0 (Nat.le_of_lt hk)) (Nat.le_trans hb (Nat.pow_le_pow_right (by decide) (by decide)))
  have hp : (0 : Int) < (b : Int) ^ k := by exact_mod_cast Nat.pow_pos b0
  rw [show (0 : Int) + (k : Int) = (k : Int) by omega, vec_atN hk, Res.okb, vec_atN hk, Res.okb, lawis_ok (hf k hk) (hR k hk) hbk hp, Res.okb]
  have : f k = ((R k : Int) : Rat) / (((b : Int) ^ k : Int) : Rat) := by
    rw [e k hk]; unfold ovp; congr 1
    rw [Rat.intCast_pow]; rfl
  rw [if_neg (by simp [this])]
theorem refT {door : Int} {xs : List Num} (h : (door = 0 ∧ m_first_returns xs = .err ⟨"BadReadings", []⟩) ∨ (door ≠ 0 ∧ m_returned xs = .err ⟨"BadReadings", []⟩)) : m_law_refused door xs = .ok true := by
  unfold m_law_refused
  simp only [Res.okb, Res.bind_assoc, Res.bind_ok]
  rcases h with ⟨h, e⟩ | ⟨h, e⟩
  · rw [if_pos (by rw [decide_eq_true_eq]; exact h), e]; rfl
  · rw [if_neg (by rw [decide_eq_true_eq]; exact h), e]; rfl
theorem refF {door : Int} {xs : List Num} {ys : List Rat} (h : (door = 0 ∧ m_first_returns xs = .ok ys) ∨ (door ≠ 0 ∧ m_returned xs = .ok ys)) : m_law_refused door xs = .ok false := by
  unfold m_law_refused
  simp only [Res.okb, Res.bind_assoc, Res.bind_ok]
  rcases h with ⟨h, e⟩ | ⟨h, e⟩
  · rw [if_pos (by rw [decide_eq_true_eq]; exact h), e, Res.okb, Res.okb, tryG_ok', Res.okb, Fl.okb_out]
  · rw [if_neg (by rw [decide_eq_true_eq]; exact h), e, Res.okb, Res.okb, tryG_ok', Res.okb, Fl.okb_out]
theorem firsts_err {xs : List Num} (h : xs = [] ∨ ∃ x ys, xs = x :: ys ∧ x.val ≠ 1) : m_first_returns xs = .err ⟨"BadReadings", []⟩ := by
  unfold m_first_returns
  simp only [Res.okb, Res.bind_assoc, Res.bind_ok]
  rcases h with rfl | ⟨x, ys, rfl, h⟩
  · rw [if_pos (by decide), Res.okb, if_pos rfl]
  · rw [if_neg (by simp; omega), show atM (x :: ys) 0 = .ok x from atM_get (by decide) rfl, Res.okb]
    unfold qAs qEq
    simp only [Res.okb]
    rw [if_pos (by
      have h : decide (x.val = (Num.i 1).val) = false := decide_eq_false h
      rw [h]; rfl)]
theorem readings_err {xs : List Num} (h : xs = [] ∨ ∃ x ys, xs = x :: ys ∧ x.val ≠ 0) : m_returned xs = .err ⟨"BadReadings", []⟩ := by
  unfold m_returned
  simp only [Res.okb, Res.bind_assoc, Res.bind_ok]
  rcases h with rfl | ⟨x, ys, rfl, h⟩
  · rw [if_pos (by decide), Res.okb, if_pos rfl]
  · rw [if_neg (by simp; omega), show atM (x :: ys) 0 = .ok x from atM_get (by decide) rfl, Res.okb]
    unfold qAs qEq
    simp only [Res.okb]
    rw [if_pos (by
      have h : decide (x.val = (Num.i 0).val) = false := decide_eq_false h
      rw [h]; rfl)]

/-! ### sizes -/
theorem frsI_bd {b N : Nat} {R : Nat → Int} (hN : N ≤ 13) (hR : ∀ k, k < N → (R k).natAbs ≤ 5 * b ^ k) : ∀ k, k < N → (frsI R k).natAbs ≤ 60 ^ k * b ^ k := fun t => by
  induction t using Nat.strongRecOn with
  | ind t ih =>
    intro ht
    rw [frsI_eq]
    by_cases h : t = 0
    · rw [if_pos h]; exact Nat.zero_le _
    · rw [if_neg h]
      obtain ⟨s, rfl⟩ : ∃ s, t = s + 1 := ⟨t - 1, by omega⟩
      rw [show s + 1 - 1 = s by omega]
      have h2 : (sm (fun j => frsI R (j + 1) * R (s - j)) s).natAbs ≤ s * (60 ^ s * (5 * b ^ (s + 1))) := sm_abs fun j hj => by
        rw [Int.natAbs_mul]
        refine Nat.le_trans (Nat.mul_le_mul (ih (j + 1) (by omega) (by omega)) (hR (s - j) (by omega))) ?_
        rw [show 60 ^ (j + 1) * b ^ (j + 1) * (5 * b ^ (s - j)) = 60 ^ (j + 1) * (5 * (b ^ (j + 1) * b ^ (s - j))) by grind, ← Nat.pow_add, show j + 1 + (s - j) = s + 1 by omega]
        exact Nat.mul_le_mul_right _ (Nat.pow_le_pow_right (by decide) (by omega))
      refine Nat.le_trans (Int.natAbs_sub_le _ _) (Nat.le_trans (Nat.add_le_add (hR (s + 1) ht) h2) ?_)
      have h3 : 1 ≤ 60 ^ s := Nat.one_le_pow _ _ (by decide)
      have h4 : 5 * b ^ (s + 1) ≤ 60 ^ s * (5 * b ^ (s + 1)) := Nat.le_mul_of_pos_left _ h3
      refine Nat.le_trans (Nat.add_le_add_right h4 _) ?_
      rw [show 60 ^ s * (5 * b ^ (s + 1)) + s * (60 ^ s * (5 * b ^ (s + 1))) = (5 * (s + 1)) * (60 ^ s * b ^ (s + 1)) by grind, show 60 ^ (s + 1) * b ^ (s + 1) = 60 * (60 ^ s * b ^ (s + 1)) by rw [Nat.pow_succ]; grind]
      exact Nat.mul_le_mul_right _ (by omega)
theorem rdsI_bd {b N : Nat} {F : Nat → Int} (hN : N ≤ 13) (hF : ∀ k, k < N → (F k).natAbs ≤ 5 * b ^ k) : ∀ k, k < N → (rdsI F k).natAbs ≤ 60 ^ k * b ^ k := fun t => by
  induction t using Nat.strongRecOn with
  | ind t ih =>
    intro ht
    rw [rdsI_eq]
    by_cases h : t = 0
    · rw [if_pos h, h]; simp
    · rw [if_neg h]
      obtain ⟨s, rfl⟩ : ∃ s, t = s + 1 := ⟨t - 1, by omega⟩
      rw [show s + 1 - 1 = s by omega]
      have h2 : (sm (fun j => F (j + 1) * rdsI F (s - j)) (s + 1)).natAbs ≤ (s + 1) * (60 ^ s * (5 * b ^ (s + 1))) := sm_abs fun j hj => by
        rw [Int.natAbs_mul]
        refine Nat.le_trans (Nat.mul_le_mul (hF (j + 1) (by omega)) (ih (s - j) (by omega) (by omega))) ?_
        rw [show 5 * b ^ (j + 1) * (60 ^ (s - j) * b ^ (s - j)) = 60 ^ (s - j) * (5 * (b ^ (j + 1) * b ^ (s - j))) by grind, ← Nat.pow_add, show j + 1 + (s - j) = s + 1 by omega]
        exact Nat.mul_le_mul_right _ (Nat.pow_le_pow_right (by decide) (by omega))
      refine Nat.le_trans h2 ?_
      rw [show (s + 1) * (60 ^ s * (5 * b ^ (s + 1))) = (5 * (s + 1)) * (60 ^ s * b ^ (s + 1)) by grind, show 60 ^ (s + 1) * b ^ (s + 1) = 60 * (60 ^ s * b ^ (s + 1)) by rw [Nat.pow_succ]; grind]
      exact Nat.mul_le_mul_right _ (by omega)
theorem ovp_fx {b k M : Nat} {R : Nat → Int} (b0 : 0 < b) (h : (R k).natAbs ≤ M * b ^ k) : Fx (b ^ k) M (ovp b R k) := by
  refine ⟨Nat.pow_pos b0, R k, ?_, h⟩
  unfold ovp
  rw [Rat.divInt_eq_div]
  congr 1
  rw [Int.natCast_pow, Rat.intCast_pow]; rfl
theorem vec_cons {α : Type} {n : Nat} {x : α} {f : Nat → α} : [x] ++ vec n f = vec (n + 1) fun k => if k = 0 then x else f (k - 1) := by
  apply List.ext_getElem?
  intro i
  cases i with
  | zero => rw [vec_get (by omega)]; rfl
  | succ i =>
    show (vec n f)[i]? = _
    by_cases h : i < n
    · rw [vec_get h, vec_get (show i + 1 < n + 1 by omega), if_neg (by omega)]; rfl
    · rw [vec_none (by omega), vec_none (by omega)]
/-- what the law draws: lists over the powers of b -/
structure TD (b n : Nat) (tp : Nat → Int) : Prop where
  b0 : 0 < b
  hb : b ≤ 2 ^ 100
  hn : n ≤ 12
  ht : ∀ i, i < n → (tp i).natAbs ≤ 5 * b
def ris (b : Nat) (tp : Nat → Int) (s : Int) (k : Nat) : Int := if k = 0 then s else tp (k - 1) * (b : Int) ^ (k - 1)
variable {b n : Nat} {tp : Nat → Int}
theorem TD.p (g : TD b n tp) {k : Nat} (hk : k ≤ 14) : b ^ k ≤ 2 ^ 1400 := by
  refine Nat.le_trans (Nat.pow_le_pow_right g.b0 hk) (Nat.le_trans (Nat.pow_le_pow_left g.hb 14) ?_)
  rw [← Nat.pow_mul]; exact Nat.le_refl _
theorem TD.ris5 (g : TD b n tp) {s : Int} (hs : s.natAbs ≤ 1) : ∀ k, k < n + 1 → (ris b tp s k).natAbs ≤ 5 * b ^ k := fun k hk => by
  unfold ris
  by_cases h : k = 0
  · rw [if_pos h, h]; simp; omega
  · rw [if_neg h, Int.natAbs_mul, Int.natAbs_pow, Int.natAbs_natCast]
    refine Nat.le_trans (Nat.mul_le_mul_right _ (g.ht (k - 1) (by omega))) ?_
    rw [Nat.mul_assoc, ← Nat.pow_succ', show (k - 1).succ = k by omega]
    exact Nat.le_refl _
theorem TD.bnd (g : TD b n tp) : Bnd b (60 ^ 13) (n + 1) := ⟨g.b0, g.p (by have := g.hn; omega), by decide, by have := g.hn; omega⟩
theorem m60 {k B : Nat} (hk : k ≤ 13) : 60 ^ k * B ≤ 60 ^ 13 * B := Nat.mul_le_mul_right _ (Nat.pow_le_pow_right (by decide) hk)
theorem TD.g5 (g : TD b n tp) {s : Int} (hs : s.natAbs ≤ 1) : GP b (60 ^ 13) (n + 1) (ovp b (ris b tp s)) := fun k hk => ovp_fx g.b0 (Nat.le_trans (g.ris5 hs k hk) (Nat.mul_le_mul_right _ (by decide)))
theorem TD.gF (g : TD b n tp) {s : Int} (hs : s.natAbs ≤ 1) : GP b (60 ^ 13) (n + 1) (frsQ (ovp b (ris b tp s))) := fun k hk => by
  have := g.hn
  rw [frs_ovp]
  exact ovp_fx g.b0 (Nat.le_trans (frsI_bd (N := n + 1) (by omega) (g.ris5 hs) k hk) (m60 (by omega)))
theorem TD.gR (g : TD b n tp) {s : Int} (hs : s.natAbs ≤ 1) : GP b (60 ^ 13) (n + 1) (rdsQ (ovp b (ris b tp s))) := fun k hk => by
  have := g.hn
  rw [rds_ovp]
  exact ovp_fx g.b0 (Nat.le_trans (rdsI_bd (N := n + 1) (by omega) (g.ris5 hs) k hk) (m60 (by omega)))
theorem TD.big (g : TD b n tp) {R : Nat → Int} (h : ∀ k, k < n + 1 → (R k).natAbs ≤ 60 ^ 13 * b ^ k) : ∀ k, k < n + 1 → (R k).natAbs ≤ 2 ^ 1600 := fun k hk => by
  have := g.hn
  exact Nat.le_trans (h k hk) (Nat.le_trans (Nat.mul_le_mul (show 60 ^ 13 ≤ 2 ^ 80 by decide) (g.p (k := k) (by omega))) (by rw [← Nat.pow_add]; exact Nat.pow_le_pow_right (by decide) (by decide)))
/-- both turns -/
theorem turn_ok (g : TD b n tp) {ε : Nat → Num} (hε : ∀ k, k < n → (ε k).val = (tp k : Rat) / (b : Rat)) : let R1 := ris b tp 1; let R0 := ris b tp 0
    m_law_raised (vec n tp) (b : Int) 1 = .ok (vec (n + 1) R1) ∧ m_law_raised (vec n tp) (b : Int) 0 = .ok (vec (n + 1) R0) ∧ m_law_first (vec (n + 1) R1) = .ok (vec (n + 1) (frsI R1)) ∧ m_law_again (vec (n + 1) R0) = .ok (vec (n + 1) (rdsI R0)) ∧
    m_first_returns (vec (n + 1) fun k => if k = 0 then Num.i 1 else ε (k - 1)) = .ok (vec (n + 1) (frsQ (ovp b R1))) ∧ m_returned (vec (n + 1) fun k => if k = 0 then Num.i 0 else ε (k - 1)) = .ok (vec (n + 1) (rdsQ (ovp b R0))) ∧
    m_returned ((vec (n + 1) (frsQ (ovp b R1))).map Num.q) = .ok (vec (n + 1) (ovp b R1)) ∧ m_first_returns ((vec (n + 1) (rdsQ (ovp b R0))).map Num.q) = .ok (vec (n + 1) (ovp b R0)) := by
  intro R1 R0
  have hn := g.hn
  have B := g.bnd
  have v : ∀ (s : Int) k, k < n + 1 → (if k = 0 then Num.i s else ε (k - 1)).val = ovp b (ris b tp s) k := fun s k hk => by
    unfold ovp ris
    by_cases h : k = 0
    · rw [if_pos h, if_pos h, h, Rat.pow_zero, Rat.div_def]
      show (s : Rat) = (s : Rat) * (1 : Rat)⁻¹
      grind
    · rw [if_neg h, if_neg h, hε (k - 1) (by omega), Rat.intCast_mul, Rat.intCast_pow]
      obtain ⟨j, rfl⟩ : ∃ j, k = j + 1 := ⟨k - 1, by omega⟩
      rw [Nat.add_sub_cancel, Rat.pow_succ]
      have hb : (b : Rat) ≠ 0 := by have := g.b0; intro h; have : b = 0 := by exact_mod_cast h
                                    omega
      have hp : ((b : Rat) ^ j) ≠ 0 := fun z => by
        have h5 : ((b ^ j : Nat) : Rat) = 0 := by rw [← z]; exact Rat.natCast_pow b j
        have h6 : b ^ j = 0 := by exact_mod_cast h5
        have := Nat.pow_pos (n := j) g.b0
        omega
      show (tp j : Rat) / (b : Rat) = (tp j : Rat) * (b : Rat) ^ j / ((b : Rat) ^ j * (b : Rat))
      grind
  have r10 : ovp b R1 0 = 1 := (v 1 0 (by omega)).symm
  have r00 : ovp b R0 0 = 0 := (v 0 0 (by omega)).symm
  have G1 := g.g5 (s := 1) (by decide)
  have G0 := g.g5 (s := 0) (by decide)
  refine ⟨raised_ok 1 (g.p (by omega)) g.b0 hn g.ht, raised_ok 0 (g.p (by omega)) g.b0 hn g.ht, ?_, ?_, ?_, ?_, ?_, ?_⟩
  · exact lawfirst_ok (by omega) (by omega) (g.big fun k hk => Nat.le_trans (g.ris5 (by decide) k hk) (Nat.mul_le_mul_right _ (by decide))) (g.big fun k hk => Nat.le_trans (frsI_bd (by omega) (g.ris5 (by decide)) k hk) (m60 (by omega)))
  · exact lawagain_ok (by omega) (by omega) (g.big fun k hk => Nat.le_trans (g.ris5 (by decide) k hk) (Nat.mul_le_mul_right _ (by decide))) (g.big fun k hk => Nat.le_trans (rdsI_bd (by omega) (g.ris5 (by decide)) k hk) (m60 (by omega)))
  · exact firsts_ok B (by omega) (v 1) r10 G1 (g.gF (by decide))
  · exact readings_ok B (by omega) (v 0) r00 (g.gR (by decide)) G0
  · have e : rdsQ (frsQ (ovp b R1)) = ovp b R1 := funext fun t => rds_frs r10 t
    have := readings_ok (f := frsQ (ovp b R1)) (ν := fun k => Num.q (frsQ (ovp b R1) k)) B (by omega) (fun k _ => rfl) (by rw [frsQ_eq, if_pos rfl]) (by rw [e]; exact G1) (g.gF (s := 1) (by decide))
    rw [e] at this
    rw [vec_map]
    exact this
  · have e : frsQ (rdsQ (ovp b R0)) = ovp b R0 := funext fun t => frs_rds r00 t
    have := firsts_ok (r := rdsQ (ovp b R0)) (ν := fun k => Num.q (rdsQ (ovp b R0) k)) B (by omega) (fun k _ => rfl) (by rw [rdsQ_eq, if_pos rfl]) (g.gR (s := 0) (by decide)) (by rw [e]; exact G0)
    rw [e] at this
    rw [vec_map]
    exact this
theorem lists_ok (g : TD b n tp) : let R1 := ris b tp 1; let R0 := ris b tp 0
    m_law_listed (vec (n + 1) (frsQ (ovp b R1))) (vec (n + 1) fun k => (frsI R1 k, (b : Int) ^ k, ())) = .ok true ∧ m_law_listed (vec (n + 1) (rdsQ (ovp b R0))) (vec (n + 1) fun k => (rdsI R0 k, (b : Int) ^ k, ())) = .ok true ∧
    m_law_listed (vec (n + 1) (ovp b R1)) (vec (n + 1) fun k => (R1 k, (b : Int) ^ k, ())) = .ok true ∧ m_law_listed (vec (n + 1) (ovp b R0)) (vec (n + 1) fun k => (R0 k, (b : Int) ^ k, ())) = .ok true := by
  intro R1 R0
  have hn := g.hn
  have B := g.bnd
  have big : ∀ {R : Nat → Int}, (∀ k, k < n + 1 → (R k).natAbs ≤ 60 ^ 13 * b ^ k) → ∀ k, k < n + 1 → (R k).natAbs ≤ 2 ^ 8000 := fun h k hk => Nat.le_trans (g.big h k hk) (Nat.pow_le_pow_right (by decide) (by decide))
  have b5 : ∀ {s : Int}, s.natAbs ≤ 1 → ∀ k, k < n + 1 → (ris b tp s k).natAbs ≤ 60 ^ 13 * b ^ k := fun hs k hk => Nat.le_trans (g.ris5 hs k hk) (Nat.mul_le_mul_right _ (by decide))
  refine ⟨?_, ?_, ?_, ?_⟩
  · exact listed_ok g.b0 (g.p (by omega)) (by omega) (big fun k hk => Nat.le_trans (frsI_bd (by omega) (g.ris5 (by decide)) k hk) (m60 (by omega))) (fun k hk => B.fits (g.gF (by decide)) hk) fun k _ => frs_ovp b R1 k
  · exact listed_ok g.b0 (g.p (by omega)) (by omega) (big fun k hk => Nat.le_trans (rdsI_bd (by omega) (g.ris5 (by decide)) k hk) (m60 (by omega))) (fun k hk => B.fits (g.gR (by decide)) hk) fun k _ => rds_ovp b R0 k
  · exact listed_ok g.b0 (g.p (by omega)) (by omega) (big (b5 (by decide))) (fun k hk => B.fits (g.g5 (by decide)) hk) fun k _ => rfl
  · exact listed_ok g.b0 (g.p (by omega)) (by omega) (big (b5 (by decide))) (fun k hk => B.fits (g.g5 (by decide)) hk) fun k _ => rfl
theorem flat_ok {t : List Int} {b : Nat} {m : Int} (ht : TP t) (h0 : 0 < b) (hb : b ≤ 2 ^ 100) (hm0 : 0 ≤ m) (hm : m ≤ 12) : Ok (m_law_flat t (b : Int) m) fun x => x.1.length = m.toNat ∧ ∀ y ∈ x.1, y.natAbs ≤ 5 * b := by
  unfold m_law_flat
  simp only [Res.okb, Res.okbX, Res.bind_assoc, Res.bindX_ok, Res.bindX_bind, Res.bind_bindX, Res.bindX_bindX]
  rw [rangeM1_ok ⟨by omega, by omega⟩, Res.okb]
  refine (Ok.lcX (P := fun _ y => y.natAbs ≤ 5 * b) (Inv := TP) (by rw [rngI_len]; exact size_le (by omega)) ht fun x t hx ht => ?_).mono fun x ⟨h1, h2, h3⟩ => ⟨by rw [h1, rngI_len], fun y hy => ?_⟩
  · rw [mulI_le (s := 2) (t := 100) (by decide) (by rw [Int.natAbs_natCast]; exact hb) (by decide), Res.okb]
    refine Ok.bindX (pick_ok ht (m := 2 * (b : Int) + 3) (by omega) (by
      have : (b : Int) ≤ 2 ^ 100 := by exact_mod_cast hb
      omega)) fun a t' ⟨h1, h2, h3⟩ => ?_
    rw [fdivI_pos (by decide) (by decide), Res.okb]
    exact .ok ⟨by dsimp only at h2 h3 ⊢; omega, h1⟩
  · obtain ⟨i, hi, rfl⟩ := List.getElem_of_mem hy
    exact h2 i (rngI 0 m.toNat)[i] _ (List.getElem?_eq_getElem (by rw [h1] at hi; exact hi)) (List.getElem?_eq_getElem hi)
theorem law_ok (ns : List Int) (hl : ns.length ≤ 63) : m_law ns = .ok true := by
  refine Ok.eq ?_
  unfold m_law
  simp only [Res.okb, Res.okbX, Res.bind_assoc, Res.bind_ok, Res.bindX_ok, Res.bindX_bind, Res.bind_bindX, Res.bindX_bindX]
  refine (tape_ok ns (by decide) (by decide)).bind fun t ht => ?_
  refine (pick_ok ht (m := 13) (by decide) (by decide)).bind fun x ⟨ht, hm0, hm1⟩ => ?_
  obtain ⟨many, t⟩ := x
  dsimp only at ht hm0 hm1 ⊢
  refine (pick_ok ht (m := 12) (by decide) (by decide)).bindX fun b1 t ⟨ht, hb0, hb1⟩ => ?_
  dsimp only at ht hb0 hb1
  rw [show powI 10 10 = .ok (10 ^ 10) from powI_le (x := 10) (y := 10) (s := 4) (by decide) (by decide), Res.okb, show powI 10 30 = .ok (10 ^ 30) from powI_le (x := 10) (y := 30) (s := 4) (by decide) (by decide), Res.okb]
  refine (pick_ok ht (m := 5) (by decide) (by decide)).bindX fun b2 t ⟨ht, hc0, hc1⟩ => ?_
  dsimp only at ht hc0 hc1
  rw [modI_pos (by decide), Res.okb]
  refine Ok.bind (P := fun x : Int => ∃ b : Nat, x = (b : Int) ∧ 0 < b ∧ b ≤ 2 ^ 100) ?_ fun x ⟨b, eb, b0, hb⟩ => ?_
  · have h3 : b2 % 3 = 0 ∨ b2 % 3 = 1 ∨ b2 % 3 = 2 := by omega
    rcases h3 with h | h | h
    · rw [h]; exact .of (atM_get (by decide) rfl) ⟨(1 + b1).toNat, by omega, by omega, by omega⟩
    · rw [h]; exact .of (atM_get (by decide) rfl) ⟨10 ^ 10 - 33, by decide, by decide, by decide⟩
    · rw [h]; exact .of (atM_get (by decide) rfl) ⟨10 ^ 30 + 57, by decide, by decide, by decide⟩
  subst eb
  have p20 : powI 10 20 = .ok (10 ^ 20) := powI_le (x := 10) (y := 20) (s := 4) (by decide) (by decide)
  rw [qMk_ok (by decide) (by decide), Res.okb, p20, Res.okb, Res.okb, qMk_ok (by decide) (by decide +kernel), Res.okb, Res.okb, qMk_ok (by decide) (by decide +kernel), Res.okb]
  refine (pick_ok ht (m := 5) (by decide) (by decide)).bindX fun b3 t ⟨ht, hd0, hd1⟩ => ?_
  dsimp only at ht hd0 hd1
  refine Ok.bind (P := fun x : Num => x.val ≠ 0 ∧ x.val ≠ 1) ?_ fun odd ⟨o0, o1⟩ => ?_
  · have h3 : b3 = 0 ∨ b3 = 1 ∨ b3 = 2 ∨ b3 = 3 ∨ b3 = 4 := by omega
    rcases h3 with rfl | rfl | rfl | rfl | rfl
    · exact .of (atM_get (by decide) rfl) ⟨by decide, by decide⟩
    · exact .of (atM_get (by decide) rfl) ⟨by decide, by decide⟩
    · exact .of (atM_get (by decide) rfl) ⟨by decide +kernel, by decide +kernel⟩
    · exact .of (atM_get (by decide) rfl) ⟨by decide +kernel, by decide +kernel⟩
    · exact .of (atM_get (by decide) rfl) ⟨by decide +kernel, by decide +kernel⟩
  refine (tape_ok ns (k := 1) (by decide) (by decide)).bind fun t1 ht1 => ?_
  refine (flat_ok ht1 b0 hb hm0 (by omega)).bindX fun tops _ ⟨l1, hy⟩ => ?_
  dsimp only at l1 hy
  obtain ⟨n, rfl⟩ : ∃ n : Nat, many = (n : Int) := ⟨many.toNat, by omega⟩
  rw [Int.toNat_natCast] at l1
  rw [vec_of tops 0, l1]
  have g : TD b n (fun i => tops.getD i 0) := ⟨b0, hb, by omega, fun i hi => by
    rw [List.getD_eq_getElem?_getD, List.getElem?_eq_getElem (by omega)]
    exact hy _ (List.getElem_mem _)⟩
  generalize (fun i => tops.getD i 0) = tp at g

  have hn := g.hn
  obtain ⟨ε, eε⟩ : ∃ ε : Nat → Num, ∀ i, ε i = if b > 1 then Num.q (Rat.divInt (tp i) (b : Int)) else Num.i (tp i) := ⟨_, fun _ => rfl⟩
  rw [lcR_vec (h := ε) (by omega) fun i hi => by
    rw [eε]
    by_cases h : b > 1
    · rw [if_pos (by rw [decide_eq_true_eq]; omega), if_pos h, qMk_ok (by omega) (by
        rw [Int.natAbs_natCast]
        have := log_big (Nat.le_trans hb (show 2 ^ 100 ≤ big from Nat.pow_le_pow_right (by decide) (by decide)))
        omega)]
      rfl
    · rw [if_neg (by rw [decide_eq_true_eq]; omega), if_neg h], Res.okb]
  have hε : ∀ k, k < n → (ε k).val = (tp k : Rat) / (b : Rat) := fun k _ => by
    rw [eε]
    by_cases h : b > 1
    · rw [if_pos h]; show Rat.divInt (tp k) (b : Int) = _; rw [Rat.divInt_eq_div]; rfl
    · rw [if_neg h]
      have : b = 1 := by omega
      subst this
      show (tp k : Rat) = (tp k : Rat) / ((1 : Nat) : Rat)
      have : ((1 : Nat) : Rat) = 1 := rfl
      rw [this]; grind
  obtain ⟨e1, e2, e3, e4, e5, e6, e7, e8⟩ := turn_ok g hε
  obtain ⟨d1, d2, d3, d4⟩ := lists_ok g
  have ov : ∀ R : Nat → Int, m_law_over_powers (vec (n + 1) R) (b : Int) = .ok (vec (n + 1) fun k => (R k, (b : Int) ^ k, ())) := fun R => over_ok (g.p (by omega)) b0 (by omega) (by omega)
  have cat : ∀ x : Num, catM [x] (vec n ε) = .ok (vec (n + 1) fun k => if k = 0 then x else ε (k - 1)) := fun x => by
    rw [catM_ok (by rw [vec_len]; simp; omega), vec_cons]
  rw [e1, Res.okb, e2, Res.okb, e3, Res.okb, ov, Res.okb, e4, Res.okb, ov, Res.okb, rangeM1_ok ⟨by decide, by decide⟩, Res.okb, forG_all fun x hx => ?_, Res.okb, Fl.okb_out, Res.okb, forG_all fun x hx => ?_, Res.okb, Fl.okb_out]
  · exact .ok rfl
  · simp only [cat, Res.okb]
    have hx : x = 0 ∨ x = 1 := by have := rngI_mem hx; simp at this; omega
    have h0 : m_law_refused x [] = .ok true := refT (by
      rcases hx with rfl | rfl
      · exact .inl ⟨rfl, firsts_err (.inl rfl)⟩
      · exact .inr ⟨by decide, readings_err (.inl rfl)⟩)
    have hd : ∀ y : Num, vec (n + 1) (fun k => if k = 0 then y else ε (k - 1)) = y :: vec n ε := fun y => (vec_cons).symm
    have hB : ∀ y : Num, y.val ≠ 1 - (x : Rat) → m_law_refused x (vec (n + 1) fun k => if k = 0 then y else ε (k - 1)) = .ok true := fun y h => refT (by
      rcases hx with rfl | rfl
      · exact .inl ⟨rfl, firsts_err (.inr ⟨y, _, hd y, fun z => h (by rw [z]; show (1 : Rat) = 1 - 0; grind)⟩)⟩
      · exact .inr ⟨by decide, readings_err (.inr ⟨y, _, hd y, fun z => h (by rw [z]; show (0 : Rat) = 1 - 1; grind)⟩)⟩)
    have hC : m_law_refused x (vec (n + 1) fun k => if k = 0 then Num.i (1 - x) else ε (k - 1)) = .ok false := by
      rcases hx with rfl | rfl
      · exact refF (.inl ⟨rfl, e5⟩)
      · exact refF (.inr ⟨by decide, e6⟩)
    rw [h0, Res.okb, if_neg (by decide), hB odd (by
      rcases hx with rfl | rfl
      · intro z; exact o1 (by rw [z]; show (1 : Rat) - 0 = 1; grind)
      · intro z; exact o0 (by rw [z]; show (1 : Rat) - 1 = 0; grind)), Res.okb, Res.okb, if_neg (by decide), hB (.i x) (by
      rcases hx with rfl | rfl
      · show (0 : Rat) ≠ 1 - 0; grind
      · show (1 : Rat) ≠ 1 - 1; grind), Res.okb, if_neg (by decide), hC, Res.okb, if_neg (by decide)]
  · simp only [cat, Res.okb]
    rw [e5, Res.okb, d1, Res.okb, if_neg (by decide), e7, Res.okb, ov, Res.okb, d3, Res.okb, Res.okb, if_neg (by decide)]
    rw [show qInt 3 = .ok 3 from rfl, Res.okb, vec_put (by decide) (by simp), Res.okb, vec_put (by decide) (by simp), Res.okb]
    have eh : (vec (n + 1) fun k => if k = (0 : Int).toNat then Num.i 0 else if k = 0 then Num.i 1 else ε (k - 1)) = vec (n + 1) fun k => if k = 0 then Num.i 0 else ε (k - 1) := vec_ext fun k _ => by
      show (if k = 0 then _ else _) = _
      by_cases h : k = 0
      · rw [if_pos h, if_pos h]
      · rw [if_neg h, if_neg h, if_neg h]
    rw [eh, e6, Res.okb, d2, Res.okb, if_neg (by decide), e8, Res.okb, ov, Res.okb, d4, Res.okb, Res.okb, if_neg (by decide), show qInt 4 = .ok 4 from rfl, Res.okb, appM_ok (by rw [vec_len]; omega), Res.okb, Res.guard_pos rfl, Res.okb, if_neg (by decide)]
end L2.Tr

namespace L2.Tr
open PySem PySem.Spec PyProof.Rows He
def fs : List FB := [fGlo "_law_tape", fKeep "_law_tape", fGlo "_law_pick", fKeep "_law_pick", fFree "int", fGlo "Fraction", fMkr "Fraction", fGlo "_law_flat", fKeep "_law_flat", fGlo "_law_raised", fKeep "_law_raised", fGlo "_law_first", fKeep "_law_first", fGlo "_law_over_powers", fKeep "_law_over_powers", fGlo "_law_again", fKeep "_law_again", fFree "range", fGlo "first_returns", fKeep "first_returns", fGlo "_law_listed", fKeep "_law_listed", fGlo "returned", fKeep "returned", fOMet "Fraction" "__eq__", fGlo "_law_refused", fKeep "_law_refused", fFree "len", fFree "abs", fFree "sum", fGlo "as_fraction", fKeep "as_fraction", fOcl "Fraction", fNf "Fraction", fExc "BadReadings", fOMet "Fraction" "__mul__", fOMet "Fraction" "__rmul__", fIntM "__mul__", fIntM "__rmul__", fGlo "total_of", fKeep "total_of", fOMet "Fraction" "__sub__", fKitI "int" "Fraction" false, fFree "isinstance", fKit "Fraction" "Fraction" true, fNoat "Fraction" "bottom", fNoat "Fraction" "top", fKitT "Fraction" "int" false, fOMet "Fraction" "__add__", fFree "list", fGlo "_law_is", fKeep "_law_is", fFree "bool", fGlo "TracerError", fKit "BadReadings" "TracerError" true, fExcC "BadReadings", fFree "ValueError", fKitT "BadReadings" "ValueError" true, fExm "BadReadings" "BadReadings" true, fGlo "BadReadings", fGlo "law", fExc "BadFraction", fGlo "common_divisor", fKeep "common_divisor"]
def fnl : List DX := [⟨fun K => (He.ga K "_law_tape"), "_law_tape", "_law_tape", defArgs s_law_tape, defBody s_law_tape, defScope s_law_tape, [], []⟩,
  ⟨fun K => (He.ga K "_law_pick"), "_law_pick", "_law_pick", defArgs s_law_pick, defBody s_law_pick, defScope s_law_pick, [], []⟩,
  ⟨fun K => (He.ga K "common_divisor"), "common_divisor", "common_divisor", defArgs s_common_divisor, defBody s_common_divisor, defScope s_common_divisor, [], []⟩,
  ⟨fun K => (He.ga K "_law_flat"), "_law_flat", "_law_flat", defArgs s_law_flat, defBody s_law_flat, defScope s_law_flat, [], []⟩,
  ⟨fun K => (He.ga K "_law_raised"), "_law_raised", "_law_raised", defArgs s_law_raised, defBody s_law_raised, defScope s_law_raised, [], []⟩,
  ⟨fun K => (He.ga K "_law_first"), "_law_first", "_law_first", defArgs s_law_first, defBody s_law_first, defScope s_law_first, [], []⟩,
  ⟨fun K => (He.ga K "_law_over_powers"), "_law_over_powers", "_law_over_powers", defArgs s_law_over_powers, defBody s_law_over_powers, defScope s_law_over_powers, [], []⟩,
  ⟨fun K => (He.ga K "_law_again"), "_law_again", "_law_again", defArgs s_law_again, defBody s_law_again, defScope s_law_again, [], []⟩,
  ⟨fun K => (He.ga K "as_fraction"), "as_fraction", "as_fraction", defArgs s_as_fraction, defBody s_as_fraction, defScope s_as_fraction, [], []⟩,
  ⟨fun K => (He.ma K (He.ga K "Fraction") "__eq__"), "__eq__", "Fraction.__eq__", defArgs s_Fraction_eq, defBody s_Fraction_eq, defScope s_Fraction_eq, [], []⟩,
  ⟨fun K => (He.ma K (He.ga K "Fraction") "__mul__"), "__mul__", "Fraction.__mul__", defArgs s_Fraction_mul, defBody s_Fraction_mul, defScope s_Fraction_mul, [], []⟩,
  ⟨fun K => (He.ma K (He.ga K "Fraction") "__add__"), "__add__", "Fraction.__add__", defArgs s_Fraction_add, defBody s_Fraction_add, defScope s_Fraction_add, [], []⟩,
  ⟨fun K => (He.ga K "total_of"), "total_of", "total_of", defArgs s_total_of, defBody s_total_of, defScope s_total_of, [], []⟩,
  ⟨fun K => (He.ma K (He.ga K "Fraction") "__sub__"), "__sub__", "Fraction.__sub__", defArgs s_Fraction_sub, defBody s_Fraction_sub, defScope s_Fraction_sub, [], []⟩,
  ⟨fun K => (He.ga K "first_returns"), "first_returns", "first_returns", defArgs s_first_returns, defBody s_first_returns, defScope s_first_returns, [], []⟩,
  ⟨fun K => (He.ga K "_law_is"), "_law_is", "_law_is", defArgs s_law_is, defBody s_law_is, defScope s_law_is, [], []⟩,
  ⟨fun K => (He.ga K "_law_listed"), "_law_listed", "_law_listed", defArgs s_law_listed, defBody s_law_listed, defScope s_law_listed, [], []⟩,
  ⟨fun K => (He.ga K "returned"), "returned", "returned", defArgs s_returned, defBody s_returned, defScope s_returned, [], []⟩,
  ⟨fun K => (He.ga K "_law_refused"), "_law_refused", "_law_refused", defArgs s_law_refused, defBody s_law_refused, defScope s_law_refused, [], []⟩,
  ⟨fun K => (He.ga K "law"), "law", "law", defArgs s_law, defBody s_law, defScope s_law, [], []⟩,
  ⟨fun K => (He.ma K (He.ga K "Fraction") "__init__"), "__init__", "Fraction.__init__", defArgs s_Fraction_init, defBody s_Fraction_init, defScope s_Fraction_init, [.int 1], []⟩]
theorem txt_of {K : PySem.W.Frag} {mg : Str → Option Value} {h : Heap} (KX : K.In h) (G : h.Ns mainGlobals mg) (c : SaysY fs fnl K) : Txt K mg where
  g_law_tape := glo_of KX G (c.fact 0)
  k_law_tape := (c.fact 1)
  g_law_pick := glo_of KX G (c.fact 2)
  k_law_pick := (c.fact 3)
  n_int := free_of KX G (c.fact 4)
  g_Fraction := glo_of KX G (c.fact 5)
  mk_Fraction := mkr_of (c.fact 6)
  g_law_flat := glo_of KX G (c.fact 7)
  k_law_flat := (c.fact 8)
  g_law_raised := glo_of KX G (c.fact 9)
  k_law_raised := (c.fact 10)
  g_law_first := glo_of KX G (c.fact 11)
  k_law_first := (c.fact 12)
  g_law_over_powers := glo_of KX G (c.fact 13)
  k_law_over_powers := (c.fact 14)
  g_law_again := glo_of KX G (c.fact 15)
  k_law_again := (c.fact 16)
  n_range := free_of KX G (c.fact 17)
  g_first_returns := glo_of KX G (c.fact 18)
  k_first_returns := (c.fact 19)
  g_law_listed := glo_of KX G (c.fact 20)
  k_law_listed := (c.fact 21)
  g_returned := glo_of KX G (c.fact 22)
  k_returned := (c.fact 23)
  om_Fraction_eq := omet_of (c.fact 24)
  g_law_refused := glo_of KX G (c.fact 25)
  k_law_refused := (c.fact 26)
  n_len := free_of KX G (c.fact 27)
  n_abs := free_of KX G (c.fact 28)
  F_law_tape := c.def_ 0
  F_law_pick := c.def_ 1
  F_common_divisor := c.def_ 2
  F_law_flat := c.def_ 3
  F_law_raised := c.def_ 4
  n_sum := free_of KX G (c.fact 29)
  F_law_first := c.def_ 5
  F_law_over_powers := c.def_ 6
  F_law_again := c.def_ 7
  g_as_fraction := glo_of KX G (c.fact 30)
  k_as_fraction := (c.fact 31)
  o_Fraction := ocl_of (c.fact 32)
  nf_Fraction := nf_of (c.fact 33)
  ex_BadReadings := exc_of KX G (c.fact 34)
  om_Fraction_mul := omet_of (c.fact 35)
  om_Fraction_rmul := omet_of (c.fact 36)
  im_mul := intM_of (c.fact 37)
  im_rmul := intM_of (c.fact 38)
  g_total_of := glo_of KX G (c.fact 39)
  k_total_of := (c.fact 40)
  om_Fraction_sub := omet_of (c.fact 41)
  kI_int_Fraction := kitI_of (c.fact 42)
  n_isinstance := free_of KX G (c.fact 43)
  kt_Fraction_Fraction := kit_of' (c.fact 44)
  F_as_fraction := c.def_ 8
  na_Fraction_bottom := noat_of (c.fact 45)
  na_Fraction_top := noat_of (c.fact 46)
  kT_Fraction_int := kitT_of (c.fact 47)
  F_Fraction_eq := c.def_ 9
  F_Fraction_mul := c.def_ 10
  om_Fraction_add := omet_of (c.fact 48)
  F_Fraction_add := c.def_ 11
  F_total_of := c.def_ 12
  F_Fraction_sub := c.def_ 13
  F_first_returns := c.def_ 14
  n_list := free_of KX G (c.fact 49)
  g_law_is := glo_of KX G (c.fact 50)
  k_law_is := (c.fact 51)
  n_bool := free_of KX G (c.fact 52)
  F_law_is := c.def_ 15
  F_law_listed := c.def_ 16
  F_returned := c.def_ 17
  g_TracerError := glo_of KX G (c.fact 53)
  kt_BadReadings_TracerError := kit_of' (c.fact 54)
  xc_BadReadings := excC_of (c.fact 55)
  n_ValueError := free_of KX G (c.fact 56)
  kT_BadReadings_ValueError := kitT_of (c.fact 57)
  xm_BadReadings_BadReadings := exm_of (c.fact 58)
  g_BadReadings := glo_of KX G (c.fact 59)
  F_law_refused := c.def_ 18
  F_law := c.def_ 19
  g_law := glo_of KX G (c.fact 60)
  F_Fraction_init := c.def_ 20
  ex_BadFraction := exc_of KX G (c.fact 61)
  g_common_divisor := glo_of KX G (c.fact 62)
  k_common_divisor := (c.fact 63)
theorem all_of {P : Program} {w : World} {K : PySem.W.Frag} {mg : Str → Option Value} {base : Heap} (T : Txt K mg) {fd : FuncData} (F : FunD K "law" "law" (defArgs s_law) (defBody s_law) (defScope s_law) [] [] (He.ga K "law") fd) : FnOk P w K mg base (L2.CX P w) 10 (He.ga K "law") fd ["_law_script"] (spF K (aCons (rdL K (rp rInt)) aNil) (fun d => m_law d.1) (rp rBl)) := by
  have c_law_tape : C_law_tape P w K mg base := fn_law_tape T
  have c_law_pick : C_law_pick P w K mg base := fn_law_pick T
  have c_common_divisor : C_common_divisor P w K mg base := FnR.nice (fn_common_divisor T) nice_common_divisor
  have c_Fraction_2 : C_Fraction_2 P w K mg base := fn_Fraction_2 T c_common_divisor
  have c_law_flat : C_law_flat P w K mg base := fn_law_flat T c_law_pick
  have c_law_raised : C_law_raised P w K mg base := fn_law_raised T
  have c_law_first : C_law_first P w K mg base := fn_law_first T
  have c_law_over_powers : C_law_over_powers P w K mg base := fn_law_over_powers T
  have c_law_again : C_law_again P w K mg base := fn_law_again T
  have c_Fraction_1 : C_Fraction_1 P w K mg base := fn_Fraction_1 T c_common_divisor
  have c_as_fraction : C_as_fraction P w K mg base := FnR.nice (fn_as_fraction T c_Fraction_1) nice_as_fraction
  have c_Fraction_eq : C_Fraction_eq P w K mg base := FnR.nice (fn_Fraction_eq T) nice_Fraction_eq
  have c_Fraction_mul : C_Fraction_mul P w K mg base := FnR.nice (fn_Fraction_mul T c_Fraction_2) nice_Fraction_mul
  have c_Fraction_add : C_Fraction_add P w K mg base := FnR.nice (fn_Fraction_add T c_Fraction_2) nice_Fraction_add
  have c_total_of : C_total_of P w K mg base := fn_total_of T c_Fraction_1 c_Fraction_add
  have c_Fraction_sub : C_Fraction_sub P w K mg base := FnR.nice (fn_Fraction_sub T c_Fraction_2) nice_Fraction_sub
  have c_first_returns : C_first_returns P w K mg base := fn_first_returns T c_as_fraction c_Fraction_eq c_Fraction_1 c_Fraction_mul c_total_of c_Fraction_sub
  have c_first_returns_0_readings : C_first_returns_0_readings P w K mg base := fn_first_returns_0_readings T c_as_fraction c_Fraction_eq c_Fraction_1 c_Fraction_mul c_total_of c_Fraction_sub
  have c_law_is : C_law_is P w K mg base := fn_law_is T
  have c_law_listed : C_law_listed P w K mg base := fn_law_listed T c_law_is
  have c_returned : C_returned P w K mg base := fn_returned T c_as_fraction c_Fraction_eq c_Fraction_1 c_Fraction_mul c_total_of
  have c_returned_0_returns : C_returned_0_returns P w K mg base := fn_returned_0_returns T c_as_fraction c_Fraction_eq c_Fraction_1 c_Fraction_mul c_total_of
  have c_law_refused : C_law_refused P w K mg base := fn_law_refused T c_first_returns c_returned
  exact fn_law T c_law_tape c_law_pick c_Fraction_2 c_law_flat c_law_raised c_law_first c_law_over_powers c_law_again c_first_returns_0_readings c_law_listed c_returned c_Fraction_1 c_returned_0_returns c_first_returns c_Fraction_eq c_law_refused F
theorem law_end {P : Program} {w : World} {K : PySem.W.Frag} {mg : Str → Option Value} {h : Heap} {fa : Addr} (KX : K.In h) (hmg : mg ("law" : Str) = some (.ref fa)) (T : Txt K mg) :
    ∃ (K : PySem.W.Frag) (fd : FuncData) (sp : Sp), K.In h ∧ (∀ (s : Shared) (u : Value), BindsTo s fd ⟨[u], []⟩ [(("_law_script" : Str), u)]) ∧
        (∀ (H : Hp) (a : Addr) (ns : List Int), ns.length ≤ 63 → Only H → SqL K H a (ns.map V.int) → sp [.ref a] H (fun v _ => v = .bl true) fun _ _ _ => False) ∧
        ∀ base : Heap, K.In base → base.Ns mainGlobals mg → FnOk P w K mg base CX0 10 fa fd ["_law_script"] sp := by
  obtain ⟨fd, F⟩ := T.F_law
  have e := hmg.symm.trans T.g_law
  cases e
  have b := FunD.bindsA (ps := ["_law_script"]) F fun _ _ _ _ _ _ us hl => match us, hl with | [_], _ => rfl
  refine ⟨K, fd, (fun vs H Q _ => spF K (aCons (rdL K (rp rInt)) aNil) (fun d => m_law d.1) (rp rBl) vs H Q fun _ _ _ => False), KX, fun s u => b s [u] rfl, fun H a ns hl _ hS => ⟨fun _ => none, (ns, ()), (fun b o e => nomatch e), ⟨.ref a, [], rfl, ⟨a, ns.map V.int, rfl, hS, paired_ints _ _ ns⟩, rfl⟩, ?_⟩, fun base _ _ => FnOk.no (all_of T F)⟩
  show PostE K (m_law ns) _ _ _ _ _
  rw [law_ok ns hl]
  exact fun I' H' v _ r => r
abbrev RR : PySem.W.OpenRow := PySem.W.OpenLaw.row PySem.Challenge.rw_tracerline_k78_first_returns_and_reading
abbrev hk : PySem.W.Hook := hookY 5 fs fnl
def ob (s : PySem.W.SharedT) : AlX := obsYG 5 fs fnl (HandSHeadRun.getT s)
theorem ob_eq (s : PySem.W.SharedT) : ob s = hk.obs s.abs := obsYG_eq (HandSHeadRun.getT_eq s)
def names : List PySem.Str := ((["_wall", "__name__", "TracerError", "BadFraction", "BadReadings", "common_divisor", "Fraction", "as_fraction", "total_of", "first_returns", "returned", "_law_tape", "_law_pick", "_law_is", "_law_flat", "_law_raised", "_law_over_powers", "_law_first", "_law_again", "_law_listed", "_law_refused"] : List PySem.Str))
set_option maxHeartbeats 0 in
theorem run (w : World) : HandSHeadRun.RunEq RR (PySem.W.view RR.prog [24]) hk ob 20000 names w := by
  intro os
  kernel_rfl
end L2.Tr
open PySem PySem.W PySem.Calls PyProof.Rows
set_option maxHeartbeats 0 in
theorem PySem.Challenge.cw_tracerline_k78_first_returns_and_reading_holds : PySem.Challenge.rw_tracerline_k78_first_returns_and_reading.Holds := by
  w_on; o_law
  refine HandSHeadRun.head_any (r := OpenLaw.row PySem.Challenge.rw_tracerline_k78_first_returns_and_reading) (q := view (OpenLaw.row PySem.Challenge.rw_tracerline_k78_first_returns_and_reading).prog [24]) (H := L2.Tr.hk) (ob := L2.Tr.ob) (M := 20000) (loose := L2.Tr.names) (d := HandSHeadRun.topDef (OpenLaw.row PySem.Challenge.rw_tracerline_k78_first_returns_and_reading).prog 24) (kwd := []) L2.Tr.ob_eq
    (by kernel_rfl) (fun s => by kernel_rfl) L2.Tr.run (by kernel_rfl) (by kernel_rfl) (by kernel_rfl) (by rfl) (by first | assumption | decide +kernel) (by decide +kernel) ⟨rfl, rfl, rfl, rfl, rfl, by decide +kernel⟩ ?hw ?hc
  case hw => w_witness2
  case hc =>
    refine L2.walk_ofE (l := PySem.Challenge.rw_tracerline_k78_first_returns_and_reading) (n := 63) (k := 10) (x := "_law_script") (CX := L2.CX0) rfl (by decide) (by kernel_rfl) ⟨rfl, by decide, by decide⟩ ?F (fun _ _ _ _ z => z)
    intro w mg fa h Y G hmg0
    obtain ⟨K, KX, c⟩ := Y
    have hmg : mg ("law" : PySem.Str) = some (.ref fa) := by
      have e : (HandSHeadRun.topDef (OpenLaw.row PySem.Challenge.rw_tracerline_k78_first_returns_and_reading).prog 24).name = ("law" : PySem.Str) := by kernel_rfl
      rw [← e]
      exact hmg0
    have T := L2.Tr.txt_of KX G c
    exact L2.Tr.law_end (P := (PySem.Challenge.rw_tracerline_k78_first_returns_and_reading).prog) (w := w) KX hmg T

