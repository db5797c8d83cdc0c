import PyProof.Rows.All
import Wide.All
import OpenK.AllK
import Wide.FinOn
import HandS.ForMost
import HandS.ForExc
import HandS.More
import HandS.Wide
import HandS.Flow
import HandS.Defaults
import HandS.MakeKw
import HandS.CallSlots
import HandS.IsInst
import HandS.ExcIs
import HandS.OwnEq
import HandS.HeadHook1
import KE.KStateDown
import HandS.Head0
import HandS.Head1
import HandS.Head2
import HandS.HeadEnd
import HandS.HeadHook2
import HandS.MakeKwOnly
import PySem.Challenge.RW_tracerline_k03_order
set_option Elab.async false
set_option linter.all false
set_option maxRecDepth 100000
namespace L2.Tr
open PySem PySem.Spec PyProof.Rows

/-! ### wishes: what must hold ahead of a piece of code -/
def wE (X : Cx) (e : Expr) : TE := fun σ H Q => ∀ (pins : List (Addr × Obj)) (s : Shared), Inv X pins σ H s → wpAny (model X.prog X.w) X.A (eval e X.env) (EP X pins σ Q) X.xe s
def wT (X : Cx) (e : Expr) : TT := fun σ H Q => ∀ (pins : List (Addr × Obj)) (s : Shared), Inv X pins σ H s → wpAny (model X.prog X.w) X.A (isTrue e X.env (eval e X.env)) (TP X pins σ Q) X.xe s
def wW (X : Cx) (e : Expr) : TT := fun σ H Q => ∀ (whole : Sem Value) (pins : List (Addr × Obj)) (s : Shared), Inv X pins σ H s → wpAny (model X.prog X.w) X.A (isTrue e X.env whole) (TP X pins σ Q) X.xe s
def wA (X : Cx) (es : List Expr) : TA := fun σ H Q => ∀ (pos : Pos) (pins : List (Addr × Obj)) (s : Shared), Inv X pins σ H s → wpAny (model X.prog X.w) X.A (spliced (backTo pos (starEach es X.env))) (AP X pins σ Q) X.xe s
def wS (X : Cx) (st : Stmt) : TS := fun D σ H => ∀ (pins : List (Addr × Obj)) (s : Shared), Inv X pins σ H s → wpAny (model X.prog X.w) X.A (exec st X.env) (SP X pins D) X.xe s
def wB (X : Cx) (st : List Stmt) : TS := fun D σ H => ∀ (pins : List (Addr × Obj)) (s : Shared), Inv X pins σ H s → wpAny (model X.prog X.w) X.A (execs st X.env) (SP X pins D) X.xe s
def opW (X : Cx) (f : Value → Value → Sem Value) (σ : St) (x y : V) (H : Hp) (Q : VK) : Prop := ∀ (pins : List (Addr × Obj)) (s : Shared) (v u : Value), Inv X pins σ H s → RelV x v → RelV y u → wpAny (model X.prog X.w) X.A (f v u) (EP X pins σ Q) X.xe s
def unW (X : Cx) (f : Value → Sem Value) (σ : St) (x : V) (H : Hp) (Q : VK) : Prop := ∀ (pins : List (Addr × Obj)) (s : Shared) (v : Value), Inv X pins σ H s → RelV x v → wpAny (model X.prog X.w) X.A (f v) (EP X pins σ Q) X.xe s
def callW (X : Cx) (f : Value) (σ : St) (xs : List V) (H : Hp) (Q : VK) : Prop := ∀ (pins : List (Addr × Obj)) (s : Shared) (us : List Value), Inv X pins σ H s → Vals xs us → wpAny (model X.prog X.w) X.A (call f us) (EP X pins σ Q) X.xe s
def truW (X : Cx) (σ : St) (x : V) (H : Hp) (Q : Bool → Hp → Prop) : Prop := ∀ (pins : List (Addr × Obj)) (s : Shared) (v : Value), Inv X pins σ H s → RelV x v → wpAny (model X.prog X.w) X.A (truthy v) (TP X pins σ Q) X.xe s

section
variable {X : Cx} {e a b c o : Expr} {es : List Expr} {st : Stmt} {ss : List Stmt} {σ : St} {H : Hp} {Q : VK} {D : Ends} {x y v : V} {pos pos' : Pos} {n : Str}
theorem pe_W : PE X e (wE X e) := ⟨fun pins s _ _ _ I h => h pins s I⟩
theorem pt_W : PT X e (wT X e) := ⟨fun pins s _ _ _ I h => h pins s I⟩
theorem pw_W : PW X e (wW X e) := ⟨fun wh pins s _ _ _ I h => h wh pins s I⟩
theorem pa_W : PA X es (wA X es) := ⟨fun pos pins s _ _ _ I h => h pos pins s I⟩
theorem ps_W : PS X st (wS X st) := ⟨fun pins s _ _ _ I h => h pins s I⟩
theorem pss_W : PSs X ss (wB X ss) := ⟨fun pins s _ _ _ I h => h pins s I⟩
theorem PE.w {t : TE} (p : PE X e t) (h : t σ H Q) : wE X e σ H Q := fun pins s I => p.run pins s σ H Q I h
theorem PT.w {t : TT} {Q : Bool → Hp → Prop} (p : PT X e t) (h : t σ H Q) : wT X e σ H Q := fun pins s I => p.run pins s σ H Q I h
theorem PW.w {t : TT} {Q : Bool → Hp → Prop} (p : PW X e t) (h : t σ H Q) : wW X e σ H Q := fun wh pins s I => p.run wh pins s σ H Q I h
theorem PA.w {t : TA} {Q : List V → Hp → Prop} (p : PA X es t) (h : t σ H Q) : wA X es σ H Q := fun pos pins s I => p.run pos pins s σ H Q I h
theorem PS.w {t : TS} (p : PS X st t) (h : t D σ H) : wS X st D σ H := fun pins s I => p.run pins s σ H D I h
theorem PSs.w {t : TS} (p : PSs X ss t) (h : t D σ H) : wB X ss D σ H := fun pins s I => p.run pins s σ H D I h
theorem OpR.w {f : Value → Value → Sem Value} {r : R2} (o : OpR X f r) (h : r x y H Q) : opW X f σ x y H Q := fun pins s v u I rx ry => o pins s σ H x y v u Q I rx ry h
theorem UnR.w {f : Value → Sem Value} {r : V → Hp → VK → Prop} (o : UnR X f r) (h : r x H Q) : unW X f σ x H Q := fun pins s v I rx => o pins s σ H x v Q I rx h
theorem CallR.w {f : Value} {r : List V → Hp → VK → Prop} {xs : List V} (o : CallR X f r) (h : r xs H Q) : callW X f σ xs H Q := fun pins s us I rx => o pins s σ H xs us Q I rx h
theorem TruR.w {r : V → Hp → (Bool → Hp → Prop) → Prop} {Q : Bool → Hp → Prop} (o : TruR X r) (h : r x H Q) : truW X σ x H Q := fun pins s v I rx => o pins s σ H x v Q I rx h

/-! ### expressions -/
theorem w_var (i : Nat) (h : Q v H) (hs : σ[i]? = some (some v) := by rfl) (hN : X.N[i]? = some n := by rfl) (hv : Vis X.env.scope n := by first | exact Or.inl rfl | exact Or.inr (Or.inl rfl) | exact Or.inr (Or.inr rfl)) (hd : (n == ("__debug__" : Str)) = false := by decide)
    (hcd : (n == ("__classdict__" : Str)) = false := by decide) : wE X (.Name n pos) σ H Q := PE.w (pe_var hN hv hd hcd) ⟨v, hs, h⟩
theorem w_int {i : Int} {j} (h : Q (.int i) H) : wE X (.Constant (.int i) j pos) σ H Q := PE.w pe_int h
theorem w_bl {i : Bool} {j} (h : Q (.bl i) H) : wE X (.Constant (.bool i) j pos) σ H Q := PE.w pe_bl h
theorem w_str {i : Str} {j} (h : Q (.str i) H) : wE X (.Constant (.str i) j pos) σ H Q := PE.w pe_str h
theorem w_non {j} (h : Q .non H) : wE X (.Constant .none j pos) σ H Q := PE.w pe_non h
theorem w_bin {op : Operator} (h : wE X a σ H fun x H1 => wE X b σ H1 fun y H2 => opW X (binaryOp op) σ x y H2 Q) : wE X (.BinOp a op b pos) σ H Q := fun pins s I =>
  wpAny_BinOp (thn (h pins s I) fun v s1 ⟨x, H1, I1, r1, q1⟩ => thn (q1 pins s1 I1) fun u s2 ⟨y, H2, I2, r2, q2⟩ => q2 pins s2 v u I2 r1 r2)
theorem w_un {op : UnaryOp} (h : wE X a σ H fun x H1 => unW X (unaryOp op) σ x H1 Q) : wE X (.UnaryOp op a pos) σ H Q := fun pins s I =>
  UnaryOp_ (thn (h pins s I) fun v s1 ⟨x, H1, I1, r1, q1⟩ => q1 pins s1 v I1 r1)
theorem w_cmp {op : CmpOp} (h : wE X a σ H fun x H1 => wE X b σ H1 fun y H2 => opW X (compareOp op) σ x y H2 Q) (hm : behindInMarks op b = false := by first | exact nomark _ | rfl) : wE X (.Compare a [op] [b] pos) σ H Q := fun pins s I =>
  wpAny_Compare1 (thn (h pins s I) fun v s1 ⟨x, H1, I1, r1, q1⟩ => thn (q1 pins s1 I1) fun u s2 ⟨y, H2, I2, r2, q2⟩ => q2 pins s2 v u I2 r1 r2) hm
/-- a test that is a comparison -/
theorem w_tcmp {op : CmpOp} {Q : Bool → Hp → Prop} (h : wE X a σ H fun x H1 => wE X b σ H1 fun y H2 => opW X (compareOp op) σ x y H2 fun z H3 => truW X σ z H3 Q) (hm : behindInMarks op b = false := by first | exact nomark _ | rfl) : wT X (.Compare a [op] [b] pos) σ H Q := fun pins s I =>
  wpAny_isTrue_Compare1 (thn (h pins s I) fun v s1 ⟨x, H1, I1, r1, q1⟩ => thn (q1 pins s1 I1) fun u s2 ⟨y, H2, I2, r2, q2⟩ => thn (q2 pins s2 v u I2 r1 r2) fun c s3 ⟨z, H3, I3, r3, q3⟩ => q3 pins s3 c I3 r3) hm
/-- a test of a plain form -/
theorem w_t {Q : Bool → Hp → Prop} (h : wE X e σ H fun x H1 => truW X σ x H1 Q) (he : ∀ whole, isTrue e X.env whole = (do let v ← whole; standAt e.pos; holding [v] (truthy v)) := by intro _; rfl) : wT X e σ H Q := fun pins s I =>
  isTrue_plain (thn (h pins s I) fun v s1 ⟨x, H1, I1, r1, q1⟩ => q1 pins s1 v I1 r1) (he _)
theorem tru_bl {k : Bool} {Q : Bool → Hp → Prop} (h : Q k H) : truW X σ (.bl k) H Q := fun pins s v I r => by
  cases (show v = Value.bool k from r)
  exact wpAny_truthy_bool ⟨H, I, h⟩
theorem tru_int {i : Int} {Q : Bool → Hp → Prop} (h : Q (i != 0) H) : truW X σ (.int i) H Q := TruR.w tru_ok ⟨_, rfl, h⟩
theorem w_not {Q : Bool → Hp → Prop} (h : wT X a σ H fun k H1 => Q (!k) H1) : wT X (.UnaryOp .Not a pos) σ H Q := PT.w (pt_not pt_W) h
/-- not as a value -/
theorem w_notV (h : wE X a σ H fun x H1 => ∃ k, x = .bl k ∧ Q (.bl (!k)) H1) : wE X (.UnaryOp .Not a pos) σ H Q := PE.w (pe_not pe_W) h
/-! ### and, or as tests -/
theorem w_tbool {Q : Bool → Hp → Prop} {op} (h : wW X (.BoolOp op es pos) σ H Q) : wT X (.BoolOp op es pos) σ H Q := fun pins s I => h _ pins s I
theorem w_and1 {Q : Bool → Hp → Prop} (h : wT X a σ H Q) : wW X (.BoolOp .And [a] pos) σ H Q := PW.w (pw_and1 pt_W) h
theorem w_or1 {Q : Bool → Hp → Prop} (h : wT X a σ H Q) : wW X (.BoolOp .Or [a] pos) σ H Q := PW.w (pw_or1 pt_W) h
theorem w_and {bs : List Expr} {Q : Bool → Hp → Prop} (h : wT X a σ H fun k H1 => if k = true then wW X (.BoolOp .And (b :: bs) pos) σ H1 Q else Q false H1) : wW X (.BoolOp .And (a :: b :: bs) pos) σ H Q := PW.w (pw_and pt_W pw_W) h
theorem w_or {bs : List Expr} {Q : Bool → Hp → Prop} (h : wT X a σ H fun k H1 => if k = true then Q true H1 else wW X (.BoolOp .Or (b :: bs) pos) σ H1 Q) : wW X (.BoolOp .Or (a :: b :: bs) pos) σ H Q := PW.w (pw_or pt_W pw_W) h
/-! ### and, or as values (bools) -/
theorem w_oneV {op} (h : wE X a σ H Q) : wE X (.BoolOp op [a] pos) σ H Q := PE.w (pe_one pe_W) h
theorem w_andV {bs : List Expr} (h : wE X a σ H fun x H1 => ∃ k, x = .bl k ∧ if k = true then wE X (.BoolOp .And (b :: bs) pos) σ H1 Q else Q (.bl false) H1) : wE X (.BoolOp .And (a :: b :: bs) pos) σ H Q := PE.w (pe_and pe_W pe_W) h
theorem w_orV {bs : List Expr} (h : wE X a σ H fun x H1 => ∃ k, x = .bl k ∧ if k = true then Q (.bl true) H1 else wE X (.BoolOp .Or (b :: bs) pos) σ H1 Q) : wE X (.BoolOp .Or (a :: b :: bs) pos) σ H Q := PE.w (pe_or pe_W pe_W) h
theorem w_ifx (h : wT X c σ H fun k H1 => if k = true then wE X a σ H1 Q else wE X b σ H1 Q) : wE X (.IfExp c a b pos) σ H Q := PE.w (pe_ifExp pt_W pe_W pe_W) h

/-! ### arguments, displays, calls -/
theorem w_nil {Q : List V → Hp → Prop} (h : Q [] H) : wA X [] σ H Q := PA.w pa_nil h
theorem w_cons {Q : List V → Hp → Prop} (h : wE X e σ H fun x H1 => wA X es σ H1 fun xs H2 => Q (x :: xs) H2) (hs : starEach (e :: es) X.env = (false, eval e X.env) :: starEach es X.env := by rfl) : wA X (e :: es) σ H Q := PA.w (pa_cons pe_W pa_W hs) h
theorem w_lst (h : wA X es σ H fun xs H1 => xs.length ≤ sizeLine ∧ ∀ p, H1 p = none → Q (.ref p) (upd H1 p (.lst xs))) : wE X (.List es pos) σ H Q := PE.w (pe_lst pa_W) h
theorem w_tup {x1} (h : wA X es σ H fun xs H1 => xs.length ≤ sizeLine ∧ ∀ p, H1 p = none → Q (.ref p) (upd H1 p (.tup xs))) : wE X (.Tuple es x1 pos) σ H Q := PE.w (pe_tup pa_W) h
theorem w_callB {id : String} (h : wA X (e :: es) σ H fun vs H1 => callW X (.builtin id) σ vs H1 Q) (hm : X.mg n = none) (hv : bootBuiltins n = some (.builtin id)) (hg : Gl X n := by rfl) (hn : n ≠ "__name__" := by decide) (hdb : (n == ("__debug__" : Str)) = false := by decide)
    (he : starEach (e :: es) X.env = (false, eval e X.env) :: starEach es X.env := by rfl) (hpl : (backTo pos (starEach es X.env)).any (·.1) = false := by rfl) : wE X (.Call (.Name n pos') (e :: es) [] pos) σ H Q := fun pins s I =>
  wpAny_Call_Name_kw (ld_blt I hg hm hv (PyProof.Rows.callWith_builtin1 (thn (h pos pins s I) fun us s1 ⟨vs, H1, I1, r1, q1⟩ => q1 pins s1 us I1 r1) he hpl) hn hdb)
theorem w_callTy {T : String} (h : wA X (e :: es) σ H fun vs H1 => callW X (.type T) σ vs H1 Q) (hm : X.mg n = none) (hv : bootBuiltins n = some (.type T)) (hg : Gl X n := by rfl) (hn : n ≠ "__name__" := by decide) (hdb : (n == ("__debug__" : Str)) = false := by decide)
    (he : starEach (e :: es) X.env = (false, eval e X.env) :: starEach es X.env := by rfl) (hpl : (backTo pos (starEach es X.env)).any (·.1) = false := by rfl) : wE X (.Call (.Name n pos') (e :: es) [] pos) σ H Q := fun pins s I =>
  wpAny_Call_Name_kw (ld_blt I hg hm hv (PyProof.Rows.callWith_type1 (thn (h pos pins s I) fun us s1 ⟨vs, H1, I1, r1, q1⟩ => q1 pins s1 us I1 r1) he hpl) hn hdb)
theorem w_bltn {u : Value} (h : Q v H) (hm : X.mg n = none) (hv : bootBuiltins n = some u) (r : RelV v u) (hg : Gl X n := by rfl) (hn : n ≠ "__name__" := by decide) (hd : (n == ("__debug__" : Str)) = false := by decide) : wE X (.Name n pos) σ H Q := PE.w (pe_bltn hg hm hv r hn hd) h
theorem w_glob {u : Value} (h : Q v H) (hm : X.mg n = some u) (r : RelV v u) (hg : Gl X n := by rfl) (hd : (n == ("__debug__" : Str)) = false := by decide) : wE X (.Name n pos) σ H Q := PE.w (pe_glob hg hm r hd) h

/-- the callee runs (a def, a class, a method with its self), the wish at these slots -/
theorem run_W {k : Nat} {f : Addr} {sp : Sp} {W : WX} {vs : List V} (F : FnR X.prog X.w X.K X.mg X.base (L2.CX X.prog X.w) k f sp) (hr : Room k X.A) (tk : Takes X W) (h : sp vs H Q fun cls d H' => W cls d σ H') : callW X (.ref f) σ vs H Q := fun pins s us I r => by
  refine wpAny_call (codeAny_mono (F X.A X.stack s H us vs Q _ hr I.env0 r h) fun r s' hq => ?_)
  cases r with
  | error e => exact passAt tk σ pins H s e s' I hq
  | ok fl =>
    cases fl with
    | ret u => exact I.after hq
    | next => exact False.elim hq
    | brk => exact False.elim hq
    | cont => exact False.elim hq
/-- f(e, ..), C(e, ..) by a global name -/
theorem w_call {f : Addr} (h : wA X (e :: es) σ H fun vs H1 => callW X (.ref f) σ vs H1 Q) (hm : X.mg n = some (.ref f)) (hk : PySem.W.keepIn X.K (.ref f) = true) (hg : Gl X n := by rfl) (hdb : (n == ("__debug__" : Str)) = false := by decide)
    (he : starEach (e :: es) X.env = (false, eval e X.env) :: starEach es X.env := by rfl) (hpl : (backTo pos (starEach es X.env)).any (·.1) = false := by rfl) : wE X (.Call (.Name n pos') (e :: es) [] pos) σ H Q := fun pins s I =>
  wpAny_Call_Name_kw (ld_glob I hg hm (PySem.W.callWith_K (h₀ := X.base) I.ok.mod.kin hk (thn (h pos pins s I) fun us s1 ⟨vs, H1, I1, r, q⟩ => ⟨I1.kIn, q pins s1 us I1 r⟩) he hpl) hdb)
theorem w_call0 {f : Addr} (h : callW X (.ref f) σ [] H Q) (hm : X.mg n = some (.ref f)) (hk : PySem.W.keepIn X.K (.ref f) = true) (hg : Gl X n := by rfl) (hdb : (n == ("__debug__" : Str)) = false := by decide) : wE X (.Call (.Name n pos') [] [] pos) σ H Q := fun pins s I =>
  wpAny_Call_Name_kw (ld_glob I hg hm (PySem.W.callWith_K0 I.kIn hk (h pins s [] I .nil)) hdb)
/-- o.m(e, ..) -/
theorem w_meth {pl : Sem Bool} {m : Str} {C f : Addr} {apos : Pos} (h : wE X o σ H fun x H1 => ∃ a dx fs, x = .ref a ∧ H1 a = some (.ins C dx fs) ∧ fs.lookup m = none ∧ wA X (e :: es) σ H1 fun vs H2 => callW X (.ref f) σ (x :: vs) H2 Q) (c : Cls X.K C) (hm : Meth X.K C m f)
    (hst : starEach (e :: es) X.env = (false, eval e X.env) :: starEach es X.env := by rfl) (hpl : (backTo pos (starEach es X.env)).any (·.1) = false := by rfl)
    (ht : eval (.Call (.Attribute o m apos) (e :: es) [] pos) X.env = (do
      let ov ← eval o X.env
      standAt apos.atName
      let (f, first) ← holding [ov] (getMethod ov m pl)
      callWith pos f first (backTo pos (starEach (e :: es) X.env)) (backToKw pos (keywordEach [] X.env))) := by rfl) : wE X (.Call (.Attribute o m apos) (e :: es) [] pos) σ H Q := fun pins s I => by
  refine PySem.W.methodCall_KW (pl := pl) (thn (h pins s I) fun u s1 ⟨x, H1, I1, rx, a, dx, fs, ex, ea, l, q⟩ => ?_) ht
  subst ex
  obtain rfl : u = Value.ref a := rx
  refine getmeth_ok I1 ea c hm l ?_
  exact PySem.W.callWith_K (first := [.ref a]) (h₀ := X.base) I.ok.mod.kin hm.kp (thn (q pos pins s1 I1) fun us s2 ⟨vs, H2, I2, r, q2⟩ => ⟨I2.kIn, q2 pins s2 (.ref a :: us) I2 (.cons rfl r)⟩) hst hpl
theorem w_meth0 {pl : Sem Bool} {m : Str} {C f : Addr} {apos : Pos} (h : wE X o σ H fun x H1 => ∃ a dx fs, x = .ref a ∧ H1 a = some (.ins C dx fs) ∧ fs.lookup m = none ∧ callW X (.ref f) σ [x] H1 Q) (c : Cls X.K C) (hm : Meth X.K C m f)
    (ht : eval (.Call (.Attribute o m apos) [] [] pos) X.env = (do
      let ov ← eval o X.env
      standAt apos.atName
      let (f, first) ← holding [ov] (getMethod ov m pl)
      callWith pos f first (backTo pos (starEach [] X.env)) (backToKw pos (keywordEach [] X.env))) := by rfl) : wE X (.Call (.Attribute o m apos) [] [] pos) σ H Q := fun pins s I => by
  refine PySem.W.methodCall_KW (pl := pl) (thn (h pins s I) fun u s1 ⟨x, H1, I1, rx, a, dx, fs, ex, ea, l, q⟩ => ?_) ht
  subst ex
  obtain rfl : u = Value.ref a := rx
  refine getmeth_ok I1 ea c hm l ?_
  exact PySem.W.callWith_K0 (first := [.ref a]) I1.kIn hm.kp (q pins s1 [.ref a] I1 (.cons rfl .nil))
/-- o.f -/
theorem w_fld {f : Str} (h : wE X o σ H fun x H1 => ∃ a C dx fs v, x = .ref a ∧ H1 a = some (.ins C dx fs) ∧ Cls X.K C ∧ NoAttr X.K C f ∧ fs.lookup f = some v ∧ Q v H1) (hb : attributeBase o f X.env (eval o X.env) = eval o X.env := by rfl) : wE X (.Attribute o f pos) σ H Q := PE.w (pe_fld pe_W hb) h

/-! ### statements -/
theorem b_nil (h : D.nx σ H) : wB X [] D σ H := PSs.w pss_nil h
theorem b_cons (h : wS X st { D with nx := fun σ' H' => wB X ss D σ' H' } σ H) : wB X (st :: ss) D σ H := PSs.w (pss_cons ps_W pss_W) h
theorem s_ret (h : wE X e σ H D.rt) : wS X (.Return (some e) pos) D σ H := PS.w (ps_ret pe_W) h
theorem s_retN (h : D.rt .non H) : wS X (.Return none pos) D σ H := PS.w ps_retN h
theorem s_expr (h : wE X e σ H fun _ H1 => D.nx σ H1) (hs : swapsWith e none pos.line X.env = pure false := by rfl) : wS X (.Expr e pos) D σ H := PS.w (ps_expr pe_W hs) h
theorem s_if {s1 s2 : List Stmt} (h : wT X c σ H fun k H1 => if k = true then wB X s1 D σ H1 else wB X s2 D σ H1) : wS X (.If c s1 s2 pos) D σ H := PS.w (ps_if pt_W pss_W pss_W) h
theorem s_pass (h : D.nx σ H) : wS X (.Pass pos) D σ H := PS.w ps_pass h
theorem s_set (i : Nat) (h : wE X e σ H fun x H1 => D.nx (σ.set i (some x)) H1) (hN : X.N.Nodup) (hi : X.N[i]? = some n := by rfl) (hx : Loc X.env.scope n := by first | exact Or.inl rfl | exact Or.inr rfl) (hs : swapsWith e (some (.Name n pos')) pos.line X.env = pure false := by rfl) (hf : X.fn n = true ∨ X.env.scope.names.lookup n = some .local := by first | exact .inl rfl | exact .inr rfl | assumption) :
    wS X (.Assign [.Name n pos'] e pos) D σ H := PS.w (ps_set hN hi hx pe_W hs hf) h
/-- o.f = e -/
theorem s_fld {f : Str} (h : wE X e σ H fun y H1 => wE X o σ H1 fun x H2 => ∃ a C dx fs, x = .ref a ∧ H2 a = some (.ins C dx fs) ∧ Cls X.K C ∧ NoAttr X.K C f ∧ fs.length < 1000 ∧ D.nx σ (upd H2 a (.ins C dx (putF f y fs))))
    (hs : swapsWith e (some (.Attribute o f pos')) pos.line X.env = pure false := by rfl) : wS X (.Assign [.Attribute o f pos'] e pos) D σ H := PS.w (ps_fld pe_W pe_W hs) h
theorem s_raise {W : WX} {t : L2.St → Hp → XK → Prop} (hc : X.calm = true) (tk : Takes X W) (he : PMk X e t) (h : t σ H fun cls d H' => W cls d σ H') : wS X (.Raise (some e) none pos) D σ H := PS.w (ps_raise hc tk he) h
theorem b_mono {D' : Ends} (h : wB X ss D σ H) (h1 : ∀ σ' H', D.nx σ' H' → D'.nx σ' H') (h2 : ∀ v H', D.rt v H' → D'.rt v H') (h3 : ∀ σ' H', D.bk σ' H' → D'.bk σ' H') (h4 : ∀ σ' H', D.ct σ' H' → D'.ct σ' H') : wB X ss D' σ H := fun pins s I =>
  thn (h pins s I) fun f s' q => by
    cases f with
    | next => obtain ⟨a, b, c, d⟩ := q; exact ⟨a, b, c, h1 _ _ d⟩
    | brk => obtain ⟨a, b, c, d⟩ := q; exact ⟨a, b, c, h3 _ _ d⟩
    | cont => obtain ⟨a, b, c, d⟩ := q; exact ⟨a, b, c, h4 _ _ d⟩
    | ret u => obtain ⟨v, a, b, c, r, d⟩ := q; exact ⟨v, a, b, c, r, h2 _ _ d⟩
theorem e_mono {Q' : VK} (h : wE X e σ H Q) (h1 : ∀ v H', Q v H' → Q' v H') : wE X e σ H Q' := fun pins s I => thn (h pins s I) fun u s' ⟨v, H', I', r, q⟩ => ⟨v, H', I', r, h1 _ _ q⟩
end
end L2.Tr

/-! operators of own classes -/
namespace PySem.W
open PySem PySem.Calls PyProof.Rows
section
variable {prog : Program} {w : World} {A : Around} {E : Value → Shared → Prop} {s : Shared} {K : Frag} {x C dx L f : Addr} {h₀ : Heap} {m : Str → Option Value} {ox : Obj} {od : Option Obj} {nm : String}
/-- int's own slot declines an instance -/
theorem tr_decl {name : Str} {sl id : String} {g : Int → Int → Sem Fin} {i : Int} {t : Tok} {Q : Value → Shared → Prop} (slot : Slot "int" name id) (entry : entryFor table id = some (Builtin.Int.intBinary sl g)) (args : ∀ a b, argsOk id ⟨[a, b], []⟩)
    (I : s.heap.get? x = some (instObj C dx)) (h : Q .notImplemented s) : wpAny (model prog w) A (call (.builtin id) [.int i t, .ref x]) Q E s := by
  refine GQ.call_here slot (typeIs_int s i t) entry (args _ _) ?_
  unfold Builtin.Int.intBinary slotArgs Builtin.Int.intOfSelf
  simp only [List.isEmpty_nil, Bool.not_true, Bool.false_eq_true, if_false, List.length_cons, List.length_nil, bne_self_eq_false, pure_bind, asInt?, List.headD_cons]
  refine wpAny_bind (wpAny_bind (wpAny_load I (wpAny_pure ?_)))
  obtain ⟨hp, g, d, tk, os⟩ := s
  wp_walk
  exact h
/-- n op x, n an int, x an instance whose class has the reflected method -/
theorem tr_binR {op : Operator} {sl id : String} {g : Int → Int → Sem Fin} {i : Int} {t : Tok} {fo : Value} {Q : Value → Shared → Prop} (X : K.In s.heap) (I : InstAt s.heap x (instObj C dx) C od) (hc : selfFirst K C = true)
    (hs : findIn K (.ref C) (PySem.dunder op.info.2) = some (some (.ref f))) (hr : findIn K (.ref C) (dunderR op.info.2) = some (some (.ref L))) (hf : isFn K (.ref L) = true)
    (fills : fillsNumberSlot (.type "int") op.info.2 = pure true) (hsub : subIn K (.ref C) (.type "int") = some false)
    (slot : Slot "int" (PySem.dunder op.info.2) id) (entry : entryFor table id = some (Builtin.Int.intBinary sl g)) (args : ∀ a b, argsOk id ⟨[a, b], []⟩)
    (h : wpAny (model prog w) A (call (.ref L) [.ref x, .int i t]) (CmpBack Q) E s) : wpAny (model prog w) A (binaryOp op (.int i t) (.ref x)) Q E s := by
  obtain ⟨cd, rest, hcd, hm⟩ := ksp_first hc
  rcases hi : op.info with ⟨sym, nm'⟩
  rw [hi] at hs hr fills slot
  dsimp only at hs hr fills slot
  have two := ksp_try X I hr hf h
  have one : ∀ {Q : Option Value → Shared → Prop}, Q none s → wpAny (model prog w) A (tryMethod (.int i t) (PySem.dunder nm') (.ref x)) Q E s := fun q =>
    wpAny_tryMethod_declines (typeIs_int s i t) slot (tr_decl slot entry args I.at_ ⟨rfl, q⟩)
  obtain ⟨hh, g', d, tt, os⟩ := s
  have L1 : Looks (model prog w) hh (typeOf (.int i t)) (.type "int") := Looks.of_pure rfl
  have L2 : Looks (model prog w) hh (typeOf (.ref x)) (.ref C) := I.type
  have L3 : Looks (model prog w) hh (fillsNumberSlot (.type "int") nm') true := Looks.of_pure fills
  have L4 : Looks (model prog w) hh (fillsNumberSlot (.ref C) nm') true := fills_K X hcd hm hs
  have L5 : Looks (model prog w) hh (isSubtype (.ref C) (.type "int")) false := looks_subIn X hsub
  have L6 : Looks (model prog w) hh (numberSlotInPython (.type "int") nm') false := Looks.of_pure rfl
  have hne : (Value.type "int" == Value.ref C) = false := Bool.eq_false_iff.mpr fun q => by cases beq_iff_eq.mp q
  simp only [binaryOp, hi]
  refine wpAny_holding (wpAny_bind ?_)
  unfold binaryOp1
  refine wpAny_bind (L1.at (wpAny_bind (L2.at (wpAny_bind (L3.at ?_)))))
  simp only [hne, Bool.false_eq_true, if_false]
  ksp_lk
  refine one ?_
  ksp_lk
  refine wpAny_mono two (fun r s' hr' => ?_) fun _ _ e => e
  obtain ⟨v, rfl, hq⟩ := hr'
  ksp_lk
  exact hq
/-- n op x, a comparison -/
theorem tr_cmpR {op : CmpOp} {sl id : String} {g : Int → Int → Sem Fin} {i : Int} {t : Tok} {Q : Value → Shared → Prop} (hu : A.units < cLine) (X : K.In s.heap) (I : InstAt s.heap x (instObj C dx) C od)
    (hr : findIn K (.ref C) (cmpInfo op).2.2 = some (some (.ref f))) (hf : isFn K (.ref f) = true) (hsub : subIn K (.ref C) (.type "int") = some false)
    (slot : Slot "int" (cmpInfo op).2.1 id) (entry : entryFor table id = some (Builtin.Int.intBinary sl g)) (args : ∀ a b, argsOk id ⟨[a, b], []⟩)
    (h : wpAny (model prog w) A (call (.ref f) [.ref x, .int i t]) (CmpBack Q) E s) : wpAny (model prog w) A (richCompare op (.int i t) (.ref x)) Q E s := by
  have two : wpAny (model prog w) A (tryCompare (.ref x) (cmpInfo op).2.2 (.int i t)) (fun r s' => ∃ v, r = some v ∧ Q v s') E s := by
    unfold tryCompare
    refine wpAny_bind (ifBound_K X I hr hf (wpAny_mono h (fun v s' hv => ?_) fun _ _ e => e))
    cases v <;> first | exact hv.elim | exact wpAny_pure ⟨_, rfl, hv⟩
  rcases hi : cmpInfo op with ⟨sym, f', r'⟩
  rw [hi] at two slot
  dsimp only at two slot
  have hne : (Value.type "int" != Value.ref C) = true := by
    have : (Value.type "int" == Value.ref C) = false := Bool.eq_false_iff.mpr fun q => by cases beq_iff_eq.mp q
    simp only [bne, this, Bool.not_false]
  simp only [richCompare, hi, (typeIs_int s i t).oneThing_none]
  refine wpAny_holding (wpAny_bind (wpAny_cRoomFor hu ?_))
  refine wpAny_bind (wpAny_typeOf (typeIs_int s i t) (wpAny_bind (I.type.here ?_)))
  simp only [hne, if_true]
  refine wpAny_bind ((looks_subIn X hsub).here ?_)
  simp only [Bool.false_eq_true, if_false, Bool.not_false, if_true]
  refine wpAny_bind (m := tryCompare (.int i t) _ (.ref x)) (wpAny_tryCompare_declines (typeIs_int s i t) slot (tr_decl slot entry args I.at_ ⟨rfl, ?_⟩))
  refine wpAny_bind (m := tryCompare (.ref x) _ (.int i t)) (wpAny_mono two (fun r s' z => ?_) fun _ _ e => e)
  obtain ⟨v, rfl, hq⟩ := z
  exact wpAny_pure hq
/-- object.__ne__ of an instance whose class has its own __eq__ -/
theorem tr_objNe {b : Value} {Q : Value → Shared → Prop} (hu : A.in1.units < cLine) (X : K.In s.heap) (I : InstAt s.heap x ox C od) (hm : mroIn K C (.type "object") = some true) (hr : findIn K (.ref C) "__eq__" = some (some (.ref f))) (hf : isFn K (.ref f) = true)
    (h : wpAny (model prog w) A.in1 (call (.ref f) [.ref x, b]) (fun v s' => ∃ k, v = .bool k ∧ Q (.bool (!k)) s') E s) : wpAny (model prog w) A (call (.builtin "object.__ne__") [.ref x, b]) Q E s := by
  refine wpAny_call (codeAny_call_builtin F.cmp_object.ne.plain F.cmpEntry_ne (check_slot (i := "object.__ne__") (owner := "object") (n := "__ne__") F.cmpKind_ne F.cmpSplit_ne (I.type.andThen (looks_mroIn X hm)) (F.cmpArgs_ne _ _) ?_))
  unfold Builtin.«object.__ne__»
  refine wpAny_bind (m := slotArgs "__ne__" 1 _) (wpAny_pure ?_)
  refine wpAny_bind (m := cRoomFor _ _) (wpAny_cRoomFor hu ?_)
  refine wpAny_bind (m := callSpecialIfBound? (.ref x) (Str.ofString "__eq__") _) (ifBound_K X I hr hf (wpAny_mono h (fun r s' hq => ?_) fun _ _ y => y))
  obtain ⟨k, rfl, hq⟩ := hq
  refine wpAny_bind (m := truthy (.bool k)) (wpAny_truthy_bool ?_)
  exact wpAny_pure hq
theorem tr_tryNe {b : Value} {Q : Option Value → Shared → Prop} (hu : A.in1.units < cLine) (X : K.In s.heap) (I : InstAt s.heap x ox C od) (hm : mroIn K C (.type "object") = some true) (hn : findIn K (.ref C) "__ne__" = some (some (.builtin "object.__ne__"))) (hr : findIn K (.ref C) "__eq__" = some (some (.ref f))) (hf : isFn K (.ref f) = true)
    (h : wpAny (model prog w) A.in1 (call (.ref f) [.ref x, b]) (fun v s' => ∃ k, v = .bool k ∧ Q (some (.bool (!k))) s') E s) : wpAny (model prog w) A (tryCompare (.ref x) "__ne__" b) Q E s := by
  unfold tryCompare
  simp only [callSpecialIfBound?, bindSpecialIfBound?]
  refine wpAny_bind (wpAny_holding (wpAny_bind (wpAny_bind (wpAny_bind (I.type.here ((looks_findIn X hn).here ?_))))))
  refine wpAny_bind (wpAny_askSetting (wpAny_ite ?_))
  have fin : wpAny (model prog w) A (call (.builtin "object.__ne__") ([.ref x] ++ [b]) >>= fun v => pure (some v)) (fun a s' => wpAny (model prog w) A (match a with | some .notImplemented => pure none | none => pure none | some v => pure (some v)) Q E s') E s :=
    wpAny_bind (tr_objNe hu X I hm hr hf (wpAny_mono h (fun v s' ⟨k, e, q⟩ => ⟨k, e, wpAny_pure (wpAny_pure q)⟩) fun _ _ h' => h'))
  simp only [F.cmp_object.ne.bind]
  split
  · exact wpAny_bind (wpAny_pure (wpAny_pure (by exact fin)))
  · exact wpAny_tryCatch (wpAny_bind (wpAny_pure (wpAny_pure (by exact fin))))
/-- x != b -/
theorem tr_ne {b tb : Value} {Q : Value → Shared → Prop} (hu : A.in1.units < cLine) (hu0 : A.units < cLine) (X : K.In s.heap) (I : InstAt s.heap x ox C od) (hb : Looks (model prog w) s.heap (typeOf b) tb) (hnf : notFirst K C tb = true) (hm : mroIn K C (.type "object") = some true)
    (hn : findIn K (.ref C) "__ne__" = some (some (.builtin "object.__ne__"))) (hr : findIn K (.ref C) "__eq__" = some (some (.ref f))) (hf : isFn K (.ref f) = true)
    (h : wpAny (model prog w) A.in1 (call (.ref f) [.ref x, b]) (fun v s' => ∃ k, v = .bool k ∧ Q (.bool (!k)) s') E s) : wpAny (model prog w) A (richCompare .NotEq (.ref x) b) Q E s := by
  have one : wpAny (model prog w) A (tryCompare (.ref x) "__ne__" b) (fun r s' => ∃ v, r = some v ∧ Q v s') E s := tr_tryNe hu X I hm hn hr hf (wpAny_mono h (fun v s' ⟨k, e, q⟩ => ⟨k, e, _, rfl, q⟩) fun _ _ h' => h')
  unfold richCompare
  simp only [oneThing_ref]
  refine wpAny_holding (wpAny_bind (wpAny_cRoomFor hu0 ?_))
  refine wpAny_bind (I.type.here (wpAny_bind (hb.here ?_)))
  split
  · rename_i q
    have e : subIn K tb (.ref C) = some false := by
      rcases Bool.or_eq_true_iff.mp hnf with e | e
      · rw [beq_iff_eq.mp e] at q; simp at q
      · exact beq_iff_eq.mp e
    refine wpAny_bind ((looks_subIn X e).here ?_)
    simp only [Bool.false_eq_true, if_false]
    refine wpAny_bind (m := tryCompare (.ref x) _ b) (wpAny_mono one (fun r s' z => ?_) fun _ _ e => e)
    obtain ⟨v, rfl, hq⟩ := z
    exact wpAny_pure hq
  · refine wpAny_bind (wpAny_pure ?_)
    simp only [Bool.false_eq_true, if_false]
    refine wpAny_bind (m := tryCompare (.ref x) _ b) (wpAny_mono one (fun r s' z => ?_) fun _ _ e => e)
    obtain ⟨v, rfl, hq⟩ := z
    exact wpAny_pure hq
/-- n != x -/
theorem tr_neR {sl id : String} {g : Int → Int → Sem Fin} {i : Int} {t : Tok} {Q : Value → Shared → Prop} (hu1 : A.in1.units < cLine) (hu : A.units < cLine) (X : K.In s.heap) (I : InstAt s.heap x (instObj C dx) C od) (hm : mroIn K C (.type "object") = some true)
    (hn : findIn K (.ref C) "__ne__" = some (some (.builtin "object.__ne__"))) (hr : findIn K (.ref C) "__eq__" = some (some (.ref f))) (hf : isFn K (.ref f) = true) (hsub : subIn K (.ref C) (.type "int") = some false)
    (h : wpAny (model prog w) A.in1 (call (.ref f) [.ref x, .int i t]) (fun v s' => ∃ k, v = .bool k ∧ Q (.bool (!k)) s') E s) : wpAny (model prog w) A (richCompare .NotEq (.int i t) (.ref x)) Q E s := by
  have two : wpAny (model prog w) A (tryCompare (.ref x) "__ne__" (.int i t)) (fun r s' => ∃ v, r = some v ∧ Q v s') E s := tr_tryNe hu1 X I hm hn hr hf (wpAny_mono h (fun v s' ⟨k, e, q⟩ => ⟨k, e, _, rfl, q⟩) fun _ _ h' => h')
  have hne : (Value.type "int" != Value.ref C) = true := by
    have : (Value.type "int" == Value.ref C) = false := Bool.eq_false_iff.mpr fun q => by cases beq_iff_eq.mp q
    simp only [bne, this, Bool.not_false]
  simp only [richCompare, cmpInfo, (typeIs_int s i t).oneThing_none]
  refine wpAny_holding (wpAny_bind (wpAny_cRoomFor hu ?_))
  refine wpAny_bind (wpAny_typeOf (typeIs_int s i t) (wpAny_bind (I.type.here ?_)))
  simp only [hne, if_true]
  refine wpAny_bind ((looks_subIn X hsub).here ?_)
  simp only [Bool.false_eq_true, if_false, Bool.not_false, if_true]
  refine wpAny_bind (m := tryCompare (.int i t) _ (.ref x)) (wpAny_tryCompare_declines (typeIs_int s i t) F.slot_int_ne (tr_decl (sl := "__ne__") F.slot_int_ne F.entry_int_ne F.args_int_ne_2 I.at_ ⟨rfl, ?_⟩))
  refine wpAny_bind (m := tryCompare (.ref x) _ (.int i t)) (wpAny_mono two (fun r s' z => ?_) fun _ _ e => e)
  obtain ⟨v, rfl, hq⟩ := z
  exact wpAny_pure hq
end
end PySem.W

namespace L2.Tr
open PySem PySem.Spec PyProof.Rows

/-! ### results of mirrors -/
inductive Pay where
  | int (i : Int) | str (s : Str) | bl (b : Bool) | non | frac (q : Rat) | obj (n : Nat) (xs : List Rat)
structure Exn where
  cls : Str
  pay : List (Str × Pay)
inductive Res (α : Type) where
  | ok (a : α) | err (e : Exn) | stuck
namespace Res
variable {α β γ : Type}
def bind (m : Res α) (f : α → Res β) : Res β := match m with
  | .ok a => f a
  | .err e => .err e
  | .stuck => .stuck
@[simp] theorem ok_bind (a : α) (f : α → Res β) : (ok a).bind f = f a := rfl
@[simp] theorem err_bind (e : Exn) (f : α → Res β) : (err e : Res α).bind f = err e := rfl
@[simp] theorem stuck_bind (f : α → Res β) : (stuck : Res α).bind f = stuck := rfl
theorem bind_assoc (m : Res α) (f : α → Res β) (g : β → Res γ) : (m.bind f).bind g = m.bind fun a => (f a).bind g := by cases m <;> rfl
theorem bind_ok (m : Res α) : (m.bind fun a => ok a) = m := by cases m <;> rfl
def guard (p : Prop) [Decidable p] (m : Res α) : Res α := if p then m else stuck
theorem guard_pos {p : Prop} [Decidable p] (h : p) (m : Res α) : guard p m = m := if_pos h
end Res

/-! ### representations -/
/-- by the frozen heap I and the heap H -/
abbrev Ra (α : Type) := Hp → Hp → V → α → Prop
/-- by the frozen heap alone -/
abbrev Rp (α : Type) := Hp → V → α → Prop
abbrev rp {α : Type} (r : Rp α) : Ra α := fun I _ v x => r I v x
class Mo {α : Type} (r : Rp α) : Prop where
  up : ∀ {I I' : Hp} {v : V} {x : α}, Same I I' → r I v x → r I' v x
class MoA {α : Type} (r : Ra α) : Prop where
  up : ∀ {I H I' H' : Hp} {v : V} {x : α}, Same I I' → Same H H' → r I H v x → r I' H' v x
instance {α : Type} {r : Rp α} [m : Mo r] : MoA (rp r) := ⟨fun a _ h => m.up a h⟩
instance {α : Type} {r : Ra α} {H0 : Hp} [m : MoA r] : Mo (fun I v x => r I H0 v x) := ⟨fun a h => m.up a (Same.refl _) h⟩

def rInt : Rp Int := fun _ v x => v = .int x
def rBl : Rp Bool := fun _ v x => v = .bl x
def rStr : Rp Str := fun _ v x => v = .str x
def rNon : Rp Unit := fun _ v _ => v = .non
instance : Mo rInt := ⟨fun _ h => h⟩
instance : Mo rBl := ⟨fun _ h => h⟩
instance : Mo rStr := ⟨fun _ h => h⟩
instance : Mo rNon := ⟨fun _ h => h⟩
/-- a Fraction -/
def frF (q : Rat) : List (Str × V) := [("top", .int q.num), ("bottom", .int (q.den : Int))]
def rFrac (K : PySem.W.Frag) : Rp Rat := fun I v q => ∃ a dx, v = .ref a ∧ I a = some (.ins (He.ga K "Fraction") dx (frF q))
instance {K : PySem.W.Frag} : Mo (rFrac K) := ⟨fun s ⟨a, dx, e, h⟩ => ⟨a, dx, e, s _ _ h⟩⟩
/-- an int or a Fraction -/
inductive Num where
  | i (n : Int) | q (r : Rat)
def Num.val : Num → Rat
  | .i n => (n : Rat)
  | .q r => r
def rNum (K : PySem.W.Frag) : Rp Num := fun I v x => match x with
  | .i n => v = .int n
  | .q r => rFrac K I v r
instance {K : PySem.W.Frag} : Mo (rNum K) := ⟨fun {I I' v x} s h => by
  cases x with
  | i n => exact h
  | q r => exact Mo.up (r := rFrac K) s h⟩
theorem Paired.mapQ {α β : Type} {F G : α → β → Prop} {l₁ : List α} {l₂ : List β} (h : Paired F l₁ l₂) (f : ∀ a b, F a b → G a b) : Paired G l₁ l₂ := Paired.mapP h f
/-- a frozen list -/
def rL {α : Type} (r : Rp α) : Rp (List α) := fun I v xs => ∃ l vs, v = .ref l ∧ I l = some (.lst vs) ∧ Paired (r I) vs xs
instance {α : Type} {r : Rp α} [m : Mo r] : Mo (rL r) := ⟨fun s ⟨l, vs, e, h, p⟩ => ⟨l, vs, e, s _ _ h, Paired.mapP p fun _ _ q => m.up s q⟩⟩
/-- a frozen tuple (of one kind) -/
def rT {α : Type} (r : Rp α) : Rp (List α) := fun I v xs => ∃ l vs, v = .ref l ∧ I l = some (.tup vs) ∧ Paired (r I) vs xs
instance {α : Type} {r : Rp α} [m : Mo r] : Mo (rT r) := ⟨fun s ⟨l, vs, e, h, p⟩ => ⟨l, vs, e, s _ _ h, Paired.mapP p fun _ _ q => m.up s q⟩⟩
/-- a list that can be read (frozen or not), or the script -/
def rdL {α : Type} (K : PySem.W.Frag) (r : Ra α) : Ra (List α) := fun I H v xs => ∃ l vs, v = .ref l ∧ SqL K H l vs ∧ Paired (r I H) vs xs
instance {α : Type} {K : PySem.W.Frag} {r : Ra α} [m : MoA r] : MoA (rdL K r) := ⟨fun s t ⟨l, vs, e, h, p⟩ => ⟨l, vs, e, t.seq h, Paired.mapP p fun _ _ q => m.up s t q⟩⟩

/-! ### exceptions -/
def PayR (K : PySem.W.Frag) (I : Hp) (v : V) : Pay → Prop
  | .int i => v = .int i
  | .str s => v = .str s
  | .bl b => v = .bl b
  | .non => v = .non
  | .frac q => rFrac K I v q
  | .obj _ _ => True
def ExR (K : PySem.W.Frag) (I H : Hp) (e : Exn) (cls : Value) (d : Option Addr) : Prop := cls = .ref (He.ga K e.cls) ∧ (match d with
  | none => e.pay = []
  | some a => e.pay ≠ [] ∧ ∃ fs : List (Str × V), H a = some (.xd fs) ∧ I a = none ∧ Paired (fun (p : Str × V) (q : Str × Pay) => p.1 = q.1 ∧ PayR K I p.2 q.2) fs e.pay)

/-! ### frames -/
/-- from (I, H) to (I', H') nothing that stood has changed -/
structure Fm (I H I' H' : Hp) : Prop where
  i : Same I I'
  h : Same H H'
  ih : Same I' H'
  mu : ∀ l, I l = none → H l ≠ none → I' l = none
theorem Fm.refl {I H : Hp} (h : Same I H) : Fm I H I H := ⟨Same.refl _, Same.refl _, h, fun _ e _ => e⟩
theorem Fm.trans {I H I1 H1 I2 H2 : Hp} (a : Fm I H I1 H1) (b : Fm I1 H1 I2 H2) : Fm I H I2 H2 :=
  ⟨a.i.trans b.i, a.h.trans b.h, b.ih, fun l e n => b.mu l (a.mu l e n) fun q => by
    cases z : H l with
    | none => exact n z
    | some o => rw [a.h l o z] at q; cases q⟩
/-- a new frozen object -/
theorem Fm.new {I H : Hp} {p : Addr} {o : HO} (s : Same I H) (h : H p = none) : Fm I H (upd I p o) (upd H p o) :=
  ⟨fun b u e => by rw [upd_ne (ne_of_none (s _ _ e) h)]; exact e, fun b u e => by rw [upd_ne (ne_of_none e h)]; exact e, fun b u e => by
    by_cases hb : b = p
    · subst hb; rw [upd_same] at e ⊢; exact e
    · rw [upd_ne hb] at e ⊢; exact s _ _ e, fun l e n => by
    have : l ≠ p := fun q => n (q ▸ h)
    rw [upd_ne this]; exact e⟩
/-- a new object that may still be changed -/
theorem Fm.newM {I H : Hp} {p : Addr} {o : HO} (s : Same I H) (h : H p = none) : Fm I H I (upd H p o) :=
  ⟨Same.refl _, fun b u e => by rw [upd_ne (ne_of_none e h)]; exact e, fun b u e => by rw [upd_ne (ne_of_none (s _ _ e) h)]; exact s _ _ e, fun l e n => e⟩

/-- the error's own dict is new -/
def Fr (H : Hp) (d : Option Addr) : Prop := ∀ a, d = some a → H a = none
theorem Fr.back {H H' : Hp} {d : Option Addr} (f : Fr H' d) (s : Same H H') : Fr H d := fun a e => s.free (f a e)
def PostE {α : Type} (K : PySem.W.Frag) (m : Res α) (r : Ra α) (I H : Hp) (E : XK) (Q : VK) : Prop := match m with
  | .ok a => ∀ I' H' v, Fm I H I' H' → r I' H' v a → Q v H'
  | .err e => ∀ I' H' cls d, Fm I H I' H' → Fr H d ∧ ExR K I' H' e cls d → E cls d H'
  | .stuck => False
theorem PostE.up {α : Type} {K : PySem.W.Frag} {m : Res α} {r : Ra α} {I H I1 H1 : Hp} {E : XK} {Q : VK} (h : PostE K m r I H E Q) (f : Fm I H I1 H1) : PostE K m r I1 H1 E Q := by
  cases m with
  | ok a => exact fun I' H' v g => h I' H' v (f.trans g)
  | err e => exact fun I' H' c d g x => h I' H' c d (f.trans g) ⟨x.1.back f.h, x.2⟩
  | stuck => exact h
theorem PostE.imp {α : Type} {K : PySem.W.Frag} {m : Res α} {r : Ra α} {I H : Hp} {E : XK} {Q Q' : VK} (h : PostE K m r I H E Q) (g : ∀ v H', Q v H' → Q' v H') : PostE K m r I H E Q' := by
  cases m with
  | ok a => exact fun I' H' v f r => g _ _ (h I' H' v f r)
  | err e => exact h
  | stuck => exact h

/-! ### environments -/
structure SF where
  {α : Type}
  r : Rp α
  [mo : Mo r]
  x : α
/-- an object of the call's own that may still be changed -/
structure MF where
  l : Addr
  P : Hp → HO → Prop
  mo : ∀ {I I' : Hp} {o : HO}, Same I I' → P I o → P I' o
def MF.lst {α : Type} (l : Addr) (r : Rp α) [m : Mo r] (xs : List α) : MF := ⟨l, fun I o => ∃ vs, o = .lst vs ∧ Paired (r I) vs xs, fun s ⟨vs, e, p⟩ => ⟨vs, e, Paired.mapP p fun _ _ q => m.up s q⟩⟩
def FldR (I : Hp) : List (Str × V) → List (Str × SF) → Prop
  | [], [] => True
  | p :: fs, q :: gs => p.1 = q.1 ∧ q.2.r I p.2 q.2.x ∧ FldR I fs gs
  | _, _ => False
theorem FldR.up {I I' : Hp} (s : Same I I') : ∀ {fs : List (Str × V)} {gs : List (Str × SF)}, FldR I fs gs → FldR I' fs gs
  | [], [], h => h
  | _ :: _, q :: _, ⟨a, b, c⟩ => ⟨a, q.2.mo.up s b, FldR.up s c⟩
  | [], _ :: _, h => h
  | _ :: _, [], h => h
def MF.ins (l C dx : Addr) (gs : List (Str × SF)) : MF := ⟨l, fun I o => ∃ fs, o = .ins C dx fs ∧ FldR I fs gs, fun s ⟨fs, e, p⟩ => ⟨fs, e, FldR.up s p⟩⟩
structure Stt (I0 H0 : Hp) (ctx : List (Option SF)) (mem : List MF) (I H : Hp) (σ : St) : Prop where
  fm : Fm I0 H0 I H
  len : σ.length = ctx.length
  sl : ∀ (i : Nat) (sf : SF), ctx[i]? = some (some sf) → ∃ v, σ[i]? = some (some v) ∧ sf.r I v sf.x
  me : ∀ c : MF, c ∈ mem → H0 c.l = none ∧ I c.l = none ∧ ∃ o, H c.l = some o ∧ c.P I o
  nd : (mem.map (·.l)).Nodup
section
variable {I0 H0 I H I' H' : Hp} {ctx : List (Option SF)} {mem : List MF} {σ : St}
theorem Stt.same (s : Stt I0 H0 ctx mem I H σ) : Same I H := s.fm.ih
theorem Stt.step (s : Stt I0 H0 ctx mem I H σ) (f : Fm I H I' H') : Stt I0 H0 ctx mem I' H' σ := by
  refine ⟨s.fm.trans f, s.len, fun i sf e => ?_, fun c hc => ?_, s.nd⟩
  · obtain ⟨v, e1, h⟩ := s.sl i sf e
    exact ⟨v, e1, sf.mo.up f.i h⟩
  · obtain ⟨a, b, o, e, p⟩ := s.me c hc
    exact ⟨a, f.mu _ b (by rw [e]; intro z; cases z), o, f.h _ _ e, c.mo f.i p⟩
theorem Stt.set (s : Stt I0 H0 ctx mem I H σ) (i : Nat) {α : Type} {r : Rp α} [mo : Mo r] {x : α} {v : V} (h : r I v x) : Stt I0 H0 (ctx.set i (some ⟨r, x⟩)) mem I H (σ.set i (some v)) := by
  refine ⟨s.fm, by rw [List.length_set, List.length_set]; exact s.len, fun j sf e => ?_, s.me, s.nd⟩
  by_cases hj : j = i
  · subst hj
    rw [List.getElem?_set] at e
    by_cases hl : j < ctx.length
    · simp only [hl, if_true] at e
      cases e
      exact ⟨v, by rw [List.getElem?_set]; simp [s.len, hl], h⟩
    · simp only [hl, if_true, if_false] at e
      cases e
  · rw [List.getElem?_set_ne (Ne.symm hj)] at e
    obtain ⟨w, e1, q⟩ := s.sl j sf e
    exact ⟨w, by rw [List.getElem?_set_ne (Ne.symm hj)]; exact e1, q⟩
end
/-! ### expressions -/
section
variable {α β γ δ : Type}
def JE (X : Cx) (I0 H0 : Hp) (W : WX) (ctx : List (Option SF)) (mem : List MF) (e : Expr) (m : Res α) (r : Ra α) : Prop :=
  ∀ (I H : Hp) (σ : St) (Q : VK), Stt I0 H0 ctx mem I H σ → PostE X.K m r I H (fun cls d H' => W cls d σ H') Q → wE X e σ H Q
def JT (X : Cx) (I0 H0 : Hp) (W : WX) (ctx : List (Option SF)) (mem : List MF) (e : Expr) (m : Res Bool) : Prop :=
  ∀ (I H : Hp) (σ : St) (Q : Bool → Hp → Prop), Stt I0 H0 ctx mem I H σ → PostE X.K m (rp rBl) I H (fun cls d H' => W cls d σ H') (fun v H' => ∀ b, v = .bl b → Q b H') → wT X e σ H Q
def OpJ (X : Cx) (W : WX) (f : Value → Value → Sem Value) (ra : Ra α) (rb : Ra β) (g : α → β → Res γ) (rc : Ra γ) : Prop :=
  ∀ (I H : Hp) (σ : St) (Q : VK) (u v : V) (x : α) (y : β), Same I H → ra I H u x → rb I H v y → PostE X.K (g x y) rc I H (fun cls d H' => W cls d σ H') Q → opW X f σ u v H Q
def UnJ (X : Cx) (W : WX) (f : Value → Sem Value) (ra : Ra α) (g : α → Res γ) (rc : Ra γ) : Prop :=
  ∀ (I H : Hp) (σ : St) (Q : VK) (u : V) (x : α), Same I H → ra I H u x → PostE X.K (g x) rc I H (fun cls d H' => W cls d σ H') Q → unW X f σ u H Q
def CallJ (X : Cx) (W : WX) (f : Value) (R : Hp → Hp → List V → δ → Prop) (g : δ → Res γ) (rc : Ra γ) : Prop :=
  ∀ (I H : Hp) (σ : St) (Q : VK) (vs : List V) (x : δ), Same I H → R I H vs x → PostE X.K (g x) rc I H (fun cls d H' => W cls d σ H') Q → callW X f σ vs H Q
/-- argument lists -/
def JA (X : Cx) (I0 H0 : Hp) (W : WX) (ctx : List (Option SF)) (mem : List MF) (es : List Expr) (m : Res δ) (R : Hp → Hp → List V → δ → Prop) : Prop :=
  ∀ (I H : Hp) (σ : St) (Q : List V → Hp → Prop), Stt I0 H0 ctx mem I H σ → (match m with
    | .ok a => ∀ I' H' vs, Fm I H I' H' → R I' H' vs a → Q vs H'
    | .err e => ∀ I' H' cls d, Fm I H I' H' → Fr H d ∧ ExR X.K I' H' e cls d → W cls d σ H'
    | .stuck => False) → wA X es σ H Q
def aNil : Hp → Hp → List V → Unit → Prop := fun _ _ vs _ => vs = []
def aCons (r : Ra α) (R : Hp → Hp → List V → δ → Prop) : Hp → Hp → List V → α × δ → Prop := fun I H vs x => ∃ v ws, vs = v :: ws ∧ r I H v x.1 ∧ R I H ws x.2

variable {X : Cx} {I0 H0 : Hp} {W : WX} {ctx : List (Option SF)} {mem : List MF} {e a b c o : Expr} {es : List Expr} {pos pos' : Pos} {n : Str} {ra : Ra α} {rb : Ra β} {rc : Ra γ} {ma : Res α} {mb : Res β}

theorem JE.co {m : Res α} {r : Ra α} {r' : Ra α} (j : JE X I0 H0 W ctx mem e m r) (c : ∀ I H v x, Same I H → r I H v x → r' I H v x) : JE X I0 H0 W ctx mem e m r' := fun I H σ Q st p => j I H σ Q st (by
  cases m with
  | ok a => exact fun I' H' v f q => p I' H' v f (c _ _ _ _ f.ih q)
  | err e => exact p
  | stuck => exact p)
theorem JE.map {m : Res α} {r : Ra α} {r' : Ra β} {g : α → β} (j : JE X I0 H0 W ctx mem e m r) (c : ∀ I H v x, Same I H → r I H v x → r' I H v (g x)) : JE X I0 H0 W ctx mem e (m.bind fun x => .ok (g x)) r' := fun I H σ Q st p => j I H σ Q st (by
  cases m with
  | ok a => exact fun I' H' v f q => p I' H' v f (c _ _ _ _ f.ih q)
  | err e => exact p
  | stuck => exact p)
theorem JE.num {m : Res Int} {K : PySem.W.Frag} (j : JE X I0 H0 W ctx mem e m (rp rInt)) : JE X I0 H0 W ctx mem e (m.bind fun x => .ok (Num.i x)) (rp (rNum K)) := j.map fun _ _ _ _ _ h => h
theorem JE.numq {m : Res Rat} {K : PySem.W.Frag} (j : JE X I0 H0 W ctx mem e m (rp (rFrac K))) : JE X I0 H0 W ctx mem e (m.bind fun x => .ok (Num.q x)) (rp (rNum K)) := j.map fun _ _ _ _ _ h => h
/-- a name in slot i -/
theorem JE.var (i : Nat) {r : Rp α} {mo : Mo r} {x : α} (hc : ctx[i]? = some (some (@SF.mk α r mo x)) := by rfl) (hN : X.N[i]? = some n := by rfl) (hv : Vis X.env.scope n := by first | exact Or.inl rfl | exact Or.inr (Or.inl rfl) | exact Or.inr (Or.inr rfl)) (hd : (n == ("__debug__" : Str)) = false := by decide)
    (hcd : (n == ("__classdict__" : Str)) = false := by decide) : JE X I0 H0 W ctx mem (.Name n pos) (.ok x) (rp r) := fun I H σ Q st p => by
  obtain ⟨v, e, h⟩ := st.sl i _ hc
  exact w_var i (p I H v (Fm.refl st.same) h) e hN hv hd hcd
/-- .. a parameter whose worth may lean on the heap at the entry -/
theorem JE.varP (i : Nat) {r : Ra α} {mo : Mo (fun I v x => r I H0 v x)} {x : α} [m : MoA r] (hc : ctx[i]? = some (some (@SF.mk α (fun I v x => r I H0 v x) mo x)) := by rfl) (hN : X.N[i]? = some n := by rfl) (hv : Vis X.env.scope n := by first | exact Or.inl rfl | exact Or.inr (Or.inl rfl) | exact Or.inr (Or.inr rfl)) (hd : (n == ("__debug__" : Str)) = false := by decide)
    (hcd : (n == ("__classdict__" : Str)) = false := by decide) : JE X I0 H0 W ctx mem (.Name n pos) (.ok x) r := fun I H σ Q st p => by
  obtain ⟨v, e, h⟩ := st.sl i _ hc
  exact w_var i (p I H v (Fm.refl st.same) (m.up (Same.refl _) st.fm.h h)) e hN hv hd hcd
theorem JE.int {i : Int} {j} : JE X I0 H0 W ctx mem (.Constant (.int i) j pos) (.ok i) (rp rInt) := fun I H σ Q st p => w_int (p I H _ (Fm.refl st.same) rfl)
theorem JE.bl {i : Bool} {j} : JE X I0 H0 W ctx mem (.Constant (.bool i) j pos) (.ok i) (rp rBl) := fun I H σ Q st p => w_bl (p I H _ (Fm.refl st.same) rfl)
theorem JE.str {i : Str} {j} : JE X I0 H0 W ctx mem (.Constant (.str i) j pos) (.ok i) (rp rStr) := fun I H σ Q st p => w_str (p I H _ (Fm.refl st.same) rfl)
theorem JE.non {j} : JE X I0 H0 W ctx mem (.Constant .none j pos) (.ok ()) (rp rNon) := fun I H σ Q st p => w_non (p I H _ (Fm.refl st.same) rfl)
theorem JE.bin {op : Operator} {g : α → β → Res γ} [MoA ra] (ja : JE X I0 H0 W ctx mem a ma ra) (jb : JE X I0 H0 W ctx mem b mb rb) (o : OpJ X W (binaryOp op) ra rb g rc) : JE X I0 H0 W ctx mem (.BinOp a op b pos) (ma.bind fun x => mb.bind fun y => g x y) rc := fun I H σ Q st p => by
  refine w_bin (ja I H σ _ st ?_)
  cases ma with
  | ok x =>
    intro I1 H1 u f1 r1
    refine jb I1 H1 σ _ (st.step f1) ?_
    have p1 := PostE.up p f1
    cases mb with
    | ok y => exact fun I2 H2 v f2 r2 => o I2 H2 σ Q u v x y f2.ih (MoA.up f2.i f2.h r1) r2 (PostE.up p1 f2)
    | err e => exact p1
    | stuck => exact p1
  | err e => exact p
  | stuck => exact p
theorem JE.cmp {op : CmpOp} {g : α → β → Res γ} [MoA ra] (ja : JE X I0 H0 W ctx mem a ma ra) (jb : JE X I0 H0 W ctx mem b mb rb) (o : OpJ X W (compareOp op) ra rb g rc) (hm : behindInMarks op b = false := by first | exact nomark _ | rfl) : JE X I0 H0 W ctx mem (.Compare a [op] [b] pos) (ma.bind fun x => mb.bind fun y => g x y) rc := fun I H σ Q st p => by
  refine w_cmp (ja I H σ _ st ?_) hm
  cases ma with
  | ok x =>
    intro I1 H1 u f1 r1
    refine jb I1 H1 σ _ (st.step f1) ?_
    have p1 := PostE.up p f1
    cases mb with
    | ok y => exact fun I2 H2 v f2 r2 => o I2 H2 σ Q u v x y f2.ih (MoA.up f2.i f2.h r1) r2 (PostE.up p1 f2)
    | err e => exact p1
    | stuck => exact p1
  | err e => exact p
  | stuck => exact p
theorem JT.cmp {op : CmpOp} {g : α → β → Res Bool} [MoA ra] (ja : JE X I0 H0 W ctx mem a ma ra) (jb : JE X I0 H0 W ctx mem b mb rb) (o : OpJ X W (compareOp op) ra rb g (rp rBl)) (hm : behindInMarks op b = false := by first | exact nomark _ | rfl) : JT X I0 H0 W ctx mem (.Compare a [op] [b] pos) (ma.bind fun x => mb.bind fun y => g x y) := fun I H σ Q st p => by
  refine w_tcmp (ja I H σ _ st ?_) hm
  cases ma with
  | ok x =>
    intro I1 H1 u f1 r1
    refine jb I1 H1 σ _ (st.step f1) ?_
    have p1 := PostE.up p f1
    cases mb with
    | ok y =>
      intro I2 H2 v f2 r2
      refine o I2 H2 σ _ u v x y f2.ih (MoA.up f2.i f2.h r1) r2 ?_
      have p2 := PostE.up p1 f2
      revert p2
      show PostE X.K (g x y) _ _ _ _ _ → _
      generalize g x y = z
      intro p2
      cases z with
      | ok k => intro I3 H3 v3 f3 r3; cases r3; exact tru_bl (p2 I3 H3 _ f3 rfl k rfl)
      | err e => exact p2
      | stuck => exact p2
    | err e => exact p1
    | stuck => exact p1
  | err e => exact p
  | stuck => exact p
theorem JE.un {op : UnaryOp} {g : α → Res γ} (ja : JE X I0 H0 W ctx mem a ma ra) (o : UnJ X W (unaryOp op) ra g rc) : JE X I0 H0 W ctx mem (.UnaryOp op a pos) (ma.bind fun x => g x) rc := fun I H σ Q st p => by
  refine w_un (ja I H σ _ st ?_)
  cases ma with
  | ok x => exact fun I1 H1 u f1 r1 => o I1 H1 σ Q u x f1.ih r1 (PostE.up p f1)
  | err e => exact p
  | stuck => exact p
/-- a test of a plain form whose value is a bool -/
theorem JT.of {m : Res Bool} (j : JE X I0 H0 W ctx mem e m (rp rBl)) (he : ∀ whole, isTrue e X.env whole = (do let v ← whole; standAt e.pos; holding [v] (truthy v)) := by intro _; rfl) : JT X I0 H0 W ctx mem e m := fun I H σ Q st p => by
  refine w_t (j I H σ _ st ?_) he
  cases m with
  | ok k => intro I1 H1 v f1 r1; cases r1; exact tru_bl (p I1 H1 _ f1 rfl k rfl)
  | err e => exact p
  | stuck => exact p
theorem JT.not {m : Res Bool} (j : JT X I0 H0 W ctx mem e m) : JT X I0 H0 W ctx mem (.UnaryOp .Not e pos) (m.bind fun b => .ok (!b)) := fun I H σ Q st p => by
  refine w_not (j I H σ _ st ?_)
  cases m with
  | ok k => exact fun I1 H1 v f1 r1 b hb => by cases r1; cases hb; exact p I1 H1 _ f1 rfl _ rfl
  | err e => exact p
  | stuck => exact p
theorem JE.not {m : Res Bool} (j : JE X I0 H0 W ctx mem e m (rp rBl)) : JE X I0 H0 W ctx mem (.UnaryOp .Not e pos) (m.bind fun b => .ok (!b)) (rp rBl) := fun I H σ Q st p => by
  refine w_notV (j I H σ _ st ?_)
  cases m with
  | ok k => exact fun I1 H1 v f1 r1 => ⟨k, r1, p I1 H1 _ f1 rfl⟩
  | err e => exact p
  | stuck => exact p
end
end L2.Tr

namespace L2.Tr
open PySem PySem.Spec PyProof.Rows
section
variable {α β γ δ S : Type}
def JW (X : Cx) (I0 H0 : Hp) (W : WX) (ctx : List (Option SF)) (mem : List MF) (e : Expr) (m : Res Bool) : Prop :=
  ∀ (I H : Hp) (σ : St) (Q : Bool → Hp → Prop), Stt I0 H0 ctx mem I H σ → PostE X.K m (rp rBl) I H (fun cls d H' => W cls d σ H') (fun v H' => ∀ b, v = .bl b → Q b H') → wW X e σ H Q
variable {X : Cx} {I0 H0 : Hp} {W : WX} {ctx : List (Option SF)} {mem : List MF} {e a b c o : Expr} {es bs : List Expr} {pos pos' : Pos} {n : Str} {ra : Ra α} {rb : Ra β} {rc : Ra γ} {ma : Res α} {mb : Res β} {m1 m2 mc : Res Bool}
theorem JT.bool {op} (j : JW X I0 H0 W ctx mem (.BoolOp op es pos) m1) : JT X I0 H0 W ctx mem (.BoolOp op es pos) m1 := fun I H σ Q st p => w_tbool (j I H σ Q st p)
theorem JW.and1 (j : JT X I0 H0 W ctx mem a m1) : JW X I0 H0 W ctx mem (.BoolOp .And [a] pos) m1 := fun I H σ Q st p => w_and1 (j I H σ Q st p)
theorem JW.or1 (j : JT X I0 H0 W ctx mem a m1) : JW X I0 H0 W ctx mem (.BoolOp .Or [a] pos) m1 := fun I H σ Q st p => w_or1 (j I H σ Q st p)
theorem JW.and (j : JT X I0 H0 W ctx mem a m1) (k : JW X I0 H0 W ctx mem (.BoolOp .And (b :: bs) pos) m2) : JW X I0 H0 W ctx mem (.BoolOp .And (a :: b :: bs) pos) (m1.bind fun x => if x = true then m2 else .ok false) := fun I H σ Q st p => by
  refine w_and (j I H σ _ st ?_)
  cases m1 with
  | ok x =>
    intro I1 H1 v f r y hy
    cases r; cases hy
    have p1 := PostE.up p f
    cases x with
    | true => exact iteT (k I1 H1 σ Q (st.step f) p1)
    | false => exact iteF (p1 I1 H1 _ (Fm.refl f.ih) rfl _ rfl)
  | err e => exact p
  | stuck => exact p
theorem JW.or (j : JT X I0 H0 W ctx mem a m1) (k : JW X I0 H0 W ctx mem (.BoolOp .Or (b :: bs) pos) m2) : JW X I0 H0 W ctx mem (.BoolOp .Or (a :: b :: bs) pos) (m1.bind fun x => if x = true then .ok true else m2) := fun I H σ Q st p => by
  refine w_or (j I H σ _ st ?_)
  cases m1 with
  | ok x =>
    intro I1 H1 v f r y hy
    cases r; cases hy
    have p1 := PostE.up p f
    cases x with
    | true => exact iteT (p1 I1 H1 _ (Fm.refl f.ih) rfl _ rfl)
    | false => exact iteF (k I1 H1 σ Q (st.step f) p1)
  | err e => exact p
  | stuck => exact p
theorem JE.one {op} {m : Res Bool} (j : JE X I0 H0 W ctx mem a m (rp rBl)) : JE X I0 H0 W ctx mem (.BoolOp op [a] pos) m (rp rBl) := fun I H σ Q st p => w_oneV (j I H σ Q st p)
theorem JE.and (j : JE X I0 H0 W ctx mem a m1 (rp rBl)) (k : JE X I0 H0 W ctx mem (.BoolOp .And (b :: bs) pos) m2 (rp rBl)) : JE X I0 H0 W ctx mem (.BoolOp .And (a :: b :: bs) pos) (m1.bind fun x => if x = true then m2 else .ok false) (rp rBl) := fun I H σ Q st p => by
  refine w_andV (j I H σ _ st ?_)
  cases m1 with
  | ok x =>
    intro I1 H1 v f r
    have p1 := PostE.up p f
    refine ⟨x, r, ?_⟩
    cases x with
    | true => exact iteT (k I1 H1 σ Q (st.step f) p1)
    | false => exact iteF (p1 I1 H1 _ (Fm.refl f.ih) rfl)
  | err e => exact p
  | stuck => exact p
theorem JE.or (j : JE X I0 H0 W ctx mem a m1 (rp rBl)) (k : JE X I0 H0 W ctx mem (.BoolOp .Or (b :: bs) pos) m2 (rp rBl)) : JE X I0 H0 W ctx mem (.BoolOp .Or (a :: b :: bs) pos) (m1.bind fun x => if x = true then .ok true else m2) (rp rBl) := fun I H σ Q st p => by
  refine w_orV (j I H σ _ st ?_)
  cases m1 with
  | ok x =>
    intro I1 H1 v f r
    have p1 := PostE.up p f
    refine ⟨x, r, ?_⟩
    cases x with
    | true => exact iteT (p1 I1 H1 _ (Fm.refl f.ih) rfl)
    | false => exact iteF (k I1 H1 σ Q (st.step f) p1)
  | err e => exact p
  | stuck => exact p
theorem JE.ifx {m m' : Res α} {r : Ra α} (j : JT X I0 H0 W ctx mem c mc) (k1 : JE X I0 H0 W ctx mem a m r) (k2 : JE X I0 H0 W ctx mem b m' r) : JE X I0 H0 W ctx mem (.IfExp c a b pos) (mc.bind fun x => if x = true then m else m') r := fun I H σ Q st p => by
  refine w_ifx (j I H σ _ st ?_)
  cases mc with
  | ok x =>
    intro I1 H1 v f r y hy
    cases r; cases hy
    have p1 := PostE.up p f
    cases x with
    | true => exact iteT (k1 I1 H1 σ Q (st.step f) p1)
    | false => exact iteF (k2 I1 H1 σ Q (st.step f) p1)
  | err e => exact p
  | stuck => exact p
/-! ### arguments and calls -/
theorem JA.nil : JA X I0 H0 W ctx mem [] (.ok ()) aNil := fun I H σ Q st p => w_nil (p I H [] (Fm.refl st.same) rfl)
theorem JA.cons {R : Hp → Hp → List V → δ → Prop} {m : Res δ} [MoA ra] (j : JE X I0 H0 W ctx mem e ma ra) (k : JA X I0 H0 W ctx mem es m R) (hs : starEach (e :: es) X.env = (false, eval e X.env) :: starEach es X.env := by rfl) :
    JA X I0 H0 W ctx mem (e :: es) (ma.bind fun x => m.bind fun y => .ok (x, y)) (aCons ra R) := fun I H σ Q st p => by
  refine Tr.w_cons (j I H σ _ st ?_) hs
  cases ma with
  | ok x =>
    intro I1 H1 v f1 r1
    refine k I1 H1 σ _ (st.step f1) ?_
    cases m with
    | ok y => exact fun I2 H2 vs f2 r2 => p I2 H2 _ (f1.trans f2) ⟨v, vs, rfl, MoA.up f2.i f2.h r1, r2⟩
    | err e => exact fun I2 H2 c d f2 x => p I2 H2 c d (f1.trans f2) ⟨x.1.back f1.h, x.2⟩
    | stuck => exact p
  | err e => exact p
  | stuck => exact p
variable {R : Hp → Hp → List V → δ → Prop} {md : Res δ} {g : δ → Res γ}
theorem JA.call (k : JA X I0 H0 W ctx mem es md R) {f : Value} (cj : CallJ X W f R g rc) {I H : Hp} {σ : St} {Q : VK} (st : Stt I0 H0 ctx mem I H σ) (p : PostE X.K (md.bind g) rc I H (fun cls d H' => W cls d σ H') Q) : wA X es σ H fun vs H1 => callW X f σ vs H1 Q := by
  refine k I H σ _ st ?_
  cases md with
  | ok x => exact fun I1 H1 vs f1 r1 => cj I1 H1 σ Q vs x f1.ih r1 (PostE.up p f1)
  | err e => exact p
  | stuck => exact p
/-- f(..), C(..) by a global name -/
theorem JE.call {f : Addr} (k : JA X I0 H0 W ctx mem (e :: es) md R) (cj : CallJ X W (.ref f) R g rc) (hm : X.mg n = some (.ref f)) (hk : PySem.W.keepIn X.K (.ref f) = true) (hg : Gl X n := by rfl) (hdb : (n == ("__debug__" : Str)) = false := by decide)
    (he : starEach (e :: es) X.env = (false, eval e X.env) :: starEach es X.env := by rfl) (hpl : (backTo pos (starEach es X.env)).any (·.1) = false := by rfl) : JE X I0 H0 W ctx mem (.Call (.Name n pos') (e :: es) [] pos) (md.bind g) rc := fun I H σ Q st p =>
  w_call (k.call cj st p) hm hk hg hdb he hpl
theorem JE.call0 {f : Addr} {g : Unit → Res γ} (cj : CallJ X W (.ref f) aNil g rc) (hm : X.mg n = some (.ref f)) (hk : PySem.W.keepIn X.K (.ref f) = true) (hg : Gl X n := by rfl) (hdb : (n == ("__debug__" : Str)) = false := by decide) : JE X I0 H0 W ctx mem (.Call (.Name n pos') [] [] pos) (g ()) rc := fun I H σ Q st p =>
  w_call0 (cj I H σ Q [] () st.same rfl p) hm hk hg hdb
/-- a built-in by its name -/
theorem JE.callB {id : String} (k : JA X I0 H0 W ctx mem (e :: es) md R) (cj : CallJ X W (.builtin id) R g rc) (hm : X.mg n = none) (hv : bootBuiltins n = some (.builtin id)) (hg : Gl X n := by rfl) (hn : n ≠ "__name__" := by decide) (hdb : (n == ("__debug__" : Str)) = false := by decide)
    (he : starEach (e :: es) X.env = (false, eval e X.env) :: starEach es X.env := by rfl) (hpl : (backTo pos (starEach es X.env)).any (·.1) = false := by rfl) : JE X I0 H0 W ctx mem (.Call (.Name n pos') (e :: es) [] pos) (md.bind g) rc := fun I H σ Q st p =>
  w_callB (k.call cj st p) hm hv hg hn hdb he hpl
theorem JE.callTy {T : String} (k : JA X I0 H0 W ctx mem (e :: es) md R) (cj : CallJ X W (.type T) R g rc) (hm : X.mg n = none) (hv : bootBuiltins n = some (.type T)) (hg : Gl X n := by rfl) (hn : n ≠ "__name__" := by decide) (hdb : (n == ("__debug__" : Str)) = false := by decide)
    (he : starEach (e :: es) X.env = (false, eval e X.env) :: starEach es X.env := by rfl) (hpl : (backTo pos (starEach es X.env)).any (·.1) = false := by rfl) : JE X I0 H0 W ctx mem (.Call (.Name n pos') (e :: es) [] pos) (md.bind g) rc := fun I H σ Q st p =>
  w_callTy (k.call cj st p) hm hv hg hn hdb he hpl
/-- what an instance must be for its methods -/
def InsOf (C : Addr) (r : Ra α) (m : Str) : Prop := ∀ I H v x, Same I H → r I H v x → ∃ a dx fs, v = .ref a ∧ H a = some (.ins C dx fs) ∧ fs.lookup m = none
theorem JE.meth {pl : Sem Bool} {m : Str} {C f : Addr} {apos : Pos} {g : α × δ → Res γ} [MoA ra] (j : JE X I0 H0 W ctx mem o ma ra) (hi : InsOf C ra m) (k : JA X I0 H0 W ctx mem (e :: es) md R) (cj : CallJ X W (.ref f) (aCons ra R) g rc) (c : Cls X.K C) (hm : Meth X.K C m f)
    (hst : starEach (e :: es) X.env = (false, eval e X.env) :: starEach es X.env := by rfl) (hpl : (backTo pos (starEach es X.env)).any (·.1) = false := by rfl)
    (ht : eval (.Call (.Attribute o m apos) (e :: es) [] pos) X.env = (do
      let ov ← eval o X.env
      standAt apos.atName
      let (f, first) ← holding [ov] (getMethod ov m pl)
      callWith pos f first (backTo pos (starEach (e :: es) X.env)) (backToKw pos (keywordEach [] X.env))) := by rfl) : JE X I0 H0 W ctx mem (.Call (.Attribute o m apos) (e :: es) [] pos) (ma.bind fun x => md.bind fun y => g (x, y)) rc := fun I H σ Q st p => by
  refine w_meth (j I H σ _ st ?_) c hm hst hpl ht
  cases ma with
  | ok x =>
    intro I1 H1 v f1 r1
    obtain ⟨a, dx, fs, ev, ha, hl⟩ := hi I1 H1 v x f1.ih r1
    refine ⟨a, dx, fs, ev, ha, hl, k I1 H1 σ _ (st.step f1) ?_⟩
    have p1 := PostE.up p f1
    cases md with
    | ok y => exact fun I2 H2 vs f2 r2 => cj I2 H2 σ Q (v :: vs) (x, y) f2.ih ⟨v, vs, rfl, MoA.up f2.i f2.h r1, r2⟩ (PostE.up p1 f2)
    | err e => exact p1
    | stuck => exact p1
  | err e => exact p
  | stuck => exact p
theorem JE.meth0 {pl : Sem Bool} {m : Str} {C f : Addr} {apos : Pos} {g : α × Unit → Res γ} (j : JE X I0 H0 W ctx mem o ma ra) (hi : InsOf C ra m) (cj : CallJ X W (.ref f) (aCons ra aNil) g rc) (c : Cls X.K C) (hm : Meth X.K C m f)
    (ht : eval (.Call (.Attribute o m apos) [] [] pos) X.env = (do
      let ov ← eval o X.env
      standAt apos.atName
      let (f, first) ← holding [ov] (getMethod ov m pl)
      callWith pos f first (backTo pos (starEach [] X.env)) (backToKw pos (keywordEach [] X.env))) := by rfl) : JE X I0 H0 W ctx mem (.Call (.Attribute o m apos) [] [] pos) (ma.bind fun x => g (x, ())) rc := fun I H σ Q st p => by
  refine w_meth0 (j I H σ _ st ?_) c hm ht
  cases ma with
  | ok x =>
    intro I1 H1 v f1 r1
    obtain ⟨a, dx, fs, ev, ha, hl⟩ := hi I1 H1 v x f1.ih r1
    exact ⟨a, dx, fs, ev, ha, hl, cj I1 H1 σ Q [v] (x, ()) f1.ih ⟨v, [], rfl, r1, rfl⟩ (PostE.up p f1)⟩
  | err e => exact p
  | stuck => exact p
/-- what a field is worth -/
def FldOf (K : PySem.W.Frag) (C : Addr) (r : Ra α) (f : Str) (get : α → β) (rf : Ra β) : Prop := ∀ I H v x, Same I H → r I H v x → ∃ a dx fs w, v = .ref a ∧ H a = some (.ins C dx fs) ∧ fs.lookup f = some w ∧ rf I H w (get x)
theorem JE.fld {C : Addr} {f : Str} {get : α → β} (j : JE X I0 H0 W ctx mem o ma ra) (hf : FldOf X.K C ra f get rb) (c : Cls X.K C) (hn : NoAttr X.K C f) (hb : attributeBase o f X.env (eval o X.env) = eval o X.env := by rfl) :
    JE X I0 H0 W ctx mem (.Attribute o f pos) (ma.bind fun x => .ok (get x)) rb := fun I H σ Q st p => by
  refine w_fld (j I H σ _ st ?_) hb
  cases ma with
  | ok x =>
    intro I1 H1 v f1 r1
    obtain ⟨a, dx, fs, w, ev, ha, hl, hw⟩ := hf I1 H1 v x f1.ih r1
    exact ⟨a, C, dx, fs, w, ev, ha, c, hn, hl, p I1 H1 w f1 hw⟩
  | err e => exact p
  | stuck => exact p
end

/-! ### statements -/
section
variable {α β γ δ S : Type}
abbrev Knows := Hp → Hp → St → Prop
abbrev KnowsX := Hp → Hp → St → Option Addr → Prop
def PostB (X : Cx) (W : WX) (Kx : KnowsX) (I : Hp) (m : Res S) (G : S → Knows) (D : Ends) : Prop := match m with
  | .ok s => ∀ I' H' σ', Same I I' → G s I' H' σ' → D.nx σ' H'
  | .err e => ∀ I' H' σ' cls d, Kx I' H' σ' d → ExR X.K I' H' e cls d → W cls d σ' H'
  | .stuck => False
def PostR (X : Cx) (I0 H0 : Hp) (W : WX) (Kx : KnowsX) (m : Res γ) (r : Ra γ) (D : Ends) : Prop := match m with
  | .ok y => ∀ I' H' v, Fm I0 H0 I' H' → r I' H' v y → D.rt v H'
  | .err e => ∀ I' H' σ' cls d, Kx I' H' σ' d → ExR X.K I' H' e cls d → W cls d σ' H'
  | .stuck => False
theorem PostB.up {X : Cx} {W : WX} {Kx : KnowsX} {I I1 : Hp} {m : Res S} {G : S → Knows} {D : Ends} (p : PostB X W Kx I m G D) (s : Same I I1) : PostB X W Kx I1 m G D := by
  cases m with
  | ok a => exact fun I' H' σ' q => p I' H' σ' (s.trans q)
  | err e => exact p
  | stuck => exact p
/-- one statement that goes on -/
def J1 (X : Cx) (W : WX) (Kx : KnowsX) (G : Knows) (st : Stmt) (m : Res S) (G' : S → Knows) : Prop := ∀ (I H : Hp) (σ : St) (D : Ends), G I H σ → PostB X W Kx I m G' D → wS X st D σ H
/-- a block that goes on -/
def JN (X : Cx) (W : WX) (Kx : KnowsX) (G : Knows) (ss : List Stmt) (m : Res S) (G' : S → Knows) : Prop := ∀ (I H : Hp) (σ : St) (D : Ends), G I H σ → PostB X W Kx I m G' D → wB X ss D σ H
/-- a block that ends the def -/
def JR (X : Cx) (I0 H0 : Hp) (W : WX) (Kx : KnowsX) (G : Knows) (ss : List Stmt) (m : Res γ) (r : Ra γ) : Prop := ∀ (I H : Hp) (σ : St) (D : Ends), G I H σ → PostR X I0 H0 W Kx m r D → wB X ss D σ H
variable {X : Cx} {I0 H0 : Hp} {W : WX} {Kx : KnowsX} {G : Knows} {ctx : List (Option SF)} {mem : List MF} {e a b c o : Expr} {es bs : List Expr} {st : Stmt} {ss s1 s2 : List Stmt} {pos pos' : Pos} {n : Str} {ra : Ra α} {rr : Ra γ} {ma : Res α} {mc : Res Bool}
theorem JN.nil {s : S} {G' : S → Knows} (h : ∀ I H σ, G I H σ → G' s I H σ) : JN X W Kx G [] (.ok s) G' := fun I H σ D g p => b_nil (p I H σ (Same.refl _) (h _ _ _ g))
theorem JN.seq {T : Type} {m : Res S} {G1 : S → Knows} {f : S → Res T} {G2 : T → Knows} (j : J1 X W Kx G st m G1) (k : ∀ s, JN X W Kx (G1 s) ss (f s) G2) : JN X W Kx G (st :: ss) (m.bind f) G2 := fun I H σ D g p => by
  refine b_cons (j I H σ _ g ?_)
  cases m with
  | ok s => exact fun I' H' σ' si g' => k s I' H' σ' D g' (PostB.up p si)
  | err e => exact p
  | stuck => exact p
theorem JN.last {m : Res S} {G1 : S → Knows} (j : J1 X W Kx G st m G1) : JN X W Kx G [st] m G1 := fun I H σ D g p => by
  refine b_cons (j I H σ _ g ?_)
  cases m with
  | ok s => exact fun I' H' σ' si g' => b_nil (p I' H' σ' si g')
  | err e => exact p
  | stuck => exact p
theorem JR.seq {m : Res S} {G1 : S → Knows} {f : S → Res γ} (j : J1 X W Kx G st m G1) (k : ∀ s, JR X I0 H0 W Kx (G1 s) ss (f s) rr) : JR X I0 H0 W Kx G (st :: ss) (m.bind f) rr := fun I H σ D g p => by
  refine b_cons (j I H σ _ g ?_)
  cases m with
  | ok s => exact fun I' H' σ' _ g' => k s I' H' σ' D g' p
  | err e => exact p
  | stuck => exact p
theorem JR.ret {m : Res γ} (j : JE X I0 H0 W ctx mem e m rr) (hx : ∀ I H σ d, Stt I0 H0 ctx mem I H σ → Fr H0 d → Kx I H σ d) : JR X I0 H0 W Kx (Stt I0 H0 ctx mem) (.Return (some e) pos :: ss) m rr := fun I H σ D g p => by
  refine b_cons (s_ret (j I H σ _ g ?_))
  cases m with
  | ok y => exact fun I' H' v f r => p I' H' v (g.fm.trans f) r
  | err e => exact fun I' H' c d f x => p I' H' σ c d (hx _ _ _ _ (g.step f) (x.1.back g.fm.h)) x.2
  | stuck => exact p
theorem JR.retN : JR X I0 H0 W Kx (Stt I0 H0 ctx mem) (.Return none pos :: ss) (.ok ()) (rp rNon) := fun I H σ D g p => b_cons (s_retN (p I H _ g.fm rfl))
theorem JR.ifR {m1 m2 : Res γ} (j : JT X I0 H0 W ctx mem c mc) (k1 : JR X I0 H0 W Kx (Stt I0 H0 ctx mem) s1 m1 rr) (k2 : JR X I0 H0 W Kx (Stt I0 H0 ctx mem) ss m2 rr) (hx : ∀ I H σ d, Stt I0 H0 ctx mem I H σ → Fr H0 d → Kx I H σ d) :
    JR X I0 H0 W Kx (Stt I0 H0 ctx mem) (.If c s1 [] pos :: ss) (mc.bind fun x => if x = true then m1 else m2) rr := fun I H σ D g p => by
  refine b_cons (s_if (j I H σ _ g ?_))
  cases mc with
  | ok x =>
    intro I1 H1 v f r y hy
    cases r; cases hy
    cases x with
    | true =>
      refine iteT (b_mono (k1 I1 H1 σ { D with nx := fun _ _ => False } (g.step f) ?_) (fun _ _ z => z.elim) (fun _ _ z => z) (fun _ _ z => z) (fun _ _ z => z))
      exact p
    | false => exact iteF (b_nil (k2 I1 H1 σ D (g.step f) p))
  | err e => exact fun I' H' c d f x => p I' H' σ c d (hx _ _ _ _ (g.step f) (x.1.back g.fm.h)) x.2
  | stuck => exact p
theorem JR.if2 {m1 m2 : Res γ} (j : JT X I0 H0 W ctx mem c mc) (k1 : JR X I0 H0 W Kx (Stt I0 H0 ctx mem) s1 m1 rr) (k2 : JR X I0 H0 W Kx (Stt I0 H0 ctx mem) s2 m2 rr) (hx : ∀ I H σ d, Stt I0 H0 ctx mem I H σ → Fr H0 d → Kx I H σ d) :
    JR X I0 H0 W Kx (Stt I0 H0 ctx mem) (.If c s1 s2 pos :: ss) (mc.bind fun x => if x = true then m1 else m2) rr := fun I H σ D g p => by
  refine b_cons (s_if (j I H σ _ g ?_))
  cases mc with
  | ok x =>
    intro I1 H1 v f r y hy
    cases r; cases hy
    cases x with
    | true => exact iteT (b_mono (k1 I1 H1 σ { D with nx := fun _ _ => False } (g.step f) p) (fun _ _ z => z.elim) (fun _ _ z => z) (fun _ _ z => z) (fun _ _ z => z))
    | false => exact iteF (b_mono (k2 I1 H1 σ { D with nx := fun _ _ => False } (g.step f) p) (fun _ _ z => z.elim) (fun _ _ z => z) (fun _ _ z => z) (fun _ _ z => z))
  | err e => exact fun I' H' c d f x => p I' H' σ c d (hx _ _ _ _ (g.step f) (x.1.back g.fm.h)) x.2
  | stuck => exact p
theorem J1.if {m1 m2 : Res S} {G' : S → Knows} (j : JT X I0 H0 W ctx mem c mc) (k1 : JN X W Kx (Stt I0 H0 ctx mem) s1 m1 G') (k2 : JN X W Kx (Stt I0 H0 ctx mem) s2 m2 G') (hx : ∀ I H σ d, Stt I0 H0 ctx mem I H σ → Fr H0 d → Kx I H σ d) :
    J1 X W Kx (Stt I0 H0 ctx mem) (.If c s1 s2 pos) (mc.bind fun x => if x = true then m1 else m2) G' := fun I H σ D g p => by
  refine s_if (j I H σ _ g ?_)
  cases mc with
  | ok x =>
    intro I1 H1 v f r y hy
    cases r; cases hy
    cases x with
    | true => exact iteT (k1 I1 H1 σ D (g.step f) (PostB.up p f.i))
    | false => exact iteF (k2 I1 H1 σ D (g.step f) (PostB.up p f.i))
  | err e => exact fun I' H' c d f x => p I' H' σ c d (hx _ _ _ _ (g.step f) (x.1.back g.fm.h)) x.2
  | stuck => exact p
theorem J1.set (i : Nat) {r : Rp α} [Mo r] {m : Res α} (j : JE X I0 H0 W ctx mem e m (rp r)) (hx : ∀ I H σ d, Stt I0 H0 ctx mem I H σ → Fr H0 d → Kx I H σ d) (hN : X.N.Nodup) (hi : X.N[i]? = some n := by rfl) (hl : Loc X.env.scope n := by first | exact Or.inl rfl | exact Or.inr rfl) (hs : swapsWith e (some (.Name n pos')) pos.line X.env = pure false := by rfl)
    (hf : X.fn n = true ∨ X.env.scope.names.lookup n = some .local := by first | exact .inl rfl | exact .inr rfl | assumption) : J1 X W Kx (Stt I0 H0 ctx mem) (.Assign [.Name n pos'] e pos) m (fun x => Stt I0 H0 (ctx.set i (some ⟨r, x⟩)) mem) := fun I H σ D g p => by
  refine s_set i (j I H σ _ g ?_) hN hi hl hs hf
  cases m with
  | ok x => exact fun I' H' v f h => p I' H' _ f.i ((g.step f).set i h)
  | err e => exact fun I' H' c d f x => p I' H' σ c d (hx _ _ _ _ (g.step f) (x.1.back g.fm.h)) x.2
  | stuck => exact p
theorem J1.expr {m : Res α} (j : JE X I0 H0 W ctx mem e m ra) (hx : ∀ I H σ d, Stt I0 H0 ctx mem I H σ → Fr H0 d → Kx I H σ d) (hs : swapsWith e none pos.line X.env = pure false := by rfl) : J1 X W Kx (Stt I0 H0 ctx mem) (.Expr e pos) m (fun _ => Stt I0 H0 ctx mem) := fun I H σ D g p => by
  refine s_expr (j I H σ _ g ?_) hs
  cases m with
  | ok x => exact fun I' H' v f h => p I' H' σ f.i (g.step f)
  | err e => exact fun I' H' c d f x => p I' H' σ c d (hx _ _ _ _ (g.step f) (x.1.back g.fm.h)) x.2
  | stuck => exact p
/-- a block that ends by itself: the def hands back None -/
theorem JR.end {m : Res S} {G' : S → Knows} {f : S → Res γ} (j : JN X W Kx G ss m G') : True := trivial
end
end L2.Tr

namespace L2.Tr
open PySem PySem.Spec PyProof.Rows
section
variable {α β γ δ S : Type} {X : Cx} {W : WX}
/-! ### ints -/
def mulI (x y : Int) : Res Int := Res.guard (x.natAbs.log2 + y.natAbs.log2 < 1000000) (.ok (x * y))
def modI (x y : Int) : Res Int := Res.guard (y ≠ 0) (.ok (x.fmod y))
def fdivI (x y : Int) : Res Int := Res.guard (y ≠ 0 ∧ y.natAbs.log2 < 9000) (.ok (x.fdiv y))
def powI (x y : Int) : Res Int := Res.guard (0 ≤ y ∧ y ≤ 1000000 ∧ x.natAbs < 2 ^ 64) (.ok (x ^ y.toNat))
theorem post_guard {p : Prop} [Decidable p] {m : Res α} {K : PySem.W.Frag} {r : Ra α} {I H : Hp} {E : XK} {Q : VK} (h : PostE K (Res.guard p m) r I H E Q) : p ∧ PostE K m r I H E Q := by
  unfold Res.guard at h
  by_cases q : p
  · rw [if_pos q] at h; exact ⟨q, h⟩
  · rw [if_neg q] at h; exact False.elim h
theorem op_fdivV : OpR X (binaryOp .FloorDiv) (rI (fun _ j => j ≠ 0 ∧ j.natAbs.log2 < 9000) fun i j => .int (i.fdiv j)) := opI fun i j _ _ _ _ _ hc q => floordiv_int hc.1 q (.inl (PyProof.noPylong_of_log2 hc.2))
theorem opj_add : OpJ X W (binaryOp .Add) (rp rInt) (rp rInt) (fun x y => .ok (x + y)) (rp rInt) := fun I H σ Q u v x y s a b p => OpR.w op_add ⟨x, y, a, b, p I H _ (Fm.refl s) rfl⟩
theorem opj_sub : OpJ X W (binaryOp .Sub) (rp rInt) (rp rInt) (fun x y => .ok (x - y)) (rp rInt) := fun I H σ Q u v x y s a b p => OpR.w op_sub ⟨x, y, a, b, p I H _ (Fm.refl s) rfl⟩
theorem opj_mul : OpJ X W (binaryOp .Mult) (rp rInt) (rp rInt) (fun x y => mulI x y) (rp rInt) := fun I H σ Q u v x y s a b p => OpR.w op_mulW ⟨x, y, a, b, (post_guard p).1, (post_guard p).2 I H _ (Fm.refl s) rfl⟩
theorem opj_mod : OpJ X W (binaryOp .Mod) (rp rInt) (rp rInt) (fun x y => modI x y) (rp rInt) := fun I H σ Q u v x y s a b p => OpR.w op_modN ⟨x, y, a, b, (post_guard p).1, (post_guard p).2 I H _ (Fm.refl s) rfl⟩
theorem opj_fdiv : OpJ X W (binaryOp .FloorDiv) (rp rInt) (rp rInt) (fun x y => fdivI x y) (rp rInt) := fun I H σ Q u v x y s a b p => OpR.w op_fdivV ⟨x, y, a, b, (post_guard p).1, (post_guard p).2 I H _ (Fm.refl s) rfl⟩
theorem opj_pow : OpJ X W (binaryOp .Pow) (rp rInt) (rp rInt) (fun x y => powI x y) (rp rInt) := fun I H σ Q u v x y s a b p => OpR.w op_pow ⟨x, y, a, b, (post_guard p).1, (post_guard p).2 I H _ (Fm.refl s) rfl⟩
theorem opj_lt : OpJ X W (compareOp .Lt) (rp rInt) (rp rInt) (fun x y => .ok (decide (x < y))) (rp rBl) := fun I H σ Q u v x y s a b p => OpR.w op_lt ⟨x, y, a, b, p I H _ (Fm.refl s) rfl⟩
theorem opj_le : OpJ X W (compareOp .LtE) (rp rInt) (rp rInt) (fun x y => .ok (decide (x ≤ y))) (rp rBl) := fun I H σ Q u v x y s a b p => OpR.w op_le ⟨x, y, a, b, p I H _ (Fm.refl s) rfl⟩
theorem opj_gt : OpJ X W (compareOp .Gt) (rp rInt) (rp rInt) (fun x y => .ok (decide (y < x))) (rp rBl) := fun I H σ Q u v x y s a b p => OpR.w op_gt ⟨x, y, a, b, p I H _ (Fm.refl s) rfl⟩
theorem opj_ge : OpJ X W (compareOp .GtE) (rp rInt) (rp rInt) (fun x y => .ok (decide (y ≤ x))) (rp rBl) := fun I H σ Q u v x y s a b p => OpR.w op_ge ⟨x, y, a, b, p I H _ (Fm.refl s) rfl⟩
theorem decV {a b : Int} : decide (V.int a = V.int b) = decide (a = b) := by by_cases h : a = b <;> simp [h]
theorem decB {a b : Bool} : decide (V.bl a = V.bl b) = decide (a = b) := by by_cases h : a = b <;> simp [h]
theorem decS {a b : Str} : decide (V.str a = V.str b) = decide (a = b) := by by_cases h : a = b <;> simp [h]
theorem opj_eq : OpJ X W (compareOp .Eq) (rp rInt) (rp rInt) (fun x y => .ok (decide (x = y))) (rp rBl) := fun I H σ Q u v x y s a b p => by
  cases a; cases b
  exact OpR.w op_eq ⟨rfl, p I H _ (Fm.refl s) (by rw [decV]; rfl)⟩
theorem opj_ne : OpJ X W (compareOp .NotEq) (rp rInt) (rp rInt) (fun x y => .ok (!decide (x = y))) (rp rBl) := fun I H σ Q u v x y s a b p => by
  cases a; cases b
  exact OpR.w op_ne ⟨rfl, p I H _ (Fm.refl s) (by rw [decV]; rfl)⟩
theorem opj_eqB : OpJ X W (compareOp .Eq) (rp rBl) (rp rBl) (fun x y => .ok (decide (x = y))) (rp rBl) := fun I H σ Q u v x y s a b p => by
  cases a; cases b
  exact OpR.w op_eq ⟨rfl, p I H _ (Fm.refl s) (by rw [decB]; rfl)⟩
theorem opj_neB : OpJ X W (compareOp .NotEq) (rp rBl) (rp rBl) (fun x y => .ok (!decide (x = y))) (rp rBl) := fun I H σ Q u v x y s a b p => by
  cases a; cases b
  exact OpR.w op_ne ⟨rfl, p I H _ (Fm.refl s) (by rw [decB]; rfl)⟩
theorem opj_eqS : OpJ X W (compareOp .Eq) (rp rStr) (rp rStr) (fun x y => .ok (decide (x = y))) (rp rBl) := fun I H σ Q u v x y s a b p => by
  cases a; cases b
  exact OpR.w op_eq ⟨rfl, p I H _ (Fm.refl s) (by rw [decS]; rfl)⟩
theorem opj_neS : OpJ X W (compareOp .NotEq) (rp rStr) (rp rStr) (fun x y => .ok (!decide (x = y))) (rp rBl) := fun I H σ Q u v x y s a b p => by
  cases a; cases b
  exact OpR.w op_ne ⟨rfl, p I H _ (Fm.refl s) (by rw [decS]; rfl)⟩
theorem unj_neg : UnJ X W (unaryOp .USub) (rp rInt) (fun x => .ok (-x)) (rp rInt) := fun I H σ Q u x s a p => UnR.w un_neg ⟨x, a, p I H _ (Fm.refl s) rfl⟩
abbrev R1 (r : Ra α) := aCons r aNil
abbrev R2' (r : Ra α) (r' : Ra β) := aCons r (aCons r' aNil)
theorem cj_abs : CallJ X W (.builtin "abs") (R1 (rp rInt)) (fun d => .ok (if d.1 < 0 then -d.1 else d.1)) (rp rInt) := fun I H σ Q vs x s a p => by
  obtain ⟨v, ws, rfl, h, rfl⟩ := a
  exact CallR.w call_abs ⟨x.1, by rw [show v = _ from h], p I H _ (Fm.refl s) rfl⟩
theorem cj_int : CallJ X W (.type "int") (R1 (rp rInt)) (fun d => .ok d.1) (rp rInt) := fun I H σ Q vs x s a p => by
  obtain ⟨v, ws, rfl, h, rfl⟩ := a
  exact CallR.w call_int1 (.inl ⟨x.1, by rw [show v = _ from h], p I H _ (Fm.refl s) rfl⟩)
theorem cj_intB : CallJ X W (.type "int") (R1 (rp rBl)) (fun d => .ok (if d.1 = true then 1 else 0)) (rp rInt) := fun I H σ Q vs x s a p => by
  obtain ⟨v, ws, rfl, h, rfl⟩ := a
  exact CallR.w call_int1 (.inr ⟨x.1, by rw [show v = _ from h], p I H _ (Fm.refl s) rfl⟩)
theorem cj_bool : CallJ X W (.type "bool") (R1 (rp rBl)) (fun d => .ok d.1) (rp rBl) := fun I H σ Q vs x s a p => by
  obtain ⟨v, ws, rfl, h, rfl⟩ := a
  exact CallR.w call_bool1 (.inr ⟨x.1, by rw [show v = _ from h], p I H _ (Fm.refl s) rfl⟩)
theorem cj_max (hc : X.calm = true) : CallJ X W (.builtin "max") (R2' (rp rInt) (rp rInt)) (fun d => .ok (if d.2.1 > d.1 then d.2.1 else d.1)) (rp rInt) := fun I H σ Q vs x s a p => by
  obtain ⟨v, ws, rfl, h, v', ws', rfl, h', rfl⟩ := a
  exact CallR.w (call_max2 hc) ⟨x.1, x.2.1, by rw [show v = _ from h, show v' = _ from h'], p I H _ (Fm.refl s) rfl⟩
theorem cj_min (hc : X.calm = true) : CallJ X W (.builtin "min") (R2' (rp rInt) (rp rInt)) (fun d => .ok (if d.2.1 < d.1 then d.2.1 else d.1)) (rp rInt) := fun I H σ Q vs x s a p => by
  obtain ⟨v, ws, rfl, h, v', ws', rfl, h', rfl⟩ := a
  exact CallR.w (call_min2 hc) ⟨x.1, x.2.1, by rw [show v = _ from h, show v' = _ from h'], p I H _ (Fm.refl s) rfl⟩
theorem cj_len {r : Ra α} : CallJ X W (.builtin "len") (R1 (rdL X.K r)) (fun d => .ok (d.1.length : Int)) (rp rInt) := fun I H σ Q vs x s a p => by
  obtain ⟨v, ws, rfl, ⟨l, vs, rfl, hl, pr⟩, rfl⟩ := a
  exact CallR.w call_len ⟨_, vs.length, rfl, .inl ⟨vs, hl, rfl⟩, by rw [Paired.length pr]; exact p I H _ (Fm.refl s) rfl⟩

/-! ### lists -/
/-- a frozen list, a parameter's list: readable -/
theorem rL_rd {r : Rp α} {K : PySem.W.Frag} {I H : Hp} {v : V} {xs : List α} (s : Same I H) (h : rL r I v xs) : rdL K (rp r) I H v xs := by
  obtain ⟨l, vs, rfl, e, p⟩ := h
  exact ⟨l, vs, rfl, SqL.of (s _ _ e), p⟩
/-- the index i of a list, any sign -/
def atM (xs : List α) (i : Int) : Res α := match atI xs i with
  | some x => .ok x
  | none => .stuck
theorem paired_get {F : α → β → Prop} : ∀ {xs : List α} {ys : List β} {i : Nat} {y : β}, Paired F xs ys → ys[i]? = some y → ∃ x, xs[i]? = some x ∧ F x y
  | _, _, _, _, .nil, e => by simp at e
  | _, _, 0, _, .cons r _, e => by simp at e; subst e; exact ⟨_, rfl, r⟩
  | _, _, i + 1, y, .cons _ t, e => by
    obtain ⟨u, h1, h2⟩ := paired_get (i := i) (y := y) t (by simpa using e)
    exact ⟨u, by simpa using h1, h2⟩
end
end L2.Tr

namespace L2.Tr
open PySem PySem.Spec PyProof.Rows
section
variable {α β γ δ S : Type} {X : Cx} {I0 H0 : Hp} {W : WX} {ctx : List (Option SF)} {mem : List MF} {e a b c o : Expr} {es bs : List Expr} {pos pos' : Pos} {n : Str} {ra : Ra α} {rb : Ra β} {rc : Ra γ} {ma : Res α} {mb : Res β}
/-! ### subscripts, displays -/
theorem atI_pair {F : α → β → Prop} {xs : List α} {ys : List β} {i : Int} {y : β} (p : Paired F xs ys) (h : atI ys i = some y) : ∃ x, atI xs i = some x ∧ F x y := by
  unfold atI at h ⊢
  rw [Paired.length p]
  cases e : ixN ys.length i with
  | none => rw [e] at h; cases h
  | some j => rw [e] at h; exact paired_get p h
theorem JE.ix {r : Ra α} {m : Res (List α)} {mi : Res Int} [MoA r] (ja : JE X I0 H0 W ctx mem a m (rdL X.K r)) (jb : JE X I0 H0 W ctx mem b mi (rp rInt)) (hs : PlainIx b := by exact fun _ _ => rfl) :
    JE X I0 H0 W ctx mem (.Subscript a b pos) (m.bind fun xs => mi.bind fun i => atM xs i) r := fun I H σ Q st p => by
  refine PE.w (pe_ix ix_list pe_W pe_W hs) (ja I H σ _ st ?_)
  cases m with
  | ok xs =>
    intro I1 H1 u f1 r1
    refine jb I1 H1 σ _ (st.step f1) ?_
    have p1 := PostE.up p f1
    cases mi with
    | ok i =>
      intro I2 H2 v f2 r2
      obtain ⟨l, vs, rfl, hl, pr⟩ := MoA.up (r := rdL X.K r) f2.i f2.h r1
      have p2 : PostE X.K (atM xs i) r I2 H2 _ Q := PostE.up p1 f2
      unfold atM at p2
      cases e : atI xs i with
      | none => rw [e] at p2; exact p2.elim
      | some x =>
        rw [e] at p2
        obtain ⟨w, ew, hw⟩ := atI_pair pr e
        exact ⟨l, vs, i, w, rfl, r2, hl, ew, p2 I2 H2 w (Fm.refl f2.ih) hw⟩
    | err e => exact p1
    | stuck => exact p1
  | err e => exact p
  | stuck => exact p
def lR (n : Nat) (r : Ra α) : Hp → Hp → List V → List α → Prop := fun I H vs xs => vs.length = n ∧ Paired (r I H) vs xs
theorem JA.nilL {r : Ra α} : JA X I0 H0 W ctx mem [] (.ok []) (lR 0 r) := fun I H σ Q st p => w_nil (p I H [] (Fm.refl st.same) ⟨rfl, .nil⟩)
theorem JA.consL {k : Nat} {r : Ra α} {m : Res (List α)} [MoA r] (j : JE X I0 H0 W ctx mem e ma r) (jk : JA X I0 H0 W ctx mem es m (lR k r)) (hs : starEach (e :: es) X.env = (false, eval e X.env) :: starEach es X.env := by rfl) :
    JA X I0 H0 W ctx mem (e :: es) (ma.bind fun x => m.bind fun y => .ok (x :: y)) (lR (k + 1) r) := fun I H σ Q st p => by
  refine Tr.w_cons (j I H σ _ st ?_) hs
  cases ma with
  | ok x =>
    intro I1 H1 v f1 r1
    refine jk I1 H1 σ _ (st.step f1) ?_
    cases m with
    | ok y => exact fun I2 H2 vs f2 r2 => p I2 H2 _ (f1.trans f2) ⟨by rw [List.length_cons, r2.1], .cons (MoA.up f2.i f2.h r1) r2.2⟩
    | err e => exact fun I2 H2 c d f2 x => p I2 H2 c d (f1.trans f2) ⟨x.1.back f1.h, x.2⟩
    | stuck => exact p
  | err e => exact p
  | stuck => exact p
/-- [..], frozen at once -/
theorem JE.lst {k : Nat} {r : Rp α} {m : Res (List α)} [mo : Mo r] (j : JA X I0 H0 W ctx mem es m (lR k (rp r))) (hk : k ≤ sizeLine := by decide) : JE X I0 H0 W ctx mem (.List es pos) m (rp (rL r)) := fun I H σ Q st p => by
  refine w_lst (j I H σ _ st ?_)
  cases m with
  | ok xs => exact fun I1 H1 vs f1 r1 => ⟨by rw [r1.1]; exact hk, fun q hq => p _ _ _ (f1.trans (Fm.new f1.ih hq)) ⟨q, vs, rfl, upd_same, Paired.mapP r1.2 fun _ _ z => mo.up (Fm.new (o := .lst vs) f1.ih hq).i z⟩⟩
  | err e => exact p
  | stuck => exact p
theorem JE.tup {k : Nat} {r : Rp α} {m : Res (List α)} {x1} [mo : Mo r] (j : JA X I0 H0 W ctx mem es m (lR k (rp r))) (hk : k ≤ sizeLine := by decide) : JE X I0 H0 W ctx mem (.Tuple es x1 pos) m (rp (rT r)) := fun I H σ Q st p => by
  refine w_tup (j I H σ _ st ?_)
  cases m with
  | ok xs => exact fun I1 H1 vs f1 r1 => ⟨by rw [r1.1]; exact hk, fun q hq => p _ _ _ (f1.trans (Fm.new f1.ih hq)) ⟨q, vs, rfl, upd_same, Paired.mapP r1.2 fun _ _ z => mo.up (Fm.new (o := .tup vs) f1.ih hq).i z⟩⟩
  | err e => exact p
  | stuck => exact p
/-- a frozen list as a readable one -/
theorem JE.rd {r : Rp α} {m : Res (List α)} (j : JE X I0 H0 W ctx mem e m (rp (rL r))) : JE X I0 H0 W ctx mem e m (rdL X.K (rp r)) := j.co fun _ _ _ _ s h => rL_rd s h
/-! ### lists of ints compared -/
theorem eqvAll_ints : ∀ xs ys : List Int, PyData.eqvAll (xs.map .int) (ys.map .int) = decide (xs = ys)
  | [], [] => rfl
  | [], _ :: _ => rfl
  | _ :: _, [] => rfl
  | x :: xs, y :: ys => by
    show (PyData.eqv (.int x) (.int y) && PyData.eqvAll (xs.map .int) (ys.map .int)) = _
    rw [eqvAll_ints xs ys]
    show ((x == y) && _) = _
    by_cases h : x = y <;> by_cases h' : xs = ys <;> simp [h, h']
theorem dpAll_ints {K : PySem.W.Frag} {I H : Hp} : ∀ {vs : List V} {xs : List Int}, Paired (rp rInt I H) vs xs → DpAll K H vs (xs.map .int)
  | _, _, .nil => .nil
  | _, _, .cons h t => .cons (by rw [show _ = V.int _ from h]; exact .int _) (dpAll_ints t)
theorem shaped_ints (xs : List Int) : SeqAt.shaped (.list (xs.map .int)) = true := by
  have h1 : ∀ xs : List Int, PyData.canLayAll0 (xs.map .int) = true := fun xs => by
    induction xs with
    | nil => rfl
    | cons x xs ih => show (true && _) = true; rw [ih]; rfl
  have h2 : PyData.depth (.list (xs.map .int)) ≤ 64 := by
    have : ∀ xs : List Int, PyData.depthAll (xs.map .int) ≤ 1 := fun xs => by
      induction xs with
      | nil => exact Nat.zero_le _
      | cons x xs ih =>
        show max _ _ ≤ 1
        exact Nat.max_le.mpr ⟨by first | exact Nat.le_refl _ | exact Nat.zero_le _ | (simp [PyData.depth]), ih⟩
    have := this xs
    first | (show _ + 1 ≤ 64; omega) | (simp [PyData.depth]; omega)
  unfold SeqAt.shaped
  rw [decide_eq_true h2]
  show (PyData.canLayAll0 _ && true) = true
  rw [h1]; rfl
end
end L2.Tr

namespace L2.Tr
open PySem PySem.Spec PyProof.Rows
section
variable {α β γ δ S : Type} {X : Cx} {I0 H0 : Hp} {W : WX} {ctx : List (Option SF)} {mem : List MF} {e a b c o : Expr} {es bs : List Expr} {pos pos' : Pos} {n : Str} {ra : Ra α} {rb : Ra β} {rc : Ra γ} {ma : Res α} {mb : Res β}
theorem opj_eqL (hu : X.A.units + 64 < cLine) : OpJ X W (compareOp .Eq) (rdL X.K (rp rInt)) (rdL X.K (rp rInt)) (fun x y => .ok (decide (x = y))) (rp rBl) := fun I H σ Q u v x y s ⟨l, vs, e1, h1, p1⟩ ⟨l', vs', e2, h2, p2⟩ p => by
  subst e1; subst e2
  exact OpR.w (op_eqD hu) ⟨.list (x.map .int), .list (y.map .int), .lst h1 (dpAll_ints p1), .lst h2 (dpAll_ints p2), shaped_ints _, shaped_ints _, p I H _ (Fm.refl s) (by show V.bl (PyData.eqvAll _ _) = _; rw [eqvAll_ints])⟩
theorem opj_neL (hu : X.A.units + 64 < cLine) : OpJ X W (compareOp .NotEq) (rdL X.K (rp rInt)) (rdL X.K (rp rInt)) (fun x y => .ok (!decide (x = y))) (rp rBl) := fun I H σ Q u v x y s ⟨l, vs, e1, h1, p1⟩ ⟨l', vs', e2, h2, p2⟩ p => by
  subst e1; subst e2
  exact OpR.w (op_neD hu) ⟨.list (x.map .int), .list (y.map .int), .lst h1 (dpAll_ints p1), .lst h2 (dpAll_ints p2), shaped_ints _, shaped_ints _, p I H _ (Fm.refl s) (by show V.bl (!PyData.eqvAll _ _) = _; rw [eqvAll_ints])⟩

/-! ### own operators -/
/-- facts of an own class for its operators and isinstance -/
structure OCls (K : PySem.W.Frag) (C : Addr) : Prop where
  cl : Cls K C
  sf : PySem.W.selfFirst K C = true
  ca : PySem.W.findIn K (.ref C) "__class__" = some (some (.builtin "object.__class__"))
  cn : PySem.W.specialIn K (.builtin "object.__class__") "__get__" = some (some (.builtin "getset_descriptor.__get__"))
  ct : PySem.W.takesIn K (.builtin "object.__class__") = some true
  cm : PySem.W.mroIn K C (.type "object") = some true
  ni : PySem.W.subIn K (.ref C) (.type "int") = some false
  in_ : PySem.W.subIn K (.type "int") (.ref C) = some false
  ne : PySem.W.findIn K (.ref C) "__ne__" = some (some (.builtin "object.__ne__"))
structure OMet (K : PySem.W.Frag) (C : Addr) (m : Str) (f : Addr) : Prop where
  at_ : PySem.W.findIn K (.ref C) m = some (some (.ref f))
  fn : PySem.W.isFn K (.ref f) = true
def InsR (C : Addr) (r : Ra α) : Prop := ∀ I H v x, Same I H → r I H v x → ∃ a dx fs, v = .ref a ∧ H a = some (.ins C dx fs)
theorem insAt {pins : List (Addr × Obj)} {σ : St} {H : Hp} {s : Shared} {x C dx : Addr} {fs : List (Str × V)} (I : Inv X pins σ H s) (h : H x = some (.ins C dx fs)) : ∃ od, PySem.W.InstAt s.heap x (PySem.W.instObj C dx) C (some od) := by
  obtain ⟨mA, O, _⟩ := ins_get I.hok h
  obtain ⟨od, J, _⟩ := O.look
  exact ⟨od, J⟩
theorem cmpback' {v : V} {u : Value} {s : Shared} {Q : Value → Shared → Prop} (r : RelV v u) (h : Q u s) : PySem.W.CmpBack Q u s := by
  cases v with
  | non => cases (show u = Value.none from r); exact h
  | bl b => cases (show u = Value.bool b from r); exact h
  | int i => obtain ⟨t, e⟩ := (show ∃ t, u = Value.int i t from r); cases e; exact h
  | str x => obtain ⟨t, e⟩ := (show ∃ t, u = Value.str x t from r); cases e; exact h
  | byt b => obtain ⟨t, e⟩ := (show ∃ t, u = Value.bytes b t from r); cases e; exact h
  | flt b => obtain ⟨t, e⟩ := (show ∃ t, u = Value.float b t from r); cases e; exact h
  | ref a => cases (show u = Value.ref a from r); exact h
  | ty n => cases (show u = Value.type n from r); exact h
theorem back_W {f : Addr} {σ : St} {vs : List V} {H : Hp} {Q : VK} (h : callW X (.ref f) σ vs H Q) {pins : List (Addr × Obj)} {s : Shared} {us : List Value} (I : Inv X pins σ H s) (r : Vals vs us) :
    wpAny (model X.prog X.w) X.A (call (.ref f) us) (PySem.W.CmpBack (EP X pins σ Q)) X.xe s := thn (h pins s us I r) fun u s' ⟨v, H', I', rv, q⟩ => cmpback' rv ⟨v, H', I', rv, q⟩
/-- x op y, both of the class -/
theorem opj_own {op : Operator} {C f : Addr} {g : α × β × Unit → Res γ} (hc : OCls X.K C) (hm : OMet X.K C (PySem.dunder op.info.2) f) (ia : InsR C ra) (ib : InsR C rb) (cj : CallJ X W (.ref f) (R2' ra rb) g rc) :
    OpJ X W (binaryOp op) ra rb (fun x y => g (x, y, ())) rc := fun I H σ Q u v x y s a b p pins sh uu vv Iv ru rv => by
  obtain ⟨au, dx, fs, rfl, hu⟩ := ia I H u x s a
  obtain ⟨av, dy, gs, rfl, hv⟩ := ib I H v y s b
  cases (show uu = Value.ref au from ru)
  cases (show vv = Value.ref av from rv)
  obtain ⟨od, J⟩ := insAt Iv hu
  obtain ⟨od', J'⟩ := insAt Iv hv
  obtain ⟨m, hF⟩ := Iv.fr
  exact PySem.W.binop_K hF Iv.ok.mod.kin J J'.type hc.sf hm.at_ hm.fn (back_W (cj I H σ Q [.ref au, .ref av] (x, y, ()) s ⟨_, _, rfl, a, _, _, rfl, b, rfl⟩ p) Iv (.cons rfl (.cons rfl .nil)))
/-- x op n, n an int -/
theorem opj_ownI {op : Operator} {C f f' : Addr} {g : α × Int × Unit → Res γ} {fo ro : Option Value} (hc : OCls X.K C) (hm : OMet X.K C (PySem.dunder op.info.2) f) (hr : OMet X.K C (dunderR op.info.2) f') (h1 : PySem.W.findIn X.K (.type "int") (PySem.dunder op.info.2) = some fo) (h2 : PySem.W.findIn X.K (.type "int") (dunderR op.info.2) = some ro)
    (ia : InsR C ra) (cj : CallJ X W (.ref f) (R2' ra (rp rInt)) g rc) : OpJ X W (binaryOp op) ra (rp rInt) (fun x y => g (x, y, ())) rc := fun I H σ Q u v x y s a b p pins sh uu vv Iv ru rv => by
  obtain ⟨au, dx, fs, rfl, hu⟩ := ia I H u x s a
  cases (show uu = Value.ref au from ru)
  cases (show v = V.int y from b)
  obtain ⟨t, e⟩ := (show ∃ t, vv = Value.int y t from rv)
  cases e
  obtain ⟨od, J⟩ := insAt Iv hu
  obtain ⟨m, hF⟩ := Iv.fr
  exact PySem.W.ksp_binT (T := "int") hF Iv.ok.mod.kin J rfl hc.sf hm.at_ hm.fn hr.at_ (.inr ⟨_, rfl⟩) h1 h2 hc.in_ (back_W (cj I H σ Q [.ref au, .int y] (x, y, ()) s ⟨_, _, rfl, a, _, _, rfl, rfl, rfl⟩ p) Iv (.cons rfl (.cons ⟨_, rfl⟩ .nil)))
/-- n op x, n an int: the reflected method -/
theorem opj_ownR {op : Operator} {C f f' : Addr} {g : α × Int × Unit → Res γ} {sl id : String} {gi : Int → Int → Sem Fin} (hc : OCls X.K C) (hm : OMet X.K C (PySem.dunder op.info.2) f) (hr : OMet X.K C (dunderR op.info.2) f')
    (fills : fillsNumberSlot (.type "int") op.info.2 = pure true) (slot : Slot "int" (PySem.dunder op.info.2) id) (entry : entryFor table id = some (Builtin.Int.intBinary sl gi)) (args : ∀ a b, argsOk id ⟨[a, b], []⟩)
    (ia : InsR C ra) (cj : CallJ X W (.ref f') (R2' ra (rp rInt)) g rc) : OpJ X W (binaryOp op) (rp rInt) ra (fun x y => g (y, x, ())) rc := fun I H σ Q u v x y s a b p pins sh uu vv Iv ru rv => by
  obtain ⟨av, dx, fs, rfl, hv⟩ := ia I H v y s b
  cases (show vv = Value.ref av from rv)
  cases (show u = V.int x from a)
  obtain ⟨t, e⟩ := (show ∃ t, uu = Value.int x t from ru)
  cases e
  obtain ⟨od, J⟩ := insAt Iv hv
  exact PySem.W.tr_binR (fo := .none) Iv.kIn J hc.sf hm.at_ hr.at_ hr.fn fills hc.ni slot entry args (back_W (cj I H σ Q [.ref av, .int x] (y, x, ()) s ⟨_, _, rfl, b, _, _, rfl, rfl, rfl⟩ p) Iv (.cons rfl (.cons ⟨_, rfl⟩ .nil)))
theorem opj_addR {C f f' : Addr} {g : α × Int × Unit → Res γ} (hc : OCls X.K C) (hm : OMet X.K C "__add__" f) (hr : OMet X.K C "__radd__" f') (ia : InsR C ra) (cj : CallJ X W (.ref f') (R2' ra (rp rInt)) g rc) : OpJ X W (binaryOp .Add) (rp rInt) ra (fun x y => g (y, x, ())) rc :=
  opj_ownR (op := .Add) (sl := "__add__") hc hm hr F.fills_int_add F.slot_int_add F.entry_int_add F.args_int_add_2 ia cj
theorem opj_subR {C f f' : Addr} {g : α × Int × Unit → Res γ} (hc : OCls X.K C) (hm : OMet X.K C "__sub__" f) (hr : OMet X.K C "__rsub__" f') (ia : InsR C ra) (cj : CallJ X W (.ref f') (R2' ra (rp rInt)) g rc) : OpJ X W (binaryOp .Sub) (rp rInt) ra (fun x y => g (y, x, ())) rc :=
  opj_ownR (op := .Sub) (sl := "__sub__") hc hm hr F.fills_int_sub F.slot_int_sub F.entry_int_sub F.args_int_sub_2 ia cj
theorem opj_mulR {C f f' : Addr} {g : α × Int × Unit → Res γ} (hc : OCls X.K C) (hm : OMet X.K C "__mul__" f) (hr : OMet X.K C "__rmul__" f') (ia : InsR C ra) (cj : CallJ X W (.ref f') (R2' ra (rp rInt)) g rc) : OpJ X W (binaryOp .Mult) (rp rInt) ra (fun x y => g (y, x, ())) rc :=
  opj_ownR (op := .Mult) (sl := "__mul__") hc hm hr F.fills_int_mul F.slot_int_mul F.entry_int_mul F.args_int_mul_2 ia cj
/-! comparisons -/
theorem opj_cmp {op : CmpOp} {C f : Addr} {g : α × β × Unit → Res γ} (hop : ∀ a b, compareOp op a b = richCompare op a b) (hc : OCls X.K C) (hm : OMet X.K C (cmpInfo op).2.1 f) (hu : X.A.units < cLine) (hn : PySem.W.notFirst X.K C (.ref C) = true) (ia : InsR C ra) (ib : InsR C rb) (cj : CallJ X W (.ref f) (R2' ra rb) g rc) :
    OpJ X W (compareOp op) ra rb (fun x y => g (x, y, ())) rc := fun I H σ Q u v x y s a b p pins sh uu vv Iv ru rv => by
  obtain ⟨au, dx, fs, rfl, hu'⟩ := ia I H u x s a
  obtain ⟨av, dy, gs, rfl, hv⟩ := ib I H v y s b
  cases (show uu = Value.ref au from ru)
  cases (show vv = Value.ref av from rv)
  obtain ⟨od, J⟩ := insAt Iv hu'
  obtain ⟨od', J'⟩ := insAt Iv hv
  obtain ⟨m, hF⟩ := Iv.fr
  rw [hop]
  exact PySem.W.cmp_K hu hF Iv.ok.mod.kin J J'.type hn hm.at_ hm.fn (back_W (cj I H σ Q [.ref au, .ref av] (x, y, ()) s ⟨_, _, rfl, a, _, _, rfl, b, rfl⟩ p) Iv (.cons rfl (.cons rfl .nil)))
theorem opj_cmpI {op : CmpOp} {C f : Addr} {g : α × Int × Unit → Res γ} (hop : ∀ a b, compareOp op a b = richCompare op a b) (hc : OCls X.K C) (hm : OMet X.K C (cmpInfo op).2.1 f) (hu : X.A.units < cLine) (hn : PySem.W.notFirst X.K C (.type "int") = true) (ia : InsR C ra) (cj : CallJ X W (.ref f) (R2' ra (rp rInt)) g rc) :
    OpJ X W (compareOp op) ra (rp rInt) (fun x y => g (x, y, ())) rc := fun I H σ Q u v x y s a b p pins sh uu vv Iv ru rv => by
  obtain ⟨au, dx, fs, rfl, hu'⟩ := ia I H u x s a
  cases (show uu = Value.ref au from ru)
  cases (show v = V.int y from b)
  obtain ⟨t, e⟩ := (show ∃ t, vv = Value.int y t from rv)
  cases e
  obtain ⟨od, J⟩ := insAt Iv hu'
  obtain ⟨m, hF⟩ := Iv.fr
  rw [hop]
  exact PySem.W.cmp_K (tb := .type "int") hu hF Iv.ok.mod.kin J (PySem.W.Looks.of_pure rfl) hn hm.at_ hm.fn (back_W (cj I H σ Q [.ref au, .int y] (x, y, ()) s ⟨_, _, rfl, a, _, _, rfl, rfl, rfl⟩ p) Iv (.cons rfl (.cons ⟨_, rfl⟩ .nil)))
theorem opj_cmpR {op : CmpOp} {C f : Addr} {g : α × Int × Unit → Res γ} {sl id : String} {gi : Int → Int → Sem Fin} (hop : ∀ a b, compareOp op a b = richCompare op a b) (hc : OCls X.K C) (hr : OMet X.K C (cmpInfo op).2.2 f) (hu : X.A.units < cLine)
    (slot : Slot "int" (cmpInfo op).2.1 id) (entry : entryFor table id = some (Builtin.Int.intBinary sl gi)) (args : ∀ a b, argsOk id ⟨[a, b], []⟩) (ia : InsR C ra) (cj : CallJ X W (.ref f) (R2' ra (rp rInt)) g rc) :
    OpJ X W (compareOp op) (rp rInt) ra (fun x y => g (y, x, ())) rc := fun I H σ Q u v x y s a b p pins sh uu vv Iv ru rv => by
  obtain ⟨av, dx, fs, rfl, hv⟩ := ia I H v y s b
  cases (show vv = Value.ref av from rv)
  cases (show u = V.int x from a)
  obtain ⟨t, e⟩ := (show ∃ t, uu = Value.int x t from ru)
  cases e
  obtain ⟨od, J⟩ := insAt Iv hv
  rw [hop]
  exact PySem.W.tr_cmpR hu Iv.kIn J hr.at_ hr.fn hc.ni slot entry args (back_W (cj I H σ Q [.ref av, .int x] (y, x, ()) s ⟨_, _, rfl, b, _, _, rfl, rfl, rfl⟩ p) Iv (.cons rfl (.cons ⟨_, rfl⟩ .nil)))
/-- the callee at one level below -/
theorem run_W1 {k : Nat} {f : Addr} {sp : Sp} {vs : List V} {H : Hp} {σ : St} {Q : VK} (F : FnR X.prog X.w X.K X.mg X.base (L2.CX X.prog X.w) k f sp) (hr : Room (k + 1) X.A) (tk : Takes X W) (h : sp vs H Q fun cls d H' => W cls d σ H') {pins : List (Addr × Obj)} {s : Shared} {us : List Value} (I : Inv X pins σ H s) (r : Vals vs us) :
    wpAny (model X.prog X.w) X.A.in1 (call (.ref f) us) (EP X pins σ Q) X.xe s := by
  refine wpAny_call (codeAny_mono (F X.A.in1 X.stack s H us vs Q _ hr.in1 I.env0.in1 r h) fun r s' hq => ?_)
  cases r with
  | error e => exact passAt tk σ pins H s e s' I hq
  | ok fl =>
    cases fl with
    | ret u => exact I.after hq
    | next => exact False.elim hq
    | brk => exact False.elim hq
    | cont => exact False.elim hq
end
end L2.Tr

namespace L2.Tr
open PySem PySem.Spec PyProof.Rows
section
variable {α β γ δ S : Type} {X : Cx} {I0 H0 : Hp} {W : WX} {Kx : KnowsX} {G : Knows} {ctx : List (Option SF)} {mem : List MF} {e a b c o : Expr} {es bs : List Expr} {st : Stmt} {ss s1 s2 : List Stmt} {pos pos' : Pos} {n : Str} {ra : Ra α} {rb : Ra β} {rc : Ra γ} {ma : Res α} {mb : Res β}

/-! ### promises -/
def spF (K : PySem.W.Frag) (R : Hp → Hp → List V → δ → Prop) (m : δ → Res γ) (r : Ra γ) : Sp := fun vs H Q E => ∃ I d, Same I H ∧ R I H vs d ∧ PostE K (m d) r I H E Q
theorem cj_of {k : Nat} {f : Addr} {R : Hp → Hp → List V → δ → Prop} {m : δ → Res γ} (F : FnR X.prog X.w X.K X.mg X.base (L2.CX X.prog X.w) k f (spF X.K R m rc)) (hr : Room k X.A) (tk : Takes X W) : CallJ X W (.ref f) R m rc := fun I H σ Q vs d s h p => run_W F hr tk ⟨I, d, s, h, p⟩
/-- arguments by another reading -/
theorem CallJ.co {δ' : Type} {f : Value} {R : Hp → Hp → List V → δ → Prop} {R' : Hp → Hp → List V → δ' → Prop} {m : δ → Res γ} {h : δ' → δ} (cj : CallJ X W f R m rc) (c : ∀ I H vs x, Same I H → R' I H vs x → R I H vs (h x)) : CallJ X W f R' (fun x => m (h x)) rc := fun I H σ Q vs x s r p => cj I H σ Q vs (h x) s (c I H vs x s r) p

/-! ### x != y by an own __eq__ -/
theorem opj_neO {k : Nat} {C f : Addr} {g : α × β × Unit → Res Bool} (hc : OCls X.K C) (hm : OMet X.K C "__eq__" f) (hr : Room (k + 1) X.A) (tk : Takes X W) (hn : PySem.W.notFirst X.K C (.ref C) = true) (ia : InsR C ra) (ib : InsR C rb)
    (F : FnR X.prog X.w X.K X.mg X.base (L2.CX X.prog X.w) k f (spF X.K (R2' ra rb) g (rp rBl))) : OpJ X W (compareOp .NotEq) ra rb (fun x y => (g (x, y, ())).bind fun z => .ok (!z)) (rp rBl) := fun I H σ Q u v x y s a b p pins sh uu vv Iv ru rv => by
  obtain ⟨au, dx, fs, rfl, hu'⟩ := ia I H u x s a
  obtain ⟨av, dy, gs, rfl, hv⟩ := ib I H v y s b
  cases (show uu = Value.ref au from ru)
  cases (show vv = Value.ref av from rv)
  obtain ⟨od, J⟩ := insAt Iv hu'
  obtain ⟨od', J'⟩ := insAt Iv hv
  show wpAny _ _ (richCompare .NotEq _ _) _ _ _
  have hu1 : X.A.in1.units < cLine := by have := hr.un; show X.A.units + 1 < _; omega
  refine PySem.W.tr_ne hu1 hr.units0 Iv.kIn J J'.type hn hc.cm hc.ne hm.at_ hm.fn (thn (run_W1 (vs := [.ref au, .ref av]) (Q := fun z H' => ∃ k, z = .bl k ∧ Q (.bl (!k)) H') F hr tk ⟨I, (x, y, ()), s, ⟨_, _, rfl, a, _, _, rfl, b, rfl⟩, ?_⟩ Iv (.cons rfl (.cons rfl .nil))) fun w s' ⟨z, H', I', rz, k, ez, q⟩ => ?_)
  · show PostE _ (g (x, y, ())) _ _ _ _ _
    revert p
    show PostE _ ((g (x, y, ())).bind _) _ _ _ _ _ → _
    generalize g (x, y, ()) = z
    intro p
    cases z with
    | ok k => exact fun I' H' v f r => ⟨k, r, p I' H' _ f rfl⟩
    | err e => exact p
    | stuck => exact p
  · subst ez
    cases (show w = Value.bool k from rz)
    exact ⟨k, rfl, .bl (!k), H', I', rfl, q⟩
theorem opj_neI {k : Nat} {C f : Addr} {g : α × Int × Unit → Res Bool} (hc : OCls X.K C) (hm : OMet X.K C "__eq__" f) (hr : Room (k + 1) X.A) (tk : Takes X W) (hn : PySem.W.notFirst X.K C (.type "int") = true) (ia : InsR C ra)
    (F : FnR X.prog X.w X.K X.mg X.base (L2.CX X.prog X.w) k f (spF X.K (R2' ra (rp rInt)) g (rp rBl))) : OpJ X W (compareOp .NotEq) ra (rp rInt) (fun x y => (g (x, y, ())).bind fun z => .ok (!z)) (rp rBl) := fun I H σ Q u v x y s a b p pins sh uu vv Iv ru rv => by
  obtain ⟨au, dx, fs, rfl, hu'⟩ := ia I H u x s a
  cases (show uu = Value.ref au from ru)
  cases (show v = V.int y from b)
  obtain ⟨t, e⟩ := (show ∃ t, vv = Value.int y t from rv)
  cases e
  obtain ⟨od, J⟩ := insAt Iv hu'
  show wpAny _ _ (richCompare .NotEq _ _) _ _ _
  have hu1 : X.A.in1.units < cLine := by have := hr.un; show X.A.units + 1 < _; omega
  refine PySem.W.tr_ne (tb := .type "int") hu1 hr.units0 Iv.kIn J (PySem.W.Looks.of_pure rfl) hn hc.cm hc.ne hm.at_ hm.fn (thn (run_W1 (vs := [.ref au, .int y]) (Q := fun z H' => ∃ k, z = .bl k ∧ Q (.bl (!k)) H') F hr tk ⟨I, (x, y, ()), s, ⟨_, _, rfl, a, _, _, rfl, rfl, rfl⟩, ?_⟩ Iv (.cons rfl (.cons ⟨_, rfl⟩ .nil))) fun w s' ⟨z, H', I', rz, k, ez, q⟩ => ?_)
  · show PostE _ (g (x, y, ())) _ _ _ _ _
    revert p
    show PostE _ ((g (x, y, ())).bind _) _ _ _ _ _ → _
    generalize g (x, y, ()) = z
    intro p
    cases z with
    | ok k => exact fun I' H' v f r => ⟨k, r, p I' H' _ f rfl⟩
    | err e => exact p
    | stuck => exact p
  · subst ez
    cases (show w = Value.bool k from rz)
    exact ⟨k, rfl, .bl (!k), H', I', rfl, q⟩
theorem opj_neRI {k : Nat} {C f : Addr} {g : α × Int × Unit → Res Bool} (hc : OCls X.K C) (hm : OMet X.K C "__eq__" f) (hr : Room (k + 1) X.A) (tk : Takes X W) (ia : InsR C ra)
    (F : FnR X.prog X.w X.K X.mg X.base (L2.CX X.prog X.w) k f (spF X.K (R2' ra (rp rInt)) g (rp rBl))) : OpJ X W (compareOp .NotEq) (rp rInt) ra (fun x y => (g (y, x, ())).bind fun z => .ok (!z)) (rp rBl) := fun I H σ Q u v x y s a b p pins sh uu vv Iv ru rv => by
  obtain ⟨av, dx, fs, rfl, hv⟩ := ia I H v y s b
  cases (show vv = Value.ref av from rv)
  cases (show u = V.int x from a)
  obtain ⟨t, e⟩ := (show ∃ t, uu = Value.int x t from ru)
  cases e
  obtain ⟨od, J⟩ := insAt Iv hv
  show wpAny _ _ (richCompare .NotEq _ _) _ _ _
  have hu1 : X.A.in1.units < cLine := by have := hr.un; show X.A.units + 1 < _; omega
  refine PySem.W.tr_neR (sl := "") (id := "") (g := fun _ _ => pure default) hu1 hr.units0 Iv.kIn J hc.cm hc.ne hm.at_ hm.fn hc.ni (thn (run_W1 (vs := [.ref av, .int x]) (Q := fun z H' => ∃ k, z = .bl k ∧ Q (.bl (!k)) H') F hr tk ⟨I, (y, x, ()), s, ⟨_, _, rfl, b, _, _, rfl, rfl, rfl⟩, ?_⟩ Iv (.cons rfl (.cons ⟨_, rfl⟩ .nil))) fun w s' ⟨z, H', I', rz, k, ez, q⟩ => ?_)
  · show PostE _ (g (y, x, ())) _ _ _ _ _
    revert p
    show PostE _ ((g (y, x, ())).bind _) _ _ _ _ _ → _
    generalize g (y, x, ()) = z
    intro p
    cases z with
    | ok k => exact fun I' H' v f r => ⟨k, r, p I' H' _ f rfl⟩
    | err e => exact p
    | stuck => exact p
  · subst ez
    cases (show w = Value.bool k from rz)
    exact ⟨k, rfl, .bl (!k), H', I', rfl, q⟩
/-- -x -/
theorem unj_own {C f : Addr} {g : α × Unit → Res γ} (hm : OMet X.K C "__neg__" f) (ia : InsR C ra) (cj : CallJ X W (.ref f) (R1 ra) g rc) : UnJ X W (unaryOp .USub) ra (fun x => g (x, ())) rc := fun I H σ Q u x s a p pins sh uu Iv ru => by
  obtain ⟨au, dx, fs, rfl, hu'⟩ := ia I H u x s a
  cases (show uu = Value.ref au from ru)
  obtain ⟨od, J⟩ := insAt Iv hu'
  obtain ⟨m, hF⟩ := Iv.fr
  exact PySem.W.ksp_neg hF Iv.ok.mod.kin J hm.at_ hm.fn (cj I H σ Q [.ref au] (x, ()) s ⟨_, _, rfl, a, rfl⟩ p pins sh _ Iv (.cons rfl .nil))
/-- isinstance(x, T) -/
def TyR (K : PySem.W.Frag) (r : Ra α) (u : Value) (g : α → Bool) : Prop := ∀ I H v x, Same I H → r I H v x → ∃ t, TyX K H v t ∧ PySem.W.kitOne K t u = some (g x)
theorem JE.isi {u : Value} {cv : V} {g : α → Bool} [MoA ra] (j : JE X I0 H0 W ctx mem a ma ra) (jc : ∀ σ H Q, Q cv H → wE X b σ H Q) (hc : ClsV cv u) (ty : TyR X.K ra u g) (hm : X.mg "isinstance" = none) (hg : Gl X "isinstance" := by rfl)
    (hs : starEach [a, b] X.env = (false, eval a X.env) :: starEach [b] X.env := by rfl) (hs2 : starEach [b] X.env = (false, eval b X.env) :: starEach [] X.env := by rfl) (hpl : (backTo pos (starEach [b] X.env)).any (·.1) = false := by rfl) :
    JE X I0 H0 W ctx mem (.Call (.Name "isinstance" pos') [a, b] [] pos) (ma.bind fun x => .ok (g x)) (rp rBl) := fun I H σ Q st p => by
  refine w_callB (id := "isinstance") (Tr.w_cons (j I H σ _ st ?_) hs) hm (by decide +kernel) hg (by decide) (by decide) hs hpl
  cases ma with
  | ok x =>
    intro I1 H1 v f1 r1
    refine Tr.w_cons (jc σ H1 _ (w_nil ?_)) hs2
    obtain ⟨t, ty1, k⟩ := ty I1 H1 v x f1.ih r1
    exact CallR.w call_isi ⟨v, cv, t, u, g x, rfl, hc, ty1, k, p I1 H1 _ f1 rfl⟩
  | err e => exact p
  | stuck => exact p
/-- raise X('..'), an own class without __init__ over ValueError -/
structure ExcP (K : PySem.W.Frag) (mg : Str → Option Value) (x : Str) : Prop where
  ex : PySem.W.excIn K (He.ga K x) He.veBase "ValueError.__new__" = true
  kp : PySem.W.keepIn K (.ref (He.ga K x)) = true
  bs : PySem.W.subIn K (.ref (He.ga K x)) (.type "BaseException") = some true
  ty : PySem.W.typeIn K (.ref (He.ga K x)) = some (.type "type")
  gl : mg x = some (.ref (He.ga K x))
theorem JR.raiseP {x m : Str} {j : Nat} {p1 p2 p3 : Pos} (hc : X.calm = true) (tk : Takes X W) (ep : ExcP X.K X.mg x) (hx : ∀ I H σ d, Stt I0 H0 ctx mem I H σ → Fr H0 d → Kx I H σ d) (hg : Gl X x := by rfl) (hdb : (x == ("__debug__" : Str)) = false := by decide) :
    JR X I0 H0 W Kx (Stt I0 H0 ctx mem) (.Raise (some (.Call (.Name x p1) [.Constant (.str m) j p2] [] p3)) none pos :: ss) (.err ⟨x, []⟩ : Res γ) rc := fun I H σ D g p => by
  refine b_cons (s_raise hc tk (pmk_own PySem.F.excBase_ValueError ep.ex ep.gl ep.kp (raises_own ep.bs ep.ty) hg hdb) ?_)
  exact p I H σ _ none (hx _ _ _ _ g fun _ z => nomatch z) ⟨rfl, rfl⟩
/-! ### while -/
def whileM (c : S → Res Bool) (f : S → Res S) : Nat → S → Res S
  | 0, _ => .stuck
  | n + 1, s => (c s).bind fun b => if b = true then (f s).bind fun s' => whileM c f n s' else .ok s
theorem J1.while {fuel : Nat} {s0 : S} {cx : S → List (Option SF)} {me : S → List MF} {mc : S → Res Bool} {mf : S → Res S} (hp : PassesOwn (model X.prog X.w) X.A X.env X.xe) (jc : ∀ s, JT X I0 H0 W (cx s) (me s) c (mc s)) (jb : ∀ s, JN X W Kx (Stt I0 H0 (cx s) (me s)) ss (mf s) fun s' => Stt I0 H0 (cx s') (me s'))
    (hx : ∀ s I H σ d, Stt I0 H0 (cx s) (me s) I H σ → Fr H0 d → Kx I H σ d) : J1 X W Kx (Stt I0 H0 (cx s0) (me s0)) (.While c ss [] pos) (whileM mc mf fuel s0) (fun s => Stt I0 H0 (cx s) (me s)) := fun I H σ D g p => by
  refine PS.w (ps_while hp pt_W pss_W) ⟨fun k σ' H' => ∃ I' s, Stt I0 H0 (cx s) (me s) I' H' σ' ∧ PostB X W Kx I' (whileM mc mf k s) (fun s => Stt I0 H0 (cx s) (me s)) D, ⟨fuel, I, s0, g, p⟩, ?_⟩
  rintro k σ' H' ⟨I', s, g', p'⟩
  cases k with
  | zero => exact p'.elim
  | succ k =>
    refine jc s I' H' σ' _ g' ?_
    have p2 : PostB X W Kx I' ((mc s).bind fun b => if b = true then (mf s).bind fun s' => whileM mc mf k s' else .ok s) _ D := p'
    revert p2
    generalize mc s = z
    intro p2
    cases z with
    | ok x =>
      intro I1 H1 v f r y hy
      cases r; cases hy
      cases x with
      | true =>
        refine iteT ⟨fun σ2 H2 => ∃ I2 s', Stt I0 H0 (cx s') (me s') I2 H2 σ2 ∧ PostB X W Kx I2 (whileM mc mf k s') (fun s => Stt I0 H0 (cx s) (me s)) D, fun σ2 H2 h => ⟨k, Nat.lt_succ_self _, h⟩, ?_⟩
        refine jb s I1 H1 σ' _ (g'.step f) ?_
        have p3 : PostB X W Kx I1 ((mf s).bind fun s' => whileM mc mf k s') _ D := PostB.up p2 f.i
        revert p3
        generalize mf s = z
        intro p3
        cases z with
        | ok s' => exact fun I2 H2 σ2 si g2 => ⟨I2, s', g2, PostB.up p3 si⟩
        | err e => exact p3
        | stuck => exact p3
      | false => exact iteF (p2 I1 H1 σ' f.i (g'.step f))
    | err e => exact fun I' H' c d f x => p2 I' H' σ' c d (hx _ _ _ _ _ (g'.step f) (x.1.back g'.fm.h)) x.2
    | stuck => exact p2.elim
/-- a, b = e1, e2 -/
theorem J1.par (i j : Nat) {x y : Str} {r1 : Rp α} {r2 : Rp β} [Mo r1] [mo : Mo r2] {px py pt : Pos} {kt k2 pt2} (ja : JE X I0 H0 W ctx mem a ma (rp r1)) (jb : JE X I0 H0 W ctx mem b mb (rp r2)) (hx : ∀ I H σ d, Stt I0 H0 ctx mem I H σ → Fr H0 d → Kx I H σ d)
    (hN : X.N.Nodup) (hc : X.calm = true := by rfl) (hi : X.N[i]? = some x := by rfl) (hj : X.N[j]? = some y := by rfl) (hij : i ≠ j := by decide) (hlx : X.env.scope.names.lookup x = some .local := by rfl) (hly : X.env.scope.names.lookup y = some .local := by rfl)
    (hw : swappedStores [.Tuple [.Name x px, .Name y py] kt pt] (.Tuple [a, b] k2 pt2) X.env = pure (some [x, y]) := by rfl)
    (hs : swapsWithSole [.Tuple [.Name x px, .Name y py] kt pt] (.Tuple [a, b] k2 pt2) pos.line X.env = pure false := by rfl)
    (e1 : starEach [a, b] X.env = (false, eval a X.env) :: starEach [b] X.env := by rfl) (e2 : starEach [b] X.env = (false, eval b X.env) :: starEach [] X.env := by rfl) :
    J1 X W Kx (Stt I0 H0 ctx mem) (.Assign [.Tuple [.Name x px, .Name y py] kt pt] (.Tuple [a, b] k2 pt2) pos) (ma.bind fun u => mb.bind fun v => .ok (u, v)) (fun s => Stt I0 H0 ((ctx.set i (some ⟨r1, s.1⟩)).set j (some ⟨r2, s.2⟩)) mem) := fun I H σ D g p => by
  refine PS.w (ps_par hc hN hi hj hij hlx hly pa_W hw hs) (Tr.w_cons (ja I H σ _ g ?_) e1)
  cases ma with
  | ok u =>
    intro I1 H1 v1 f1 h1
    refine Tr.w_cons (jb I1 H1 σ _ (g.step f1) ?_) e2
    cases mb with
    | ok v => exact fun I2 H2 v2 f2 h2 => w_nil ⟨v1, v2, rfl, p I2 H2 _ (f1.i.trans f2.i) ((((g.step f1).step f2).set i (Mo.up f2.i h1)).set j h2)⟩
    | err e => exact fun I' H' c d f x => p I' H' σ c d (hx _ _ _ _ ((g.step f1).step f) (x.1.back (g.step f1).fm.h)) x.2
    | stuck => exact p.elim
  | err e => exact fun I' H' c d f x => p I' H' σ c d (hx _ _ _ _ (g.step f) (x.1.back g.fm.h)) x.2
  | stuck => exact p.elim
end
/-! ### defs -/
section
variable {γ δ : Type} {P : Program} {w : World} {K : PySem.W.Frag} {mg : Str → Option Value} {base : Heap} {x qual : Str} {params : Arguments} {body : List Stmt} {scope : Scope} {dvs : List V} {kws : List (Str × V)} {f : Addr} {fd : FuncData} {N ps : List Str} {k : Nat} {R : Hp → Hp → List V → δ → Prop} {m : δ → Res γ} {r : Ra γ}
abbrev bx (P : Program) (w : World) (K : PySem.W.Frag) (mg : Str → Option Value) (base : Heap) (N : List Str) (qual : Str) (scope : Scope) (f : Addr) (cdv : Value) (A : Around) (outer : List Env) (s : Shared) (H : Hp) (E : XK) : Cx := cxOf (L2.CX P w) P w K mg base N qual scope f cdv A outer s H E
abbrev bW (E : XK) : WX := fun cls d _ H => E cls d H
abbrev bK (I0 H0 : Hp) : KnowsX := fun I H _ d => Fm I0 H0 I H ∧ Fr H0 d
theorem FunD.fn (F : FunD K x qual params body scope dvs kws f fd) (S : FnScope N ps scope) (len : ∀ I H vs d, R I H vs d → vs.length = ps.length)
    (hb : ∀ (cdv : Value) (A : Around) (outer : List Env) (s : Shared) (I0 H0 : Hp) (E : XK) (vs : List V) (d : δ), Room k (A.deeper (envOfC qual scope s.heap.objs.size f cdv)) → Same I0 H0 → R I0 H0 vs d →
      ∃ G : Knows, G I0 H0 (start N vs) ∧ JR (bx P w K mg base N qual scope f cdv A outer s H0 E) I0 H0 (bW E) (bK I0 H0) G body (m d) r) : FnOk P w K mg base (L2.CX P w) (k + 1) f fd ps (spF K R m r) := by
  refine F.ok S (fun vs H Q E ⟨I, d, _, h, _⟩ => len I H vs d h) fun cdv A outer s H vs Q E hr ⟨I, d, sm, h, p⟩ => ⟨_, pss_W, ?_⟩
  obtain ⟨G, g, j⟩ := hb cdv A outer s I H E vs d hr sm h
  refine j I H _ _ g ?_
  revert p
  show PostE K (m d) r I H E Q → PostR _ _ _ _ _ (m d) _ _
  generalize m d = z
  intro p
  cases z with
  | ok y => exact p
  | err e => exact fun I' H' _ c d f x => p I' H' c d f.1 ⟨f.2, x⟩
  | stuck => exact p
end
end L2.Tr

namespace L2.Tr
open PySem PySem.Spec PyProof.Rows
section
variable {α β γ δ S : Type} {X : Cx} {I0 H0 : Hp} {W : WX} {Kx : KnowsX} {G : Knows} {ctx : List (Option SF)} {mem : List MF} {e a b c o : Expr} {es bs : List Expr} {st : Stmt} {ss s1 s2 : List Stmt} {pos pos' : Pos} {n : Str} {ra : Ra α} {rb : Ra β} {rc : Ra γ} {ma : Res α} {mb : Res β}
def rRef (x : Addr) : Rp Unit := fun _ v _ => v = .ref x
instance {x : Addr} : Mo (rRef x) := ⟨fun _ h => h⟩
def putG (f : Str) (s : SF) : List (Str × SF) → List (Str × SF)
  | [] => [(f, s)]
  | q :: gs => if q.1 = f then (f, s) :: gs else q :: putG f s gs
theorem FldR.put {I : Hp} {f : Str} {v : V} {s : SF} (h : s.r I v s.x) : ∀ {fs : List (Str × V)} {gs : List (Str × SF)}, FldR I fs gs → FldR I (putF f v fs) (putG f s gs)
  | [], [], _ => ⟨rfl, h, True.intro⟩
  | p :: fs, q :: gs, ⟨a, b, c⟩ => by
    show FldR I (if p.1 = f then _ else _) (if q.1 = f then _ else _)
    rw [← a]
    by_cases e : p.1 = f
    · rw [if_pos e, if_pos e]; exact ⟨e, h, c⟩
    · rw [if_neg e, if_neg e]; exact ⟨a, b, FldR.put h c⟩
  | [], _ :: _, h => h.elim
  | _ :: _, [], h => h.elim
theorem FldR.length {I : Hp} : ∀ {fs : List (Str × V)} {gs : List (Str × SF)}, FldR I fs gs → fs.length = gs.length
  | [], [], _ => rfl
  | _ :: _, _ :: _, ⟨_, _, c⟩ => congrArg Nat.succ (FldR.length c)
  | [], _ :: _, h => h.elim
  | _ :: _, [], h => h.elim
/-- the cell at the head of mem is changed -/
theorem Stt.cell {I0 H0 I H : Hp} {c c' : MF} {o : HO} {σ : St} (s : Stt I0 H0 ctx (c :: mem) I H σ) (hl : c'.l = c.l) (h : c'.P I o) : Stt I0 H0 ctx (c' :: mem) I (upd H c.l o) σ := by
  obtain ⟨z0, zI, oo, zH, zP⟩ := s.me c List.mem_cons_self
  refine ⟨⟨s.fm.i, fun b u e => ?_, fun b u e => ?_, s.fm.mu⟩, s.len, s.sl, fun d hd => ?_, by rw [List.map_cons, hl]; exact s.nd⟩
  · have : b ≠ c.l := fun q => by rw [q, z0] at e; cases e
    rw [upd_ne this]; exact s.fm.h _ _ e
  · have : b ≠ c.l := fun q => by rw [q, zI] at e; cases e
    rw [upd_ne this]; exact s.fm.ih _ _ e
  · rcases List.mem_cons.mp hd with rfl | hd
    · rw [hl]; exact ⟨z0, zI, o, upd_same, h⟩
    · obtain ⟨a, b, od, e, p⟩ := s.me d (List.mem_cons_of_mem _ hd)
      have nn := s.nd
      rw [List.map_cons, List.nodup_cons] at nn
      have : d.l ≠ c.l := fun q => nn.1 (q ▸ List.mem_map_of_mem hd)
      exact ⟨a, b, od, by rw [upd_ne this]; exact e, p⟩
/-- self.f = e within __init__ -/
theorem J1.sfld (i : Nat) {x C dx : Addr} {f sn : Str} {p1 : Pos} {gs : List (Str × SF)} {r : Rp α} [mo : Mo r] {m : Res α} (j : JE X I0 H0 W ctx (.ins x C dx gs :: mem) e m (rp r)) (cl : Cls X.K C) (hn : NoAttr X.K C f) (hg : gs.length < 1000) (hx : ∀ I H σ d, Stt I0 H0 ctx (.ins x C dx gs :: mem) I H σ → Fr H0 d → Kx I H σ d)
    (hc : ctx[i]? = some (some (SF.mk (rRef x) ())) := by rfl) (hN : X.N[i]? = some sn := by rfl) (hv : Vis X.env.scope sn := by first | exact Or.inl rfl | exact Or.inr (Or.inl rfl) | exact Or.inr (Or.inr rfl)) (hd : (sn == ("__debug__" : Str)) = false := by decide)
    (hcd : (sn == ("__classdict__" : Str)) = false := by decide) (hs : swapsWith e (some (.Attribute (.Name sn p1) f pos')) pos.line X.env = pure false := by rfl) :
    J1 X W Kx (Stt I0 H0 ctx (.ins x C dx gs :: mem)) (.Assign [.Attribute (.Name sn p1) f pos'] e pos) m (fun y => Stt I0 H0 ctx (.ins x C dx (putG f ⟨r, y⟩ gs) :: mem)) := fun I H σ D g p => by
  refine s_fld (j I H σ _ g ?_) hs
  cases m with
  | ok y =>
    intro I1 H1 v f1 h1
    have g1 := g.step f1
    obtain ⟨u, eu, hu⟩ := g1.sl i _ hc
    cases (show u = V.ref x from hu)
    obtain ⟨_, _, oo, zH, fs, eo, hf⟩ := g1.me _ List.mem_cons_self
    subst eo
    refine w_var i ⟨x, C, dx, fs, rfl, zH, cl, hn, ?_, ?_⟩ eu hN hv hd hcd
    · rw [hf.length]; exact hg
    · exact p I1 _ σ f1.i (g1.cell (c' := .ins x C dx (putG f ⟨r, y⟩ gs)) rfl ⟨_, rfl, hf.put h1⟩)
  | err e => exact fun I' H' c d f x => p I' H' σ c d (hx _ _ _ _ (g.step f) (x.1.back g.fm.h)) x.2
  | stuck => exact p
/-- the object at the head of mem is frozen -/
theorem Stt.freeze {I0 H0 I H : Hp} {c : MF} {σ : St} (s : Stt I0 H0 ctx (c :: mem) I H σ) : ∃ o, H c.l = some o ∧ c.P I o ∧ Stt I0 H0 ctx mem (upd I c.l o) H σ ∧ Same I (upd I c.l o) := by
  obtain ⟨z0, zI, oo, zH, zP⟩ := s.me c List.mem_cons_self
  have sm : Same I (upd I c.l oo) := fun b u e => by
    have : b ≠ c.l := fun q => by rw [q, zI] at e; cases e
    rw [upd_ne this]; exact e
  refine ⟨oo, zH, zP, ⟨⟨s.fm.i.trans sm, s.fm.h, fun b u e => ?_, fun l e nn => ?_⟩, s.len, fun i sf e => ?_, fun d hd => ?_, (List.nodup_cons.mp s.nd).2⟩, sm⟩
  · by_cases hb : b = c.l
    · subst hb; rw [upd_same] at e; cases e; exact zH
    · rw [upd_ne hb] at e; exact s.fm.ih _ _ e
  · have : l ≠ c.l := fun q => nn (q ▸ z0)
    rw [upd_ne this]; exact s.fm.mu l e nn
  · obtain ⟨v, e1, q⟩ := s.sl i sf e
    exact ⟨v, e1, sf.mo.up sm q⟩
  · obtain ⟨a, b, od, e, p⟩ := s.me d (List.mem_cons_of_mem _ hd)
    have nn := s.nd
    rw [List.map_cons, List.nodup_cons] at nn
    have : d.l ≠ c.l := fun q => nn.1 (q ▸ List.mem_map_of_mem hd)
    exact ⟨a, by rw [upd_ne this]; exact b, od, e, d.mo sm p⟩

/-! ### C(..) -/
def spI (K : PySem.W.Frag) (C : Addr) (R : Hp → Hp → List V → δ → Prop) (m : δ → Res γ) (r : Ra γ) : Sp := fun vs H Q E => ∃ x dx ws H0 I d, vs = .ref x :: ws ∧ H0 x = none ∧ H0 dx = none ∧ dx ≠ x ∧ H = upd (upd H0 dx (.own x)) x (.ins C dx []) ∧ Same I H0 ∧ R I H0 ws d ∧
  PostE K (m d) r I H0 E (fun u H2 => u = .ref x → Q .non H2)
theorem cj_make {k : Nat} {C f : Addr} {fd : FuncData} {ps : List Str} {ds : List Value} {dvs : List V} {R R' : Hp → Hp → List V → δ → Prop} {m : δ → Res γ} (M : Mk X.K C f) (F : FnOk X.prog X.w X.K X.mg X.base (L2.CX X.prog X.w) k f fd ps (spI X.K C R m rc)) (hr : Room (k + 1) X.A) (hb : Binds X.K fd ps ds) (hd : Vals dvs ds) (tk : Takes X W)
    (hR : ∀ I H vs d, R' I H vs d → R I H (vs ++ dvs) d) : CallJ X W (.ref C) R' m rc := fun I H σ Q vs d sm h p pins s us Iv r => by
  have n1 := Iv.hok.fresh (Nat.le_succ s.heap.objs.size)
  have n2 := Iv.hok.fresh (Nat.le_refl s.heap.objs.size)
  have n3 := Nat.ne_of_lt (Nat.lt_succ_self s.heap.objs.size)
  have hq : spI X.K C R m rc (.ref (s.heap.objs.size + 1) :: (vs ++ dvs)) (upd (upd H s.heap.objs.size (.own (s.heap.objs.size + 1))) (s.heap.objs.size + 1) (.ins C s.heap.objs.size [])) (fun v H2 => v = .non ∧ Q (.ref (s.heap.objs.size + 1)) H2) (fun cls d H' => W cls d σ H') :=
    ⟨s.heap.objs.size + 1, s.heap.objs.size, vs ++ dvs, H, I, d, rfl, n1, n2, n3, rfl, sm, hR _ _ _ _ h, p.imp fun v H' q e => ⟨rfl, e ▸ q⟩⟩
  have I2 := Inv.made (C := C) Iv
  have r2 : Vals (V.ref (s.heap.objs.size + 1) :: (vs ++ dvs)) (Value.ref (s.heap.objs.size + 1) :: (us ++ ds)) := .cons rfl (r.append hd)
  have hl : (Value.ref (s.heap.objs.size + 1) :: us ++ ds).length = ps.length := by
    have e := r2.length
    rw [F.len _ _ _ _ hq] at e
    exact e.symm
  refine wpAny_call (make_map (f := f) Iv.kIn M.makes M.init (beq_iff_eq.mp M.fn) (codeAny_mono (F.run _ X.stack _ _ ⟨Value.ref (s.heap.objs.size + 1) :: us, []⟩ (Value.ref (s.heap.objs.size + 1) :: (us ++ ds)) _ _ _ (hr.make C us [])
    (I2.env0.make C us []) (hb _ (Value.ref (s.heap.objs.size + 1) :: us) I2.kIn hl) r2 hq) fun r s' hq' => ?_))
  cases r with
  | error e => exact passAt tk σ pins _ _ e s' I2 hq'
  | ok fl =>
    cases fl with
    | ret u =>
      obtain ⟨v, H', I3, rv, ev, q3⟩ := I2.after hq'
      subst ev
      exact ⟨rv, ⟨V.ref (s.heap.objs.size + 1), H', I3, rfl, q3⟩⟩
    | next => exact False.elim hq'
    | brk => exact False.elim hq'
    | cont => exact False.elim hq'
end
section
variable {γ δ : Type} {P : Program} {w : World} {K : PySem.W.Frag} {mg : Str → Option Value} {base : Heap} {x qual : Str} {params : Arguments} {body : List Stmt} {scope : Scope} {dvs : List V} {kws : List (Str × V)} {f C : Addr} {fd : FuncData} {N ps : List Str} {k : Nat} {R : Hp → Hp → List V → δ → Prop} {m : δ → Res γ} {r : Ra γ}
/-- the cell of a new instance -/
theorem Stt.fresh {I0 H0 : Hp} {y dx : Addr} {σ : St} {ctx : List (Option SF)} (sm : Same I0 H0) (n1 : H0 y = none) (n2 : H0 dx = none) (n3 : dx ≠ y) (hl : σ.length = ctx.length) (hs : ∀ (i : Nat) (sf : SF), ctx[i]? = some (some sf) → ∃ v, σ[i]? = some (some v) ∧ sf.r I0 v sf.x) :
    Stt I0 H0 ctx [.ins y C dx []] I0 (upd (upd H0 dx (.own y)) y (.ins C dx [])) σ := by
  have e1 : Same H0 (upd (upd H0 dx (.own y)) y (.ins C dx [])) := fun b u e => by rw [upd_ne (ne_of_none e n1), upd_ne (ne_of_none e n2)]; exact e
  exact ⟨⟨Same.refl _, e1, sm.trans e1, fun _ e _ => e⟩, hl, hs, fun c hc => by
    cases List.mem_singleton.mp hc
    exact ⟨n1, sm.free n1, _, upd_same, [], rfl, True.intro⟩, by simp⟩
/-- an __init__ that makes its object whole -/
theorem FunD.init {S : Type} (F : FunD K x qual params body scope dvs kws f fd) (Sc : FnScope N ps scope) (len : ∀ I H vs d, R I H vs d → vs.length + 1 = ps.length)
    (hb : ∀ (cdv : Value) (A : Around) (outer : List Env) (s : Shared) (I0 H0 H1 : Hp) (E : XK) (vs : List V) (d : δ) (y dx : Addr), Room k (A.deeper (envOfC qual scope s.heap.objs.size f cdv)) → Same I0 H0 → R I0 H0 vs d → H0 y = none → H0 dx = none → dx ≠ y → H1 = upd (upd H0 dx (.own y)) y (.ins C dx []) →
      ∃ (G : Knows) (S : Type) (mm : Res S) (G' : S → Knows), G I0 H1 (start N (.ref y :: vs)) ∧ JN (bx P w K mg base N qual scope f cdv A outer s H1 E) (bW E) (bK I0 H0) G body mm G' ∧
        (match mm with
         | .ok s => ∃ z, m d = .ok z ∧ ∀ I' H' σ', G' s I' H' σ' → ∃ I'', Fm I0 H0 I'' H' ∧ r I'' H' (.ref y) z
         | .err e => m d = .err e
         | .stuck => m d = .stuck)) : FnOk P w K mg base (L2.CX P w) (k + 1) f fd ps (spI K C R m r) := by
  refine F.ok Sc (fun vs H Q E ⟨y, dx, ws, H0, I, d, e, _, _, _, _, _, h, _⟩ => by rw [e, List.length_cons]; exact len I H0 ws d h) fun cdv A outer s H vs Q E hr ⟨y, dx, ws, H0, I, d, e, n1, n2, n3, eH, sm, h, p⟩ => ⟨_, pss_W, ?_⟩
  subst e
  obtain ⟨G, S, mm, G', g, j, fin⟩ := hb cdv A outer s I H0 H E ws d y dx hr sm h n1 n2 n3 eH
  refine j I H _ _ g ?_
  cases mm with
  | ok z =>
    obtain ⟨y', e1, h1⟩ := fin
    intro I' H' σ' _ g'
    obtain ⟨I'', f1, r1⟩ := h1 I' H' σ' g'
    rw [e1] at p
    exact p I'' H' _ f1 r1 rfl
  | err e =>
    rw [show m d = _ from fin] at p
    exact fun I' H' _ c d f x => p I' H' c d f.1 ⟨f.2, x⟩
  | stuck =>
    rw [show m d = _ from fin] at p
    exact p
end
end L2.Tr

namespace L2.Tr
open PySem PySem.Spec PyProof.Rows He
/-! ### the head's facts -/
abbrev FB := PySem.W.Frag → Bool
abbrev AlX : Type := Bool × List FnW
def obsX (fs : List FB) (fn : List DefD) (K : PySem.W.Frag) : AlX := ((fs.all fun f => f K) && fn.all fun d => d.ok K, fn.map fun d => fnW K d.at_)
def valX (fn : List DefD) : AlX := (true, fn.map DefD.val)
def SaysX (fs : List FB) (fn : List DefD) (K : PySem.W.Frag) : Prop := obsX fs fn K = valX fn
def obsXG (n : Nat) (fs : List FB) (fn : List DefD) (g : Addr → Option Obj) : AlX := obsX fs fn (frG g (asD g n))
def hookX (n : Nat) (fs : List FB) (fn : List DefD) : PySem.W.Hook where
  α := AlX
  obs := fun s => obsXG n fs fn s.heap.get?
  val := fun _ => valX fn
  says := fun _ h => ∃ K : PySem.W.Frag, K.In h ∧ SaysX fs fn K
  of := fun _ _ e => ⟨_, frG_in, e⟩
  keeps := fun _ _ _ ⟨K, hK, c⟩ k => ⟨K, PySem.W.Frag.In.keeps hK k, c⟩
theorem obsXG_eq {n : Nat} {fs : List FB} {fn : List DefD} {g : Addr → Option Obj} {s : Shared} (h : ∀ a, g a = s.heap.get? a) : obsXG n fs fn g = (hookX n fs fn).obs s := by
  have e : g = s.heap.get? := funext h
  rw [e] <;> rfl
section
variable {fs : List FB} {fn : List DefD} {K : PySem.W.Frag} {mg : Str → Option Value} {h : Heap}
theorem SaysX.fact (c : SaysX fs fn K) (i : Nat) {f : FB} (h : fs[i]? = some f := by rfl) : f K = true := by
  have c1 := (ba (show ((fs.all fun f => f K) && fn.all fun d => d.ok K) = true from congrArg (fun z : AlX => z.1) c)).1
  exact List.all_eq_true.mp c1 f (List.mem_of_getElem? h)
theorem SaysX.def_ (c : SaysX fs fn K) (i : Nat) {d : DefD} (h : fn[i]? = some d := by rfl) : ∃ fd, FunD K d.name d.qual d.params d.body d.scope (d.dvs K) (d.kws K) (fAd K d.at_) fd := by
  have c2 := (ba (show ((fs.all fun f => f K) && fn.all fun d => d.ok K) = true from congrArg (fun z : AlX => z.1) c)).2
  have e : fn.map (fun d => fnW K d.at_) = fn.map DefD.val := congrArg (fun z : AlX => z.2) c
  have e2 : (fn.map fun d => fnW K d.at_)[i]? = (fn.map DefD.val)[i]? := by rw [e]
  rw [List.getElem?_map, List.getElem?_map, h] at e2
  exact DefD.funD (Option.some.inj e2) (List.all_eq_true.mp c2 d (List.mem_of_getElem? h))
def fGlo (x : Str) : FB := fun K => (Fa.glo x).ok K
def fFree (x : Str) : FB := fun K => (Fa.free x).ok K
def fKeep (x : Str) : FB := fun K => PySem.W.keepIn K (.ref (ga K x))
def fCls (x : Str) : FB := fun K => (Fa.cls x).ok K
def fNoat (x f : Str) : FB := fun K => (Fa.noat x f).ok K
def fMeth (x m : Str) : FB := fun K => (Fa.meth x m).ok K
def fMkr (x : Str) : FB := fun K => (Fa.mkr x).ok K
def fExc (x : Str) : FB := fun K => (Fa.exc x).ok K && (Fa.glo x).ok K
def fOcl (x : Str) : FB := fun K => (Fa.cls x).ok K && (PySem.W.selfFirst K (ga K x) && (eqO (PySem.W.findIn K (.ref (ga K x)) "__class__") (some (some (.builtin "object.__class__"))) && (eqO (PySem.W.specialIn K (.builtin "object.__class__") "__get__") (some (some (.builtin "getset_descriptor.__get__"))) &&
  (decide (PySem.W.takesIn K (.builtin "object.__class__") = some true) && (decide (PySem.W.mroIn K (ga K x) (.type "object") = some true) && (decide (PySem.W.subIn K (.ref (ga K x)) (.type "int") = some false) && (decide (PySem.W.subIn K (.type "int") (.ref (ga K x)) = some false) &&
  eqO (PySem.W.findIn K (.ref (ga K x)) "__ne__") (some (some (.builtin "object.__ne__"))))))))))
def fOMet (x m : Str) : FB := fun K => eqO (PySem.W.findIn K (.ref (ga K x)) m) (some (some (.ref (ma K (ga K x) m)))) && PySem.W.isFn K (.ref (ma K (ga K x) m))
def fNf (x : Str) : FB := fun K => PySem.W.notFirst K (ga K x) (.ref (ga K x)) && PySem.W.notFirst K (ga K x) (.type "int")
def fIntM (m : Str) : FB := fun K => (PySem.W.findIn K (.type "int") m).isSome
def fKit (x y : Str) (b : Bool) : FB := fun K => decide (PySem.W.kitOne K (.ref (ga K x)) (.ref (ga K y)) = some b)
def fKitT (x : Str) (t : String) (b : Bool) : FB := fun K => decide (PySem.W.kitOne K (.ref (ga K x)) (.type t) = some b)
def fKitI (t : String) (x : Str) (b : Bool) : FB := fun K => decide (PySem.W.kitOne K (.type t) (.ref (ga K x)) = some b)
theorem glo_of (X : K.In h) (G : h.Ns mainGlobals mg) {x : Str} (c : fGlo x K = true) : mg x = some (.ref (ga K x)) := glo_ok X G c
theorem free_of (X : K.In h) (G : h.Ns mainGlobals mg) {x : Str} (c : fFree x K = true) : mg x = none := free_ok X G c
theorem cls_of {x : Str} (c : fCls x K = true) : Cls K (ga K x) := cls_ok c
theorem noat_of {x f : Str} (c : fNoat x f K = true) : NoAttr K (ga K x) f := noat_ok c
theorem meth_of {x m : Str} (c : fMeth x m K = true) : Meth K (ga K x) m (ma K (ga K x) m) := meth_ok c
theorem mkr_of {x : Str} (c : fMkr x K = true) : Mk K (ga K x) (ma K (ga K x) "__init__") := mkr_ok c
theorem exc_of (X : K.In h) (G : h.Ns mainGlobals mg) {x : Str} (c : fExc x K = true) : ExcP K mg x := by
  obtain ⟨c1, c2⟩ := ba c
  obtain ⟨a, b, d, e⟩ := exc_ok c1
  exact ⟨a, b, d, e, glo_ok X G c2⟩
theorem ocl_of {x : Str} (c : fOcl x K = true) : OCls K (ga K x) := by
  obtain ⟨c0, c⟩ := ba c
  obtain ⟨c1, c⟩ := ba c
  obtain ⟨c2, c⟩ := ba c
  obtain ⟨c3, c⟩ := ba c
  obtain ⟨c4, c⟩ := ba c
  obtain ⟨c5, c⟩ := ba c
  obtain ⟨c6, c⟩ := ba c
  obtain ⟨c7, c8⟩ := ba c
  exact ⟨cls_ok c0, c1, eqO_ok c2, eqO_ok c3, of_decide_eq_true c4, of_decide_eq_true c5, of_decide_eq_true c6, of_decide_eq_true c7, eqO_ok c8⟩
theorem omet_of {x m : Str} (c : fOMet x m K = true) : OMet K (ga K x) m (ma K (ga K x) m) := by
  obtain ⟨a, b⟩ := ba c
  exact ⟨eqO_ok a, b⟩
theorem nf_of {x : Str} (c : fNf x K = true) : PySem.W.notFirst K (ga K x) (.ref (ga K x)) = true ∧ PySem.W.notFirst K (ga K x) (.type "int") = true := ba c
theorem intM_of {m : Str} (c : fIntM m K = true) : ∃ fo, PySem.W.findIn K (.type "int") m = some fo := Option.isSome_iff_exists.mp c
theorem kit_of' {x y : Str} {b : Bool} (c : fKit x y b K = true) : PySem.W.kitOne K (.ref (ga K x)) (.ref (ga K y)) = some b := of_decide_eq_true c
theorem kitT_of {x : Str} {t : String} {b : Bool} (c : fKitT x t b K = true) : PySem.W.kitOne K (.ref (ga K x)) (.type t) = some b := of_decide_eq_true c
theorem kitI_of {x : Str} {t : String} {b : Bool} (c : fKitI t x b K = true) : PySem.W.kitOne K (.type t) (.ref (ga K x)) = some b := of_decide_eq_true c
end
end L2.Tr

namespace L2.Tr
open PySem PySem.Spec PyProof.Rows
section
variable {α β γ δ S : Type} {X : Cx} {I0 H0 : Hp} {W : WX} {Kx : KnowsX} {G : Knows} {ctx cw : List (Option SF)} {mem : List MF} {e a b c o : Expr} {es bs : List Expr} {st b₀ : Stmt} {ss s1 s2 body suite : List Stmt} {pos pos' np : Pos} {n x : Str} {ra : Ra α} {rb : Ra β} {rr : Ra γ} {ma : Res α} {mb : Res β}
/-- what is known of fewer slots -/
def weakC : List (Option SF) → List (Option SF) → Prop
  | [], [] => True
  | _ :: c, none :: d => weakC c d
  | a :: c, some b :: d => a = some b ∧ weakC c d
  | _, _ => False
theorem weakC.len : ∀ {c d : List (Option SF)}, weakC c d → c.length = d.length
  | [], [], _ => rfl
  | _ :: _, none :: _, h => congrArg Nat.succ (weakC.len (c := _) h)
  | _ :: _, some _ :: _, h => congrArg Nat.succ (weakC.len (c := _) h.2)
  | [], _ :: _, h => h.elim
  | _ :: _, [], h => h.elim
theorem weakC.get : ∀ {c d : List (Option SF)} {i : Nat} {sf : SF}, weakC c d → d[i]? = some (some sf) → c[i]? = some (some sf)
  | [], [], _, _, _, e => by simp at e
  | _ :: _, none :: _, 0, _, _, e => by simp at e
  | _ :: c, none :: d, i + 1, sf, h, e => by
    have e' : d[i]? = some (some sf) := by simpa using e
    have := weakC.get (c := c) h e'
    simpa using this
  | _ :: _, some _ :: _, 0, _, h, e => by
    have e' : some _ = some (some _) := e
    rw [h.1]; simpa using e
  | _ :: c, some _ :: d, i + 1, sf, h, e => by
    have e' : d[i]? = some (some sf) := by simpa using e
    have := weakC.get (c := c) h.2 e'
    simpa using this
  | [], _ :: _, _, _, h, _ => h.elim
  | _ :: _, [], _, _, h, _ => h.elim
theorem Stt.weak {I H : Hp} {σ : St} (s : Stt I0 H0 ctx mem I H σ) (h : weakC ctx cw) : Stt I0 H0 cw mem I H σ := ⟨s.fm, by rw [s.len, h.len], fun i sf e => s.sl i sf (h.get e), s.me, s.nd⟩
/-- the slots that a reading leaves out -/
theorem Stt.weakM {I H : Hp} {σ : St} {me : List MF} (s : Stt I0 H0 ctx (me ++ mem) I H σ) : Stt I0 H0 ctx mem I H σ := ⟨s.fm, s.len, s.sl, fun c hc => s.me c (List.mem_append_right _ hc), by
  have := s.nd
  rw [List.map_append] at this
  exact (List.nodup_append.mp this).2.1⟩
theorem Stt.unset {I H : Hp} {σ : St} (s : Stt I0 H0 ctx mem I H σ) (i : Nat) {u : Option V} : Stt I0 H0 (ctx.set i none) mem I H (σ.set i u) := by
  refine ⟨s.fm, by rw [List.length_set, List.length_set]; exact s.len, fun j sf e => ?_, s.me, s.nd⟩
  by_cases hj : j = i
  · subst hj
    rw [List.getElem?_set] at e
    by_cases hl : j < ctx.length
    · simp [hl] at e
    · simp [hl] at e
  · rw [List.getElem?_set_ne (Ne.symm hj)] at e
    obtain ⟨w, e1, q⟩ := s.sl j sf e
    exact ⟨w, by rw [List.getElem?_set_ne (Ne.symm hj)]; exact e1, q⟩

/-! ### try -/
def tryM (m : Res S) (L : List (Str × Bool)) (h : Exn → Res γ) (f : S → Res γ) : Res γ := match m with
  | .ok s => f s
  | .err e => (match L.lookup e.cls with
    | some true => (match h e with
      | .ok y => .ok y
      | _ => .stuck)
    | some false => .err e
    | none => .stuck)
  | .stuck => .stuck
theorem lookup_mem {L : List (Str × Bool)} {x : Str} {b : Bool} (h : L.lookup x = some b) : (x, b) ∈ L := by
  induction L with
  | nil => cases h
  | cons p L ih =>
    obtain ⟨y, c⟩ := p
    have h' : (match x == y with | true => some c | false => L.lookup x) = some b := h
    cases q : (x == y) with
    | true =>
      rw [q] at h'
      cases h'
      rw [beq_iff_eq.mp q]; exact List.mem_cons_self
    | false => rw [q] at h'; exact List.mem_cons_of_mem _ (ih h')
def rExc (a : Addr) : Rp Unit := fun _ v _ => v = .ref a
instance {a : Addr} : Mo (rExc a) := ⟨fun _ h => h⟩
def MF.xd (K : PySem.W.Frag) (l : Addr) (ps : List (Str × Pay)) : MF := ⟨l, fun I o => ∃ fs, o = .xd fs ∧ Paired (fun (p : Str × V) (q : Str × Pay) => p.1 = q.1 ∧ PayR K I p.2 q.2) fs ps, fun s ⟨fs, e, p⟩ => ⟨fs, e, Paired.mapP p fun _ q h => ⟨h.1, by
  obtain ⟨h1, h2⟩ := h
  cases hq : q.2 with
  | int i => rw [hq] at h2; exact h2
  | str i => rw [hq] at h2; exact h2
  | bl i => rw [hq] at h2; exact h2
  | non => rw [hq] at h2; exact h2
  | frac i => rw [hq] at h2; exact Mo.up (r := rFrac K) s h2
  | obj i j => exact True.intro⟩⟩⟩
def exm (K : PySem.W.Frag) (d : Option Addr) (e : Exn) : List MF := match d with
  | none => []
  | some a => [.xd K a e.pay]
theorem Stt.exm {K : PySem.W.Frag} {I H : Hp} {σ : St} {ee : Exn} {cls : Value} {d : Option Addr} (s : Stt I0 H0 ctx mem I H σ) (f : Fr H0 d) (x : ExR K I H ee cls d) (hm : ∀ c ∈ mem, ∀ I o fs, c.P I o → o ≠ .xd fs) : Stt I0 H0 ctx (Tr.exm K d ee ++ mem) I H σ := by
  cases d with
  | none => exact s
  | some a =>
    obtain ⟨_, _, fs, e1, e2, pr⟩ := x
    refine ⟨s.fm, s.len, s.sl, fun c hc => ?_, ?_⟩
    · rcases List.mem_cons.mp hc with rfl | hc
      · exact ⟨f a rfl, e2, _, e1, fs, rfl, pr⟩
      · exact s.me c hc
    · show (a :: mem.map (·.l)).Nodup
      refine List.nodup_cons.mpr ⟨fun hh => ?_, s.nd⟩
      obtain ⟨c, hc, e3⟩ := List.mem_map.mp hh
      obtain ⟨_, _, o, e4, p4⟩ := s.me c hc
      rw [e3, e1] at e4
      cases e4
      exact hm c hc I _ fs p4 rfl
/-- try: body except x as n: suite; the suite ends the def -/
theorem JR.tryAs (i : Nat) {cv : Value} {L : List (Str × Bool)} {mb : Res S} {G' : S → Knows} {f : S → Res γ} {mh : Exn → Res γ} (tk : Takes X W)
    (jb : ∀ (W' : WX) (pn : List (Addr × Obj)) (xe : Value → Shared → Prop), Takes (X.tr pn xe) W' → PassesOwn (model X.prog X.w) X.A X.env xe → JN (X.tr pn xe) W' (fun I H σ d => Stt I0 H0 cw mem I H σ ∧ Fr H0 d) (Stt I0 H0 ctx mem) body mb G')
    (js : ∀ (a : Addr) (oe : Obj) (ee : Exn) (d : Option Addr) (pn : List (Addr × Obj)), Zc (.ref (He.ga X.K ee.cls)) d oe → (∃ vs, oe.data = .fields vs) → (ee.cls, true) ∈ L → (d = none → ee.pay = []) → (∀ q, d = some q → ee.pay ≠ []) → JR (X.suite a ((a, oe) :: pn)) I0 H0 (fun _ _ _ _ => False) (fun _ _ _ _ => True) (Stt I0 H0 (cw.set i (some ⟨rExc a, ()⟩)) (exm X.K d ee ++ mem)) (b₀ :: suite) (mh ee) rr)
    (k : ∀ s, JR X I0 H0 W Kx (G' s) ss (f s) rr) (hL : ∀ y b, (y, b) ∈ L → PySem.W.exmOne X.K (.ref (He.ga X.K y)) cv = some b) (hc : Names X x cv) (hx : ∀ I H σ d, Stt I0 H0 cw mem I H σ → Fr H0 d → Kx I H σ d) (hN : X.N.Nodup)
    (hs : X.stack = X.env :: X.outer := by rfl) (hf : X.env.frame = some X.env.locals := by rfl) (hi : X.N[i]? = some n := by rfl) (hln : X.env.kindOf n = some .local := by rfl) (hmx : ∀ c ∈ mem, ∀ I o fs, c.P I o → o ≠ .xd fs := by intro c hc; cases hc) :
    JR X I0 H0 W Kx (Stt I0 H0 ctx mem) (.Try body [.ExceptHandler (some (.Name x np)) (some n) (b₀ :: suite) pos'] [] [] pos :: ss) (tryM mb L mh f) rr := fun I H σ D g p => by
  refine b_cons (PS.w (ps_try_as (i := i) (tb := fun W' D σ H => ∀ pn xe, Takes (X.tr pn xe) W' → PassesOwn (model X.prog X.w) X.A X.env xe → wB (X.tr pn xe) body D σ H) (ts := fun a cls d D σ H => ∀ oe pn, Zc cls d oe → (∃ vs, oe.data = .fields vs) → wB (X.suite a ((a, oe) :: pn)) (b₀ :: suite) D σ H) hs hf hN hi hln hc tk
    (fun W' pn xe t1 t2 => ⟨fun pins s σ H D Iv h => h pn xe t1 t2 pins s Iv⟩) (fun a oe cls d pn hz hf => ⟨fun pins s σ H D Iv h => h oe pn hz hf pins s Iv⟩)) ?_)
  intro pn xe t1 t2
  refine jb _ pn xe t1 t2 I H σ _ g ?_
  cases mb with
  | ok s => exact fun I' H' σ' _ g' => k s I' H' σ' D g' p
  | stuck => exact p.elim
  | err ee =>
    intro I' H' σ' cls d hk hxr
    obtain ⟨g1, fr⟩ := hk
    obtain ⟨ec, hxr2⟩ := id hxr
    have p1 : PostR X I0 H0 W Kx (match L.lookup ee.cls with
      | some true => (match mh ee with
        | .ok y => .ok y
        | _ => .stuck)
      | some false => .err ee
      | none => .stuck) rr D := p
    cases hl : L.lookup ee.cls with
    | none => rw [hl] at p1; exact p1.elim
    | some bb =>
      rw [hl] at p1
      refine ⟨bb, by rw [ec]; exact hL _ _ (lookup_mem hl), fun hb a ha oe pn' hz hf' => ?_, fun hb => ?_⟩
      · subst hb
        rw [ec] at hz
        refine b_mono (js a oe ee d pn' hz hf' (lookup_mem hl) (fun z => by subst z; exact hxr2) (fun q z => by subst z; exact hxr2.1) I' H' _ { nx := fun _ _ => False, rt := D.rt } ((g1.set i (r := rExc a) (x := ()) rfl).exm fr hxr hmx) ?_) (fun _ _ z => z.elim) (fun _ _ z => z) (fun _ _ z => z.elim) (fun _ _ z => z.elim)
        have p2 : PostR X I0 H0 W Kx (match mh ee with
          | .ok y => .ok y
          | _ => .stuck) rr D := p1
        revert p2
        generalize mh ee = z
        intro p2
        cases z with
        | ok y => exact p2
        | err _ => exact p2.elim
        | stuck => exact p2.elim
      · subst hb
        exact p1 I' H' σ' cls d (hx _ _ _ _ g1 fr) hxr
theorem JR.tryOnly {cv : Value} {L : List (Str × Bool)} {mb : Res S} {G' : S → Knows} {f : S → Res γ} {mh : Exn → Res γ} (tk : Takes X W)
    (jb : ∀ (W' : WX) (pn : List (Addr × Obj)) (xe : Value → Shared → Prop), Takes (X.tr pn xe) W' → PassesOwn (model X.prog X.w) X.A X.env xe → JN (X.tr pn xe) W' (fun I H σ d => Stt I0 H0 cw mem I H σ ∧ Fr H0 d) (Stt I0 H0 ctx mem) body mb G')
    (js : ∀ (a : Addr) (oe : Obj) (ee : Exn) (d : Option Addr) (pn : List (Addr × Obj)), Zc (.ref (He.ga X.K ee.cls)) d oe → (∃ vs, oe.data = .fields vs) → (ee.cls, true) ∈ L → (d = none → ee.pay = []) → (∀ q, d = some q → ee.pay ≠ []) → JR (X.suite a ((a, oe) :: pn)) I0 H0 (fun _ _ _ _ => False) (fun _ _ _ _ => True) (Stt I0 H0 cw (exm X.K d ee ++ mem)) (b₀ :: suite) (mh ee) rr)
    (k : ∀ s, JR X I0 H0 W Kx (G' s) ss (f s) rr) (hL : ∀ y b, (y, b) ∈ L → PySem.W.exmOne X.K (.ref (He.ga X.K y)) cv = some b) (hc : Names X x cv) (hx : ∀ I H σ d, Stt I0 H0 cw mem I H σ → Fr H0 d → Kx I H σ d)
    (hs : X.stack = X.env :: X.outer := by rfl) (hf : X.env.frame = some X.env.locals := by rfl) (hmx : ∀ c ∈ mem, ∀ I o fs, c.P I o → o ≠ .xd fs := by intro c hc; cases hc) :
    JR X I0 H0 W Kx (Stt I0 H0 ctx mem) (.Try body [.ExceptHandler (some (.Name x np)) none (b₀ :: suite) pos'] [] [] pos :: ss) (tryM mb L mh f) rr := fun I H σ D g p => by
  refine b_cons (PS.w (ps_try_only (tb := fun W' D σ H => ∀ pn xe, Takes (X.tr pn xe) W' → PassesOwn (model X.prog X.w) X.A X.env xe → wB (X.tr pn xe) body D σ H) (ts := fun a cls d D σ H => ∀ oe pn, Zc cls d oe → (∃ vs, oe.data = .fields vs) → wB (X.suite a ((a, oe) :: pn)) (b₀ :: suite) D σ H) hs hf hc tk
    (fun W' pn xe t1 t2 => ⟨fun pins s σ H D Iv h => h pn xe t1 t2 pins s Iv⟩) (fun a oe cls d pn hz hf => ⟨fun pins s σ H D Iv h => h oe pn hz hf pins s Iv⟩)) ?_)
  intro pn xe t1 t2
  refine jb _ pn xe t1 t2 I H σ _ g ?_
  cases mb with
  | ok s => exact fun I' H' σ' _ g' => k s I' H' σ' D g' p
  | stuck => exact p.elim
  | err ee =>
    intro I' H' σ' cls d hk hxr
    obtain ⟨g1, fr⟩ := hk
    obtain ⟨ec, hxr2⟩ := id hxr
    have p1 : PostR X I0 H0 W Kx (match L.lookup ee.cls with
      | some true => (match mh ee with
        | .ok y => .ok y
        | _ => .stuck)
      | some false => .err ee
      | none => .stuck) rr D := p
    cases hl : L.lookup ee.cls with
    | none => rw [hl] at p1; exact p1.elim
    | some bb =>
      rw [hl] at p1
      refine ⟨bb, by rw [ec]; exact hL _ _ (lookup_mem hl), fun hb a ha oe pn' hz hf' => ?_, fun hb => ?_⟩
      · subst hb
        rw [ec] at hz
        refine b_mono (js a oe ee d pn' hz hf' (lookup_mem hl) (fun z => by subst z; exact hxr2) (fun q z => by subst z; exact hxr2.1) I' H' _ { nx := fun _ _ => False, rt := D.rt } (g1.exm fr hxr hmx) ?_) (fun _ _ z => z.elim) (fun _ _ z => z) (fun _ _ z => z.elim) (fun _ _ z => z.elim)
        have p2 : PostR X I0 H0 W Kx (match mh ee with
          | .ok y => .ok y
          | _ => .stuck) rr D := p1
        revert p2
        generalize mh ee = z
        intro p2
        cases z with
        | ok y => exact p2
        | err _ => exact p2.elim
        | stuck => exact p2.elim
      · subst hb
        exact p1 I' H' σ' cls d (hx _ _ _ _ g1 fr) hxr
/-- .. where the errors have no fields -/
theorem JR.tryAsP (i : Nat) {cv : Value} {L : List (Str × Bool)} {mb : Res S} {G' : S → Knows} {f : S → Res γ} {mh : Str → Res γ} (tk : Takes X W)
    (jb : ∀ (W' : WX) (pn : List (Addr × Obj)) (xe : Value → Shared → Prop), Takes (X.tr pn xe) W' → PassesOwn (model X.prog X.w) X.A X.env xe → JN (X.tr pn xe) W' (fun I H σ d => Stt I0 H0 cw mem I H σ ∧ Fr H0 d) (Stt I0 H0 ctx mem) body mb G')
    (js : ∀ cls, (cls, true) ∈ L → ∀ (a : Addr) (oe : Obj) (pn : List (Addr × Obj)), Zc (.ref (He.ga X.K cls)) none oe → (∃ vs, oe.data = .fields vs) → JR (X.suite a ((a, oe) :: pn)) I0 H0 (fun _ _ _ _ => False) (fun _ _ _ _ => True) (Stt I0 H0 (cw.set i (some ⟨rExc a, ()⟩)) mem) (b₀ :: suite) (mh cls) rr)
    (k : ∀ s, JR X I0 H0 W Kx (G' s) ss (f s) rr) (hL : ∀ y b, (y, b) ∈ L → PySem.W.exmOne X.K (.ref (He.ga X.K y)) cv = some b) (hc : Names X x cv) (hx : ∀ I H σ d, Stt I0 H0 cw mem I H σ → Fr H0 d → Kx I H σ d) (hN : X.N.Nodup)
    (hs : X.stack = X.env :: X.outer := by rfl) (hf : X.env.frame = some X.env.locals := by rfl) (hi : X.N[i]? = some n := by rfl) (hln : X.env.kindOf n = some .local := by rfl) (hmx : ∀ c ∈ mem, ∀ I o fs, c.P I o → o ≠ .xd fs := by intro c hc; cases hc) :
    JR X I0 H0 W Kx (Stt I0 H0 ctx mem) (.Try body [.ExceptHandler (some (.Name x np)) (some n) (b₀ :: suite) pos'] [] [] pos :: ss) (tryM mb L (fun ee => if ee.pay.isEmpty = true then mh ee.cls else .stuck) f) rr :=
  JR.tryAs i tk jb (fun a oe ee d pn hz hf hm h0 h1 => by
    cases d with
    | none =>
      have e : ee.pay.isEmpty = true := by rw [h0 rfl]; rfl
      rw [if_pos e]
      exact js ee.cls hm a oe pn hz hf
    | some q =>
      have e : ¬ ee.pay.isEmpty = true := fun z => h1 q rfl (List.isEmpty_iff.mp z)
      rw [if_neg e]
      exact fun _ _ _ _ _ p => p.elim) k hL hc hx hN hs hf hi hln hmx
theorem JR.tryOnlyP {cv : Value} {L : List (Str × Bool)} {mb : Res S} {G' : S → Knows} {f : S → Res γ} {mh : Str → Res γ} (tk : Takes X W)
    (jb : ∀ (W' : WX) (pn : List (Addr × Obj)) (xe : Value → Shared → Prop), Takes (X.tr pn xe) W' → PassesOwn (model X.prog X.w) X.A X.env xe → JN (X.tr pn xe) W' (fun I H σ d => Stt I0 H0 cw mem I H σ ∧ Fr H0 d) (Stt I0 H0 ctx mem) body mb G')
    (js : ∀ cls, (cls, true) ∈ L → ∀ (a : Addr) (oe : Obj) (pn : List (Addr × Obj)), Zc (.ref (He.ga X.K cls)) none oe → (∃ vs, oe.data = .fields vs) → JR (X.suite a ((a, oe) :: pn)) I0 H0 (fun _ _ _ _ => False) (fun _ _ _ _ => True) (Stt I0 H0 cw mem) (b₀ :: suite) (mh cls) rr)
    (k : ∀ s, JR X I0 H0 W Kx (G' s) ss (f s) rr) (hL : ∀ y b, (y, b) ∈ L → PySem.W.exmOne X.K (.ref (He.ga X.K y)) cv = some b) (hc : Names X x cv) (hx : ∀ I H σ d, Stt I0 H0 cw mem I H σ → Fr H0 d → Kx I H σ d)
    (hs : X.stack = X.env :: X.outer := by rfl) (hf : X.env.frame = some X.env.locals := by rfl) (hmx : ∀ c ∈ mem, ∀ I o fs, c.P I o → o ≠ .xd fs := by intro c hc; cases hc) :
    JR X I0 H0 W Kx (Stt I0 H0 ctx mem) (.Try body [.ExceptHandler (some (.Name x np)) none (b₀ :: suite) pos'] [] [] pos :: ss) (tryM mb L (fun ee => if ee.pay.isEmpty = true then mh ee.cls else .stuck) f) rr :=
  JR.tryOnly tk jb (fun a oe ee d pn hz hf hm h0 h1 => by
    cases d with
    | none =>
      have e : ee.pay.isEmpty = true := by rw [h0 rfl]; rfl
      rw [if_pos e]
      exact js ee.cls hm a oe pn hz hf
    | some q =>
      have e : ¬ ee.pay.isEmpty = true := fun z => h1 q rfl (List.isEmpty_iff.mp z)
      rw [if_neg e]
      exact fun _ _ _ _ _ p => p.elim) k hL hc hx hs hf hmx
end
end L2.Tr

namespace L2.Tr
open PySem PySem.Spec PyProof.Rows
section
variable {α β γ δ S : Type} {X : Cx} {I0 H0 : Hp} {W : WX} {Kx : KnowsX} {G : Knows} {ctx cw : List (Option SF)} {mem : List MF} {e a b c o : Expr} {es bs : List Expr} {pos pos' np : Pos} {n x : Str} {ra : Ra α} {rb : Ra β} {rc : Ra γ} {ma : Res α} {mb : Res β}
/-! ### the start of a def -/
def IniR (I : Hp) : List V → List (Option SF) → Prop
  | [], c => ∀ (i : Nat) (sf : SF), c[i]? ≠ some (some sf)
  | v :: vs, some sf :: c => sf.r I v sf.x ∧ IniR I vs c
  | _ :: _, _ => False
theorem IniR.get {I : Hp} : ∀ {vs : List V} {c : List (Option SF)} {n : Nat}, IniR I vs c → ∀ (i : Nat) (sf : SF), c[i]? = some (some sf) → ∃ v, (vs.map some ++ List.replicate n none)[i]? = some (some v) ∧ sf.r I v sf.x
  | [], c, n, h, i, sf, e => (h i sf e).elim
  | v :: vs, some sf' :: c, n, ⟨a, b⟩, 0, sf, e => by
    have e' : sf' = sf := by simpa using e
    subst e'
    exact ⟨v, by simp, a⟩
  | v :: vs, some sf' :: c, n, ⟨a, b⟩, i + 1, sf, e => by
    have e' : c[i]? = some (some sf) := by simpa using e
    obtain ⟨u, h1, h2⟩ := IniR.get (n := n) b i sf e'
    exact ⟨u, by simpa using h1, h2⟩
  | _ :: _, none :: _, _, h, _, _, _ => h.elim
  | _ :: _, [], _, h, _, _, _ => h.elim
theorem Stt.start {N : List Str} {vs : List V} (sm : Same I0 H0) (h : IniR I0 vs ctx) (hl : ctx.length = N.length) (hv : vs.length ≤ N.length) : Stt I0 H0 ctx [] I0 H0 (L2.start N vs) := by
  refine ⟨Fm.refl sm, ?_, fun i sf e => IniR.get h i sf e, fun _ z => (nomatch z), List.nodup_nil⟩
  unfold L2.start
  rw [List.length_append, List.length_map, List.length_replicate, hl]
  omega
theorem ini_nil {I : Hp} {c : List (Option SF)} (h : c.all (·.isNone) = true) : IniR I [] c := fun i sf e => by
  have := List.all_eq_true.mp h _ (List.mem_of_getElem? e)
  cases this
/-! ### promises, once more -/
theorem FnR.nice {P : Program} {w : World} {K : PySem.W.Frag} {mg : Str → Option Value} {base : Heap} {k : Nat} {f : Addr} {R : Hp → Hp → List V → δ → Prop} {m m' : δ → Res γ} (F : FnR P w K mg base (L2.CX P w) k f (spF K R m rc)) (h : ∀ d, m' d = .stuck ∨ m' d = m d) :
    FnR P w K mg base (L2.CX P w) k f (spF K R m' rc) := F.imp fun vs H Q E ⟨I, d, s, r, p⟩ => ⟨I, d, s, r, by
  rcases h d with e | e
  · rw [show m' d = _ from e] at p; exact p.elim
  · rw [← e]; exact p⟩
theorem FnOk.fr {P : Program} {w : World} {K : PySem.W.Frag} {mg : Str → Option Value} {base : Heap} {k : Nat} {f : Addr} {fd : FuncData} {ps : List Str} {ds : List Value} {dvs : List V} {δ' : Type} {R : Hp → Hp → List V → δ → Prop} {R' : Hp → Hp → List V → δ' → Prop} {m : δ → Res γ} {h : δ' → δ} (F : FnOk P w K mg base (L2.CX P w) k f fd ps (spF K R m rc)) (hb : Binds K fd ps ds) (hd : Vals dvs ds)
    (hR : ∀ I H vs d, R' I H vs d → R I H (vs ++ dvs) (h d)) : FnR P w K mg base (L2.CX P w) k f (spF K R' (fun d => m (h d)) rc) := (FnOk.raw F hb hd).imp fun vs H Q E ⟨I, d, s, r, p⟩ => ⟨I, h d, s, hR _ _ _ _ r, p⟩
theorem FnOk.fr0 {P : Program} {w : World} {K : PySem.W.Frag} {mg : Str → Option Value} {base : Heap} {k : Nat} {f : Addr} {fd : FuncData} {ps : List Str} {R : Hp → Hp → List V → δ → Prop} {m : δ → Res γ} (F : FnOk P w K mg base (L2.CX P w) k f fd ps (spF K R m rc)) (hb : Binds K fd ps []) :
    FnR P w K mg base (L2.CX P w) k f (spF K R m rc) := (FnOk.raw F hb .nil).imp fun vs H Q E h => by rw [List.append_nil]; exact h
/-! ### the types of things -/
theorem tyr_int {K : PySem.W.Frag} {t : String} {g : Bool} (h : kitB "int" t = some g) : TyR K (rp rInt) (.type t) (fun _ => g) := fun I H v x _ e => ⟨.type "int", by rw [show v = _ from e]; exact .base (.int _), kit_ty h⟩
theorem tyr_intC {K : PySem.W.Frag} {C : Addr} {g : Bool} (h : PySem.W.kitOne K (.type "int") (.ref C) = some g) : TyR K (rp rInt) (.ref C) (fun _ => g) := fun I H v x _ e => ⟨.type "int", by rw [show v = _ from e]; exact .base (.int _), h⟩
theorem tyr_ins {K : PySem.W.Frag} {C : Addr} {u : Value} {g : Bool} (hc : OCls K C) (ia : InsR C ra) (h : PySem.W.kitOne K (.ref C) u = some g) : TyR K ra u (fun _ => g) := fun I H v x s e => by
  obtain ⟨a, dx, fs, rfl, ha⟩ := ia I H v x s e
  exact ⟨.ref C, .base (.ins ha hc.cl hc.ca hc.cn hc.ct hc.cm), h⟩
theorem insF {K : PySem.W.Frag} : InsR (He.ga K "Fraction") (rp (rFrac K)) := fun I H v x s ⟨a, dx, e, h⟩ => ⟨a, dx, _, e, s _ _ h⟩
theorem tyr_num {K : PySem.W.Frag} {u : Value} {g1 g2 : Bool} (h1 : TyR K (rp rInt) u fun _ => g1) (h2 : TyR K (rp (rFrac K)) u fun _ => g2) : TyR K (rp (rNum K)) u (fun x => match x with | .i _ => g1 | .q _ => g2) := fun I H v x s e => by
  cases x with
  | i n => exact h1 I H v n s e
  | q r => exact h2 I H v r s e
theorem w_glob_at {C : Addr} (hm : X.mg n = some (.ref C)) (hg : Gl X n) (hd : (n == ("__debug__" : Str)) = false) (σ : St) (H : Hp) (Q : VK) (h : Q (.ref C) H) : wE X (.Name n pos) σ H Q := w_glob h hm rfl hg hd
theorem w_type_at {t : String} (hm : X.mg n = none) (hv : bootBuiltins n = some (.type t)) (hg : Gl X n) (hn : n ≠ "__name__") (hd : (n == ("__debug__" : Str)) = false) (σ : St) (H : Hp) (Q : VK) (h : Q (.ty t) H) : wE X (.Name n pos) σ H Q := w_bltn h hm hv rfl hg hn hd
/-! ### fields of a Fraction -/
theorem fld_top {K : PySem.W.Frag} : FldOf K (He.ga K "Fraction") (rp (rFrac K)) "top" (fun q => q.num) (rp rInt) := fun I H v x s ⟨a, dx, e, h⟩ => ⟨a, dx, _, .int x.num, e, s _ _ h, rfl, rfl⟩
theorem fld_bottom {K : PySem.W.Frag} : FldOf K (He.ga K "Fraction") (rp (rFrac K)) "bottom" (fun q => (q.den : Int)) (rp rInt) := fun I H v x s ⟨a, dx, e, h⟩ => ⟨a, dx, _, .int (x.den : Int), e, s _ _ h, rfl, rfl⟩
theorem insOfF {K : PySem.W.Frag} {m : Str} (h1 : (m == ("top" : Str)) = false := by decide +kernel) (h2 : (m == ("bottom" : Str)) = false := by decide +kernel) : InsOf (He.ga K "Fraction") (rp (rFrac K)) m := fun I H v x s ⟨a, dx, e, h⟩ => ⟨a, dx, _, e, s _ _ h, by
  show (match m == ("top" : Str) with | true => _ | false => (match m == ("bottom" : Str) with | true => _ | false => none)) = none
  rw [h1, h2]⟩
/-! ### operators of Fractions, ints and both -/
variable {f f' : Addr} {k k' : Nat} {g : Rat × Num × Unit → Res γ} {g' : Rat × Int × Unit → Res γ}
theorem opj_qq {op : Operator} (hc : OCls X.K (He.ga X.K "Fraction")) (hm : OMet X.K (He.ga X.K "Fraction") (PySem.dunder op.info.2) f) (F : FnR X.prog X.w X.K X.mg X.base (L2.CX X.prog X.w) k f (spF X.K (R2' (rp (rFrac X.K)) (rp (rNum X.K))) g rc)) (hr : Room k X.A) (tk : Takes X W) :
    OpJ X W (binaryOp op) (rp (rFrac X.K)) (rp (rFrac X.K)) (fun x y => g (x, .q y, ())) rc := opj_own (g := fun d => g (d.1, .q d.2.1, ())) hc hm insF insF ((cj_of F hr tk).co fun I H vs d _ h => h)
theorem opj_qi {op : Operator} {fo ro : Option Value} (hc : OCls X.K (He.ga X.K "Fraction")) (hm : OMet X.K (He.ga X.K "Fraction") (PySem.dunder op.info.2) f) (hm' : OMet X.K (He.ga X.K "Fraction") (dunderR op.info.2) f') (h1 : PySem.W.findIn X.K (.type "int") (PySem.dunder op.info.2) = some fo) (h2 : PySem.W.findIn X.K (.type "int") (dunderR op.info.2) = some ro)
    (F : FnR X.prog X.w X.K X.mg X.base (L2.CX X.prog X.w) k f (spF X.K (R2' (rp (rFrac X.K)) (rp (rNum X.K))) g rc)) (hr : Room k X.A) (tk : Takes X W) :
    OpJ X W (binaryOp op) (rp (rFrac X.K)) (rp rInt) (fun x y => g (x, .i y, ())) rc := opj_ownI (g := fun d => g (d.1, .i d.2.1, ())) hc hm hm' h1 h2 insF ((cj_of F hr tk).co fun I H vs d _ h => h)
theorem opj_qn {f : Value → Value → Sem Value} {g : Rat × Num × Unit → Res γ} (h1 : OpJ X W f (rp (rFrac X.K)) (rp (rFrac X.K)) (fun x y => g (x, .q y, ())) rc) (h2 : OpJ X W f (rp (rFrac X.K)) (rp rInt) (fun x y => g (x, .i y, ())) rc) :
    OpJ X W f (rp (rFrac X.K)) (rp (rNum X.K)) (fun x y => g (x, y, ())) rc := fun I H σ Q u v x y s a b p => by
  cases y with
  | i n => exact h2 I H σ Q u v x n s a b p
  | q r => exact h1 I H σ Q u v x r s a b p
theorem opj_cqq {op : CmpOp} (hop : ∀ a b, compareOp op a b = richCompare op a b) (hc : OCls X.K (He.ga X.K "Fraction")) (hm : OMet X.K (He.ga X.K "Fraction") (cmpInfo op).2.1 f) (hn : PySem.W.notFirst X.K (He.ga X.K "Fraction") (.ref (He.ga X.K "Fraction")) = true) (F : FnR X.prog X.w X.K X.mg X.base (L2.CX X.prog X.w) k f (spF X.K (R2' (rp (rFrac X.K)) (rp (rNum X.K))) g rc)) (hr : Room k X.A) (tk : Takes X W) :
    OpJ X W (compareOp op) (rp (rFrac X.K)) (rp (rFrac X.K)) (fun x y => g (x, .q y, ())) rc := opj_cmp (g := fun d => g (d.1, .q d.2.1, ())) hop hc hm hr.units0 hn insF insF ((cj_of F hr tk).co fun I H vs d _ h => h)
theorem opj_cqi {op : CmpOp} (hop : ∀ a b, compareOp op a b = richCompare op a b) (hc : OCls X.K (He.ga X.K "Fraction")) (hm : OMet X.K (He.ga X.K "Fraction") (cmpInfo op).2.1 f) (hn : PySem.W.notFirst X.K (He.ga X.K "Fraction") (.type "int") = true) (F : FnR X.prog X.w X.K X.mg X.base (L2.CX X.prog X.w) k f (spF X.K (R2' (rp (rFrac X.K)) (rp (rNum X.K))) g rc)) (hr : Room k X.A) (tk : Takes X W) :
    OpJ X W (compareOp op) (rp (rFrac X.K)) (rp rInt) (fun x y => g (x, .i y, ())) rc := opj_cmpI (g := fun d => g (d.1, .i d.2.1, ())) hop hc hm hr.units0 hn insF ((cj_of F hr tk).co fun I H vs d _ h => h)
theorem opj_ciq {op : CmpOp} {sl id : String} {gi : Int → Int → Sem Fin} (hop : ∀ a b, compareOp op a b = richCompare op a b) (hc : OCls X.K (He.ga X.K "Fraction")) (hm : OMet X.K (He.ga X.K "Fraction") (cmpInfo op).2.2 f) (slot : Slot "int" (cmpInfo op).2.1 id) (entry : entryFor table id = some (Builtin.Int.intBinary sl gi)) (args : ∀ a b, argsOk id ⟨[a, b], []⟩)
    (F : FnR X.prog X.w X.K X.mg X.base (L2.CX X.prog X.w) k f (spF X.K (R2' (rp (rFrac X.K)) (rp (rNum X.K))) g rc)) (hr : Room k X.A) (tk : Takes X W) :
    OpJ X W (compareOp op) (rp rInt) (rp (rFrac X.K)) (fun x y => g (y, .i x, ())) rc := opj_cmpR (g := fun d => g (d.1, .i d.2.1, ())) hop hc hm hr.units0 slot entry args insF ((cj_of F hr tk).co fun I H vs d _ h => h)
variable {gb : Rat × Num × Unit → Res Bool}
theorem opj_neqq (hc : OCls X.K (He.ga X.K "Fraction")) (hm : OMet X.K (He.ga X.K "Fraction") "__eq__" f) (hn : PySem.W.notFirst X.K (He.ga X.K "Fraction") (.ref (He.ga X.K "Fraction")) = true) (F : FnR X.prog X.w X.K X.mg X.base (L2.CX X.prog X.w) k f (spF X.K (R2' (rp (rFrac X.K)) (rp (rNum X.K))) gb (rp rBl))) (hr : Room (k + 1) X.A) (tk : Takes X W) :
    OpJ X W (compareOp .NotEq) (rp (rFrac X.K)) (rp (rFrac X.K)) (fun x y => (gb (x, .q y, ())).bind fun z => .ok (!z)) (rp rBl) := opj_neO (g := fun d => gb (d.1, .q d.2.1, ())) hc hm hr tk hn insF insF (F.imp fun vs H Q E ⟨I, d, s, r, p⟩ => ⟨I, (d.1, .q d.2.1, ()), s, r, p⟩)
theorem opj_neqi (hc : OCls X.K (He.ga X.K "Fraction")) (hm : OMet X.K (He.ga X.K "Fraction") "__eq__" f) (hn : PySem.W.notFirst X.K (He.ga X.K "Fraction") (.type "int") = true) (F : FnR X.prog X.w X.K X.mg X.base (L2.CX X.prog X.w) k f (spF X.K (R2' (rp (rFrac X.K)) (rp (rNum X.K))) gb (rp rBl))) (hr : Room (k + 1) X.A) (tk : Takes X W) :
    OpJ X W (compareOp .NotEq) (rp (rFrac X.K)) (rp rInt) (fun x y => (gb (x, .i y, ())).bind fun z => .ok (!z)) (rp rBl) := opj_neI (g := fun d => gb (d.1, .i d.2.1, ())) hc hm hr tk hn insF (F.imp fun vs H Q E ⟨I, d, s, r, p⟩ => ⟨I, (d.1, .i d.2.1, ()), s, r, p⟩)
theorem opj_neiq (hc : OCls X.K (He.ga X.K "Fraction")) (hm : OMet X.K (He.ga X.K "Fraction") "__eq__" f) (F : FnR X.prog X.w X.K X.mg X.base (L2.CX X.prog X.w) k f (spF X.K (R2' (rp (rFrac X.K)) (rp (rNum X.K))) gb (rp rBl))) (hr : Room (k + 1) X.A) (tk : Takes X W) :
    OpJ X W (compareOp .NotEq) (rp rInt) (rp (rFrac X.K)) (fun x y => (gb (y, .i x, ())).bind fun z => .ok (!z)) (rp rBl) := opj_neRI (g := fun d => gb (d.1, .i d.2.1, ())) hc hm hr tk insF (F.imp fun vs H Q E ⟨I, d, s, r, p⟩ => ⟨I, (d.1, .i d.2.1, ()), s, r, p⟩)
/-! ### isinstance of a caught error without fields, within the suite -/
theorem JE.isE {ad : Addr} {oe : Obj} {pn : List (Addr × Obj)} {D : Addr} {u : Value} {cv : V} {bb : Bool} (hz : Zc (.ref D) none oe) (hf : ∃ vs, oe.data = .fields vs) (C : ExcC X.K D) (hk : PySem.W.kitOne X.K (.ref D) u = some bb) (j : JE (X.suite ad ((ad, oe) :: pn)) I0 H0 W ctx mem a (.ok ()) (rp (rExc ad))) (jc : ∀ σ H Q, Q cv H → wE (X.suite ad ((ad, oe) :: pn)) b σ H Q) (hc : ClsV cv u) (hm : X.mg "isinstance" = none) (hg : Gl (X.suite ad ((ad, oe) :: pn)) "isinstance" := by rfl)
    (hs : starEach [a, b] X.env = (false, eval a X.env) :: starEach [b] X.env := by rfl) (hs2 : starEach [b] X.env = (false, eval b X.env) :: starEach [] X.env := by rfl) (hpl : (backTo pos (starEach [b] X.env)).any (·.1) = false := by rfl) :
    JE (X.suite ad ((ad, oe) :: pn)) I0 H0 W ctx mem (.Call (.Name "isinstance" pos') [a, b] [] pos) (.ok bb) (rp rBl) := fun I H σ Q st p => by
  refine w_callB (id := "isinstance") (Tr.w_cons (j I H σ _ st ?_) hs) hm (by decide +kernel) hg (by decide) (by decide) hs hpl
  intro I1 H1 v f1 r1
  cases (show v = V.ref ad from r1)
  refine Tr.w_cons (jc σ H1 _ (w_nil ?_)) hs2
  exact CallR.w (call_isE C hz hf) ⟨cv, u, bb, rfl, fun w hw => hc.eq hw, hk, p I1 H1 _ f1 rfl⟩
end
/-! ### C(..) as a promise -/
def MkR {γ δ : Type} (P : Program) (w : World) (K : PySem.W.Frag) (mg : Str → Option Value) (base : Heap) (k : Nat) (C : Addr) (R : Hp → Hp → List V → δ → Prop) (m : δ → Res γ) (r : Ra γ) : Prop :=
  ∀ (X : Cx) (W : WX), X.prog = P → X.w = w → X.K = K → X.mg = mg → X.base = base → Room k X.A → Takes X W → CallJ X W (.ref C) R m r
theorem MkR.nice {γ δ : Type} {P : Program} {w : World} {K : PySem.W.Frag} {mg : Str → Option Value} {base : Heap} {k : Nat} {C : Addr} {R : Hp → Hp → List V → δ → Prop} {m m' : δ → Res γ} {r : Ra γ} (F : MkR P w K mg base k C R m r) (h : ∀ d, m' d = .stuck ∨ m' d = m d) : MkR P w K mg base k C R m' r := fun X W e1 e2 e3 e4 e5 hr tk I H σ Q vs d s a p => by
  refine F X W e1 e2 e3 e4 e5 hr tk I H σ Q vs d s a ?_
  rcases h d with e | e
  · rw [show m' d = _ from e] at p; exact p.elim
  · rw [← e]; exact p
theorem MkR.mono {γ δ : Type} {P : Program} {w : World} {K : PySem.W.Frag} {mg : Str → Option Value} {base : Heap} {j k : Nat} {C : Addr} {R : Hp → Hp → List V → δ → Prop} {m : δ → Res γ} {r : Ra γ} (F : MkR P w K mg base j C R m r) (h : j ≤ k) : MkR P w K mg base k C R m r := fun X W e1 e2 e3 e4 e5 hr tk => F X W e1 e2 e3 e4 e5 (hr.mono h) tk
theorem mkR_of {γ δ δ' : Type} {P : Program} {w : World} {K : PySem.W.Frag} {mg : Str → Option Value} {base : Heap} {k : Nat} {C f : Addr} {fd : FuncData} {ps : List Str} {ds : List Value} {dvs : List V} {R : Hp → Hp → List V → δ → Prop} {R' : Hp → Hp → List V → δ' → Prop} {m : δ → Res γ} {h : δ' → δ} {r : Ra γ} (M : Mk K C f) (F : FnOk P w K mg base (L2.CX P w) k f fd ps (spI K C R m r)) (hb : Binds K fd ps ds) (hd : Vals dvs ds)
    (hR : ∀ I H vs d, R' I H vs d → R I H (vs ++ dvs) (h d)) : MkR P w K mg base (k + 1) C R' (fun d => m (h d)) r := fun X W e1 e2 e3 e4 e5 hr tk => by
  subst e1; subst e2; subst e3; subst e4; subst e5
  exact cj_make (R' := R') (m := fun d => m (h d)) (R := fun I H vs d => R I H vs (h d)) M (F.imp fun vs H Q E ⟨x, dx, ws, H0, I, d, a1, a2, a3, a4, a5, a6, a7, a8⟩ => ⟨x, dx, ws, H0, I, h d, a1, a2, a3, a4, a5, a6, a7, a8⟩) hr hb hd tk hR
def fExm (x y : Str) (b : Bool) : FB := fun K => (He.Fa.exm x y b).ok K
theorem exm_of {K : PySem.W.Frag} {x y : Str} {b : Bool} (c : fExm x y b K = true) : PySem.W.exmOne K (.ref (He.ga K x)) (.ref (He.ga K y)) = some b := He.exm_ok c
def fExcC (x : Str) : FB := fun K => He.eqO (PySem.W.findIn K (.ref (He.ga K x)) "__getattribute__") (some (some (.builtin "BaseException.__getattribute__"))) && (He.eqO (PySem.W.findIn K (.ref (He.ga K x)) "__getattr__") (some none) && (decide (PySem.W.subIn K (.ref (He.ga K x)) (.type "BaseException") = some true) && (PySem.W.hasDictIn K (He.ga K x) &&
  (He.eqO (PySem.W.findIn K (.ref (He.ga K x)) "__class__") (some (some (.builtin "object.__class__"))) && (He.eqO (PySem.W.specialIn K (.builtin "object.__class__") "__get__") (some (some (.builtin "getset_descriptor.__get__"))) && (decide (PySem.W.takesIn K (.builtin "object.__class__") = some true) && decide (PySem.W.mroIn K (He.ga K x) (.type "object") = some true)))))))
theorem excC_of {K : PySem.W.Frag} {x : Str} (c : fExcC x K = true) : ExcC K (He.ga K x) := by
  obtain ⟨c1, c⟩ := He.ba c
  obtain ⟨c2, c⟩ := He.ba c
  obtain ⟨c3, c⟩ := He.ba c
  obtain ⟨c4, c⟩ := He.ba c
  obtain ⟨c5, c⟩ := He.ba c
  obtain ⟨c6, c⟩ := He.ba c
  obtain ⟨c7, c8⟩ := He.ba c
  exact ⟨He.eqO_ok c1, He.eqO_ok c2, of_decide_eq_true c3, c4, He.eqO_ok c5, He.eqO_ok c6, of_decide_eq_true c7, of_decide_eq_true c8⟩
section
variable {S γ : Type} {X : Cx} {I0 H0 : Hp} {W : WX} {Kx : KnowsX} {ctx : List (Option SF)} {mem : List MF} {pos : Pos}
theorem J1.raiseP {x m : Str} {j : Nat} {p1 p2 p3 : Pos} {G' : S → Knows} (hc : X.calm = true) (tk : Takes X W) (ep : ExcP X.K X.mg x) (hx : ∀ I H σ d, Stt I0 H0 ctx mem I H σ → Fr H0 d → Kx I H σ d) (hg : Gl X x := by rfl) (hdb : (x == ("__debug__" : Str)) = false := by decide) :
    J1 X W Kx (Stt I0 H0 ctx mem) (.Raise (some (.Call (.Name x p1) [.Constant (.str m) j p2] [] p3)) none pos) (.err ⟨x, []⟩ : Res S) G' := fun I H σ D g p => by
  refine s_raise hc tk (pmk_own PySem.F.excBase_ValueError ep.ex ep.gl ep.kp (raises_own ep.bs ep.ty) hg hdb) ?_
  exact p I H σ _ none (hx _ _ _ _ g fun _ z => nomatch z) ⟨rfl, rfl⟩
end
end L2.Tr

namespace L2.Tr
open PySem PySem.Spec PyProof.Rows
section
variable {α β γ δ ε : Type} {X : Cx} {I0 H0 : Hp} {W : WX} {ctx : List (Option SF)} {mem : List MF} {e a b c o : Expr} {es bs : List Expr} {kws : List Keyword} {pos pos' kpos : Pos} {n x : Str} {nm : Option Str} {ra : Ra α} {rb : Ra β} {rc : Ra γ} {ma : Res α} {mb : Res β}
/-! ### keywords -/
def JK (X : Cx) (I0 H0 : Hp) (W : WX) (ctx : List (Option SF)) (mem : List MF) (kws : List Keyword) (m : Res δ) (R : Hp → Hp → List V → δ → Prop) : Prop :=
  ∀ (pos : Pos) (I H : Hp) (σ : St) (Q : List V → Hp → Prop), Stt I0 H0 ctx mem I H σ → (match m with
    | .ok a => ∀ I' H' vs, Fm I H I' H' → R I' H' vs a → Q vs H'
    | .err e => ∀ I' H' cls d, Fm I H I' H' → Fr H d ∧ ExR X.K I' H' e cls d → W cls d σ H'
    | .stuck => False) → ∀ (pins : List (Addr × Obj)) (s : Shared), Inv X pins σ H s → wpAny (model X.prog X.w) X.A (evalAll ((backToKw pos (keywordEach kws X.env)).map (·.2))) (AP X pins σ Q) X.xe s
theorem JK.nil : JK X I0 H0 W ctx mem [] (.ok ()) aNil := fun pos I H σ Q st p pins s Iv => wpAny_evalAll_nil ⟨[], H, Iv, .nil, p I H [] (Fm.refl st.same) rfl⟩
theorem JK.cons {R : Hp → Hp → List V → δ → Prop} {m : Res δ} [MoA ra] (j : JE X I0 H0 W ctx mem e ma ra) (k : JK X I0 H0 W ctx mem kws m R) : JK X I0 H0 W ctx mem (⟨nm, e, kpos⟩ :: kws) (ma.bind fun x => m.bind fun y => .ok (x, y)) (aCons ra R) := fun pos I H σ Q st p pins s Iv => by
  show wpAny _ _ (evalAll ((do let v ← eval e X.env; standAt pos; pure v) :: (backToKw pos (keywordEach kws X.env)).map (·.2))) _ _ s
  refine wpAny_evalAll_cons (wpAny_bind (thn (j I H σ (fun v H1 => ∀ pins s1 u, Inv X pins σ H1 s1 → RelV v u → wpAny (model X.prog X.w) X.A (evalAll ((backToKw pos (keywordEach kws X.env)).map (·.2))) (fun us s2 => AP X pins σ Q (u :: us) s2) X.xe s1) st ?_ pins s Iv) fun u s1 ⟨v, H1, I1, r1, q1⟩ => wpAny_bind (wpAny_standAt (wpAny_pure (q1 pins s1 u I1 r1)))))
  cases ma with
  | ok x =>
    intro I1 H1 v f1 r1 pins s1 u Iv1 ru
    refine thn (k pos I1 H1 σ (fun vs H2 => Q (v :: vs) H2) (st.step f1) ?_ pins s1 Iv1) fun us s2 ⟨vs, H2, I2, r2, q2⟩ => ⟨v :: vs, H2, I2, .cons ru r2, q2⟩
    cases m with
    | ok y => exact fun I2 H2 vs f2 r2 => p I2 H2 _ (f1.trans f2) ⟨v, vs, rfl, MoA.up f2.i f2.h r1, r2⟩
    | err e => exact fun I2 H2 c d f2 x => p I2 H2 c d (f1.trans f2) ⟨x.1.back f1.h, x.2⟩
    | stuck => exact p
  | err e => exact p
  | stuck => exact p
def callKW (X : Cx) (f : Value) (ks : List Str) (σ : St) (xs zs : List V) (H : Hp) (Q : VK) : Prop := ∀ (pins : List (Addr × Obj)) (s : Shared) (us ws : List Value), Inv X pins σ H s → Vals xs us → Vals zs ws → wpAny (model X.prog X.w) X.A (call f us (ks.zip ws)) (EP X pins σ Q) X.xe s
def CallKJ (X : Cx) (W : WX) (f : Value) (ks : List Str) (R : Hp → Hp → List V → δ → Prop) (R' : Hp → Hp → List V → ε → Prop) (g : δ → ε → Res γ) (rc : Ra γ) : Prop :=
  ∀ (I H : Hp) (σ : St) (Q : VK) (vs zs : List V) (x : δ) (y : ε), Same I H → R I H vs x → R' I H zs y → PostE X.K (g x y) rc I H (fun cls d H' => W cls d σ H') Q → callKW X f ks σ vs zs H Q
class MoR {δ : Type} (R : Hp → Hp → List V → δ → Prop) : Prop where
  up : ∀ {I H I' H' : Hp} {vs : List V} {x : δ}, Same I I' → Same H H' → R I H vs x → R I' H' vs x
instance : MoR aNil := ⟨fun _ _ h => h⟩
instance {r : Ra α} {R : Hp → Hp → List V → δ → Prop} [m : MoA r] [m' : MoR R] : MoR (aCons r R) := ⟨fun a b ⟨v, ws, e, h, h'⟩ => ⟨v, ws, e, m.up a b h, m'.up a b h'⟩⟩
variable {R : Hp → Hp → List V → δ → Prop} {R' : Hp → Hp → List V → ε → Prop} {md : Res δ} {me : Res ε} {g : δ → ε → Res γ} {ks : List Str}
theorem JE.callK {f : Addr} [MoR R] (ja : JA X I0 H0 W ctx mem (e :: es) md R) (jk : JK X I0 H0 W ctx mem kws me R') (cj : CallKJ X W (.ref f) ks R R' g rc) (hm : X.mg n = some (.ref f)) (hk : PySem.W.keepIn X.K (.ref f) = true) (hg : Gl X n := by rfl) (hdb : (n == ("__debug__" : Str)) = false := by decide)
    (hall : (backToKw pos (keywordEach kws X.env)).all (·.1.isSome) = true := by rfl) (hks : (backToKw pos (keywordEach kws X.env)).filterMap (·.1) = ks := by rfl) (he : starEach (e :: es) X.env = (false, eval e X.env) :: starEach es X.env := by rfl)
    (hpl : ((backTo pos (starEach (e :: es) X.env)).any (·.1) || (backToKw pos (keywordEach kws X.env)).any (·.1.isNone)) = false := by rfl) : JE X I0 H0 W ctx mem (.Call (.Name n pos') (e :: es) kws pos) (md.bind fun x => me.bind fun y => g x y) rc := fun I H σ Q st p pins s Iv => by
  refine wpAny_Call_Name_kw (ld_glob Iv hg hm ?_ hdb)
  refine PySem.W.callWith_KW (h₀ := X.base) Iv.ok.mod.kin hk hall (thn (ja I H σ (fun vs H1 => ∀ pins s1 us, Inv X pins σ H1 s1 → Vals vs us → wpAny (model X.prog X.w) X.A (evalAll ((backToKw pos (keywordEach kws X.env)).map (·.2))) (fun ws s2 => X.K.In s2.heap ∧ wpAny (model X.prog X.w) X.A (PySem.call (.ref f) us (ks.zip ws)) (EP X pins σ Q) X.xe s2) X.xe s1) st ?_ pos pins s Iv) fun us s1 ⟨vs, H1, I1, r1, q1⟩ => ?_) hpl he
  · cases md with
    | ok x =>
      intro I1 H1 vs f1 r1 pins s1 us Iv1 ru
      have p1 := PostE.up p f1
      refine thn (jk pos I1 H1 σ (fun zs H2 => callKW X (.ref f) ks σ vs zs H2 Q) (st.step f1) ?_ pins s1 Iv1) fun ws s2 ⟨zs, H2, I2, r2, q2⟩ => ⟨I2.kIn, q2 pins s2 us ws I2 ru r2⟩
      cases me with
      | ok y => exact fun I2 H2 zs f2 r2 => cj I2 H2 σ Q vs zs x y f2.ih (MoR.up f2.i f2.h r1) r2 (PostE.up p1 f2)
      | err e => exact p1
      | stuck => exact p1
    | err e => exact p
    | stuck => exact p
  · refine thn (q1 pins s1 us I1 r1) fun ws s2 h => ?_
    rw [hks]
    exact h
theorem JE.callK0 {f : Addr} {g : Unit → ε → Res γ} (jk : JK X I0 H0 W ctx mem kws me R') (cj : CallKJ X W (.ref f) ks aNil R' g rc) (hm : X.mg n = some (.ref f)) (hk : PySem.W.keepIn X.K (.ref f) = true) (hg : Gl X n := by rfl) (hdb : (n == ("__debug__" : Str)) = false := by decide)
    (hall : (backToKw pos (keywordEach kws X.env)).all (·.1.isSome) = true := by rfl) (hks : (backToKw pos (keywordEach kws X.env)).filterMap (·.1) = ks := by rfl)
    (hpl : ((backTo pos (starEach [] X.env)).any (·.1) || (backToKw pos (keywordEach kws X.env)).any (·.1.isNone)) = false := by rfl) : JE X I0 H0 W ctx mem (.Call (.Name n pos') [] kws pos) (me.bind fun y => g () y) rc := fun I H σ Q st p pins s Iv => by
  refine wpAny_Call_Name_kw (ld_glob Iv hg hm ?_ hdb)
  refine PySem.W.callWith_KW0 (h₀ := X.base) Iv.ok.mod.kin hk hall ?_ hpl
  rw [hks]
  refine thn (jk pos I H σ (fun zs H2 => callKW X (.ref f) ks σ [] zs H2 Q) st ?_ pins s Iv) fun ws s2 ⟨zs, H2, I2, r2, q2⟩ => ⟨I2.kIn, q2 pins s2 [] ws I2 .nil r2⟩
  cases me with
  | ok y => exact fun I2 H2 zs f2 r2 => cj I2 H2 σ Q [] zs () y f2.ih rfl r2 (PostE.up p f2)
  | err e => exact p
  | stuck => exact p
/-- C(.., k = v): how it binds gives the promise of __init__ -/
theorem cjk_make {k n : Nat} {C f : Addr} {fd : FuncData} {ps : List Str} {gg : List Value → List Value → List Value} {gV : List V → List V → List V} {η : Type} {Ri : Hp → Hp → List V → η → Prop} {m : η → Res γ} {h : δ → ε → η} (M : Mk X.K C f) (F : FnOk X.prog X.w X.K X.mg X.base (L2.CX X.prog X.w) k f fd ps (spI X.K C Ri m rc)) (hr : Room (k + 1) X.A)
    (hb : KBn X.K fd ps (n + 1) ks gg gV) (tk : Takes X W) (hR : ∀ I H vs zs x y, R I H vs x → R' I H zs y → vs.length = n ∧ zs.length = ks.length ∧ ∀ v, ∃ ws, gV (v :: vs) zs = v :: ws ∧ Ri I H ws (h x y)) : CallKJ X W (.ref C) ks R R' (fun x y => m (h x y)) rc := fun I H σ Q vs zs x y sm r r' p pins s us ws Iv rv rz => by
  obtain ⟨l1, l2, hw⟩ := hR I H vs zs x y r r'
  have n1 := Iv.hok.fresh (Nat.le_succ s.heap.objs.size)
  have n2 := Iv.hok.fresh (Nat.le_refl s.heap.objs.size)
  have n3 := Nat.ne_of_lt (Nat.lt_succ_self s.heap.objs.size)
  obtain ⟨wv, ew, hRi⟩ := hw (.ref (s.heap.objs.size + 1))
  have hq : spI X.K C Ri m rc (gV (.ref (s.heap.objs.size + 1) :: vs) zs) (upd (upd H s.heap.objs.size (.own (s.heap.objs.size + 1))) (s.heap.objs.size + 1) (.ins C s.heap.objs.size [])) (fun v H2 => v = .non ∧ Q (.ref (s.heap.objs.size + 1)) H2) (fun cls d H' => W cls d σ H') :=
    ⟨s.heap.objs.size + 1, s.heap.objs.size, wv, H, I, h x y, ew, n1, n2, n3, rfl, sm, hRi, p.imp fun v H' q e => ⟨rfl, e ▸ q⟩⟩
  have I2 := Inv.made (C := C) Iv
  have r1 : Vals (V.ref (s.heap.objs.size + 1) :: vs) (Value.ref (s.heap.objs.size + 1) :: us) := .cons rfl rv
  have r2 := hb.rel r1 rz
  have nl : (Value.ref (s.heap.objs.size + 1) :: us).length = n + 1 := by rw [List.length_cons, ← rv.length, l1]
  refine wpAny_call (make_map (f := f) Iv.kIn M.makes M.init (beq_iff_eq.mp M.fn) (codeAny_mono (F.run _ X.stack _ _ ⟨Value.ref (s.heap.objs.size + 1) :: us, ks.zip ws⟩ (gg (Value.ref (s.heap.objs.size + 1) :: us) ws) _ _ _ (hr.make C us (ks.zip ws))
    (I2.env0.make C us (ks.zip ws)) (hb.to _ (Value.ref (s.heap.objs.size + 1) :: us) ws I2.kIn nl (rz.length.symm.trans l2)) r2 hq) fun r s' hq' => ?_))
  cases r with
  | error e => exact passAt tk σ pins _ _ e s' I2 hq'
  | ok fl =>
    cases fl with
    | ret u =>
      obtain ⟨v, H', I3, rv, ev, q3⟩ := I2.after hq'
      subst ev
      exact ⟨rv, ⟨V.ref (s.heap.objs.size + 1), H', I3, rfl, q3⟩⟩
    | next => exact False.elim hq'
    | brk => exact False.elim hq'
    | cont => exact False.elim hq'
theorem cx_false {P : Program} {w : World} {l : List Env} {H : Hp} {s : Shared} {e : Value} {s' : Shared} (h : L2.CX P w l H s (fun _ _ _ => False) e s') : False := by
  obtain ⟨_, _, _, _, _, _, _, _, _, _, _, _, z⟩ := h
  exact z.elim
end
def MkK {γ δ ε : Type} (P : Program) (w : World) (K : PySem.W.Frag) (mg : Str → Option Value) (base : Heap) (k : Nat) (C : Addr) (ks : List Str) (R : Hp → Hp → List V → δ → Prop) (R' : Hp → Hp → List V → ε → Prop) (m : δ → ε → Res γ) (r : Ra γ) : Prop :=
  ∀ (X : Cx) (W : WX), X.prog = P → X.w = w → X.K = K → X.mg = mg → X.base = base → Room k X.A → Takes X W → CallKJ X W (.ref C) ks R R' m r
theorem MkK.nice {γ δ ε : Type} {P : Program} {w : World} {K : PySem.W.Frag} {mg : Str → Option Value} {base : Heap} {k : Nat} {C : Addr} {ks : List Str} {R : Hp → Hp → List V → δ → Prop} {R' : Hp → Hp → List V → ε → Prop} {m m' : δ → ε → Res γ} {r : Ra γ} (F : MkK P w K mg base k C ks R R' m r) (h : ∀ d e, m' d e = .stuck ∨ m' d e = m d e) : MkK P w K mg base k C ks R R' m' r := fun X W e1 e2 e3 e4 e5 hr tk I H σ Q vs zs d ee s a b p => by
  refine F X W e1 e2 e3 e4 e5 hr tk I H σ Q vs zs d ee s a b ?_
  rcases h d ee with e | e
  · rw [show m' d ee = _ from e] at p; exact p.elim
  · rw [← e]; exact p
end L2.Tr

namespace L2.Tr
open PySem PySem.Spec PyProof.Rows
/-! ### the greatest common divisor -/
abbrev absI (x : Int) : Int := if x < 0 then -x else x
theorem absI_eq (x : Int) : absI x = (x.natAbs : Int) := by unfold absI; split <;> omega
theorem modI_ok {x y : Int} (h : y ≠ 0) : modI x y = .ok (x.fmod y) := Res.guard_pos h _
theorem cd_loop {c : Int × Int → Res Bool} {f : Int × Int → Res (Int × Int)} (hc : ∀ s, c s = .ok (!decide (s.2 = 0))) (hf : ∀ s, s.2 ≠ 0 → f s = .ok (s.2, s.1.fmod s.2)) : ∀ (k : Nat) (a b : Nat), b < k → whileM c f k ((a : Int), (b : Int)) = .ok ((Nat.gcd b a : Int), 0)
  | 0, _, _, h => by omega
  | k + 1, a, b, h => by
    show (c _).bind _ = _
    rw [hc]
    by_cases hb : b = 0
    · subst hb
      simp
    · have hb' : ¬ ((b : Int) = 0) := by omega
      simp only [Res.ok_bind, decide_eq_false hb', Bool.not_false, if_true]
      rw [hf _ hb', Int.fmod_eq_emod_of_nonneg _ (by omega)]
      show whileM c f k (((b : Nat) : Int), (((a % b : Nat)) : Int)) = _
      rw [cd_loop hc hf k b (a % b) (by have := Nat.mod_lt a (Nat.pos_of_ne_zero hb); omega)]
      rw [Nat.gcd_rec b a]
/-! ### Fraction(t, b) -/
def eBF : Exn := ⟨"BadFraction", []⟩
def qRaw (t b : Int) : Res Rat := if b = 0 then .err eBF else Res.guard ((Int.gcd t b).log2 < 9000) (.ok (Rat.divInt t b))
def qMk (t b : Int) : Res Rat := if b = 0 then .err eBF else Res.guard (b.natAbs.log2 < 9000) (.ok (Rat.divInt t b))
theorem log2_mono {a b : Nat} (h : a ≤ b) : a.log2 ≤ b.log2 := by
  by_cases ha : a = 0
  · subst ha; simp
  · have hb : b ≠ 0 := by omega
    exact (Nat.le_log2 hb).mpr (Nat.le_trans (Nat.log2_self_le ha) h)
theorem qMk_raw (t b : Int) : qMk t b = .stuck ∨ qMk t b = qRaw t b := by
  unfold qMk qRaw
  by_cases hb : b = 0
  · simp [hb]
  · rw [if_neg hb, if_neg hb]
    by_cases h : b.natAbs.log2 < 9000
    · right
      have : (Int.gcd t b).log2 ≤ b.natAbs.log2 := log2_mono (Int.gcd_le_natAbs_right t hb)
      rw [Res.guard_pos h, Res.guard_pos (by omega)]
    · left; unfold Res.guard; rw [if_neg h]
theorem div_num {t b : Int} (hb : b ≠ 0) (dv : Int) (hd : dv = if b < 0 then -(Int.gcd t b : Int) else (Int.gcd t b : Int)) : t.fdiv dv = (Rat.divInt t b).num ∧ b.fdiv dv = ((Rat.divInt t b).den : Int) := by
  have hg : (Int.gcd t b : Int) ≠ 0 := by
    intro h
    have := Int.gcd_eq_zero_iff.mp (by exact_mod_cast h : Int.gcd t b = 0)
    exact hb this.2
  obtain ⟨x, hx⟩ : (Int.gcd t b : Int) ∣ t := Int.gcd_dvd_left t b
  obtain ⟨y, hy⟩ : (Int.gcd t b : Int) ∣ b := Int.gcd_dvd_right t b
  have hgp : (0 : Int) < (Int.gcd t b : Int) := by omega
  rw [Rat.num_divInt, Rat.den_divInt, if_neg hb, Int.gcd_comm b t]
  generalize hG : (Int.gcd t b) = G at *
  have e1 : ∀ z : Int, ((G : Int) * z).fdiv G = z := fun z => by rw [Int.mul_comm]; exact Int.mul_fdiv_cancel z hg
  have e2 : ∀ z : Int, ((G : Int) * z).fdiv (-G) = -z := fun z => by
    have : (G : Int) * z = (-z) * (-(G : Int)) := by rw [Int.neg_mul_neg, Int.mul_comm]
    rw [this]; exact Int.mul_fdiv_cancel _ (by omega)
  have e3 : ∀ z : Int, ((G : Int) * z) / G = z := fun z => Int.mul_ediv_cancel_left z hg
  by_cases h : b < 0
  · rw [if_pos h] at hd
    subst hd
    have sg : b.sign = -1 := Int.sign_eq_neg_one_of_neg h
    refine ⟨?_, ?_⟩
    · rw [sg, hx, e2, show (-1 : Int) * ((G : Int) * x) = (G : Int) * (-x) from by rw [Int.mul_neg, Int.neg_mul, Int.one_mul], e3]
    · have e4 : ((b.natAbs / G : Nat) : Int) = -y := by
        rw [Int.natCast_ediv, show (b.natAbs : Int) = (G : Int) * (-y) from by rw [Int.mul_neg, ← hy]; omega, e3]
      rw [e4]
      conv => lhs; rw [hy]
      exact e2 y
  · rw [if_neg h] at hd
    subst hd
    have sg : b.sign = 1 := Int.sign_eq_one_of_pos (by omega)
    refine ⟨?_, ?_⟩
    · rw [sg, Int.one_mul]
      conv => lhs; rw [hx]
      conv => rhs; rw [hx]
      rw [e1, e3]
    · have e4 : ((b.natAbs / G : Nat) : Int) = y := by
        rw [Int.natCast_ediv, show (b.natAbs : Int) = (G : Int) * y from by rw [← hy]; omega, e3]
      rw [e4]
      conv => lhs; rw [hy]
      exact e1 y
theorem frF_of {I : Hp} {fs : List (Str × V)} {q : Rat} {n d : Int} (hn : n = q.num) (hd : d = q.den) (h : FldR I fs [("top", ⟨rInt, n⟩), ("bottom", ⟨rInt, d⟩)]) : fs = frF q := by
  subst hn; subst hd
  match fs, h with
  | [(a, u), (b, v)], ⟨e1, e2, e3, e4, _⟩ =>
    cases (show a = _ from e1); cases (show u = _ from e2); cases (show b = _ from e3); cases (show v = _ from e4)
    rfl
/-! ### the defs of exact.py -/
def n_cd (a b : Int) : Res Int := .ok (Int.gcd a b : Int)
def qInt (n : Int) : Res Rat := .ok (n : Rat)
theorem qInt_raw (n : Int) : qInt n = .stuck ∨ qInt n = qRaw n 1 := by
  right
  unfold qInt qRaw
  rw [if_neg (by decide), Res.guard_pos (by rw [Int.gcd_one]; decide)]
  congr 1
  exact Rat.ext (by rw [Rat.num_divInt]; simp) (by rw [Rat.den_divInt]; simp)
theorem vals_rev : ∀ {vs : List V} {us : List Value}, Vals vs us → Vals vs.reverse us.reverse
  | _, _, .nil => .nil
  | _, _, .cons a b => by
    rw [List.reverse_cons, List.reverse_cons]
    exact (vals_rev b).append (.cons a .nil)
theorem weak_refl : ∀ c : List (Option SF), weakC c c
  | [] => True.intro
  | none :: c => weak_refl c
  | some _ :: c => ⟨rfl, weak_refl c⟩
theorem weak_nil : weakC [] [] := True.intro
theorem weak_some {a : SF} {c d : List (Option SF)} (h : weakC c d) : weakC (some a :: c) (some a :: d) := ⟨rfl, h⟩
theorem weak_none {a : Option SF} {c d : List (Option SF)} (h : weakC c d) : weakC (a :: c) (none :: d) := h
theorem Stt.recast {I0 H0 I H : Hp} {ctx : List (Option SF)} {mem : List MF} {σ : L2.St} (s : Stt I0 H0 ctx mem I H σ) (i : Nat) {a b : SF} (hc : ctx[i]? = some (some a)) (h : ∀ v, a.r I v a.x → b.r I v b.x) : Stt I0 H0 (ctx.set i (some b)) mem I H σ := by
  refine ⟨s.fm, by rw [List.length_set]; exact s.len, fun j sf e => ?_, s.me, s.nd⟩
  by_cases hj : j = i
  · subst hj
    rw [List.getElem?_set] at e
    have hl : j < ctx.length := (List.getElem?_eq_some_iff.mp hc).1
    simp only [hl, if_true] at e
    cases e
    obtain ⟨v, e1, q⟩ := s.sl j a hc
    exact ⟨v, e1, h v q⟩
  · rw [List.getElem?_set_ne (Ne.symm hj)] at e
    exact s.sl j sf e
theorem JR.num {γ : Type} {X : Cx} {I0 H0 : Hp} {W : WX} {Kx : KnowsX} {ctx : List (Option SF)} {mem : List MF} {ss : List Stmt} {rr : Ra γ} {K : PySem.W.Frag} (i : Nat) {x : Num} {f1 : Int → Res γ} {f2 : Rat → Res γ} (k1 : ∀ n, JR X I0 H0 W Kx (Stt I0 H0 (ctx.set i (some ⟨rInt, n⟩)) mem) ss (f1 n) rr) (k2 : ∀ r, JR X I0 H0 W Kx (Stt I0 H0 (ctx.set i (some ⟨rFrac K, r⟩)) mem) ss (f2 r) rr)
    (hc : ctx[i]? = some (some ⟨rNum K, x⟩) := by rfl) : JR X I0 H0 W Kx (Stt I0 H0 ctx mem) ss (match x with | .i n => f1 n | .q r => f2 r) rr := fun I H σ D g p => by
  cases x with
  | i n => exact k1 n I H σ D (g.recast i (b := ⟨rInt, n⟩) hc fun v h => h) p
  | q r => exact k2 r I H σ D (g.recast i (b := ⟨rFrac K, r⟩) hc fun v h => h) p
theorem JR.dead {γ : Type} {X : Cx} {I0 H0 : Hp} {W : WX} {Kx : KnowsX} {G : Knows} {ss : List Stmt} {rr : Ra γ} : JR X I0 H0 W Kx G ss (.stuck : Res γ) rr := fun _ _ _ _ _ p => p.elim
theorem JN.dead {S : Type} {X : Cx} {W : WX} {Kx : KnowsX} {G : Knows} {ss : List Stmt} {G' : S → Knows} : JN X W Kx G ss (.stuck : Res S) G' := fun _ _ _ _ _ p => p.elim
theorem paired_ints (I H : Hp) : ∀ ns : List Int, Paired (rp rInt I H) (ns.map V.int) ns
  | [] => .nil
  | _ :: ns => .cons rfl (paired_ints I H ns)
/-! ### a law's cell -/
def cellAt (ns : List Int) (k : Nat) : Int := ns.getD k 0
theorem atM_nat {α : Type} {xs : List α} {k : Nat} {x : α} (h : xs[k]? = some x) : atM xs (k : Int) = .ok x := by unfold atM; rw [atI_nat h]
theorem powI_ok {x : Int} {y : Nat} (h1 : y ≤ 1000000) (h2 : x.natAbs < 2 ^ 64) : powI x (y : Int) = .ok (x ^ y) := by
  unfold powI; rw [Res.guard_pos ⟨by omega, by omega, h2⟩]; rfl
theorem mulI_ok {x y : Int} (h : x.natAbs.log2 + y.natAbs.log2 < 1000000) : mulI x y = .ok (x * y) := Res.guard_pos h _
theorem fdivI_ok {x y : Int} (h0 : y ≠ 0) (h : y.natAbs.log2 < 9000) : fdivI x y = .ok (x.fdiv y) := Res.guard_pos ⟨h0, h⟩ _
theorem log2_lt {x n : Nat} (h : x < 2 ^ (n + 1)) : x.log2 < n + 1 := by
  by_cases hx : x = 0
  · subst hx; simp
  · exact (Nat.log2_lt hx).mpr h
theorem FnOk.no {P : Program} {w : World} {K : PySem.W.Frag} {mg : Str → Option Value} {base : Heap} {k : Nat} {f : Addr} {fd : FuncData} {ps : List Str} {sp : Sp} (F : FnOk P w K mg base (L2.CX P w) k f fd ps sp) : FnOk P w K mg base CX0 k f fd ps (fun vs H Q _ => sp vs H Q fun _ _ _ => False) :=
  ⟨fun vs H Q _ h => F.len vs H Q _ h, fun A outer s H args us vs Q E hr e0 hb hv h => codeAny_mono (F.run A outer s H args us vs Q _ hr e0 hb hv h) fun r s' hq => by
    cases r with
    | error e => exact cx_false hq
    | ok fl => cases fl <;> exact hq⟩
end L2.Tr

namespace L2.Tr
open PySem PySem.Spec PyProof.Rows
/-! ### what is walked -/
/-- J walks the values vs while ok holds of the heap -/
def ItR (J : It) (vs : List V) (ok : Hp → Prop) : Prop := ∀ (i : Nat) (H : Hp), ok H → (i < vs.length → J.go i H ∧ ∀ x H', J.yld i H x H' → H' = H ∧ vs[i]? = some x) ∧ (vs.length ≤ i → J.stop i H)
theorem itr_list {K : PySem.W.Frag} {l : Addr} {vs : List V} : ItR (Itl K l) vs (fun H => SqL K H l vs) := fun i H q => ⟨fun h => ⟨⟨vs, vs[i], q, by simp [h]⟩, fun x H' y => ⟨y.1, y.2 vs q⟩⟩, fun h => ⟨vs, q, h⟩⟩
theorem itr_tup {K : PySem.W.Frag} {l : Addr} {vs : List V} : ItR (Itt K l) vs (fun H => SqT K H l vs) := fun i H q => ⟨fun h => ⟨⟨vs, vs[i], q, by simp [h]⟩, fun x H' y => ⟨y.1, y.2 vs q⟩⟩, fun h => ⟨vs, q, h⟩⟩
def rngV (lo : Int) (n : Nat) : List V := (List.range n).map fun (i : Nat) => .int (lo + (i : Int))
def rngI (lo : Int) (n : Nat) : List Int := (List.range n).map fun (i : Nat) => lo + (i : Int)
theorem itr_rng {lo : Int} {n : Nat} : ItR (Itr lo n) (rngV lo n) (fun _ => True) := fun i H _ => by
  have e : (rngV lo n).length = n := by simp [rngV]
  rw [e]
  exact ⟨fun h => ⟨h, fun x H' y => ⟨y.1, by rw [y.2]; simp [rngV, h]⟩⟩, fun h => h⟩
theorem rng_pair {I : Hp} {lo : Int} {n : Nat} : Paired (rInt I) (rngV lo n) (rngI lo n) := by
  unfold rngV rngI
  generalize List.range n = l
  induction l with
  | nil => exact .nil
  | cons a l ih => exact .cons rfl ih
def rngCV (lo c : Int) (n : Nat) : List V := (List.range n).map fun (i : Nat) => .int (lo + (i : Int) * c)
def rngCI (lo c : Int) (n : Nat) : List Int := (List.range n).map fun (i : Nat) => lo + (i : Int) * c
theorem itr_rngC {lo c : Int} {n : Nat} : ItR (Itc lo c n) (rngCV lo c n) (fun _ => True) := fun i H _ => by
  have e : (rngCV lo c n).length = n := by simp [rngCV]
  rw [e]
  exact ⟨fun h => ⟨h, fun x H' y => ⟨y.1, by rw [y.2]; simp [rngCV, h]⟩⟩, fun h => h⟩
theorem rngC_pair {I : Hp} {lo c : Int} {n : Nat} : Paired (rInt I) (rngCV lo c n) (rngCI lo c n) := by
  unfold rngCV rngCI
  generalize List.range n = l
  induction l with
  | nil => exact .nil
  | cons a l ih => exact .cons rfl ih
section
variable {α β γ δ S : Type} {X : Cx} {I0 H0 : Hp} {W : WX} {Kx : KnowsX} {G : Knows} {ctx cw : List (Option SF)} {mem : List MF} {e a b c o tg iter : Expr} {es bs : List Expr} {ss body : List Stmt} {pos pos' : Pos} {n : Str} {ra : Ra α} {rr : Ra γ} {ma : Res α}
def wI (X : Cx) (tg iter : Expr) : TI := fun σ H R => ∀ (pins : List (Addr × Obj)) (s : Shared), Inv X pins σ H s → wpAny (model X.prog X.w) X.A (eval iter X.env) (fun v s1 => wpAny (model X.prog X.w) X.A (pyIter v) (PIE X pins σ tg R) X.xe s1) X.xe s
theorem pi_W : PI X tg iter (wI X tg iter) := ⟨fun pins s _ _ _ I h => h pins s I⟩
theorem PI.w {t : TI} {σ : St} {H : Hp} {R : It → Hp → Prop} (p : PI X tg iter t) (h : t σ H R) : wI X tg iter σ H R := fun pins s I => p.run pins s σ H R I h
/-- what an iterable is worth: its items -/
def JI (X : Cx) (I0 H0 : Hp) (W : WX) (ctx : List (Option SF)) (mem : List MF) (tg iter : Expr) (m : Res (List β)) (r : Rp β) : Prop :=
  ∀ (I H : Hp) (σ : St) (R : It → Hp → Prop), Stt I0 H0 ctx mem I H σ → (match m with
    | .ok xs => ∀ I' H' J vs (okp : Hp → Prop), Fm I H I' H' → ItR J vs okp → (∀ I'' H'', Same I' I'' → Same I'' H'' → Same H0 H'' → okp H'') → Paired (r I') vs xs → R J H'
    | .err e => ∀ I' H' cls d, Fm I H I' H' → Fr H d ∧ ExR X.K I' H' e cls d → W cls d σ H'
    | .stuck => False) → wI X tg iter σ H R
theorem JI.list {r : Rp β} {m : Res (List β)} (j : JE X I0 H0 W ctx mem iter m (rp (rL r))) : JI X I0 H0 W ctx mem tg iter m r := fun I H σ R st p => by
  refine PI.w (pi_list pe_W) (j I H σ _ st ?_)
  cases m with
  | ok xs =>
    rintro I1 H1 v f1 ⟨l, vs, rfl, hl, pr⟩
    exact ⟨l, rfl, ⟨vs, SqL.of (f1.ih _ _ hl)⟩, p I1 H1 _ vs _ f1 itr_list (fun I2 H2 s1 s2 _ => SqL.of (s2 _ _ (s1 _ _ hl))) pr⟩
  | err e => exact p
  | stuck => exact p
theorem JI.tup {r : Rp β} {m : Res (List β)} (j : JE X I0 H0 W ctx mem iter m (rp (rT r))) : JI X I0 H0 W ctx mem tg iter m r := fun I H σ R st p => by
  refine PI.w (pi_tup pe_W) (j I H σ _ st ?_)
  cases m with
  | ok xs =>
    rintro I1 H1 v f1 ⟨l, vs, rfl, hl, pr⟩
    exact ⟨l, rfl, ⟨vs, SqT.of (f1.ih _ _ hl)⟩, p I1 H1 _ vs _ f1 itr_tup (fun I2 H2 s1 s2 _ => SqT.of (s2 _ _ (s1 _ _ hl))) pr⟩
  | err e => exact p
  | stuck => exact p
/-- a parameter's list -/
theorem JI.par (i : Nat) {r : Rp β} {mo : Mo (fun I v x => rdL X.K (rp r) I H0 v x)} {x : List β} [m : Mo r] (hc : ctx[i]? = some (some (@SF.mk (List β) (fun I v x => rdL X.K (rp r) I H0 v x) mo x)) := by rfl) (hN : X.N[i]? = some n := by rfl) (hv : Vis X.env.scope n := by first | exact Or.inl rfl | exact Or.inr (Or.inl rfl) | exact Or.inr (Or.inr rfl)) (hd : (n == ("__debug__" : Str)) = false := by decide)
    (hcd : (n == ("__classdict__" : Str)) = false := by decide) : JI X I0 H0 W ctx mem tg (.Name n pos) (.ok x) r := fun I H σ R st p => by
  obtain ⟨v, e, l, vs, ev, hl, pr⟩ := st.sl i _ hc
  subst ev
  refine PI.w (pi_list pe_W) (w_var i ⟨l, rfl, ⟨vs, st.fm.h.seq hl⟩, ?_⟩ e hN hv hd hcd)
  exact p I H _ vs _ (Fm.refl st.same) itr_list (fun I2 H2 s1 s2 s3 => s3.seq hl) pr
def rangeM (lo hi : Int) : Res (List Int) := Res.guard (-(2 ^ 62) ≤ lo ∧ lo < 2 ^ 62 ∧ -(2 ^ 62) ≤ hi ∧ hi < 2 ^ 62) (.ok (rngI lo (hi - lo).toNat))
def rangeM1 (hi : Int) : Res (List Int) := Res.guard (-(2 ^ 62) ≤ hi ∧ hi < 2 ^ 62) (.ok (rngI 0 hi.toNat))
theorem JI.range1 {m : Res Int} (j : JE X I0 H0 W ctx mem a m (rp rInt)) (hm : X.mg "range" = none) (hg : Gl X "range" := by rfl) (hs : starEach [a] X.env = (false, eval a X.env) :: starEach [] X.env := by rfl) : JI X I0 H0 W ctx mem tg (.Call (.Name "range" pos') [a] [] pos) (m.bind fun x => rangeM1 x) rInt := fun I H σ R st p => by
  refine PI.w (pi_range1 hg hm (pa_cons pe_W pa_nil hs) hs) (j I H σ _ st ?_)
  cases m with
  | ok x =>
    intro I1 H1 v f1 r1
    cases (show v = V.int x from r1)
    by_cases hh : -(2 ^ 62) ≤ x ∧ x < 2 ^ 62
    · have e : ((Res.ok x).bind fun x => rangeM1 x) = .ok (rngI 0 x.toNat) := Res.guard_pos hh _
      rw [e] at p
      exact ⟨x, rfl, hh.1, hh.2, p I1 H1 _ _ _ f1 itr_rng (fun _ _ _ _ _ => True.intro) rng_pair⟩
    · have e : ((Res.ok x).bind fun x => rangeM1 x) = .stuck := if_neg hh
      rw [e] at p
      exact p.elim
  | err e => exact p
  | stuck => exact p
theorem JI.range2 {m m' : Res Int} (j : JE X I0 H0 W ctx mem a m (rp rInt)) (j' : JE X I0 H0 W ctx mem b m' (rp rInt)) (hm : X.mg "range" = none) (hg : Gl X "range" := by rfl) (hs : starEach [a, b] X.env = (false, eval a X.env) :: starEach [b] X.env := by rfl) (hs2 : starEach [b] X.env = (false, eval b X.env) :: starEach [] X.env := by rfl) :
    JI X I0 H0 W ctx mem tg (.Call (.Name "range" pos') [a, b] [] pos) (m.bind fun x => m'.bind fun y => rangeM x y) rInt := fun I H σ R st p => by
  refine PI.w (pi_range2 hg hm (pa_cons pe_W (pa_cons pe_W pa_nil hs2) hs) (by rw [hs, hs2]; rfl) (by rw [hs2]; rfl)) (j I H σ _ st ?_)
  cases m with
  | ok x =>
    intro I1 H1 v f1 r1
    refine j' I1 H1 σ _ (st.step f1) ?_
    cases m' with
    | ok y =>
      intro I2 H2 v2 f2 r2
      cases (show v = V.int x from r1)
      cases (show v2 = V.int y from r2)
      by_cases hh : -(2 ^ 62) ≤ x ∧ x < 2 ^ 62 ∧ -(2 ^ 62) ≤ y ∧ y < 2 ^ 62
      · have e : ((Res.ok x).bind fun x => (Res.ok y).bind fun y => rangeM x y) = .ok (rngI x (y - x).toNat) := Res.guard_pos hh _
        rw [e] at p
        exact ⟨x, y, rfl, hh, p I2 H2 _ _ _ (f1.trans f2) itr_rng (fun _ _ _ _ _ => True.intro) rng_pair⟩
      · have e : ((Res.ok x).bind fun x => (Res.ok y).bind fun y => rangeM x y) = .stuck := if_neg hh
        rw [e] at p
        exact p.elim
    | err e => exact fun I2 H2 c d f2 x => p I2 H2 c d (f1.trans f2) ⟨x.1.back f1.h, x.2⟩
    | stuck => exact p
  | err e => exact p
  | stuck => exact p

/-! ### for: a body that goes on -/
def forS (f : β → S → Res S) : List β → S → Res S
  | [], s => .ok s
  | x :: xs, s => (f x s).bind fun s' => forS f xs s'
theorem paired_drop {F : α → β → Prop} {xs : List α} {ys : List β} (p : Paired F xs ys) (i : Nat) {x : α} (h : xs[i]? = some x) : ∃ y, ys[i]? = some y ∧ F x y := by
  have hl := Paired.length p
  have hi : i < ys.length := by rw [← hl]; exact (List.getElem?_eq_some_iff.mp h).1
  obtain ⟨x', e1, e2⟩ := paired_get p (List.getElem?_eq_getElem hi)
  rw [h] at e1
  cases e1
  exact ⟨_, List.getElem?_eq_getElem hi, e2⟩
theorem forS_drop {f : β → S → Res S} {xs : List β} {i : Nat} {x : β} (h : xs[i]? = some x) (s : S) : forS f (xs.drop i) s = (f x s).bind fun s' => forS f (xs.drop (i + 1)) s' := by
  have hi := (List.getElem?_eq_some_iff.mp h).1
  rw [List.drop_eq_getElem_cons hi]
  have : xs[i] = x := (List.getElem?_eq_some_iff.mp h).2
  rw [this]
  rfl
theorem J1.forS (j : Nat) {r : Rp β} [mo : Mo r] {m : Res (List β)} {cx : S → List (Option SF)} {me : S → List MF} {f : β → S → Res S} {s0 : S} (hp : PassesOwn (model X.prog X.w) X.A X.env X.xe) (ji : JI X I0 H0 W ctx (me s0) (.Name n pos') iter m r)
    (jb : ∀ x s, JN X W Kx (Stt I0 H0 ((cx s).set j (some ⟨r, x⟩)) (me s)) body (f x s) fun s' => Stt I0 H0 (cx s') (me s')) (hx : ∀ I H σ d, Stt I0 H0 ctx (me s0) I H σ → Fr H0 d → Kx I H σ d) (hw : weakC ctx (cx s0)) (hN : X.N.Nodup) (hc : X.calm = true := by rfl)
    (hj : X.N[j]? = some n := by rfl) (hl : Loc X.env.scope n := by first | exact Or.inl rfl | exact Or.inr rfl) (hf : X.fn n = true ∨ X.env.scope.names.lookup n = some .local := by first | exact .inl rfl | exact .inr rfl | assumption) (hs : ∀ x, foldedSetIterable iter X.env x = pure x := by intro _; rfl) :
    J1 X W Kx (Stt I0 H0 ctx (me s0)) (.For (.Name n pos') iter body [] pos) (m.bind fun xs => Tr.forS f xs s0) (fun s => Stt I0 H0 (cx s) (me s)) := fun I H σ D g p => by
  refine PS.w (ps_for hp hc pi_W (pg_name (i := j) hN hj hl hf) pss_W hs) (ji I H σ _ g ?_)
  cases m with
  | ok xs =>
    intro I1 H1 J vs okp f1 itr stay pr
    have p0 : PostB X W Kx I1 (Tr.forS f xs s0) (fun s => Stt I0 H0 (cx s) (me s)) D := PostB.up p f1.i
    have hlen := Paired.length pr
    refine ⟨fun i k σ' H' => k + i = vs.length ∧ ∃ I' s, Same I1 I' ∧ Stt I0 H0 (cx s) (me s) I' H' σ' ∧ PostB X W Kx I' (Tr.forS f (xs.drop i) s) (fun s => Stt I0 H0 (cx s) (me s)) D, ⟨vs.length, rfl, I1, s0, Same.refl _, (g.step f1).weak hw, p0⟩, ?_⟩
    rintro i k σ' H' ⟨hk, I', s, si, g', p'⟩
    have hok := stay I' H' si g'.same g'.fm.h
    by_cases hi : i < vs.length
    · obtain ⟨go, yl⟩ := (itr i H' hok).1 hi
      refine .inr ⟨go, fun σ2 H2 => ∃ I2 s2, Same I1 I2 ∧ Stt I0 H0 (cx s2) (me s2) I2 H2 σ2 ∧ PostB X W Kx I2 (Tr.forS f (xs.drop (i + 1)) s2) (fun s => Stt I0 H0 (cx s) (me s)) D, fun σ2 H2 h => ⟨k - 1, by omega, by omega, h⟩, fun v H2 hy => ?_⟩
      obtain ⟨rfl, ev⟩ := yl v H2 hy
      obtain ⟨x, ex, hr⟩ := paired_drop pr i ev
      rw [forS_drop ex] at p'
      have key := jb x s I' H2 (σ'.set j (some v)) { D with nx := fun σ2 H2 => ∃ I2 s2, Same I' I2 ∧ Stt I0 H0 (cx s2) (me s2) I2 H2 σ2 ∧ PostB X W Kx I2 (Tr.forS f (xs.drop (i + 1)) s2) (fun s => Stt I0 H0 (cx s) (me s)) D, ct := fun _ _ => False, bk := fun _ _ => False } (g'.set j (mo.up si hr)) ?_
      · refine b_mono key (fun σ2 H2 ⟨I2, s2, q1, q2, q3⟩ => ⟨I2, s2, si.trans q1, q2, q3⟩) (fun _ _ z => z) (fun _ _ z => z.elim) (fun _ _ z => z.elim)
      · revert p'
        generalize f x s = z
        intro p'
        cases z with
        | ok s2 => exact fun I2 H2 σ2 q1 q2 => ⟨I2, s2, q1, q2, PostB.up p' q1⟩
        | err e => exact p'
        | stuck => exact p'.elim
    · refine .inl ⟨(itr i H' hok).2 (by omega), ?_⟩
      have : xs.drop i = [] := List.drop_eq_nil_of_le (by omega)
      rw [this] at p'
      exact p' I' H' σ' (Same.refl _) g'
  | err e => exact fun I' H' c d f x => p I' H' σ c d (hx _ _ _ _ (g.step f) (x.1.back g.fm.h)) x.2
  | stuck => exact p.elim
end
end L2.Tr

namespace L2.Tr
open PySem PySem.Spec PyProof.Rows
/-! ### general flow: a block may go on, return, break or continue -/
inductive Fl (S L γ : Type)
  | nx (s : S)
  | rt (y : γ)
  | bk (l : L)
  | ct (l : L)
section
variable {α β γ δ S T L L' : Type}
def Fl.then (f : S → Res (Fl T L γ)) : Fl S L γ → Res (Fl T L γ)
  | .nx s => f s
  | .rt y => .ok (.rt y)
  | .bk l => .ok (.bk l)
  | .ct l => .ok (.ct l)
def Fl.out (f : S → Res γ) : Fl S L γ → Res γ
  | .nx s => f s
  | .rt y => .ok y
  | .bk _ => .stuck
  | .ct _ => .stuck
@[simp] theorem Fl.then_nx (f : S → Res (Fl T L γ)) (s : S) : Fl.then f (.nx s) = f s := rfl
@[simp] theorem Fl.then_rt (f : S → Res (Fl T L γ)) (y : γ) : Fl.then f (.rt y) = .ok (.rt y) := rfl
@[simp] theorem Fl.then_bk (f : S → Res (Fl T L γ)) (y : L) : Fl.then f (.bk y) = .ok (.bk y) := rfl
@[simp] theorem Fl.then_ct (f : S → Res (Fl T L γ)) (y : L) : Fl.then f (.ct y) = .ok (.ct y) := rfl
@[simp] theorem Fl.out_nx (f : S → Res γ) (s : S) : Fl.out (L := L) f (.nx s) = f s := rfl
@[simp] theorem Fl.out_rt (f : S → Res γ) (y : γ) : Fl.out (L := L) f (.rt y) = .ok y := rfl
def forG (f : β → S → Res (Fl S S γ)) : List β → S → Res (Fl S L γ)
  | [], s => .ok (.nx s)
  | x :: xs, s => (f x s).bind fun
    | .nx s' => forG f xs s'
    | .ct s' => forG f xs s'
    | .bk s' => .ok (.nx s')
    | .rt y => .ok (.rt y)
def whileG (c : S → Res Bool) (f : S → Res (Fl S S γ)) : Nat → S → Res (Fl S L γ)
  | 0, _ => .stuck
  | n + 1, s => (c s).bind fun b => if b = true then (f s).bind fun
    | .nx s' => whileG c f n s'
    | .ct s' => whileG c f n s'
    | .bk s' => .ok (.nx s')
    | .rt y => .ok (.rt y) else .ok (.nx s)
def PostG (X : Cx) (I0 H0 : Hp) (W : WX) (Kx : KnowsX) (I : Hp) (m : Res (Fl S L γ)) (G : S → Knows) (GL : L → Knows) (r : Ra γ) (D : Ends) : Prop := match m with
  | .ok (.nx s) => ∀ I' H' σ', Same I I' → G s I' H' σ' → D.nx σ' H'
  | .ok (.bk s) => ∀ I' H' σ', Same I I' → GL s I' H' σ' → D.bk σ' H'
  | .ok (.ct s) => ∀ I' H' σ', Same I I' → GL s I' H' σ' → D.ct σ' H'
  | .ok (.rt y) => ∀ I' H' v, Fm I0 H0 I' H' → r I' H' v y → D.rt v H'
  | .err e => ∀ I' H' σ' cls d, Kx I' H' σ' d → ExR X.K I' H' e cls d → W cls d σ' H'
  | .stuck => False
theorem PostG.up {X : Cx} {I0 H0 : Hp} {W : WX} {Kx : KnowsX} {I I1 : Hp} {m : Res (Fl S L γ)} {G : S → Knows} {GL : L → Knows} {r : Ra γ} {D : Ends} (p : PostG X I0 H0 W Kx I m G GL r D) (s : Same I I1) : PostG X I0 H0 W Kx I1 m G GL r D := by
  cases m with
  | ok a => cases a with
    | nx s => exact fun I' H' σ' q => p I' H' σ' (Same.trans ‹Same I I1› q)
    | bk s => exact fun I' H' σ' q => p I' H' σ' (Same.trans ‹Same I I1› q)
    | ct s => exact fun I' H' σ' q => p I' H' σ' (Same.trans ‹Same I I1› q)
    | rt y => exact p
  | err e => exact p
  | stuck => exact p
def J1G (X : Cx) (I0 H0 : Hp) (W : WX) (Kx : KnowsX) (G : Knows) (st : Stmt) (m : Res (Fl S L γ)) (G' : S → Knows) (GL : L → Knows) (r : Ra γ) : Prop := ∀ (I H : Hp) (σ : St) (D : Ends), G I H σ → PostG X I0 H0 W Kx I m G' GL r D → wS X st D σ H
def JG (X : Cx) (I0 H0 : Hp) (W : WX) (Kx : KnowsX) (G : Knows) (ss : List Stmt) (m : Res (Fl S L γ)) (G' : S → Knows) (GL : L → Knows) (r : Ra γ) : Prop := ∀ (I H : Hp) (σ : St) (D : Ends), G I H σ → PostG X I0 H0 W Kx I m G' GL r D → wB X ss D σ H
variable {X : Cx} {I0 H0 : Hp} {W : WX} {Kx : KnowsX} {G : Knows} {ctx : List (Option SF)} {mem : List MF} {e a b c o iter : Expr} {es bs : List Expr} {st : Stmt} {ss s1 s2 body : List Stmt} {pos pos' : Pos} {n : Str} {ra : Ra α} {rr : Ra γ} {ma : Res α} {mc : Res Bool} {GL : L → Knows}
theorem JG.nil {s : S} {G' : S → Knows} (h : ∀ I H σ, G I H σ → G' s I H σ) : JG X I0 H0 W Kx G [] (.ok (.nx s)) G' GL rr := fun I H σ D g p => b_nil (p I H σ (Same.refl _) (h _ _ _ g))
theorem JG.seq {m : Res S} {G1 : S → Knows} {f : S → Res (Fl T L γ)} {G2 : T → Knows} (j : J1 X W Kx G st m G1) (k : ∀ s, JG X I0 H0 W Kx (G1 s) ss (f s) G2 GL rr) : JG X I0 H0 W Kx G (st :: ss) (m.bind f) G2 GL rr := fun I H σ D g p => by
  refine b_cons (j I H σ _ g ?_)
  cases m with
  | ok s => exact fun I' H' σ' si g' => k s I' H' σ' D g' (PostG.up p si)
  | err e => exact p
  | stuck => exact p
theorem JG.seqG {m : Res (Fl S L γ)} {G1 : S → Knows} {f : S → Res (Fl T L γ)} {G2 : T → Knows} (j : J1G X I0 H0 W Kx G st m G1 GL rr) (k : ∀ s, JG X I0 H0 W Kx (G1 s) ss (f s) G2 GL rr) : JG X I0 H0 W Kx G (st :: ss) (m.bind (Fl.then f)) G2 GL rr := fun I H σ D g p => by
  refine b_cons (j I H σ _ g ?_)
  cases m with
  | ok a => cases a with
    | nx s => exact fun I' H' σ' si g' => k s I' H' σ' D g' (PostG.up p si)
    | bk s => exact p
    | ct s => exact p
    | rt s => exact p
  | err e => exact p
  | stuck => exact p
theorem JR.seqG {m : Res (Fl S L γ)} {G1 : S → Knows} {f : S → Res γ} (j : J1G X I0 H0 W Kx G st m G1 GL rr) (k : ∀ s, JR X I0 H0 W Kx (G1 s) ss (f s) rr) : JR X I0 H0 W Kx G (st :: ss) (m.bind (Fl.out f)) rr := fun I H σ D g p => by
  refine b_cons (j I H σ _ g ?_)
  cases m with
  | ok a => cases a with
    | nx s => exact fun I' H' σ' si g' => k s I' H' σ' D g' p
    | bk s => exact p.elim
    | ct s => exact p.elim
    | rt s => exact p
  | err e => exact p
  | stuck => exact p
theorem JG.rt {m : Res γ} {G' : S → Knows} (j : JR X I0 H0 W Kx G ss m rr) : JG X I0 H0 W Kx G ss (m.bind fun y => .ok (.rt y)) G' GL rr := fun I H σ D g p => by
  refine j I H σ D g ?_
  cases m with
  | ok y => exact p
  | err e => exact p
  | stuck => exact p
theorem J1G.of {m : Res S} {G' : S → Knows} (j : J1 X W Kx G st m G') : J1G X I0 H0 W Kx G st (m.bind fun s => .ok (.nx s)) G' GL rr := fun I H σ D g p => by
  refine j I H σ D g ?_
  cases m with
  | ok y => exact p
  | err e => exact p
  | stuck => exact p
theorem JG.ifT {m1 m2 : Res (Fl S L γ)} {G' : S → Knows} (j : JT X I0 H0 W ctx mem c mc) (k1 : JG X I0 H0 W Kx (Stt I0 H0 ctx mem) s1 m1 (fun _ _ _ _ => False) GL rr) (k2 : JG X I0 H0 W Kx (Stt I0 H0 ctx mem) ss m2 G' GL rr) (hx : ∀ I H σ d, Stt I0 H0 ctx mem I H σ → Fr H0 d → Kx I H σ d) :
    JG X I0 H0 W Kx (Stt I0 H0 ctx mem) (.If c s1 [] pos :: ss) (mc.bind fun x => if x = true then m1 else m2) G' GL rr := fun I H σ D g p => by
  refine b_cons (s_if (j I H σ _ g ?_))
  cases mc with
  | ok x =>
    intro I1 H1 v f r y hy
    cases r; cases hy
    cases x with
    | true =>
      refine iteT (b_mono (k1 I1 H1 σ { D with nx := fun _ _ => False } (g.step f) ?_) (fun _ _ z => z.elim) (fun _ _ z => z) (fun _ _ z => z) (fun _ _ z => z))
      have p1 : PostG X I0 H0 W Kx I1 m1 _ _ _ _ := PostG.up p f.i
      cases m1 with
      | ok a => cases a with
        | nx s => exact fun _ _ _ _ z => z
        | bk s => exact p1
        | ct s => exact p1
        | rt s => exact p1
      | err e => exact p1
      | stuck => exact p1
    | false => exact iteF (b_nil (k2 I1 H1 σ D (g.step f) (PostG.up p f.i)))
  | err e => exact fun I' H' c d f x => p I' H' σ c d (hx _ _ _ _ (g.step f) (x.1.back g.fm.h)) x.2
  | stuck => exact p
theorem J1G.if {m1 m2 : Res (Fl S L γ)} {G' : S → Knows} (j : JT X I0 H0 W ctx mem c mc) (k1 : JG X I0 H0 W Kx (Stt I0 H0 ctx mem) s1 m1 G' GL rr) (k2 : JG X I0 H0 W Kx (Stt I0 H0 ctx mem) s2 m2 G' GL rr) (hx : ∀ I H σ d, Stt I0 H0 ctx mem I H σ → Fr H0 d → Kx I H σ d) :
    J1G X I0 H0 W Kx (Stt I0 H0 ctx mem) (.If c s1 s2 pos) (mc.bind fun x => if x = true then m1 else m2) G' GL rr := fun I H σ D g p => by
  refine s_if (j I H σ _ g ?_)
  cases mc with
  | ok x =>
    intro I1 H1 v f r y hy
    cases r; cases hy
    cases x with
    | true => exact iteT (k1 I1 H1 σ D (g.step f) (PostG.up p f.i))
    | false => exact iteF (k2 I1 H1 σ D (g.step f) (PostG.up p f.i))
  | err e => exact fun I' H' c d f x => p I' H' σ c d (hx _ _ _ _ (g.step f) (x.1.back g.fm.h)) x.2
  | stuck => exact p
theorem JG.bk {l : L} {G' : S → Knows} (h : ∀ I H σ, G I H σ → GL l I H σ) : JG X I0 H0 W Kx G (.Break pos :: ss) (.ok (.bk l)) G' GL rr := fun I H σ D g p => b_cons (PS.w ps_break (p I H σ (Same.refl _) (h _ _ _ g)))
theorem JG.ct {l : L} {G' : S → Knows} (h : ∀ I H σ, G I H σ → GL l I H σ) : JG X I0 H0 W Kx G (.Continue pos :: ss) (.ok (.ct l)) G' GL rr := fun I H σ D g p => b_cons (PS.w ps_continue (p I H σ (Same.refl _) (h _ _ _ g)))
theorem JG.pre {G1 : Knows} {m : Res (Fl S L γ)} {G' : S → Knows} (h : ∀ I H σ, G I H σ → G1 I H σ) (j : JG X I0 H0 W Kx G1 ss m G' GL rr) : JG X I0 H0 W Kx G ss m G' GL rr := fun I H σ D g p => j I H σ D (h _ _ _ g) p
theorem JR.pre {G1 : Knows} {m : Res γ} (h : ∀ I H σ, G I H σ → G1 I H σ) (j : JR X I0 H0 W Kx G1 ss m rr) : JR X I0 H0 W Kx G ss m rr := fun I H σ D g p => j I H σ D (h _ _ _ g) p
theorem forG_drop {f : β → S → Res (Fl S S γ)} {xs : List β} {i : Nat} {x : β} (h : xs[i]? = some x) (s : S) : (forG f (xs.drop i) s : Res (Fl S L γ)) = (f x s).bind fun
    | .nx s' => forG f (xs.drop (i + 1)) s'
    | .ct s' => forG f (xs.drop (i + 1)) s'
    | .bk s' => .ok (.nx s')
    | .rt y => .ok (.rt y) := by
  have hi := (List.getElem?_eq_some_iff.mp h).1
  rw [List.drop_eq_getElem_cons hi]
  have : xs[i] = x := (List.getElem?_eq_some_iff.mp h).2
  rw [this]
  rfl
theorem J1G.forG (j : Nat) {r : Rp β} [mo : Mo r] {m : Res (List β)} {cx : S → List (Option SF)} {me : S → List MF} {f : β → S → Res (Fl S S γ)} {s0 : S} (hp : PassesOwn (model X.prog X.w) X.A X.env X.xe) (ji : JI X I0 H0 W ctx (me s0) (.Name n pos') iter m r)
    (jb : ∀ x s, JG X I0 H0 W Kx (Stt I0 H0 ((cx s).set j (some ⟨r, x⟩)) (me s)) body (f x s) (fun s' => Stt I0 H0 (cx s') (me s')) (fun s' => Stt I0 H0 (cx s') (me s')) rr) (hx : ∀ I H σ d, Stt I0 H0 ctx (me s0) I H σ → Fr H0 d → Kx I H σ d) (hw : weakC ctx (cx s0)) (hN : X.N.Nodup) (hc : X.calm = true := by rfl)
    (hj : X.N[j]? = some n := by rfl) (hl : Loc X.env.scope n := by first | exact Or.inl rfl | exact Or.inr rfl) (hf : X.fn n = true ∨ X.env.scope.names.lookup n = some .local := by first | exact .inl rfl | exact .inr rfl | assumption) (hs : ∀ x, foldedSetIterable iter X.env x = pure x := by intro _; rfl) :
    J1G X I0 H0 W Kx (Stt I0 H0 ctx (me s0)) (.For (.Name n pos') iter body [] pos) (m.bind fun xs => (Tr.forG f xs s0 : Res (Fl S L γ))) (fun s => Stt I0 H0 (cx s) (me s)) GL rr := fun I H σ D g p => by
  refine PS.w (ps_for hp hc pi_W (pg_name (i := j) hN hj hl hf) pss_W hs) (ji I H σ _ g ?_)
  cases m with
  | ok xs =>
    intro I1 H1 J vs okp f1 itr stay pr
    have p0 : PostG X I0 H0 W Kx I1 (Tr.forG f xs s0) (fun s => Stt I0 H0 (cx s) (me s)) GL rr D := PostG.up p f1.i
    have hlen := Paired.length pr
    refine ⟨fun i k σ' H' => k + i = vs.length ∧ ∃ I' s, Same I1 I' ∧ Stt I0 H0 (cx s) (me s) I' H' σ' ∧ PostG X I0 H0 W Kx I' (Tr.forG f (xs.drop i) s) (fun s => Stt I0 H0 (cx s) (me s)) GL rr D, ⟨vs.length, rfl, I1, s0, Same.refl _, (g.step f1).weak hw, p0⟩, ?_⟩
    rintro i k σ' H' ⟨hk, I', s, si, g', p'⟩
    have hok := stay I' H' si g'.same g'.fm.h
    by_cases hi : i < vs.length
    · obtain ⟨go, yl⟩ := (itr i H' hok).1 hi
      refine .inr ⟨go, fun σ2 H2 => ∃ I2 s2, Same I1 I2 ∧ Stt I0 H0 (cx s2) (me s2) I2 H2 σ2 ∧ PostG X I0 H0 W Kx I2 (Tr.forG f (xs.drop (i + 1)) s2) (fun s => Stt I0 H0 (cx s) (me s)) GL rr D, fun σ2 H2 h => ⟨k - 1, by omega, by omega, h⟩, fun v H2 hy => ?_⟩
      obtain ⟨rfl, ev⟩ := yl v H2 hy
      obtain ⟨x, ex, hr⟩ := paired_drop pr i ev
      rw [forG_drop ex] at p'
      refine jb x s I' H2 (σ'.set j (some v)) _ (g'.set j (mo.up si hr)) ?_
      revert p'
      generalize f x s = z
      intro p'
      cases z with
      | ok a => cases a with
        | nx s2 => exact fun I2 H2 σ2 q1 q2 => ⟨I2, s2, si.trans q1, q2, PostG.up p' q1⟩
        | ct s2 => exact fun I2 H2 σ2 q1 q2 => ⟨I2, s2, si.trans q1, q2, PostG.up p' q1⟩
        | bk s2 => exact p'
        | rt y => exact p'
      | err e => exact p'
      | stuck => exact p'.elim
    · refine .inl ⟨(itr i H' hok).2 (by omega), ?_⟩
      have : xs.drop i = [] := List.drop_eq_nil_of_le (by omega)
      rw [this] at p'
      exact p' I' H' σ' (Same.refl _) g'
  | err e => exact fun I' H' c d f x => p I' H' σ c d (hx _ _ _ _ (g.step f) (x.1.back g.fm.h)) x.2
  | stuck => exact p.elim
theorem J1G.whileG {fuel : Nat} {s0 : S} {cx : S → List (Option SF)} {me : S → List MF} {mc : S → Res Bool} {mf : S → Res (Fl S S γ)} (hp : PassesOwn (model X.prog X.w) X.A X.env X.xe) (jc : ∀ s, JT X I0 H0 W (cx s) (me s) c (mc s)) (jb : ∀ s, JG X I0 H0 W Kx (Stt I0 H0 (cx s) (me s)) ss (mf s) (fun s' => Stt I0 H0 (cx s') (me s')) (fun s' => Stt I0 H0 (cx s') (me s')) rr)
    (hx : ∀ s I H σ d, Stt I0 H0 (cx s) (me s) I H σ → Fr H0 d → Kx I H σ d) : J1G X I0 H0 W Kx (Stt I0 H0 (cx s0) (me s0)) (.While c ss [] pos) (Tr.whileG mc mf fuel s0 : Res (Fl S L γ)) (fun s => Stt I0 H0 (cx s) (me s)) GL rr := fun I H σ D g p => by
  refine PS.w (ps_while hp pt_W pss_W) ⟨fun k σ' H' => ∃ I' s, Stt I0 H0 (cx s) (me s) I' H' σ' ∧ PostG X I0 H0 W Kx I' (Tr.whileG mc mf k s) (fun s => Stt I0 H0 (cx s) (me s)) GL rr D, ⟨fuel, I, s0, g, p⟩, ?_⟩
  rintro k σ' H' ⟨I', s, g', p'⟩
  cases k with
  | zero => exact p'.elim
  | succ k =>
    refine jc s I' H' σ' _ g' ?_
    have p2 : PostG X I0 H0 W Kx I' ((mc s).bind fun b => if b = true then (mf s).bind fun
      | .nx s' => Tr.whileG mc mf k s'
      | .ct s' => Tr.whileG mc mf k s'
      | .bk s' => .ok (.nx s')
      | .rt y => .ok (.rt y) else .ok (.nx s)) _ GL rr D := p'
    revert p2
    generalize mc s = z
    intro p2
    cases z with
    | ok x =>
      intro I1 H1 v f r y hy
      cases r; cases hy
      cases x with
      | true =>
        refine iteT ⟨fun σ2 H2 => ∃ I2 s', Stt I0 H0 (cx s') (me s') I2 H2 σ2 ∧ PostG X I0 H0 W Kx I2 (Tr.whileG mc mf k s') (fun s => Stt I0 H0 (cx s) (me s)) GL rr D, fun σ2 H2 h => ⟨k, Nat.lt_succ_self _, h⟩, ?_⟩
        refine jb s I1 H1 σ' _ (g'.step f) ?_
        have p3 : PostG X I0 H0 W Kx I1 ((mf s).bind fun
          | .nx s' => Tr.whileG mc mf k s'
          | .ct s' => Tr.whileG mc mf k s'
          | .bk s' => .ok (.nx s')
          | .rt y => .ok (.rt y)) _ GL rr D := PostG.up p2 f.i
        revert p3
        generalize mf s = z
        intro p3
        cases z with
        | ok a => cases a with
          | nx s' => exact fun I2 H2 σ2 si g2 => ⟨I2, s', g2, PostG.up p3 si⟩
          | ct s' => exact fun I2 H2 σ2 si g2 => ⟨I2, s', g2, PostG.up p3 si⟩
          | bk s' => exact p3
          | rt y => exact p3
        | err e => exact p3
        | stuck => exact p3
      | false => exact iteF (p2 I1 H1 σ' f.i (g'.step f))
    | err e => exact fun I' H' c d f x => p2 I' H' σ' c d (hx _ _ _ _ _ (g'.step f) (x.1.back g'.fm.h)) x.2
    | stuck => exact p2.elim
end
end L2.Tr
namespace L2.Tr
open PySem PySem.Spec PyProof.Rows
def Fl.get {S L γ : Type} : Fl S L γ → Res S
  | .nx s => .ok s
  | _ => .stuck
theorem J1.ofG {S L γ : Type} {X : Cx} {I0 H0 : Hp} {W : WX} {Kx : KnowsX} {G : Knows} {st : Stmt} {m : Res (Fl S L γ)} {G' : S → Knows} {rr : Ra γ} (j : J1G X I0 H0 W Kx G st m G' (fun _ _ _ _ => False) rr) : J1 X W Kx G st (m.bind Fl.get) G' := fun I H σ D g p => by
  refine j I H σ D g ?_
  cases m with
  | ok a => cases a with
    | nx s => exact p
    | bk s => exact p.elim
    | ct s => exact p.elim
    | rt s => exact p.elim
  | err e => exact p
  | stuck => exact p
theorem tyr_bool {K : PySem.W.Frag} {t : String} {g : Bool} (h : kitB "bool" t = some g) : TyR K (rp rBl) (.type t) (fun _ => g) := fun I H v x _ e => ⟨.type "bool", by rw [show v = _ from e]; exact .base (.bl _), kit_ty h⟩
end L2.Tr

set_option exponentiation.threshold 100000
namespace L2.Tr
open PySem PySem.Spec PyProof.Rows
/-! ### fractions in plain Lean -/
abbrev big : Nat := 2 ^ 4000
def fitI (n : Int) : Prop := n.natAbs ≤ big
def fits (q : Rat) : Prop := q.num.natAbs ≤ big ∧ q.den ≤ big
instance (n : Int) : Decidable (fitI n) := inferInstanceAs (Decidable (_ ≤ _))
instance (q : Rat) : Decidable (fits q) := inferInstanceAs (Decidable (_ ∧ _))
theorem log_big {n : Nat} (h : n ≤ big) : n.log2 ≤ 4000 := by
  have := log2_mono h
  have e : big.log2 = 4000 := Nat.log2_two_pow
  omega
theorem big_mul {a b : Nat} (ha : a ≤ big) (hb : b ≤ big) : (a * b).log2 < 9000 := by
  have h1 : a * b ≤ 2 ^ 8000 := by
    have := Nat.mul_le_mul ha hb
    rwa [show big * big = 2 ^ 8000 from by rw [← Nat.pow_add]] at this
  have := log2_mono h1
  rw [Nat.log2_two_pow] at this
  omega
theorem mul_fit {a b : Int} (ha : a.natAbs ≤ big) (hb : b.natAbs ≤ big) : mulI a b = .ok (a * b) := mulI_ok (by have := log_big ha; have := log_big hb; omega)
theorem fits_int {n : Int} : fits (n : Rat) ↔ fitI n := by
  unfold fits fitI
  rw [Rat.num_intCast, Rat.den_intCast]
  exact ⟨fun h => h.1, fun h => ⟨h, Nat.one_le_two_pow⟩⟩
theorem den_nz (x : Rat) : (x.den : Int) ≠ 0 := by have := x.den_nz; omega
theorem qMk_ok {t b : Int} (hb : b ≠ 0) (hl : b.natAbs.log2 < 9000) : qMk t b = .ok (Rat.divInt t b) := by unfold qMk; rw [if_neg hb, Res.guard_pos hl]
def gQ (x : Rat) (y : Num) (r : Rat) : Res Rat := Res.guard (fits x ∧ fits y.val) (.ok r)
def gB (x : Rat) (y : Num) (r : Bool) : Res Bool := Res.guard (fits x ∧ fits y.val) (.ok r)
def qAdd (x : Rat) (y : Num) : Res Rat := gQ x y (x + y.val)
def qSub (x : Rat) (y : Num) : Res Rat := gQ x y (x - y.val)
def qMul (x : Rat) (y : Num) : Res Rat := gQ x y (x * y.val)
def qRadd (x : Rat) (y : Int) : Res Rat := gQ x (.i y) ((y : Rat) + x)
def qRsub (x : Rat) (y : Int) : Res Rat := gQ x (.i y) ((y : Rat) - x)
def qRmul (x : Rat) (y : Int) : Res Rat := gQ x (.i y) ((y : Rat) * x)
def qNeg (x : Rat) : Res Rat := Res.guard (fits x) (.ok (-x))
def qAbs (x : Rat) : Res Rat := Res.guard (fits x) (.ok (if x < 0 then -x else x))
def qBool (x : Rat) : Res Bool := .ok (!decide (x = 0))
def qEq (x : Rat) (y : Num) : Res Bool := .ok (decide (x = y.val))
def qLt (x : Rat) (y : Num) : Res Bool := gB x y (decide (x < y.val))
def qLe (x : Rat) (y : Num) : Res Bool := gB x y (decide (x ≤ y.val))
def qGt (x : Rat) (y : Num) : Res Bool := gB x y (decide (y.val < x))
def qGe (x : Rat) (y : Num) : Res Bool := gB x y (decide (y.val ≤ x))
def qAs (y : Num) : Res Rat := .ok y.val
def qOver (x : Rat) (y : Num) : Res Rat := Res.guard (fits x ∧ fits y.val) (if y.val = 0 then .err eBF else .ok (x / y.val))
theorem stuck_or {α : Type} {p : Prop} [Decidable p] {m r : Res α} (h : p → m = r) : Res.guard p m = .stuck ∨ Res.guard p m = r := by
  by_cases hp : p
  · exact .inr (by rw [Res.guard_pos hp, h hp])
  · exact .inl (if_neg hp)
theorem fd {x : Rat} (h : fits x) : ((x.den : Int)).natAbs ≤ big := by rw [Int.natAbs_natCast]; exact h.2
theorem qMk_dd {x y : Rat} (hx : fits x) (hy : fits y) (t : Int) : qMk t ((x.den : Int) * (y.den : Int)) = .ok (Rat.divInt t ((x.den : Int) * (y.den : Int))) :=
  qMk_ok (Int.mul_ne_zero (den_nz x) (den_nz y)) (by rw [Int.natAbs_mul, Int.natAbs_natCast, Int.natAbs_natCast]; exact big_mul hx.2 hy.2)
theorem qMk_d {x : Rat} (hx : fits x) (t : Int) : qMk t (x.den : Int) = .ok (Rat.divInt t (x.den : Int)) :=
  qMk_ok (den_nz x) (by rw [Int.natAbs_natCast]; have := log_big hx.2; omega)
theorem add_divs (x y : Rat) : Rat.divInt (x.num * (y.den : Int) + y.num * (x.den : Int)) ((x.den : Int) * (y.den : Int)) = x + y := by
  conv => rhs; rw [← Rat.num_divInt_den x, ← Rat.num_divInt_den y, Rat.divInt_add_divInt _ _ (den_nz x) (den_nz y)]
theorem sub_divs (x y : Rat) : Rat.divInt (x.num * (y.den : Int) - y.num * (x.den : Int)) ((x.den : Int) * (y.den : Int)) = x - y := by
  conv => rhs; rw [← Rat.num_divInt_den x, ← Rat.num_divInt_den y, Rat.divInt_sub_divInt _ _ (den_nz x) (den_nz y)]
theorem mul_divs (x y : Rat) : Rat.divInt (x.num * y.num) ((x.den : Int) * (y.den : Int)) = x * y := by
  conv => rhs; rw [← Rat.num_divInt_den x, ← Rat.num_divInt_den y, Rat.divInt_mul_divInt _ _]
theorem add_div1 (x : Rat) (n : Int) : Rat.divInt (x.num + n * (x.den : Int)) (x.den : Int) = x + (n : Rat) := by
  have := add_divs x (n : Rat)
  rw [Rat.num_intCast, Rat.den_intCast] at this
  simpa using this
theorem sub_div1 (x : Rat) (n : Int) : Rat.divInt (x.num - n * (x.den : Int)) (x.den : Int) = x - (n : Rat) := by
  have := sub_divs x (n : Rat)
  rw [Rat.num_intCast, Rat.den_intCast] at this
  simpa using this
theorem mul_div1 (x : Rat) (n : Int) : Rat.divInt (x.num * n) (x.den : Int) = x * (n : Rat) := by
  have := mul_divs x (n : Rat)
  rw [Rat.num_intCast, Rat.den_intCast] at this
  simpa using this
theorem neg_div1 (x : Rat) : Rat.divInt (-x.num) (x.den : Int) = -x := by
  conv => rhs; rw [← Rat.num_divInt_den x, Rat.neg_divInt]
theorem eq_dec (x y : Rat) : (if decide (x.num = y.num) = true then Res.ok (decide ((x.den : Int) = (y.den : Int))) else .ok false) = .ok (decide (x = y)) := by
  by_cases h : x = y
  · subst h; simp
  · rw [decide_eq_false h]
    by_cases h1 : x.num = y.num
    · rw [decide_eq_true h1, if_pos rfl, decide_eq_false]
      intro h2
      exact h (Rat.ext h1 (by exact_mod_cast h2))
    · rw [decide_eq_false h1, if_neg (by decide)]
theorem eq_dec1 (x : Rat) (n : Int) : (if decide ((x.den : Int) = 1) = true then Res.ok (decide (x.num = n)) else .ok false) = .ok (decide (x = (n : Rat))) := by
  have h := eq_dec x (n : Rat)
  rw [Rat.num_intCast, Rat.den_intCast] at h
  rw [← h]
  by_cases h1 : (x.den : Int) = 1 <;> by_cases h2 : x.num = n <;> simp [h1, h2]
theorem lt_int (x : Rat) (n : Int) : x < (n : Rat) ↔ x.num < n * (x.den : Int) := by
  rw [Rat.lt_iff, Rat.num_intCast, Rat.den_intCast]; simp
theorem le_int (x : Rat) (n : Int) : x ≤ (n : Rat) ↔ x.num ≤ n * (x.den : Int) := by
  rw [Rat.le_iff, Rat.num_intCast, Rat.den_intCast]; simp
theorem gt_int (x : Rat) (n : Int) : (n : Rat) < x ↔ n * (x.den : Int) < x.num := by
  rw [Rat.lt_iff, Rat.num_intCast, Rat.den_intCast]; simp
theorem ge_int (x : Rat) (n : Int) : (n : Rat) ≤ x ↔ n * (x.den : Int) ≤ x.num := by
  rw [Rat.le_iff, Rat.num_intCast, Rat.den_intCast]; simp
/-! ### sizes -/
def Sz (s : Nat) (q : Rat) : Prop := q.num.natAbs ≤ 2 ^ s ∧ q.den ≤ 2 ^ s
theorem Sz.fits {s : Nat} {q : Rat} (h : Sz s q) (hs : s ≤ 4000 := by decide) : fits q := ⟨Nat.le_trans h.1 (Nat.pow_le_pow_right (by decide) hs), Nat.le_trans h.2 (Nat.pow_le_pow_right (by decide) hs)⟩
theorem Sz.mono {s t : Nat} {q : Rat} (h : Sz s q) (hs : s ≤ t) : Sz t q := ⟨Nat.le_trans h.1 (Nat.pow_le_pow_right (by decide) hs), Nat.le_trans h.2 (Nat.pow_le_pow_right (by decide) hs)⟩
theorem sz_divInt {t b : Int} {s : Nat} (h1 : t.natAbs ≤ 2 ^ s) (h2 : b.natAbs ≤ 2 ^ s) : Sz s (Rat.divInt t b) := by
  by_cases hb : b = 0
  · subst hb
    rw [Rat.divInt_zero]
    exact ⟨by simp, Nat.one_le_two_pow⟩
  · refine ⟨?_, ?_⟩
    · obtain ⟨m, m0, e1, _⟩ := Rat.divInt_num_den hb (show Rat.divInt t b = ⟨(Rat.divInt t b).num, (Rat.divInt t b).den, (Rat.divInt t b).den_nz, (Rat.divInt t b).reduced⟩ from rfl)
      have h3 : t.natAbs = (Rat.divInt t b).num.natAbs * m.natAbs := by rw [← Int.natAbs_mul, ← e1]
      refine Nat.le_trans ?_ h1
      rw [h3]
      exact Nat.le_mul_of_pos_right _ (by omega)
    · rw [Rat.den_divInt, if_neg hb]
      exact Nat.le_trans (Nat.div_le_self _ _) h2
theorem sz_int {n : Int} {s : Nat} (h : n.natAbs ≤ 2 ^ s) : Sz s (n : Rat) := by
  unfold Sz
  rw [Rat.num_intCast, Rat.den_intCast]
  exact ⟨h, Nat.one_le_two_pow⟩
theorem pow2_mul {a b s t : Nat} (ha : a ≤ 2 ^ s) (hb : b ≤ 2 ^ t) : a * b ≤ 2 ^ (s + t) := by
  rw [Nat.pow_add]; exact Nat.mul_le_mul ha hb
theorem Sz.mul {s t : Nat} {x y : Rat} (hx : Sz s x) (hy : Sz t y) : Sz (s + t) (x * y) := by
  rw [← mul_divs]
  refine sz_divInt ?_ ?_
  · rw [Int.natAbs_mul]; exact pow2_mul hx.1 hy.1
  · rw [Int.natAbs_mul, Int.natAbs_natCast, Int.natAbs_natCast]; exact pow2_mul hx.2 hy.2
theorem Sz.add {s t : Nat} {x y : Rat} (hx : Sz s x) (hy : Sz t y) : Sz (s + t + 1) (x + y) := by
  rw [← add_divs]
  have a1 := pow2_mul hx.1 hy.2
  have a2 := pow2_mul hx.2 hy.1
  have a3 := pow2_mul hx.2 hy.2
  have e : 2 ^ (s + t + 1) = 2 ^ (s + t) + 2 ^ (s + t) := by rw [Nat.pow_succ]; omega
  refine sz_divInt ?_ ?_
  · refine Nat.le_trans (Int.natAbs_add_le _ _) ?_
    rw [Int.natAbs_mul, Int.natAbs_mul, Int.natAbs_natCast, Int.natAbs_natCast, Nat.mul_comm y.num.natAbs]
    omega
  · rw [Int.natAbs_mul, Int.natAbs_natCast, Int.natAbs_natCast]; omega
theorem Sz.neg {s : Nat} {x : Rat} (hx : Sz s x) : Sz s (-x) := by
  refine ⟨?_, ?_⟩
  · show (-x.num).natAbs ≤ _; rw [Int.natAbs_neg]; exact hx.1
  · exact hx.2
theorem Sz.sub {s t : Nat} {x y : Rat} (hx : Sz s x) (hy : Sz t y) : Sz (s + t + 1) (x - y) := by
  rw [Rat.sub_eq_add_neg]; exact hx.add hy.neg
theorem Sz.inv {s : Nat} {x : Rat} (hx : Sz s x) : Sz s x⁻¹ := by
  rw [Rat.inv_def]
  exact sz_divInt (by rw [Int.natAbs_natCast]; exact hx.2) hx.1
theorem Sz.div {s t : Nat} {x y : Rat} (hx : Sz s x) (hy : Sz t y) : Sz (s + t) (x / y) := by
  rw [Rat.div_def]; exact hx.mul hy.inv
theorem div_divs (x y : Rat) (h : y ≠ 0) : Rat.divInt (x.num * (y.den : Int)) ((x.den : Int) * y.num) = x / y := by
  rw [Rat.div_def, Rat.inv_def]
  conv => rhs; rw [← Rat.num_divInt_den x, Rat.divInt_mul_divInt]
theorem num_zero {y : Rat} : y.num = 0 ↔ y = 0 := Rat.num_eq_zero
theorem qMk_dn {x y : Rat} (hx : fits x) (hy : fits y) (h : y ≠ 0) (t : Int) : qMk t ((x.den : Int) * y.num) = .ok (Rat.divInt t ((x.den : Int) * y.num)) :=
  qMk_ok (Int.mul_ne_zero (den_nz x) (fun e => h (num_zero.mp e))) (by rw [Int.natAbs_mul, Int.natAbs_natCast]; exact big_mul hx.2 hy.1)
/-- m answers something that P holds of, and so the rest answers r -/
theorem bind_to {α β : Type} {m : Res α} {f : α → Res β} {r : Res β} (P : α → Prop) (h : ∃ v, m = .ok v ∧ P v) (k : ∀ v, P v → f v = r) : m.bind f = r := by
  obtain ⟨v, rfl, p⟩ := h
  exact k v p
theorem divs_lt {a b c d : Int} (hb : 0 < b) (hd : 0 < d) : Rat.divInt a b < Rat.divInt c d ↔ a * d - c * b < 0 := by
  rw [← Rat.not_le, Rat.le_iff_sub_nonneg, Rat.divInt_sub_divInt _ _ (by omega) (by omega), Rat.divInt_nonneg_iff_of_pos_right (Int.mul_pos hb hd)]
  omega
theorem int_divs {b : Int} (n : Int) (hb : b ≠ 0) : (n : Rat) = Rat.divInt (n * b) b := by
  have := Rat.divInt_mul_right (n := n) (d := 1) (a := b) hb
  rw [Int.one_mul] at this
  rw [this]
  exact Rat.ext (by rw [Rat.num_divInt]; simp) (by rw [Rat.den_divInt]; simp)
theorem divs_lt_int {a b n : Int} (hb : 0 < b) : Rat.divInt a b < (n : Rat) ↔ a - n * b < 0 := by
  have e : (n : Rat) = Rat.divInt n 1 := by have := int_divs (b := 1) n (by decide); rwa [Int.mul_one] at this
  rw [e, divs_lt hb (by decide), Int.mul_one]
theorem int_lt_divs {a b n : Int} (hb : 0 < b) : (n : Rat) < Rat.divInt a b ↔ n * b - a < 0 := by
  have e : (n : Rat) = Rat.divInt n 1 := by have := int_divs (b := 1) n (by decide); rwa [Int.mul_one] at this
  rw [e, divs_lt (by decide) hb, Int.mul_one]
theorem absN (v : Int) : (if v < 0 then -v else v) = (v.natAbs : Int) := by split <;> omega
/-! ### the guards, passed -/
theorem qAdd_ok {x : Rat} {y : Num} (hx : fits x) (hy : fits y.val) : qAdd x y = .ok (x + y.val) := Res.guard_pos ⟨hx, hy⟩ _
theorem qSub_ok {x : Rat} {y : Num} (hx : fits x) (hy : fits y.val) : qSub x y = .ok (x - y.val) := Res.guard_pos ⟨hx, hy⟩ _
theorem qMul_ok {x : Rat} {y : Num} (hx : fits x) (hy : fits y.val) : qMul x y = .ok (x * y.val) := Res.guard_pos ⟨hx, hy⟩ _
theorem qRadd_ok {x : Rat} {y : Int} (hx : fits x) (hy : fits (y : Rat)) : qRadd x y = .ok ((y : Rat) + x) := Res.guard_pos ⟨hx, hy⟩ _
theorem qRsub_ok {x : Rat} {y : Int} (hx : fits x) (hy : fits (y : Rat)) : qRsub x y = .ok ((y : Rat) - x) := Res.guard_pos ⟨hx, hy⟩ _
theorem qRmul_ok {x : Rat} {y : Int} (hx : fits x) (hy : fits (y : Rat)) : qRmul x y = .ok ((y : Rat) * x) := Res.guard_pos ⟨hx, hy⟩ _
theorem qNeg_ok {x : Rat} (hx : fits x) : qNeg x = .ok (-x) := Res.guard_pos hx _
theorem qAbs_ok {x : Rat} (hx : fits x) : qAbs x = .ok (if x < 0 then -x else x) := Res.guard_pos hx _
theorem qLt_ok {x : Rat} {y : Num} (hx : fits x) (hy : fits y.val) : qLt x y = .ok (decide (x < y.val)) := Res.guard_pos ⟨hx, hy⟩ _
theorem qLe_ok {x : Rat} {y : Num} (hx : fits x) (hy : fits y.val) : qLe x y = .ok (decide (x ≤ y.val)) := Res.guard_pos ⟨hx, hy⟩ _
theorem qGt_ok {x : Rat} {y : Num} (hx : fits x) (hy : fits y.val) : qGt x y = .ok (decide (y.val < x)) := Res.guard_pos ⟨hx, hy⟩ _
theorem qGe_ok {x : Rat} {y : Num} (hx : fits x) (hy : fits y.val) : qGe x y = .ok (decide (y.val ≤ x)) := Res.guard_pos ⟨hx, hy⟩ _
theorem qOver_ok {x : Rat} {y : Num} (hx : fits x) (hy : fits y.val) (h : y.val ≠ 0) : qOver x y = .ok (x / y.val) := by unfold qOver; rw [Res.guard_pos ⟨hx, hy⟩, if_neg h]
theorem qOver_err {x : Rat} {y : Num} (hx : fits x) (hy : fits y.val) (h : y.val = 0) : qOver x y = .err eBF := by unfold qOver; rw [Res.guard_pos ⟨hx, hy⟩, if_pos h]
end L2.Tr

namespace L2.Tr
open PySem PySem.Spec PyProof.Rows
def top (i : Nat) : Stmt := PySem.Challenge.pw_tracerline_k03_order.main.body.getD i (.Pass ⟨0, 0, 0, 0⟩)
abbrev s_law_cell : Stmt := top 8
abbrev s_law_number : Stmt := top 9
abbrev s_common_divisor : Stmt := top 5
abbrev s_Fraction_init : Stmt := inClass (top 6) 0
abbrev s_Fraction_gt : Stmt := inClass (top 6) 13
abbrev s_Fraction_ge : Stmt := inClass (top 6) 14
abbrev s_Fraction_eq : Stmt := inClass (top 6) 10
abbrev s_Fraction_lt : Stmt := inClass (top 6) 11
abbrev s_Fraction_le : Stmt := inClass (top 6) 12
abbrev s_law_signs : Stmt := top 10
abbrev s_law : Stmt := top 11
structure Txt (K : PySem.W.Frag) (mg : Str → Option Value) : Prop where
  g_law_cell : mg "_law_cell" = some (.ref (He.ga K "_law_cell"))
  k_law_cell : PySem.W.keepIn K (.ref (He.ga K "_law_cell")) = true
  n_int : mg "int" = none
  g_law_number : mg "_law_number" = some (.ref (He.ga K "_law_number"))
  k_law_number : PySem.W.keepIn K (.ref (He.ga K "_law_number")) = true
  n_abs : mg "abs" = none
  g_Fraction : mg "Fraction" = some (.ref (He.ga K "Fraction"))
  mk_Fraction : Mk K (He.ga K "Fraction") (He.ma K (He.ga K "Fraction") "__init__")
  g_law_signs : mg "_law_signs" = some (.ref (He.ga K "_law_signs"))
  k_law_signs : PySem.W.keepIn K (.ref (He.ga K "_law_signs")) = true
  n_len : mg "len" = none
  F_law_cell : ∃ fd, FunD K "_law_cell" "_law_cell" (defArgs s_law_cell) (defBody s_law_cell) (defScope s_law_cell) [] [] (He.ga K "_law_cell") fd
  F_law_number : ∃ fd, FunD K "_law_number" "_law_number" (defArgs s_law_number) (defBody s_law_number) (defScope s_law_number) [] [] (He.ga K "_law_number") fd
  F_common_divisor : ∃ fd, FunD K "common_divisor" "common_divisor" (defArgs s_common_divisor) (defBody s_common_divisor) (defScope s_common_divisor) [] [] (He.ga K "common_divisor") fd
  n_range : mg "range" = none
  n_bool : mg "bool" = none
  n_isinstance : mg "isinstance" = none
  o_Fraction : OCls K (He.ga K "Fraction")
  om_Fraction_gt : OMet K (He.ga K "Fraction") "__gt__" (He.ma K (He.ga K "Fraction") "__gt__")
  om_Fraction_ge : OMet K (He.ga K "Fraction") "__ge__" (He.ma K (He.ga K "Fraction") "__ge__")
  om_Fraction_eq : OMet K (He.ga K "Fraction") "__eq__" (He.ma K (He.ga K "Fraction") "__eq__")
  nf_Fraction : PySem.W.notFirst K (He.ga K "Fraction") (.ref (He.ga K "Fraction")) = true ∧ PySem.W.notFirst K (He.ga K "Fraction") (.type "int") = true
  om_Fraction_lt : OMet K (He.ga K "Fraction") "__lt__" (He.ma K (He.ga K "Fraction") "__lt__")
  om_Fraction_le : OMet K (He.ga K "Fraction") "__le__" (He.ma K (He.ga K "Fraction") "__le__")
  na_Fraction_top : NoAttr K (He.ga K "Fraction") "top"
  na_Fraction_bottom : NoAttr K (He.ga K "Fraction") "bottom"
  kT_Fraction_int : PySem.W.kitOne K (.ref (He.ga K "Fraction")) (.type "int") = some false
  kt_Fraction_Fraction : PySem.W.kitOne K (.ref (He.ga K "Fraction")) (.ref (He.ga K "Fraction")) = some true
  F_Fraction_gt : ∃ fd, FunD K "__gt__" "Fraction.__gt__" (defArgs s_Fraction_gt) (defBody s_Fraction_gt) (defScope s_Fraction_gt) [] [] (He.ma K (He.ga K "Fraction") "__gt__") fd
  F_Fraction_ge : ∃ fd, FunD K "__ge__" "Fraction.__ge__" (defArgs s_Fraction_ge) (defBody s_Fraction_ge) (defScope s_Fraction_ge) [] [] (He.ma K (He.ga K "Fraction") "__ge__") fd
  F_Fraction_eq : ∃ fd, FunD K "__eq__" "Fraction.__eq__" (defArgs s_Fraction_eq) (defBody s_Fraction_eq) (defScope s_Fraction_eq) [] [] (He.ma K (He.ga K "Fraction") "__eq__") fd
  F_Fraction_lt : ∃ fd, FunD K "__lt__" "Fraction.__lt__" (defArgs s_Fraction_lt) (defBody s_Fraction_lt) (defScope s_Fraction_lt) [] [] (He.ma K (He.ga K "Fraction") "__lt__") fd
  F_Fraction_le : ∃ fd, FunD K "__le__" "Fraction.__le__" (defArgs s_Fraction_le) (defBody s_Fraction_le) (defScope s_Fraction_le) [] [] (He.ma K (He.ga K "Fraction") "__le__") fd
  F_law_signs : ∃ fd, FunD K "_law_signs" "_law_signs" (defArgs s_law_signs) (defBody s_law_signs) (defScope s_law_signs) [] [] (He.ga K "_law_signs") fd
  F_law : ∃ fd, FunD K "law" "law" (defArgs s_law) (defBody s_law) (defScope s_law) [] [] (He.ga K "law") fd
  g_law : mg "law" = some (.ref (He.ga K "law"))
  F_Fraction_init : ∃ fd, FunD K "__init__" "Fraction.__init__" (defArgs s_Fraction_init) (defBody s_Fraction_init) (defScope s_Fraction_init) [.int 1] [] (He.ma K (He.ga K "Fraction") "__init__") fd
  ex_BadFraction : ExcP K mg "BadFraction"
  g_common_divisor : mg "common_divisor" = some (.ref (He.ga K "common_divisor"))
  k_common_divisor : PySem.W.keepIn K (.ref (He.ga K "common_divisor")) = true
theorem sc_law_cell : FnScope ["_law_script", "_law_k"] ["_law_script", "_law_k"] (defScope s_law_cell) := ⟨rfl, rfl, rfl, by decide +kernel, rfl, by decide +kernel, by decide +kernel⟩
def m_law_cell (p_law_script : (List Int)) (p_law_k : Int) : Res Int :=
  (((Res.ok p_law_k).bind fun a234 => (((Res.ok p_law_script).bind fun a232 => (Res.ok ()).bind fun b233 => .ok (a232, b233)).bind (fun d => .ok (d.1.length : Int))).bind fun b235 => .ok (decide (a234 < b235))).bind fun x236 => if x236 = true then ((Res.ok p_law_script).bind fun a237 => (Res.ok p_law_k).bind fun b238 => atM a237 b238) else (Res.ok (0 : Int)))
abbrev C_law_cell (P : Program) (w : World) (K : PySem.W.Frag) (mg : Str → Option Value) (base : Heap) : Prop := FnR P w K mg base (L2.CX P w) 1 (He.ga K "_law_cell") (spF K (aCons (rdL K (rp rInt)) (aCons (rp rInt) aNil)) (fun d => m_law_cell d.1 d.2.1) (rp rInt))
theorem fn_law_cell {P : Program} {w : World} {K : PySem.W.Frag} {mg : Str → Option Value} {base : Heap} (T : Txt K mg) : FnR P w K mg base (L2.CX P w) 1 (He.ga K "_law_cell") (spF K (aCons (rdL K (rp rInt)) (aCons (rp rInt) aNil)) (fun d => m_law_cell d.1 d.2.1) (rp rInt)) := by
  obtain ⟨fd, F⟩ := T.F_law_cell
  refine FnOk.fr0 (FunD.fn (k := 0) (N := ["_law_script", "_law_k"]) (ps := ["_law_script", "_law_k"]) F sc_law_cell (fun I H vs d h => ?_) (fun cdv A outer s I0 H0 E vs d hr sm h => ?_)) (F.bindsN fun _ _ _ _ _ _ us hl => match us, hl with | [_, _], _ => rfl)
  · obtain ⟨v0, _, rfl, h0, v1, _, rfl, h1, rfl⟩ := h; rfl
  obtain ⟨v0, _, rfl, h0, v1, _, rfl, h1, rfl⟩ := h
  have hx : ∀ {ctx : List (Option SF)} {mem : List MF} (I H : Hp) (σ : St) (d : Option Addr), Stt I0 H0 ctx mem I H σ → Fr H0 d → bK I0 H0 I H σ d := fun _ _ _ _ s f => ⟨s.fm, f⟩
  have tk : Takes (bx P w K mg base ["_law_script", "_law_k"] "_law_cell" (defScope s_law_cell) (He.ga K "_law_cell") cdv A outer s H0 E) (bW E) := takes_of rfl rfl rfl rfl
  obtain ⟨p_law_script, p_law_k, _⟩ := d
  exact ⟨Stt I0 H0 [some (SF.mk (fun I v x => (rdL K (rp rInt)) I H0 v x) p_law_script), some (SF.mk rInt p_law_k)] [], Stt.start sm ⟨h0, h1, ini_nil rfl⟩ rfl (by simp), (JR.ifR (JT.cmp (JE.var 1) (JE.callB (JA.cons (JE.varP 0 (r := (rdL K (rp rInt)))) JA.nil) cj_len T.n_len boot_len) opj_lt) (JR.ret (JE.ix (JE.varP 0 (r := (rdL K (rp rInt)))) (JE.var 1)) hx) (JR.ret JE.int hx) hx)⟩
theorem sc_law_number : FnScope ["_law_cell_here", "_law_choice", "_law_number_here"] ["_law_cell_here", "_law_choice"] (defScope s_law_number) := ⟨rfl, rfl, rfl, by decide +kernel, rfl, by decide +kernel, by decide +kernel⟩
def m_law_number (p_law_cell_here : Int) (p_law_choice : Int) : Res Int :=
  (((((Res.ok p_law_cell_here).bind fun a239 => (Res.ok ()).bind fun b240 => .ok (a239, b240)).bind (fun d => .ok d.1)).bind fun a253 => (((Res.ok (12 : Int)).bind fun a247 => ((Res.ok (1000 : Int)).bind fun a245 => (((Res.ok (10 : Int)).bind fun a241 => (Res.ok (60 : Int)).bind fun b242 => powI a241 b242).bind fun a243 => (Res.ok []).bind fun b244 => .ok (a243 :: b244)).bind fun b246 => .ok (a245 :: b246)).bind fun b248 => .ok (a247 :: b248)).bind fun a251 => ((Res.ok p_law_choice).bind fun a249 => (Res.ok (3 : Int)).bind fun b250 => modI a249 b250).bind fun b252 => atM a251 b252).bind fun b254 => modI a253 b254).bind fun v_law_number_here_255 => (((((Res.ok p_law_choice).bind fun a256 => (Res.ok (3 : Int)).bind fun b257 => fdivI a256 b257).bind fun a258 => (Res.ok (2 : Int)).bind fun b259 => modI a258 b259).bind fun a260 => (Res.ok (1 : Int)).bind fun b261 => .ok (decide (a260 = b261))).bind fun x262 => if x262 = true then ((Res.ok v_law_number_here_255).bind fun a263 => .ok (-a263)) else (Res.ok v_law_number_here_255)))
abbrev C_law_number (P : Program) (w : World) (K : PySem.W.Frag) (mg : Str → Option Value) (base : Heap) : Prop := FnR P w K mg base (L2.CX P w) 1 (He.ga K "_law_number") (spF K (aCons (rp rInt) (aCons (rp rInt) aNil)) (fun d => m_law_number d.1 d.2.1) (rp rInt))
theorem fn_law_number {P : Program} {w : World} {K : PySem.W.Frag} {mg : Str → Option Value} {base : Heap} (T : Txt K mg) : FnR P w K mg base (L2.CX P w) 1 (He.ga K "_law_number") (spF K (aCons (rp rInt) (aCons (rp rInt) aNil)) (fun d => m_law_number d.1 d.2.1) (rp rInt)) := by
  obtain ⟨fd, F⟩ := T.F_law_number
  refine FnOk.fr0 (FunD.fn (k := 0) (N := ["_law_cell_here", "_law_choice", "_law_number_here"]) (ps := ["_law_cell_here", "_law_choice"]) F sc_law_number (fun I H vs d h => ?_) (fun cdv A outer s I0 H0 E vs d hr sm h => ?_)) (F.bindsN fun _ _ _ _ _ _ us hl => match us, hl with | [_, _], _ => rfl)
  · obtain ⟨v0, _, rfl, h0, v1, _, rfl, h1, rfl⟩ := h; rfl
  obtain ⟨v0, _, rfl, h0, v1, _, rfl, h1, rfl⟩ := h
  have hx : ∀ {ctx : List (Option SF)} {mem : List MF} (I H : Hp) (σ : St) (d : Option Addr), Stt I0 H0 ctx mem I H σ → Fr H0 d → bK I0 H0 I H σ d := fun _ _ _ _ s f => ⟨s.fm, f⟩
  have tk : Takes (bx P w K mg base ["_law_cell_here", "_law_choice", "_law_number_here"] "_law_number" (defScope s_law_number) (He.ga K "_law_number") cdv A outer s H0 E) (bW E) := takes_of rfl rfl rfl rfl
  obtain ⟨p_law_cell_here, p_law_choice, _⟩ := d
  exact ⟨Stt I0 H0 [some (SF.mk rInt p_law_cell_here), some (SF.mk rInt p_law_choice), none] [], Stt.start sm ⟨h0, h1, ini_nil rfl⟩ rfl (by simp), (JR.seq (J1.set 2 (JE.bin (JE.callTy (JA.cons (JE.var 0) JA.nil) cj_int T.n_int boot_int) (JE.ix (JE.rd (JE.lst (JA.consL JE.int (JA.consL JE.int (JA.consL (JE.bin JE.int JE.int opj_pow) JA.nilL))))) (JE.bin (JE.var 1) JE.int opj_mod)) opj_mod) hx sc_law_number.nd) fun v_law_number_here_255 => (JR.ifR (JT.cmp (JE.bin (JE.bin (JE.var 1) JE.int opj_fdiv) JE.int opj_mod) JE.int opj_eq) (JR.ret (JE.un (JE.var 2) unj_neg) hx) (JR.ret (JE.var 2) hx) hx))⟩
theorem sc_common_divisor : FnScope ["first", "second"] ["first", "second"] (defScope s_common_divisor) := ⟨rfl, rfl, rfl, by decide +kernel, rfl, by decide +kernel, by decide +kernel⟩
def m_common_divisor (p_first : Int) (p_second : Int) : Res Int :=
  ((((Res.ok p_first).bind fun a264 => (Res.ok ()).bind fun b265 => .ok (a264, b265)).bind (fun d => .ok (if d.1 < 0 then -d.1 else d.1))).bind fun v_first_266 => ((((Res.ok p_second).bind fun a267 => (Res.ok ()).bind fun b268 => .ok (a267, b268)).bind (fun d => .ok (if d.1 < 0 then -d.1 else d.1))).bind fun v_second_269 => ((whileM (fun s270 : (Int × Int) => ((Res.ok s270.2).bind fun a271 => (Res.ok (0 : Int)).bind fun b272 => .ok (!decide (a271 = b272)))) (fun s270 => (((Res.ok s270.2).bind fun a276 => ((Res.ok s270.1).bind fun a273 => (Res.ok s270.2).bind fun b274 => modI a273 b274).bind fun b277 => .ok (a276, b277)).bind fun v275 => (Res.ok (v275.1, v275.2)))) ((v_second_269).toNat + 1) (v_first_266, v_second_269)).bind fun s270 => (Res.ok s270.1))))
abbrev C_common_divisor (P : Program) (w : World) (K : PySem.W.Frag) (mg : Str → Option Value) (base : Heap) : Prop := FnR P w K mg base (L2.CX P w) 1 (He.ga K "common_divisor") (spF K (aCons (rp rInt) (aCons (rp rInt) aNil)) (fun d => n_cd d.1 d.2.1) (rp rInt))
theorem fn_common_divisor {P : Program} {w : World} {K : PySem.W.Frag} {mg : Str → Option Value} {base : Heap} (T : Txt K mg) : FnR P w K mg base (L2.CX P w) 1 (He.ga K "common_divisor") (spF K (aCons (rp rInt) (aCons (rp rInt) aNil)) (fun d => m_common_divisor d.1 d.2.1) (rp rInt)) := by
  obtain ⟨fd, F⟩ := T.F_common_divisor
  refine FnOk.fr0 (FunD.fn (k := 0) (N := ["first", "second"]) (ps := ["first", "second"]) F sc_common_divisor (fun I H vs d h => ?_) (fun cdv A outer s I0 H0 E vs d hr sm h => ?_)) (F.bindsN fun _ _ _ _ _ _ us hl => match us, hl with | [_, _], _ => rfl)
  · obtain ⟨v0, _, rfl, h0, v1, _, rfl, h1, rfl⟩ := h; rfl
  obtain ⟨v0, _, rfl, h0, v1, _, rfl, h1, rfl⟩ := h
  have hx : ∀ {ctx : List (Option SF)} {mem : List MF} (I H : Hp) (σ : St) (d : Option Addr), Stt I0 H0 ctx mem I H σ → Fr H0 d → bK I0 H0 I H σ d := fun _ _ _ _ s f => ⟨s.fm, f⟩
  have tk : Takes (bx P w K mg base ["first", "second"] "common_divisor" (defScope s_common_divisor) (He.ga K "common_divisor") cdv A outer s H0 E) (bW E) := takes_of rfl rfl rfl rfl
  have hp : PassesOwn (model P w) (bx P w K mg base ["first", "second"] "common_divisor" (defScope s_common_divisor) (He.ga K "common_divisor") cdv A outer s H0 E).A (bx P w K mg base ["first", "second"] "common_divisor" (defScope s_common_divisor) (He.ga K "common_divisor") cdv A outer s H0 E).env (bx P w K mg base ["first", "second"] "common_divisor" (defScope s_common_divisor) (He.ga K "common_divisor") cdv A outer s H0 E).xe := passes_of rfl
  obtain ⟨p_first, p_second, _⟩ := d
  exact ⟨Stt I0 H0 [some (SF.mk rInt p_first), some (SF.mk rInt p_second)] [], Stt.start sm ⟨h0, h1, ini_nil rfl⟩ rfl (by simp), (JR.seq (J1.set 0 (JE.callB (JA.cons (JE.var 0) JA.nil) cj_abs T.n_abs boot_abs) hx sc_common_divisor.nd) fun v_first_266 => (JR.seq (J1.set 1 (JE.callB (JA.cons (JE.var 1) JA.nil) cj_abs T.n_abs boot_abs) hx sc_common_divisor.nd) fun v_second_269 => (JR.seq (J1.while (S := (Int × Int)) (cx := fun s270 => [some (SF.mk rInt s270.1), some (SF.mk rInt s270.2)]) (me := fun _ => []) (s0 := (v_first_266, v_second_269)) (fuel := (v_second_269).toNat + 1) hp (fun s270 => (JT.cmp (JE.var 1) JE.int opj_ne)) (fun s270 => (JN.seq (J1.par 0 1 (JE.var 1) (JE.bin (JE.var 0) (JE.var 1) opj_mod) hx sc_common_divisor.nd) fun v275 => (JN.nil fun _ _ _ h => h))) fun _ => hx) fun s270 => (JR.ret (JE.var 0) hx))))⟩
theorem nice_common_divisor : ∀ d : Int × Int × Unit, n_cd d.1 d.2.1 = .stuck ∨ n_cd d.1 d.2.1 = m_common_divisor d.1 d.2.1 := fun ⟨a, b, _⟩ => by
  right
  show Res.ok _ = m_common_divisor a b
  have e : m_common_divisor a b = (whileM _ _ ((absI b).toNat + 1) (absI a, absI b)).bind fun s => .ok s.1 := rfl
  rw [e, absI_eq a, absI_eq b]
  simp only [Res.ok_bind]
  rw [cd_loop (fun s => rfl) (fun s h => by simp only [Res.ok_bind, modI_ok h]) _ _ _ (by omega)]
  simp only [Res.ok_bind, Int.gcd, Nat.gcd_comm b.natAbs]
theorem sc_Fraction_init : FnScope ["self", "top", "bottom", "divisor"] ["self", "top", "bottom"] (defScope s_Fraction_init) := ⟨rfl, rfl, rfl, by decide +kernel, rfl, by decide +kernel, by decide +kernel⟩
def mi_Fraction (top bottom : Int) : Res (Int × Int) :=
  (((Res.ok bottom).bind fun a => (Res.ok (0 : Int)).bind fun b => .ok (decide (a = b))).bind fun x => if x = true then (Res.err eBF : Res Unit) else .ok ()).bind fun _ =>
  (((Res.ok top).bind fun a => ((Res.ok bottom).bind fun b => (Res.ok ()).bind fun c => .ok (b, c)).bind fun d => .ok (a, d)).bind fun d => n_cd d.1 d.2.1).bind fun dv =>
  (((Res.ok bottom).bind fun a => (Res.ok (0 : Int)).bind fun b => .ok (decide (a < b))).bind fun x => if x = true then ((Res.ok dv).bind fun a => .ok (-a)).bind fun v => (Res.ok v) else .ok dv).bind fun s =>
  ((Res.ok top).bind fun a => (Res.ok s).bind fun b => fdivI a b).bind fun x =>
  ((Res.ok bottom).bind fun a => (Res.ok s).bind fun b => fdivI a b).bind fun y => .ok (x, y)
theorem mi_Fraction_eq (t b : Int) : mi_Fraction t b = (qRaw t b).bind fun q => .ok (q.num, (q.den : Int)) := by
  unfold mi_Fraction qRaw
  simp only [Res.ok_bind, n_cd]
  by_cases hb : b = 0
  · simp [hb]
  · simp only [hb, decide_false, Bool.false_eq_true, if_false, Res.ok_bind]
    have key : ∀ dv : Int, dv = (if b < 0 then -(Int.gcd t b : Int) else (Int.gcd t b : Int)) → (fdivI t dv).bind (fun x => (fdivI b dv).bind fun y => .ok (x, y)) = (Res.guard ((Int.gcd t b).log2 < 9000) (.ok (Rat.divInt t b))).bind fun q => .ok (q.num, (q.den : Int)) := fun dv hd => by
      obtain ⟨e1, e2⟩ := div_num hb dv hd
      have hg : Int.gcd t b ≠ 0 := fun h => hb (Int.gcd_eq_zero_iff.mp h).2
      have na : dv.natAbs = Int.gcd t b := by rw [hd]; split <;> omega
      have nz : dv ≠ 0 := by omega
      unfold fdivI
      rw [na]
      by_cases hl : (Int.gcd t b).log2 < 9000
      · rw [Res.guard_pos ⟨nz, hl⟩, Res.guard_pos ⟨nz, hl⟩, Res.guard_pos hl, e1, e2]; rfl
      · unfold Res.guard; rw [if_neg (fun h => hl h.2), if_neg hl]; rfl
    by_cases hlt : b < 0
    · simp only [hlt, decide_true, if_true, Res.ok_bind]
      exact key _ (by rw [if_pos hlt])
    · simp only [hlt, decide_false, Bool.false_eq_true, if_false, Res.ok_bind]
      exact key _ (by rw [if_neg hlt])
theorem in_Fraction {P : Program} {w : World} {K : PySem.W.Frag} {mg : Str → Option Value} {base : Heap} (T : Txt K mg) (c_common_divisor : C_common_divisor P w K mg base) {fd : FuncData} (F : FunD K "__init__" "Fraction.__init__" (defArgs s_Fraction_init) (defBody s_Fraction_init) (defScope s_Fraction_init) [.int 1] [] (He.ma K (He.ga K "Fraction") "__init__") fd) :
    FnOk P w K mg base (L2.CX P w) 2 (He.ma K (He.ga K "Fraction") "__init__") fd ["self", "top", "bottom"] (spI K (He.ga K "Fraction") (aCons (rp rInt) (aCons (rp rInt) aNil)) (fun d => qRaw d.1 d.2.1) (rp (rFrac K))) := by
  refine FunD.init (k := 1) (N := ["self", "top", "bottom", "divisor"]) (S := Int × Int) F sc_Fraction_init (fun I H vs d h => ?_) (fun cdv A outer s I0 H0 H1 E vs d y dx hr sm h n1 n2 n3 eH => ?_)
  · obtain ⟨v0, _, rfl, h0, v1, _, rfl, h1, rfl⟩ := h; rfl
  obtain ⟨v0, _, rfl, h0, v1, _, rfl, h1, rfl⟩ := h
  obtain ⟨t, b, _⟩ := d
  have hx : ∀ {ctx : List (Option SF)} {mem : List MF} (I H : Hp) (σ : St) (d : Option Addr), Stt I0 H0 ctx mem I H σ → Fr H0 d → bK I0 H0 I H σ d := fun _ _ _ _ s f => ⟨s.fm, f⟩
  have tk : Takes (bx P w K mg base ["self", "top", "bottom", "divisor"] "Fraction.__init__" (defScope s_Fraction_init) (He.ma K (He.ga K "Fraction") "__init__") cdv A outer s H1 E) (bW E) := takes_of rfl rfl rfl rfl
  refine ⟨Stt I0 H0 [some ⟨rRef y, ()⟩, some ⟨rInt, t⟩, some ⟨rInt, b⟩, none] [.ins y (He.ga K "Fraction") dx []], Int × Int, mi_Fraction t b, fun s I H σ => ∃ ctx, Stt I0 H0 ctx [.ins y (He.ga K "Fraction") dx [("top", ⟨rInt, s.1⟩), ("bottom", ⟨rInt, s.2⟩)]] I H σ, ?_, ?_, ?_⟩
  · subst eH
    exact Stt.fresh sm n1 n2 n3 rfl fun i sf e => IniR.get (n := 1) (vs := [.ref y, v0, v1]) (c := [some ⟨rRef y, ()⟩, some ⟨rInt, t⟩, some ⟨rInt, b⟩, none]) ⟨rfl, h0, h1, ini_nil rfl⟩ i sf e
  · exact JN.seq (J1.if (S := Unit) (G' := fun _ => Stt I0 H0 [some ⟨rRef y, ()⟩, some ⟨rInt, t⟩, some ⟨rInt, b⟩, none] [.ins y (He.ga K "Fraction") dx []]) (JT.cmp (JE.var 2) JE.int opj_eq) (JN.last (J1.raiseP rfl tk T.ex_BadFraction hx)) (JN.nil fun _ _ _ h => h) hx) fun _ =>
      JN.seq (J1.set 3 (JE.call (JA.cons (JE.var 1) (JA.cons (JE.var 2) JA.nil)) (cj_of c_common_divisor (hr.mono (by decide)) tk) T.g_common_divisor T.k_common_divisor) hx sc_Fraction_init.nd) fun dv =>
      JN.seq (J1.if (S := Int) (G' := fun s => Stt I0 H0 [some ⟨rRef y, ()⟩, some ⟨rInt, t⟩, some ⟨rInt, b⟩, some ⟨rInt, s⟩] [.ins y (He.ga K "Fraction") dx []]) (JT.cmp (JE.var 2) JE.int opj_lt) (JN.seq (J1.set 3 (JE.un (JE.var 3) unj_neg) hx sc_Fraction_init.nd) fun v => JN.nil fun _ _ _ h => h) (JN.nil fun _ _ _ h => h) hx) fun s =>
      JN.seq (J1.sfld 0 (JE.bin (JE.var 1) (JE.var 3) opj_fdiv) T.o_Fraction.cl T.na_Fraction_top (by decide) hx) fun x =>
      JN.seq (J1.sfld 0 (JE.bin (JE.var 2) (JE.var 3) opj_fdiv) T.o_Fraction.cl T.na_Fraction_bottom (by simp [putG]) hx) fun y' => JN.nil fun _ _ _ h => ⟨_, h⟩
  · rw [mi_Fraction_eq]
    dsimp only
    generalize qRaw t b = z
    cases z with
    | err e => rfl
    | stuck => rfl
    | ok q =>
      refine ⟨q, rfl, fun I' H' σ' ⟨ctx, g⟩ => ?_⟩
      obtain ⟨o, e1, ⟨fs, e2, hf⟩, g2, sm2⟩ := g.freeze
      exact ⟨_, g2.fm, y, dx, rfl, by show upd I' y o y = _; rw [upd_same, e2, frF_of rfl rfl hf]⟩
abbrev C_Fraction_2 (P : Program) (w : World) (K : PySem.W.Frag) (mg : Str → Option Value) (base : Heap) : Prop := MkR P w K mg base 3 (He.ga K "Fraction") (aCons (rp rInt) (aCons (rp rInt) aNil)) (fun d => qMk d.1 d.2.1) (rp (rFrac K))
theorem fn_Fraction_2 {P : Program} {w : World} {K : PySem.W.Frag} {mg : Str → Option Value} {base : Heap} (T : Txt K mg) (c_common_divisor : C_common_divisor P w K mg base) : C_Fraction_2 P w K mg base := by
  obtain ⟨fd, F⟩ := T.F_Fraction_init
  obtain ⟨ds, hd, hb⟩ := FunD.binds1 (ps := ["self", "top", "bottom"]) F 3 1 (by simp) rfl fun T kV doc pm an cdv ct us its hl hi => match us, hl, its, hi with | [_, _, _], _, [_], _ => ⟨_, rfl, rfl⟩
  exact MkR.nice (mkR_of (h := fun d => d) T.mk_Fraction (in_Fraction T c_common_divisor F) hb hd fun I H vs d h => by rw [show List.drop 1 [V.int 1] = [] from rfl, List.append_nil]; exact h) fun d => qMk_raw d.1 d.2.1

theorem sc_Fraction_gt : FnScope ["self", "other"] ["self", "other"] (defScope s_Fraction_gt) := ⟨rfl, rfl, rfl, by decide +kernel, rfl, by decide +kernel, by decide +kernel⟩
def m_Fraction_gt (p_self : Rat) (p_other : Num) : Res Bool :=
  (match p_other with | .i p_other_i => (((Res.ok p_other_i).bind fun a546 => .ok true).bind fun x547 => if x547 = true then (((Res.ok p_self).bind fun a548 => .ok a548.num).bind fun a552 => ((Res.ok p_other_i).bind fun a550 => ((Res.ok p_self).bind fun a549 => .ok (a549.den : Int)).bind fun b551 => mulI a550 b551).bind fun b553 => .ok (decide (a552 > b553))) else .stuck) | .q p_other_q => (((Res.ok p_other_q).bind fun a554 => .ok false).bind fun x555 => if x555 = true then .stuck else ((((Res.ok p_other_q).bind fun a556 => .ok true).bind fun a557 => .ok (!a557)).bind fun x558 => if x558 = true then .stuck else ((((Res.ok p_self).bind fun a559 => .ok a559.num).bind fun a561 => ((Res.ok p_other_q).bind fun a560 => .ok (a560.den : Int)).bind fun b562 => mulI a561 b562).bind fun a567 => (((Res.ok p_other_q).bind fun a563 => .ok a563.num).bind fun a565 => ((Res.ok p_self).bind fun a564 => .ok (a564.den : Int)).bind fun b566 => mulI a565 b566).bind fun b568 => .ok (decide (a567 > b568))))))
abbrev C_Fraction_gt (P : Program) (w : World) (K : PySem.W.Frag) (mg : Str → Option Value) (base : Heap) : Prop := FnR P w K mg base (L2.CX P w) 1 (He.ma K (He.ga K "Fraction") "__gt__") (spF K (aCons (rp (rFrac K)) (aCons (rp (rNum K)) aNil)) (fun d => qGt d.1 d.2.1) (rp rBl))
theorem fn_Fraction_gt {P : Program} {w : World} {K : PySem.W.Frag} {mg : Str → Option Value} {base : Heap} (T : Txt K mg) : FnR P w K mg base (L2.CX P w) 1 (He.ma K (He.ga K "Fraction") "__gt__") (spF K (aCons (rp (rFrac K)) (aCons (rp (rNum K)) aNil)) (fun d => m_Fraction_gt d.1 d.2.1) (rp rBl)) := by
  obtain ⟨fd, F⟩ := T.F_Fraction_gt
  refine FnOk.fr0 (FunD.fn (k := 0) (N := ["self", "other"]) (ps := ["self", "other"]) F sc_Fraction_gt (fun I H vs d h => ?_) (fun cdv A outer s I0 H0 E vs d hr sm h => ?_)) (F.bindsN fun _ _ _ _ _ _ us hl => match us, hl with | [_, _], _ => rfl)
  · obtain ⟨v0, _, rfl, h0, v1, _, rfl, h1, rfl⟩ := h; rfl
  obtain ⟨v0, _, rfl, h0, v1, _, rfl, h1, rfl⟩ := h
  have hx : ∀ {ctx : List (Option SF)} {mem : List MF} (I H : Hp) (σ : St) (d : Option Addr), Stt I0 H0 ctx mem I H σ → Fr H0 d → bK I0 H0 I H σ d := fun _ _ _ _ s f => ⟨s.fm, f⟩
  have tk : Takes (bx P w K mg base ["self", "other"] "Fraction.__gt__" (defScope s_Fraction_gt) (He.ma K (He.ga K "Fraction") "__gt__") cdv A outer s H0 E) (bW E) := takes_of rfl rfl rfl rfl
  obtain ⟨p_self, p_other, _⟩ := d
  exact ⟨Stt I0 H0 [some (SF.mk (rFrac K) p_self), some (SF.mk (rNum K) p_other)] [], Stt.start sm ⟨h0, h1, ini_nil rfl⟩ rfl (by simp), (JR.num (K := K) 1 (fun p_other_i => (JR.ifR (JT.of (JE.isi (JE.var 1) (w_type_at T.n_int (by decide +kernel) rfl (by decide) (by decide)) (.ty _) (tyr_int (t := "int") (by decide +kernel)) T.n_isinstance)) (JR.ret (JE.cmp (JE.fld (JE.var 0) fld_top T.o_Fraction.cl T.na_Fraction_top) (JE.bin (JE.var 1) (JE.fld (JE.var 0) fld_bottom T.o_Fraction.cl T.na_Fraction_bottom) opj_mul) opj_gt) hx) JR.dead hx)) (fun p_other_q => (JR.ifR (JT.of (JE.isi (JE.var 1) (w_type_at T.n_int (by decide +kernel) rfl (by decide) (by decide)) (.ty _) (tyr_ins T.o_Fraction insF T.kT_Fraction_int) T.n_isinstance)) JR.dead (JR.ifR (JT.not (JT.of (JE.isi (JE.var 1) (w_glob_at T.g_Fraction rfl (by decide)) (.own _) (tyr_ins T.o_Fraction insF T.kt_Fraction_Fraction) T.n_isinstance))) JR.dead (JR.ret (JE.cmp (JE.bin (JE.fld (JE.var 0) fld_top T.o_Fraction.cl T.na_Fraction_top) (JE.fld (JE.var 1) fld_bottom T.o_Fraction.cl T.na_Fraction_bottom) opj_mul) (JE.bin (JE.fld (JE.var 1) fld_top T.o_Fraction.cl T.na_Fraction_top) (JE.fld (JE.var 0) fld_bottom T.o_Fraction.cl T.na_Fraction_bottom) opj_mul) opj_gt) hx) hx) hx)))⟩
theorem nice_Fraction_gt : ∀ d : Rat × Num × Unit, qGt d.1 d.2.1 = .stuck ∨ qGt d.1 d.2.1 = m_Fraction_gt d.1 d.2.1 := fun ⟨x, y, _⟩ => by
  cases y with
  | i n =>
      refine stuck_or fun h => ?_
      obtain ⟨hx, hn⟩ := h
      dsimp only at hx ⊢
      have hn := fits_int.mp hn
      simp only [m_Fraction_gt, Res.ok_bind, Bool.not_true, Bool.not_false, Bool.false_eq_true, if_true, if_false, mul_fit hn (fd hx)]
      exact congrArg Res.ok (decide_eq_decide.mpr (gt_int x n))
  | q y =>
      refine stuck_or fun h => ?_
      obtain ⟨hx, hy⟩ := h
      dsimp only at hx ⊢
      have hy : fits y := hy
      simp only [m_Fraction_gt, Res.ok_bind, Bool.not_true, Bool.not_false, Bool.false_eq_true, if_true, if_false, mul_fit hx.1 (fd hy), mul_fit hy.1 (fd hx)]
      exact congrArg Res.ok (decide_eq_decide.mpr (Rat.lt_iff y x))
theorem sc_Fraction_ge : FnScope ["self", "other"] ["self", "other"] (defScope s_Fraction_ge) := ⟨rfl, rfl, rfl, by decide +kernel, rfl, by decide +kernel, by decide +kernel⟩
def m_Fraction_ge (p_self : Rat) (p_other : Num) : Res Bool :=
  (match p_other with | .i p_other_i => (((Res.ok p_other_i).bind fun a569 => .ok true).bind fun x570 => if x570 = true then (((Res.ok p_self).bind fun a571 => .ok a571.num).bind fun a575 => ((Res.ok p_other_i).bind fun a573 => ((Res.ok p_self).bind fun a572 => .ok (a572.den : Int)).bind fun b574 => mulI a573 b574).bind fun b576 => .ok (decide (a575 ≥ b576))) else .stuck) | .q p_other_q => (((Res.ok p_other_q).bind fun a577 => .ok false).bind fun x578 => if x578 = true then .stuck else ((((Res.ok p_other_q).bind fun a579 => .ok true).bind fun a580 => .ok (!a580)).bind fun x581 => if x581 = true then .stuck else ((((Res.ok p_self).bind fun a582 => .ok a582.num).bind fun a584 => ((Res.ok p_other_q).bind fun a583 => .ok (a583.den : Int)).bind fun b585 => mulI a584 b585).bind fun a590 => (((Res.ok p_other_q).bind fun a586 => .ok a586.num).bind fun a588 => ((Res.ok p_self).bind fun a587 => .ok (a587.den : Int)).bind fun b589 => mulI a588 b589).bind fun b591 => .ok (decide (a590 ≥ b591))))))
abbrev C_Fraction_ge (P : Program) (w : World) (K : PySem.W.Frag) (mg : Str → Option Value) (base : Heap) : Prop := FnR P w K mg base (L2.CX P w) 1 (He.ma K (He.ga K "Fraction") "__ge__") (spF K (aCons (rp (rFrac K)) (aCons (rp (rNum K)) aNil)) (fun d => qGe d.1 d.2.1) (rp rBl))
theorem fn_Fraction_ge {P : Program} {w : World} {K : PySem.W.Frag} {mg : Str → Option Value} {base : Heap} (T : Txt K mg) : FnR P w K mg base (L2.CX P w) 1 (He.ma K (He.ga K "Fraction") "__ge__") (spF K (aCons (rp (rFrac K)) (aCons (rp (rNum K)) aNil)) (fun d => m_Fraction_ge d.1 d.2.1) (rp rBl)) := by
  obtain ⟨fd, F⟩ := T.F_Fraction_ge
  refine FnOk.fr0 (FunD.fn (k := 0) (N := ["self", "other"]) (ps := ["self", "other"]) F sc_Fraction_ge (fun I H vs d h => ?_) (fun cdv A outer s I0 H0 E vs d hr sm h => ?_)) (F.bindsN fun _ _ _ _ _ _ us hl => match us, hl with | [_, _], _ => rfl)
  · obtain ⟨v0, _, rfl, h0, v1, _, rfl, h1, rfl⟩ := h; rfl
  obtain ⟨v0, _, rfl, h0, v1, _, rfl, h1, rfl⟩ := h
  have hx : ∀ {ctx : List (Option SF)} {mem : List MF} (I H : Hp) (σ : St) (d : Option Addr), Stt I0 H0 ctx mem I H σ → Fr H0 d → bK I0 H0 I H σ d := fun _ _ _ _ s f => ⟨s.fm, f⟩
  have tk : Takes (bx P w K mg base ["self", "other"] "Fraction.__ge__" (defScope s_Fraction_ge) (He.ma K (He.ga K "Fraction") "__ge__") cdv A outer s H0 E) (bW E) := takes_of rfl rfl rfl rfl
  obtain ⟨p_self, p_other, _⟩ := d
  exact ⟨Stt I0 H0 [some (SF.mk (rFrac K) p_self), some (SF.mk (rNum K) p_other)] [], Stt.start sm ⟨h0, h1, ini_nil rfl⟩ rfl (by simp), (JR.num (K := K) 1 (fun p_other_i => (JR.ifR (JT.of (JE.isi (JE.var 1) (w_type_at T.n_int (by decide +kernel) rfl (by decide) (by decide)) (.ty _) (tyr_int (t := "int") (by decide +kernel)) T.n_isinstance)) (JR.ret (JE.cmp (JE.fld (JE.var 0) fld_top T.o_Fraction.cl T.na_Fraction_top) (JE.bin (JE.var 1) (JE.fld (JE.var 0) fld_bottom T.o_Fraction.cl T.na_Fraction_bottom) opj_mul) opj_ge) hx) JR.dead hx)) (fun p_other_q => (JR.ifR (JT.of (JE.isi (JE.var 1) (w_type_at T.n_int (by decide +kernel) rfl (by decide) (by decide)) (.ty _) (tyr_ins T.o_Fraction insF T.kT_Fraction_int) T.n_isinstance)) JR.dead (JR.ifR (JT.not (JT.of (JE.isi (JE.var 1) (w_glob_at T.g_Fraction rfl (by decide)) (.own _) (tyr_ins T.o_Fraction insF T.kt_Fraction_Fraction) T.n_isinstance))) JR.dead (JR.ret (JE.cmp (JE.bin (JE.fld (JE.var 0) fld_top T.o_Fraction.cl T.na_Fraction_top) (JE.fld (JE.var 1) fld_bottom T.o_Fraction.cl T.na_Fraction_bottom) opj_mul) (JE.bin (JE.fld (JE.var 1) fld_top T.o_Fraction.cl T.na_Fraction_top) (JE.fld (JE.var 0) fld_bottom T.o_Fraction.cl T.na_Fraction_bottom) opj_mul) opj_ge) hx) hx) hx)))⟩
theorem nice_Fraction_ge : ∀ d : Rat × Num × Unit, qGe d.1 d.2.1 = .stuck ∨ qGe d.1 d.2.1 = m_Fraction_ge d.1 d.2.1 := fun ⟨x, y, _⟩ => by
  cases y with
  | i n =>
      refine stuck_or fun h => ?_
      obtain ⟨hx, hn⟩ := h
      dsimp only at hx ⊢
      have hn := fits_int.mp hn
      simp only [m_Fraction_ge, Res.ok_bind, Bool.not_true, Bool.not_false, Bool.false_eq_true, if_true, if_false, mul_fit hn (fd hx)]
      exact congrArg Res.ok (decide_eq_decide.mpr (ge_int x n))
  | q y =>
      refine stuck_or fun h => ?_
      obtain ⟨hx, hy⟩ := h
      dsimp only at hx ⊢
      have hy : fits y := hy
      simp only [m_Fraction_ge, Res.ok_bind, Bool.not_true, Bool.not_false, Bool.false_eq_true, if_true, if_false, mul_fit hx.1 (fd hy), mul_fit hy.1 (fd hx)]
      exact congrArg Res.ok (decide_eq_decide.mpr (Rat.le_iff y x))
theorem sc_Fraction_eq : FnScope ["self", "other"] ["self", "other"] (defScope s_Fraction_eq) := ⟨rfl, rfl, rfl, by decide +kernel, rfl, by decide +kernel, by decide +kernel⟩
def m_Fraction_eq (p_self : Rat) (p_other : Num) : Res Bool :=
  (match p_other with | .i p_other_i => (((Res.ok p_other_i).bind fun a592 => .ok true).bind fun x593 => if x593 = true then ((((Res.ok p_self).bind fun a594 => .ok (a594.den : Int)).bind fun a595 => (Res.ok (1 : Int)).bind fun b596 => .ok (decide (a595 = b596))).bind fun a600 => if a600 = true then (((Res.ok p_self).bind fun a597 => .ok a597.num).bind fun a598 => (Res.ok p_other_i).bind fun b599 => .ok (decide (a598 = b599))) else .ok false) else .stuck) | .q p_other_q => (((Res.ok p_other_q).bind fun a601 => .ok false).bind fun x602 => if x602 = true then .stuck else ((((Res.ok p_other_q).bind fun a603 => .ok true).bind fun a604 => .ok (!a604)).bind fun x605 => if x605 = true then .stuck else ((((Res.ok p_self).bind fun a606 => .ok a606.num).bind fun a608 => ((Res.ok p_other_q).bind fun a607 => .ok a607.num).bind fun b609 => .ok (decide (a608 = b609))).bind fun a614 => if a614 = true then (((Res.ok p_self).bind fun a610 => .ok (a610.den : Int)).bind fun a612 => ((Res.ok p_other_q).bind fun a611 => .ok (a611.den : Int)).bind fun b613 => .ok (decide (a612 = b613))) else .ok false))))
abbrev C_Fraction_eq (P : Program) (w : World) (K : PySem.W.Frag) (mg : Str → Option Value) (base : Heap) : Prop := FnR P w K mg base (L2.CX P w) 1 (He.ma K (He.ga K "Fraction") "__eq__") (spF K (aCons (rp (rFrac K)) (aCons (rp (rNum K)) aNil)) (fun d => qEq d.1 d.2.1) (rp rBl))
theorem fn_Fraction_eq {P : Program} {w : World} {K : PySem.W.Frag} {mg : Str → Option Value} {base : Heap} (T : Txt K mg) : FnR P w K mg base (L2.CX P w) 1 (He.ma K (He.ga K "Fraction") "__eq__") (spF K (aCons (rp (rFrac K)) (aCons (rp (rNum K)) aNil)) (fun d => m_Fraction_eq d.1 d.2.1) (rp rBl)) := by
  obtain ⟨fd, F⟩ := T.F_Fraction_eq
  refine FnOk.fr0 (FunD.fn (k := 0) (N := ["self", "other"]) (ps := ["self", "other"]) F sc_Fraction_eq (fun I H vs d h => ?_) (fun cdv A outer s I0 H0 E vs d hr sm h => ?_)) (F.bindsN fun _ _ _ _ _ _ us hl => match us, hl with | [_, _], _ => rfl)
  · obtain ⟨v0, _, rfl, h0, v1, _, rfl, h1, rfl⟩ := h; rfl
  obtain ⟨v0, _, rfl, h0, v1, _, rfl, h1, rfl⟩ := h
  have hx : ∀ {ctx : List (Option SF)} {mem : List MF} (I H : Hp) (σ : St) (d : Option Addr), Stt I0 H0 ctx mem I H σ → Fr H0 d → bK I0 H0 I H σ d := fun _ _ _ _ s f => ⟨s.fm, f⟩
  have tk : Takes (bx P w K mg base ["self", "other"] "Fraction.__eq__" (defScope s_Fraction_eq) (He.ma K (He.ga K "Fraction") "__eq__") cdv A outer s H0 E) (bW E) := takes_of rfl rfl rfl rfl
  obtain ⟨p_self, p_other, _⟩ := d
  exact ⟨Stt I0 H0 [some (SF.mk (rFrac K) p_self), some (SF.mk (rNum K) p_other)] [], Stt.start sm ⟨h0, h1, ini_nil rfl⟩ rfl (by simp), (JR.num (K := K) 1 (fun p_other_i => (JR.ifR (JT.of (JE.isi (JE.var 1) (w_type_at T.n_int (by decide +kernel) rfl (by decide) (by decide)) (.ty _) (tyr_int (t := "int") (by decide +kernel)) T.n_isinstance)) (JR.ret (JE.and (JE.cmp (JE.fld (JE.var 0) fld_bottom T.o_Fraction.cl T.na_Fraction_bottom) JE.int opj_eq) (JE.one (JE.cmp (JE.fld (JE.var 0) fld_top T.o_Fraction.cl T.na_Fraction_top) (JE.var 1) opj_eq))) hx) JR.dead hx)) (fun p_other_q => (JR.ifR (JT.of (JE.isi (JE.var 1) (w_type_at T.n_int (by decide +kernel) rfl (by decide) (by decide)) (.ty _) (tyr_ins T.o_Fraction insF T.kT_Fraction_int) T.n_isinstance)) JR.dead (JR.ifR (JT.not (JT.of (JE.isi (JE.var 1) (w_glob_at T.g_Fraction rfl (by decide)) (.own _) (tyr_ins T.o_Fraction insF T.kt_Fraction_Fraction) T.n_isinstance))) JR.dead (JR.ret (JE.and (JE.cmp (JE.fld (JE.var 0) fld_top T.o_Fraction.cl T.na_Fraction_top) (JE.fld (JE.var 1) fld_top T.o_Fraction.cl T.na_Fraction_top) opj_eq) (JE.one (JE.cmp (JE.fld (JE.var 0) fld_bottom T.o_Fraction.cl T.na_Fraction_bottom) (JE.fld (JE.var 1) fld_bottom T.o_Fraction.cl T.na_Fraction_bottom) opj_eq))) hx) hx) hx)))⟩
theorem nice_Fraction_eq : ∀ d : Rat × Num × Unit, qEq d.1 d.2.1 = .stuck ∨ qEq d.1 d.2.1 = m_Fraction_eq d.1 d.2.1 := fun ⟨x, y, _⟩ => by
  right
  cases y with
  | i n =>
      simp only [m_Fraction_eq, Res.ok_bind, Bool.not_true, Bool.not_false, Bool.false_eq_true, if_true, if_false]
      exact (eq_dec1 x n).symm
  | q y =>
      simp only [m_Fraction_eq, Res.ok_bind, Bool.not_true, Bool.not_false, Bool.false_eq_true, if_true, if_false]
      exact (eq_dec x y).symm
theorem sc_Fraction_lt : FnScope ["self", "other"] ["self", "other"] (defScope s_Fraction_lt) := ⟨rfl, rfl, rfl, by decide +kernel, rfl, by decide +kernel, by decide +kernel⟩
def m_Fraction_lt (p_self : Rat) (p_other : Num) : Res Bool :=
  (match p_other with | .i p_other_i => (((Res.ok p_other_i).bind fun a615 => .ok true).bind fun x616 => if x616 = true then (((Res.ok p_self).bind fun a617 => .ok a617.num).bind fun a621 => ((Res.ok p_other_i).bind fun a619 => ((Res.ok p_self).bind fun a618 => .ok (a618.den : Int)).bind fun b620 => mulI a619 b620).bind fun b622 => .ok (decide (a621 < b622))) else .stuck) | .q p_other_q => (((Res.ok p_other_q).bind fun a623 => .ok false).bind fun x624 => if x624 = true then .stuck else ((((Res.ok p_other_q).bind fun a625 => .ok true).bind fun a626 => .ok (!a626)).bind fun x627 => if x627 = true then .stuck else ((((Res.ok p_self).bind fun a628 => .ok a628.num).bind fun a630 => ((Res.ok p_other_q).bind fun a629 => .ok (a629.den : Int)).bind fun b631 => mulI a630 b631).bind fun a636 => (((Res.ok p_other_q).bind fun a632 => .ok a632.num).bind fun a634 => ((Res.ok p_self).bind fun a633 => .ok (a633.den : Int)).bind fun b635 => mulI a634 b635).bind fun b637 => .ok (decide (a636 < b637))))))
abbrev C_Fraction_lt (P : Program) (w : World) (K : PySem.W.Frag) (mg : Str → Option Value) (base : Heap) : Prop := FnR P w K mg base (L2.CX P w) 1 (He.ma K (He.ga K "Fraction") "__lt__") (spF K (aCons (rp (rFrac K)) (aCons (rp (rNum K)) aNil)) (fun d => qLt d.1 d.2.1) (rp rBl))
theorem fn_Fraction_lt {P : Program} {w : World} {K : PySem.W.Frag} {mg : Str → Option Value} {base : Heap} (T : Txt K mg) : FnR P w K mg base (L2.CX P w) 1 (He.ma K (He.ga K "Fraction") "__lt__") (spF K (aCons (rp (rFrac K)) (aCons (rp (rNum K)) aNil)) (fun d => m_Fraction_lt d.1 d.2.1) (rp rBl)) := by
  obtain ⟨fd, F⟩ := T.F_Fraction_lt
  refine FnOk.fr0 (FunD.fn (k := 0) (N := ["self", "other"]) (ps := ["self", "other"]) F sc_Fraction_lt (fun I H vs d h => ?_) (fun cdv A outer s I0 H0 E vs d hr sm h => ?_)) (F.bindsN fun _ _ _ _ _ _ us hl => match us, hl with | [_, _], _ => rfl)
  · obtain ⟨v0, _, rfl, h0, v1, _, rfl, h1, rfl⟩ := h; rfl
  obtain ⟨v0, _, rfl, h0, v1, _, rfl, h1, rfl⟩ := h
  have hx : ∀ {ctx : List (Option SF)} {mem : List MF} (I H : Hp) (σ : St) (d : Option Addr), Stt I0 H0 ctx mem I H σ → Fr H0 d → bK I0 H0 I H σ d := fun _ _ _ _ s f => ⟨s.fm, f⟩
  have tk : Takes (bx P w K mg base ["self", "other"] "Fraction.__lt__" (defScope s_Fraction_lt) (He.ma K (He.ga K "Fraction") "__lt__") cdv A outer s H0 E) (bW E) := takes_of rfl rfl rfl rfl
  obtain ⟨p_self, p_other, _⟩ := d
  exact ⟨Stt I0 H0 [some (SF.mk (rFrac K) p_self), some (SF.mk (rNum K) p_other)] [], Stt.start sm ⟨h0, h1, ini_nil rfl⟩ rfl (by simp), (JR.num (K := K) 1 (fun p_other_i => (JR.ifR (JT.of (JE.isi (JE.var 1) (w_type_at T.n_int (by decide +kernel) rfl (by decide) (by decide)) (.ty _) (tyr_int (t := "int") (by decide +kernel)) T.n_isinstance)) (JR.ret (JE.cmp (JE.fld (JE.var 0) fld_top T.o_Fraction.cl T.na_Fraction_top) (JE.bin (JE.var 1) (JE.fld (JE.var 0) fld_bottom T.o_Fraction.cl T.na_Fraction_bottom) opj_mul) opj_lt) hx) JR.dead hx)) (fun p_other_q => (JR.ifR (JT.of (JE.isi (JE.var 1) (w_type_at T.n_int (by decide +kernel) rfl (by decide) (by decide)) (.ty _) (tyr_ins T.o_Fraction insF T.kT_Fraction_int) T.n_isinstance)) JR.dead (JR.ifR (JT.not (JT.of (JE.isi (JE.var 1) (w_glob_at T.g_Fraction rfl (by decide)) (.own _) (tyr_ins T.o_Fraction insF T.kt_Fraction_Fraction) T.n_isinstance))) JR.dead (JR.ret (JE.cmp (JE.bin (JE.fld (JE.var 0) fld_top T.o_Fraction.cl T.na_Fraction_top) (JE.fld (JE.var 1) fld_bottom T.o_Fraction.cl T.na_Fraction_bottom) opj_mul) (JE.bin (JE.fld (JE.var 1) fld_top T.o_Fraction.cl T.na_Fraction_top) (JE.fld (JE.var 0) fld_bottom T.o_Fraction.cl T.na_Fraction_bottom) opj_mul) opj_lt) hx) hx) hx)))⟩
theorem nice_Fraction_lt : ∀ d : Rat × Num × Unit, qLt d.1 d.2.1 = .stuck ∨ qLt d.1 d.2.1 = m_Fraction_lt d.1 d.2.1 := fun ⟨x, y, _⟩ => by
  cases y with
  | i n =>
      refine stuck_or fun h => ?_
      obtain ⟨hx, hn⟩ := h
      dsimp only at hx ⊢
      have hn := fits_int.mp hn
      simp only [m_Fraction_lt, Res.ok_bind, Bool.not_true, Bool.not_false, Bool.false_eq_true, if_true, if_false, mul_fit hn (fd hx)]
      exact congrArg Res.ok (decide_eq_decide.mpr (lt_int x n))
  | q y =>
      refine stuck_or fun h => ?_
      obtain ⟨hx, hy⟩ := h
      dsimp only at hx ⊢
      have hy : fits y := hy
      simp only [m_Fraction_lt, Res.ok_bind, Bool.not_true, Bool.not_false, Bool.false_eq_true, if_true, if_false, mul_fit hx.1 (fd hy), mul_fit hy.1 (fd hx)]
      exact congrArg Res.ok (decide_eq_decide.mpr (Rat.lt_iff x y))
theorem sc_Fraction_le : FnScope ["self", "other"] ["self", "other"] (defScope s_Fraction_le) := ⟨rfl, rfl, rfl, by decide +kernel, rfl, by decide +kernel, by decide +kernel⟩
def m_Fraction_le (p_self : Rat) (p_other : Num) : Res Bool :=
  (match p_other with | .i p_other_i => (((Res.ok p_other_i).bind fun a638 => .ok true).bind fun x639 => if x639 = true then (((Res.ok p_self).bind fun a640 => .ok a640.num).bind fun a644 => ((Res.ok p_other_i).bind fun a642 => ((Res.ok p_self).bind fun a641 => .ok (a641.den : Int)).bind fun b643 => mulI a642 b643).bind fun b645 => .ok (decide (a644 ≤ b645))) else .stuck) | .q p_other_q => (((Res.ok p_other_q).bind fun a646 => .ok false).bind fun x647 => if x647 = true then .stuck else ((((Res.ok p_other_q).bind fun a648 => .ok true).bind fun a649 => .ok (!a649)).bind fun x650 => if x650 = true then .stuck else ((((Res.ok p_self).bind fun a651 => .ok a651.num).bind fun a653 => ((Res.ok p_other_q).bind fun a652 => .ok (a652.den : Int)).bind fun b654 => mulI a653 b654).bind fun a659 => (((Res.ok p_other_q).bind fun a655 => .ok a655.num).bind fun a657 => ((Res.ok p_self).bind fun a656 => .ok (a656.den : Int)).bind fun b658 => mulI a657 b658).bind fun b660 => .ok (decide (a659 ≤ b660))))))
abbrev C_Fraction_le (P : Program) (w : World) (K : PySem.W.Frag) (mg : Str → Option Value) (base : Heap) : Prop := FnR P w K mg base (L2.CX P w) 1 (He.ma K (He.ga K "Fraction") "__le__") (spF K (aCons (rp (rFrac K)) (aCons (rp (rNum K)) aNil)) (fun d => qLe d.1 d.2.1) (rp rBl))
theorem fn_Fraction_le {P : Program} {w : World} {K : PySem.W.Frag} {mg : Str → Option Value} {base : Heap} (T : Txt K mg) : FnR P w K mg base (L2.CX P w) 1 (He.ma K (He.ga K "Fraction") "__le__") (spF K (aCons (rp (rFrac K)) (aCons (rp (rNum K)) aNil)) (fun d => m_Fraction_le d.1 d.2.1) (rp rBl)) := by
  obtain ⟨fd, F⟩ := T.F_Fraction_le
  refine FnOk.fr0 (FunD.fn (k := 0) (N := ["self", "other"]) (ps := ["self", "other"]) F sc_Fraction_le (fun I H vs d h => ?_) (fun cdv A outer s I0 H0 E vs d hr sm h => ?_)) (F.bindsN fun _ _ _ _ _ _ us hl => match us, hl with | [_, _], _ => rfl)
  · obtain ⟨v0, _, rfl, h0, v1, _, rfl, h1, rfl⟩ := h; rfl
  obtain ⟨v0, _, rfl, h0, v1, _, rfl, h1, rfl⟩ := h
  have hx : ∀ {ctx : List (Option SF)} {mem : List MF} (I H : Hp) (σ : St) (d : Option Addr), Stt I0 H0 ctx mem I H σ → Fr H0 d → bK I0 H0 I H σ d := fun _ _ _ _ s f => ⟨s.fm, f⟩
  have tk : Takes (bx P w K mg base ["self", "other"] "Fraction.__le__" (defScope s_Fraction_le) (He.ma K (He.ga K "Fraction") "__le__") cdv A outer s H0 E) (bW E) := takes_of rfl rfl rfl rfl
  obtain ⟨p_self, p_other, _⟩ := d
  exact ⟨Stt I0 H0 [some (SF.mk (rFrac K) p_self), some (SF.mk (rNum K) p_other)] [], Stt.start sm ⟨h0, h1, ini_nil rfl⟩ rfl (by simp), (JR.num (K := K) 1 (fun p_other_i => (JR.ifR (JT.of (JE.isi (JE.var 1) (w_type_at T.n_int (by decide +kernel) rfl (by decide) (by decide)) (.ty _) (tyr_int (t := "int") (by decide +kernel)) T.n_isinstance)) (JR.ret (JE.cmp (JE.fld (JE.var 0) fld_top T.o_Fraction.cl T.na_Fraction_top) (JE.bin (JE.var 1) (JE.fld (JE.var 0) fld_bottom T.o_Fraction.cl T.na_Fraction_bottom) opj_mul) opj_le) hx) JR.dead hx)) (fun p_other_q => (JR.ifR (JT.of (JE.isi (JE.var 1) (w_type_at T.n_int (by decide +kernel) rfl (by decide) (by decide)) (.ty _) (tyr_ins T.o_Fraction insF T.kT_Fraction_int) T.n_isinstance)) JR.dead (JR.ifR (JT.not (JT.of (JE.isi (JE.var 1) (w_glob_at T.g_Fraction rfl (by decide)) (.own _) (tyr_ins T.o_Fraction insF T.kt_Fraction_Fraction) T.n_isinstance))) JR.dead (JR.ret (JE.cmp (JE.bin (JE.fld (JE.var 0) fld_top T.o_Fraction.cl T.na_Fraction_top) (JE.fld (JE.var 1) fld_bottom T.o_Fraction.cl T.na_Fraction_bottom) opj_mul) (JE.bin (JE.fld (JE.var 1) fld_top T.o_Fraction.cl T.na_Fraction_top) (JE.fld (JE.var 0) fld_bottom T.o_Fraction.cl T.na_Fraction_bottom) opj_mul) opj_le) hx) hx) hx)))⟩
theorem nice_Fraction_le : ∀ d : Rat × Num × Unit, qLe d.1 d.2.1 = .stuck ∨ qLe d.1 d.2.1 = m_Fraction_le d.1 d.2.1 := fun ⟨x, y, _⟩ => by
  cases y with
  | i n =>
      refine stuck_or fun h => ?_
      obtain ⟨hx, hn⟩ := h
      dsimp only at hx ⊢
      have hn := fits_int.mp hn
      simp only [m_Fraction_le, Res.ok_bind, Bool.not_true, Bool.not_false, Bool.false_eq_true, if_true, if_false, mul_fit hn (fd hx)]
      exact congrArg Res.ok (decide_eq_decide.mpr (le_int x n))
  | q y =>
      refine stuck_or fun h => ?_
      obtain ⟨hx, hy⟩ := h
      dsimp only at hx ⊢
      have hy : fits y := hy
      simp only [m_Fraction_le, Res.ok_bind, Bool.not_true, Bool.not_false, Bool.false_eq_true, if_true, if_false, mul_fit hx.1 (fd hy), mul_fit hy.1 (fd hx)]
      exact congrArg Res.ok (decide_eq_decide.mpr (Rat.le_iff x y))
theorem sc_law_signs : FnScope ["_law_left", "_law_right", "_law_difference", "_law_asked", "_law_expected", "_law_k"] ["_law_left", "_law_right", "_law_difference"] (defScope s_law_signs) := ⟨rfl, rfl, rfl, by decide +kernel, rfl, by decide +kernel, by decide +kernel⟩
def m_law_signs (p_law_left : Num) (p_law_right : Num) (p_law_difference : Int) : Res Bool :=
  (match p_law_left with | .i p_law_left_i => (match p_law_right with | .i p_law_right_i => ((((Res.ok p_law_left_i).bind fun a278 => (Res.ok p_law_right_i).bind fun b279 => .ok (decide (a278 < b279))).bind fun a300 => (((Res.ok p_law_left_i).bind fun a280 => (Res.ok p_law_right_i).bind fun b281 => .ok (decide (a280 ≤ b281))).bind fun a298 => (((Res.ok p_law_left_i).bind fun a282 => (Res.ok p_law_right_i).bind fun b283 => .ok (decide (a282 = b283))).bind fun a296 => (((Res.ok p_law_left_i).bind fun a284 => (Res.ok p_law_right_i).bind fun b285 => .ok (!decide (a284 = b285))).bind fun a294 => (((Res.ok p_law_left_i).bind fun a286 => (Res.ok p_law_right_i).bind fun b287 => .ok (decide (a286 > b287))).bind fun a292 => (((Res.ok p_law_left_i).bind fun a288 => (Res.ok p_law_right_i).bind fun b289 => .ok (decide (a288 ≥ b289))).bind fun a290 => (Res.ok []).bind fun b291 => .ok (a290 :: b291)).bind fun b293 => .ok (a292 :: b293)).bind fun b295 => .ok (a294 :: b295)).bind fun b297 => .ok (a296 :: b297)).bind fun b299 => .ok (a298 :: b299)).bind fun b301 => .ok (a300 :: b301)).bind fun v_law_asked_302 => ((((Res.ok p_law_difference).bind fun a303 => (Res.ok (0 : Int)).bind fun b304 => .ok (decide (a303 < b304))).bind fun a325 => (((Res.ok p_law_difference).bind fun a305 => (Res.ok (0 : Int)).bind fun b306 => .ok (decide (a305 ≤ b306))).bind fun a323 => (((Res.ok p_law_difference).bind fun a307 => (Res.ok (0 : Int)).bind fun b308 => .ok (decide (a307 = b308))).bind fun a321 => (((Res.ok p_law_difference).bind fun a309 => (Res.ok (0 : Int)).bind fun b310 => .ok (!decide (a309 = b310))).bind fun a319 => (((Res.ok p_law_difference).bind fun a311 => (Res.ok (0 : Int)).bind fun b312 => .ok (decide (a311 > b312))).bind fun a317 => (((Res.ok p_law_difference).bind fun a313 => (Res.ok (0 : Int)).bind fun b314 => .ok (decide (a313 ≥ b314))).bind fun a315 => (Res.ok []).bind fun b316 => .ok (a315 :: b316)).bind fun b318 => .ok (a317 :: b318)).bind fun b320 => .ok (a319 :: b320)).bind fun b322 => .ok (a321 :: b322)).bind fun b324 => .ok (a323 :: b324)).bind fun b326 => .ok (a325 :: b326)).bind fun v_law_expected_327 => ((((Res.ok (6 : Int)).bind fun a329 => rangeM1 a329).bind fun l344 => (forG (fun (i330 : Int) (s328 : Unit) => (((((((Res.ok v_law_asked_302).bind fun a331 => (Res.ok i330).bind fun b332 => atM a331 b332).bind fun a333 => .ok true).bind fun a334 => .ok (!a334)).bind fun a341 => if a341 = true then .ok true else (((Res.ok v_law_asked_302).bind fun a335 => (Res.ok i330).bind fun b336 => atM a335 b336).bind fun a339 => ((Res.ok v_law_expected_327).bind fun a337 => (Res.ok i330).bind fun b338 => atM a337 b338).bind fun b340 => .ok (!decide (a339 = b340)))).bind fun x342 => if x342 = true then ((Res.ok false).bind fun r343 => .ok (Fl.rt r343)) else (Res.ok (Fl.nx ()))) : Res (Fl Unit Unit Bool))) l344 () : Res (Fl Unit Unit Bool))).bind (Fl.out fun s328 => (Res.ok true))))) | .q p_law_right_q => ((((Res.ok p_law_left_i).bind fun a345 => (Res.ok p_law_right_q).bind fun b346 => qGt b346 (.i a345)).bind fun a367 => (((Res.ok p_law_left_i).bind fun a347 => (Res.ok p_law_right_q).bind fun b348 => qGe b348 (.i a347)).bind fun a365 => (((Res.ok p_law_left_i).bind fun a349 => (Res.ok p_law_right_q).bind fun b350 => qEq b350 (.i a349)).bind fun a363 => (((Res.ok p_law_left_i).bind fun a351 => (Res.ok p_law_right_q).bind fun b352 => (qEq b352 (.i a351)).bind fun z => .ok (!z)).bind fun a361 => (((Res.ok p_law_left_i).bind fun a353 => (Res.ok p_law_right_q).bind fun b354 => qLt b354 (.i a353)).bind fun a359 => (((Res.ok p_law_left_i).bind fun a355 => (Res.ok p_law_right_q).bind fun b356 => qLe b356 (.i a355)).bind fun a357 => (Res.ok []).bind fun b358 => .ok (a357 :: b358)).bind fun b360 => .ok (a359 :: b360)).bind fun b362 => .ok (a361 :: b362)).bind fun b364 => .ok (a363 :: b364)).bind fun b366 => .ok (a365 :: b366)).bind fun b368 => .ok (a367 :: b368)).bind fun v_law_asked_369 => ((((Res.ok p_law_difference).bind fun a370 => (Res.ok (0 : Int)).bind fun b371 => .ok (decide (a370 < b371))).bind fun a392 => (((Res.ok p_law_difference).bind fun a372 => (Res.ok (0 : Int)).bind fun b373 => .ok (decide (a372 ≤ b373))).bind fun a390 => (((Res.ok p_law_difference).bind fun a374 => (Res.ok (0 : Int)).bind fun b375 => .ok (decide (a374 = b375))).bind fun a388 => (((Res.ok p_law_difference).bind fun a376 => (Res.ok (0 : Int)).bind fun b377 => .ok (!decide (a376 = b377))).bind fun a386 => (((Res.ok p_law_difference).bind fun a378 => (Res.ok (0 : Int)).bind fun b379 => .ok (decide (a378 > b379))).bind fun a384 => (((Res.ok p_law_difference).bind fun a380 => (Res.ok (0 : Int)).bind fun b381 => .ok (decide (a380 ≥ b381))).bind fun a382 => (Res.ok []).bind fun b383 => .ok (a382 :: b383)).bind fun b385 => .ok (a384 :: b385)).bind fun b387 => .ok (a386 :: b387)).bind fun b389 => .ok (a388 :: b389)).bind fun b391 => .ok (a390 :: b391)).bind fun b393 => .ok (a392 :: b393)).bind fun v_law_expected_394 => ((((Res.ok (6 : Int)).bind fun a396 => rangeM1 a396).bind fun l411 => (forG (fun (i397 : Int) (s395 : Unit) => (((((((Res.ok v_law_asked_369).bind fun a398 => (Res.ok i397).bind fun b399 => atM a398 b399).bind fun a400 => .ok true).bind fun a401 => .ok (!a401)).bind fun a408 => if a408 = true then .ok true else (((Res.ok v_law_asked_369).bind fun a402 => (Res.ok i397).bind fun b403 => atM a402 b403).bind fun a406 => ((Res.ok v_law_expected_394).bind fun a404 => (Res.ok i397).bind fun b405 => atM a404 b405).bind fun b407 => .ok (!decide (a406 = b407)))).bind fun x409 => if x409 = true then ((Res.ok false).bind fun r410 => .ok (Fl.rt r410)) else (Res.ok (Fl.nx ()))) : Res (Fl Unit Unit Bool))) l411 () : Res (Fl Unit Unit Bool))).bind (Fl.out fun s395 => (Res.ok true)))))) | .q p_law_left_q => (match p_law_right with | .i p_law_right_i => ((((Res.ok p_law_left_q).bind fun a412 => (Res.ok p_law_right_i).bind fun b413 => qLt a412 (.i b413)).bind fun a434 => (((Res.ok p_law_left_q).bind fun a414 => (Res.ok p_law_right_i).bind fun b415 => qLe a414 (.i b415)).bind fun a432 => (((Res.ok p_law_left_q).bind fun a416 => (Res.ok p_law_right_i).bind fun b417 => qEq a416 (.i b417)).bind fun a430 => (((Res.ok p_law_left_q).bind fun a418 => (Res.ok p_law_right_i).bind fun b419 => (qEq a418 (.i b419)).bind fun z => .ok (!z)).bind fun a428 => (((Res.ok p_law_left_q).bind fun a420 => (Res.ok p_law_right_i).bind fun b421 => qGt a420 (.i b421)).bind fun a426 => (((Res.ok p_law_left_q).bind fun a422 => (Res.ok p_law_right_i).bind fun b423 => qGe a422 (.i b423)).bind fun a424 => (Res.ok []).bind fun b425 => .ok (a424 :: b425)).bind fun b427 => .ok (a426 :: b427)).bind fun b429 => .ok (a428 :: b429)).bind fun b431 => .ok (a430 :: b431)).bind fun b433 => .ok (a432 :: b433)).bind fun b435 => .ok (a434 :: b435)).bind fun v_law_asked_436 => ((((Res.ok p_law_difference).bind fun a437 => (Res.ok (0 : Int)).bind fun b438 => .ok (decide (a437 < b438))).bind fun a459 => (((Res.ok p_law_difference).bind fun a439 => (Res.ok (0 : Int)).bind fun b440 => .ok (decide (a439 ≤ b440))).bind fun a457 => (((Res.ok p_law_difference).bind fun a441 => (Res.ok (0 : Int)).bind fun b442 => .ok (decide (a441 = b442))).bind fun a455 => (((Res.ok p_law_difference).bind fun a443 => (Res.ok (0 : Int)).bind fun b444 => .ok (!decide (a443 = b444))).bind fun a453 => (((Res.ok p_law_difference).bind fun a445 => (Res.ok (0 : Int)).bind fun b446 => .ok (decide (a445 > b446))).bind fun a451 => (((Res.ok p_law_difference).bind fun a447 => (Res.ok (0 : Int)).bind fun b448 => .ok (decide (a447 ≥ b448))).bind fun a449 => (Res.ok []).bind fun b450 => .ok (a449 :: b450)).bind fun b452 => .ok (a451 :: b452)).bind fun b454 => .ok (a453 :: b454)).bind fun b456 => .ok (a455 :: b456)).bind fun b458 => .ok (a457 :: b458)).bind fun b460 => .ok (a459 :: b460)).bind fun v_law_expected_461 => ((((Res.ok (6 : Int)).bind fun a463 => rangeM1 a463).bind fun l478 => (forG (fun (i464 : Int) (s462 : Unit) => (((((((Res.ok v_law_asked_436).bind fun a465 => (Res.ok i464).bind fun b466 => atM a465 b466).bind fun a467 => .ok true).bind fun a468 => .ok (!a468)).bind fun a475 => if a475 = true then .ok true else (((Res.ok v_law_asked_436).bind fun a469 => (Res.ok i464).bind fun b470 => atM a469 b470).bind fun a473 => ((Res.ok v_law_expected_461).bind fun a471 => (Res.ok i464).bind fun b472 => atM a471 b472).bind fun b474 => .ok (!decide (a473 = b474)))).bind fun x476 => if x476 = true then ((Res.ok false).bind fun r477 => .ok (Fl.rt r477)) else (Res.ok (Fl.nx ()))) : Res (Fl Unit Unit Bool))) l478 () : Res (Fl Unit Unit Bool))).bind (Fl.out fun s462 => (Res.ok true))))) | .q p_law_right_q => ((((Res.ok p_law_left_q).bind fun a479 => (Res.ok p_law_right_q).bind fun b480 => qLt a479 (.q b480)).bind fun a501 => (((Res.ok p_law_left_q).bind fun a481 => (Res.ok p_law_right_q).bind fun b482 => qLe a481 (.q b482)).bind fun a499 => (((Res.ok p_law_left_q).bind fun a483 => (Res.ok p_law_right_q).bind fun b484 => qEq a483 (.q b484)).bind fun a497 => (((Res.ok p_law_left_q).bind fun a485 => (Res.ok p_law_right_q).bind fun b486 => (qEq a485 (.q b486)).bind fun z => .ok (!z)).bind fun a495 => (((Res.ok p_law_left_q).bind fun a487 => (Res.ok p_law_right_q).bind fun b488 => qGt a487 (.q b488)).bind fun a493 => (((Res.ok p_law_left_q).bind fun a489 => (Res.ok p_law_right_q).bind fun b490 => qGe a489 (.q b490)).bind fun a491 => (Res.ok []).bind fun b492 => .ok (a491 :: b492)).bind fun b494 => .ok (a493 :: b494)).bind fun b496 => .ok (a495 :: b496)).bind fun b498 => .ok (a497 :: b498)).bind fun b500 => .ok (a499 :: b500)).bind fun b502 => .ok (a501 :: b502)).bind fun v_law_asked_503 => ((((Res.ok p_law_difference).bind fun a504 => (Res.ok (0 : Int)).bind fun b505 => .ok (decide (a504 < b505))).bind fun a526 => (((Res.ok p_law_difference).bind fun a506 => (Res.ok (0 : Int)).bind fun b507 => .ok (decide (a506 ≤ b507))).bind fun a524 => (((Res.ok p_law_difference).bind fun a508 => (Res.ok (0 : Int)).bind fun b509 => .ok (decide (a508 = b509))).bind fun a522 => (((Res.ok p_law_difference).bind fun a510 => (Res.ok (0 : Int)).bind fun b511 => .ok (!decide (a510 = b511))).bind fun a520 => (((Res.ok p_law_difference).bind fun a512 => (Res.ok (0 : Int)).bind fun b513 => .ok (decide (a512 > b513))).bind fun a518 => (((Res.ok p_law_difference).bind fun a514 => (Res.ok (0 : Int)).bind fun b515 => .ok (decide (a514 ≥ b515))).bind fun a516 => (Res.ok []).bind fun b517 => .ok (a516 :: b517)).bind fun b519 => .ok (a518 :: b519)).bind fun b521 => .ok (a520 :: b521)).bind fun b523 => .ok (a522 :: b523)).bind fun b525 => .ok (a524 :: b525)).bind fun b527 => .ok (a526 :: b527)).bind fun v_law_expected_528 => ((((Res.ok (6 : Int)).bind fun a530 => rangeM1 a530).bind fun l545 => (forG (fun (i531 : Int) (s529 : Unit) => (((((((Res.ok v_law_asked_503).bind fun a532 => (Res.ok i531).bind fun b533 => atM a532 b533).bind fun a534 => .ok true).bind fun a535 => .ok (!a535)).bind fun a542 => if a542 = true then .ok true else (((Res.ok v_law_asked_503).bind fun a536 => (Res.ok i531).bind fun b537 => atM a536 b537).bind fun a540 => ((Res.ok v_law_expected_528).bind fun a538 => (Res.ok i531).bind fun b539 => atM a538 b539).bind fun b541 => .ok (!decide (a540 = b541)))).bind fun x543 => if x543 = true then ((Res.ok false).bind fun r544 => .ok (Fl.rt r544)) else (Res.ok (Fl.nx ()))) : Res (Fl Unit Unit Bool))) l545 () : Res (Fl Unit Unit Bool))).bind (Fl.out fun s529 => (Res.ok true)))))))
abbrev C_law_signs (P : Program) (w : World) (K : PySem.W.Frag) (mg : Str → Option Value) (base : Heap) : Prop := FnR P w K mg base (L2.CX P w) 3 (He.ga K "_law_signs") (spF K (aCons (rp (rNum K)) (aCons (rp (rNum K)) (aCons (rp rInt) aNil))) (fun d => m_law_signs d.1 d.2.1 d.2.2.1) (rp rBl))
theorem fn_law_signs {P : Program} {w : World} {K : PySem.W.Frag} {mg : Str → Option Value} {base : Heap} (T : Txt K mg) (c_Fraction_gt : C_Fraction_gt P w K mg base) (c_Fraction_ge : C_Fraction_ge P w K mg base) (c_Fraction_eq : C_Fraction_eq P w K mg base) (c_Fraction_lt : C_Fraction_lt P w K mg base) (c_Fraction_le : C_Fraction_le P w K mg base) : FnR P w K mg base (L2.CX P w) 3 (He.ga K "_law_signs") (spF K (aCons (rp (rNum K)) (aCons (rp (rNum K)) (aCons (rp rInt) aNil))) (fun d => m_law_signs d.1 d.2.1 d.2.2.1) (rp rBl)) := by
  obtain ⟨fd, F⟩ := T.F_law_signs
  refine FnOk.fr0 (FunD.fn (k := 2) (N := ["_law_left", "_law_right", "_law_difference", "_law_asked", "_law_expected", "_law_k"]) (ps := ["_law_left", "_law_right", "_law_difference"]) F sc_law_signs (fun I H vs d h => ?_) (fun cdv A outer s I0 H0 E vs d hr sm h => ?_)) (F.bindsN fun _ _ _ _ _ _ us hl => match us, hl with | [_, _, _], _ => rfl)
  · obtain ⟨v0, _, rfl, h0, v1, _, rfl, h1, v2, _, rfl, h2, rfl⟩ := h; rfl
  obtain ⟨v0, _, rfl, h0, v1, _, rfl, h1, v2, _, rfl, h2, rfl⟩ := h
  have hx : ∀ {ctx : List (Option SF)} {mem : List MF} (I H : Hp) (σ : St) (d : Option Addr), Stt I0 H0 ctx mem I H σ → Fr H0 d → bK I0 H0 I H σ d := fun _ _ _ _ s f => ⟨s.fm, f⟩
  have tk : Takes (bx P w K mg base ["_law_left", "_law_right", "_law_difference", "_law_asked", "_law_expected", "_law_k"] "_law_signs" (defScope s_law_signs) (He.ga K "_law_signs") cdv A outer s H0 E) (bW E) := takes_of rfl rfl rfl rfl
  have hp : PassesOwn (model P w) (bx P w K mg base ["_law_left", "_law_right", "_law_difference", "_law_asked", "_law_expected", "_law_k"] "_law_signs" (defScope s_law_signs) (He.ga K "_law_signs") cdv A outer s H0 E).A (bx P w K mg base ["_law_left", "_law_right", "_law_difference", "_law_asked", "_law_expected", "_law_k"] "_law_signs" (defScope s_law_signs) (He.ga K "_law_signs") cdv A outer s H0 E).env (bx P w K mg base ["_law_left", "_law_right", "_law_difference", "_law_asked", "_law_expected", "_law_k"] "_law_signs" (defScope s_law_signs) (He.ga K "_law_signs") cdv A outer s H0 E).xe := passes_of rfl
  obtain ⟨p_law_left, p_law_right, p_law_difference, _⟩ := d
  exact ⟨Stt I0 H0 [some (SF.mk (rNum K) p_law_left), some (SF.mk (rNum K) p_law_right), some (SF.mk rInt p_law_difference), none, none, none] [], Stt.start sm ⟨h0, h1, h2, ini_nil rfl⟩ rfl (by simp), (JR.num (K := K) 0 (fun p_law_left_i => (JR.num (K := K) 1 (fun p_law_right_i => (JR.seq (J1.set 3 (JE.lst (JA.consL (JE.cmp (JE.var 0) (JE.var 1) opj_lt) (JA.consL (JE.cmp (JE.var 0) (JE.var 1) opj_le) (JA.consL (JE.cmp (JE.var 0) (JE.var 1) opj_eq) (JA.consL (JE.cmp (JE.var 0) (JE.var 1) opj_ne) (JA.consL (JE.cmp (JE.var 0) (JE.var 1) opj_gt) (JA.consL (JE.cmp (JE.var 0) (JE.var 1) opj_ge) JA.nilL))))))) hx sc_law_signs.nd) fun v_law_asked_302 => (JR.seq (J1.set 4 (JE.lst (JA.consL (JE.cmp (JE.var 2) JE.int opj_lt) (JA.consL (JE.cmp (JE.var 2) JE.int opj_le) (JA.consL (JE.cmp (JE.var 2) JE.int opj_eq) (JA.consL (JE.cmp (JE.var 2) JE.int opj_ne) (JA.consL (JE.cmp (JE.var 2) JE.int opj_gt) (JA.consL (JE.cmp (JE.var 2) JE.int opj_ge) JA.nilL))))))) hx sc_law_signs.nd) fun v_law_expected_327 => (JR.seqG (GL := fun _ _ _ _ => False) (J1G.forG (S := Unit) (cx := fun s328 => [some (SF.mk rInt p_law_left_i), some (SF.mk rInt p_law_right_i), some (SF.mk rInt p_law_difference), some (SF.mk (rL rBl) v_law_asked_302), some (SF.mk (rL rBl) v_law_expected_327), none]) (me := fun _ => []) (s0 := ()) 5 hp (JI.range1 JE.int T.n_range) (fun i330 s328 => (JG.ifT (JT.bool (JW.or (JT.not (JT.of (JE.isi (JE.ix (JE.rd (JE.var 3)) (JE.var 5)) (w_type_at T.n_bool (by decide +kernel) rfl (by decide) (by decide)) (.ty _) (tyr_bool (t := "bool") (by decide +kernel)) T.n_isinstance))) (JW.or1 (JT.cmp (JE.ix (JE.rd (JE.var 3)) (JE.var 5)) (JE.ix (JE.rd (JE.var 4)) (JE.var 5)) opj_neB)))) (JG.rt (JR.ret JE.bl hx)) (JG.nil (fun _ _ _ h => h.weak (weak_some (weak_some (weak_some (weak_some (weak_some (weak_none weak_nil)))))))) hx)) hx (weak_some (weak_some (weak_some (weak_some (weak_some (weak_none weak_nil)))))) sc_law_signs.nd) fun s328 => (JR.ret JE.bl hx))))) (fun p_law_right_q => (JR.seq (J1.set 3 (JE.lst (JA.consL (JE.cmp (JE.var 0) (JE.var 1) (opj_ciq (op := .Lt) (sl := "__lt__") (fun _ _ => rfl) T.o_Fraction T.om_Fraction_gt PySem.F.slot_int_lt PySem.F.entry_int_lt PySem.F.args_int_lt_2 c_Fraction_gt (hr.mono (by decide)) tk)) (JA.consL (JE.cmp (JE.var 0) (JE.var 1) (opj_ciq (op := .LtE) (sl := "__le__") (fun _ _ => rfl) T.o_Fraction T.om_Fraction_ge PySem.F.slot_int_le PySem.F.entry_int_le PySem.F.args_int_le_2 c_Fraction_ge (hr.mono (by decide)) tk)) (JA.consL (JE.cmp (JE.var 0) (JE.var 1) (opj_ciq (op := .Eq) (sl := "__eq__") (fun _ _ => rfl) T.o_Fraction T.om_Fraction_eq PySem.F.slot_int_eq PySem.F.entry_int_eq PySem.F.args_int_eq_2 c_Fraction_eq (hr.mono (by decide)) tk)) (JA.consL (JE.cmp (JE.var 0) (JE.var 1) (opj_neiq T.o_Fraction T.om_Fraction_eq c_Fraction_eq (hr.mono (by decide)) tk)) (JA.consL (JE.cmp (JE.var 0) (JE.var 1) (opj_ciq (op := .Gt) (sl := "__gt__") (fun _ _ => rfl) T.o_Fraction T.om_Fraction_lt PySem.F.slot_int_gt PySem.F.entry_int_gt PySem.F.args_int_gt_2 c_Fraction_lt (hr.mono (by decide)) tk)) (JA.consL (JE.cmp (JE.var 0) (JE.var 1) (opj_ciq (op := .GtE) (sl := "__ge__") (fun _ _ => rfl) T.o_Fraction T.om_Fraction_le PySem.F.slot_int_ge PySem.F.entry_int_ge PySem.F.args_int_ge_2 c_Fraction_le (hr.mono (by decide)) tk)) JA.nilL))))))) hx sc_law_signs.nd) fun v_law_asked_369 => (JR.seq (J1.set 4 (JE.lst (JA.consL (JE.cmp (JE.var 2) JE.int opj_lt) (JA.consL (JE.cmp (JE.var 2) JE.int opj_le) (JA.consL (JE.cmp (JE.var 2) JE.int opj_eq) (JA.consL (JE.cmp (JE.var 2) JE.int opj_ne) (JA.consL (JE.cmp (JE.var 2) JE.int opj_gt) (JA.consL (JE.cmp (JE.var 2) JE.int opj_ge) JA.nilL))))))) hx sc_law_signs.nd) fun v_law_expected_394 => (JR.seqG (GL := fun _ _ _ _ => False) (J1G.forG (S := Unit) (cx := fun s395 => [some (SF.mk rInt p_law_left_i), some (SF.mk (rFrac K) p_law_right_q), some (SF.mk rInt p_law_difference), some (SF.mk (rL rBl) v_law_asked_369), some (SF.mk (rL rBl) v_law_expected_394), none]) (me := fun _ => []) (s0 := ()) 5 hp (JI.range1 JE.int T.n_range) (fun i397 s395 => (JG.ifT (JT.bool (JW.or (JT.not (JT.of (JE.isi (JE.ix (JE.rd (JE.var 3)) (JE.var 5)) (w_type_at T.n_bool (by decide +kernel) rfl (by decide) (by decide)) (.ty _) (tyr_bool (t := "bool") (by decide +kernel)) T.n_isinstance))) (JW.or1 (JT.cmp (JE.ix (JE.rd (JE.var 3)) (JE.var 5)) (JE.ix (JE.rd (JE.var 4)) (JE.var 5)) opj_neB)))) (JG.rt (JR.ret JE.bl hx)) (JG.nil (fun _ _ _ h => h.weak (weak_some (weak_some (weak_some (weak_some (weak_some (weak_none weak_nil)))))))) hx)) hx (weak_some (weak_some (weak_some (weak_some (weak_some (weak_none weak_nil)))))) sc_law_signs.nd) fun s395 => (JR.ret JE.bl hx))))))) (fun p_law_left_q => (JR.num (K := K) 1 (fun p_law_right_i => (JR.seq (J1.set 3 (JE.lst (JA.consL (JE.cmp (JE.var 0) (JE.var 1) (opj_cqi (op := .Lt) (fun _ _ => rfl) T.o_Fraction T.om_Fraction_lt T.nf_Fraction.2 c_Fraction_lt (hr.mono (by decide)) tk)) (JA.consL (JE.cmp (JE.var 0) (JE.var 1) (opj_cqi (op := .LtE) (fun _ _ => rfl) T.o_Fraction T.om_Fraction_le T.nf_Fraction.2 c_Fraction_le (hr.mono (by decide)) tk)) (JA.consL (JE.cmp (JE.var 0) (JE.var 1) (opj_cqi (op := .Eq) (fun _ _ => rfl) T.o_Fraction T.om_Fraction_eq T.nf_Fraction.2 c_Fraction_eq (hr.mono (by decide)) tk)) (JA.consL (JE.cmp (JE.var 0) (JE.var 1) (opj_neqi T.o_Fraction T.om_Fraction_eq T.nf_Fraction.2 c_Fraction_eq (hr.mono (by decide)) tk)) (JA.consL (JE.cmp (JE.var 0) (JE.var 1) (opj_cqi (op := .Gt) (fun _ _ => rfl) T.o_Fraction T.om_Fraction_gt T.nf_Fraction.2 c_Fraction_gt (hr.mono (by decide)) tk)) (JA.consL (JE.cmp (JE.var 0) (JE.var 1) (opj_cqi (op := .GtE) (fun _ _ => rfl) T.o_Fraction T.om_Fraction_ge T.nf_Fraction.2 c_Fraction_ge (hr.mono (by decide)) tk)) JA.nilL))))))) hx sc_law_signs.nd) fun v_law_asked_436 => (JR.seq (J1.set 4 (JE.lst (JA.consL (JE.cmp (JE.var 2) JE.int opj_lt) (JA.consL (JE.cmp (JE.var 2) JE.int opj_le) (JA.consL (JE.cmp (JE.var 2) JE.int opj_eq) (JA.consL (JE.cmp (JE.var 2) JE.int opj_ne) (JA.consL (JE.cmp (JE.var 2) JE.int opj_gt) (JA.consL (JE.cmp (JE.var 2) JE.int opj_ge) JA.nilL))))))) hx sc_law_signs.nd) fun v_law_expected_461 => (JR.seqG (GL := fun _ _ _ _ => False) (J1G.forG (S := Unit) (cx := fun s462 => [some (SF.mk (rFrac K) p_law_left_q), some (SF.mk rInt p_law_right_i), some (SF.mk rInt p_law_difference), some (SF.mk (rL rBl) v_law_asked_436), some (SF.mk (rL rBl) v_law_expected_461), none]) (me := fun _ => []) (s0 := ()) 5 hp (JI.range1 JE.int T.n_range) (fun i464 s462 => (JG.ifT (JT.bool (JW.or (JT.not (JT.of (JE.isi (JE.ix (JE.rd (JE.var 3)) (JE.var 5)) (w_type_at T.n_bool (by decide +kernel) rfl (by decide) (by decide)) (.ty _) (tyr_bool (t := "bool") (by decide +kernel)) T.n_isinstance))) (JW.or1 (JT.cmp (JE.ix (JE.rd (JE.var 3)) (JE.var 5)) (JE.ix (JE.rd (JE.var 4)) (JE.var 5)) opj_neB)))) (JG.rt (JR.ret JE.bl hx)) (JG.nil (fun _ _ _ h => h.weak (weak_some (weak_some (weak_some (weak_some (weak_some (weak_none weak_nil)))))))) hx)) hx (weak_some (weak_some (weak_some (weak_some (weak_some (weak_none weak_nil)))))) sc_law_signs.nd) fun s462 => (JR.ret JE.bl hx))))) (fun p_law_right_q => (JR.seq (J1.set 3 (JE.lst (JA.consL (JE.cmp (JE.var 0) (JE.var 1) (opj_cqq (op := .Lt) (fun _ _ => rfl) T.o_Fraction T.om_Fraction_lt T.nf_Fraction.1 c_Fraction_lt (hr.mono (by decide)) tk)) (JA.consL (JE.cmp (JE.var 0) (JE.var 1) (opj_cqq (op := .LtE) (fun _ _ => rfl) T.o_Fraction T.om_Fraction_le T.nf_Fraction.1 c_Fraction_le (hr.mono (by decide)) tk)) (JA.consL (JE.cmp (JE.var 0) (JE.var 1) (opj_cqq (op := .Eq) (fun _ _ => rfl) T.o_Fraction T.om_Fraction_eq T.nf_Fraction.1 c_Fraction_eq (hr.mono (by decide)) tk)) (JA.consL (JE.cmp (JE.var 0) (JE.var 1) (opj_neqq T.o_Fraction T.om_Fraction_eq T.nf_Fraction.1 c_Fraction_eq (hr.mono (by decide)) tk)) (JA.consL (JE.cmp (JE.var 0) (JE.var 1) (opj_cqq (op := .Gt) (fun _ _ => rfl) T.o_Fraction T.om_Fraction_gt T.nf_Fraction.1 c_Fraction_gt (hr.mono (by decide)) tk)) (JA.consL (JE.cmp (JE.var 0) (JE.var 1) (opj_cqq (op := .GtE) (fun _ _ => rfl) T.o_Fraction T.om_Fraction_ge T.nf_Fraction.1 c_Fraction_ge (hr.mono (by decide)) tk)) JA.nilL))))))) hx sc_law_signs.nd) fun v_law_asked_503 => (JR.seq (J1.set 4 (JE.lst (JA.consL (JE.cmp (JE.var 2) JE.int opj_lt) (JA.consL (JE.cmp (JE.var 2) JE.int opj_le) (JA.consL (JE.cmp (JE.var 2) JE.int opj_eq) (JA.consL (JE.cmp (JE.var 2) JE.int opj_ne) (JA.consL (JE.cmp (JE.var 2) JE.int opj_gt) (JA.consL (JE.cmp (JE.var 2) JE.int opj_ge) JA.nilL))))))) hx sc_law_signs.nd) fun v_law_expected_528 => (JR.seqG (GL := fun _ _ _ _ => False) (J1G.forG (S := Unit) (cx := fun s529 => [some (SF.mk (rFrac K) p_law_left_q), some (SF.mk (rFrac K) p_law_right_q), some (SF.mk rInt p_law_difference), some (SF.mk (rL rBl) v_law_asked_503), some (SF.mk (rL rBl) v_law_expected_528), none]) (me := fun _ => []) (s0 := ()) 5 hp (JI.range1 JE.int T.n_range) (fun i531 s529 => (JG.ifT (JT.bool (JW.or (JT.not (JT.of (JE.isi (JE.ix (JE.rd (JE.var 3)) (JE.var 5)) (w_type_at T.n_bool (by decide +kernel) rfl (by decide) (by decide)) (.ty _) (tyr_bool (t := "bool") (by decide +kernel)) T.n_isinstance))) (JW.or1 (JT.cmp (JE.ix (JE.rd (JE.var 3)) (JE.var 5)) (JE.ix (JE.rd (JE.var 4)) (JE.var 5)) opj_neB)))) (JG.rt (JR.ret JE.bl hx)) (JG.nil (fun _ _ _ h => h.weak (weak_some (weak_some (weak_some (weak_some (weak_some (weak_none weak_nil)))))))) hx)) hx (weak_some (weak_some (weak_some (weak_some (weak_some (weak_none weak_nil)))))) sc_law_signs.nd) fun s529 => (JR.ret JE.bl hx))))))))⟩
theorem sc_law : FnScope ["_law_script", "_law_choice", "_law_a", "_law_b", "_law_c", "_law_d", "_law_way", "_law_n", "_law_near", "_law_x", "_law_y"] ["_law_script"] (defScope s_law) := ⟨rfl, rfl, rfl, by decide +kernel, rfl, by decide +kernel, by decide +kernel⟩
def m_law (p_law_script : (List Int)) : Res Bool :=
  (((((((Res.ok p_law_script).bind fun a3 => ((Res.ok (0 : Int)).bind fun a1 => (Res.ok ()).bind fun b2 => .ok (a1, b2)).bind fun b4 => .ok (a3, b4)).bind (fun d => m_law_cell d.1 d.2.1)).bind fun a5 => (Res.ok ()).bind fun b6 => .ok (a5, b6)).bind (fun d => .ok d.1)).bind fun a9 => ((Res.ok (10 : Int)).bind fun a7 => (Res.ok (9 : Int)).bind fun b8 => powI a7 b8).bind fun b10 => modI a9 b10).bind fun v_law_choice_11 => ((((((Res.ok p_law_script).bind fun a14 => ((Res.ok (1 : Int)).bind fun a12 => (Res.ok ()).bind fun b13 => .ok (a12, b13)).bind fun b15 => .ok (a14, b15)).bind (fun d => m_law_cell d.1 d.2.1)).bind fun a18 => ((Res.ok v_law_choice_11).bind fun a16 => (Res.ok ()).bind fun b17 => .ok (a16, b17)).bind fun b19 => .ok (a18, b19)).bind (fun d => m_law_number d.1 d.2.1)).bind fun v_law_a_20 => (((Res.ok (1 : Int)).bind fun a33 => (((((((Res.ok p_law_script).bind fun a23 => ((Res.ok (2 : Int)).bind fun a21 => (Res.ok ()).bind fun b22 => .ok (a21, b22)).bind fun b24 => .ok (a23, b24)).bind (fun d => m_law_cell d.1 d.2.1)).bind fun a29 => (((Res.ok v_law_choice_11).bind fun a25 => (Res.ok (6 : Int)).bind fun b26 => fdivI a25 b26).bind fun a27 => (Res.ok ()).bind fun b28 => .ok (a27, b28)).bind fun b30 => .ok (a29, b30)).bind (fun d => m_law_number d.1 d.2.1)).bind fun a31 => (Res.ok ()).bind fun b32 => .ok (a31, b32)).bind (fun d => .ok (if d.1 < 0 then -d.1 else d.1))).bind fun b34 => .ok (a33 + b34)).bind fun v_law_b_35 => ((((((Res.ok p_law_script).bind fun a38 => ((Res.ok (3 : Int)).bind fun a36 => (Res.ok ()).bind fun b37 => .ok (a36, b37)).bind fun b39 => .ok (a38, b39)).bind (fun d => m_law_cell d.1 d.2.1)).bind fun a44 => (((Res.ok v_law_choice_11).bind fun a40 => (Res.ok (12 : Int)).bind fun b41 => fdivI a40 b41).bind fun a42 => (Res.ok ()).bind fun b43 => .ok (a42, b43)).bind fun b45 => .ok (a44, b45)).bind (fun d => m_law_number d.1 d.2.1)).bind fun v_law_c_46 => (((Res.ok (1 : Int)).bind fun a59 => (((((((Res.ok p_law_script).bind fun a49 => ((Res.ok (4 : Int)).bind fun a47 => (Res.ok ()).bind fun b48 => .ok (a47, b48)).bind fun b50 => .ok (a49, b50)).bind (fun d => m_law_cell d.1 d.2.1)).bind fun a55 => (((Res.ok v_law_choice_11).bind fun a51 => (Res.ok (72 : Int)).bind fun b52 => fdivI a51 b52).bind fun a53 => (Res.ok ()).bind fun b54 => .ok (a53, b54)).bind fun b56 => .ok (a55, b56)).bind (fun d => m_law_number d.1 d.2.1)).bind fun a57 => (Res.ok ()).bind fun b58 => .ok (a57, b58)).bind (fun d => .ok (if d.1 < 0 then -d.1 else d.1))).bind fun b60 => .ok (a59 + b60)).bind fun v_law_d_61 => ((((Res.ok v_law_choice_11).bind fun a62 => (Res.ok (216 : Int)).bind fun b63 => fdivI a62 b63).bind fun a64 => (Res.ok (4 : Int)).bind fun b65 => modI a64 b65).bind fun v_law_way_66 => ((((Res.ok v_law_way_66).bind fun a67 => (Res.ok (1 : Int)).bind fun b68 => .ok (decide (a67 = b68))).bind fun x76 => if x76 = true then (((Res.ok v_law_a_20).bind fun a69 => (Res.ok v_law_d_61).bind fun b70 => mulI a69 b70).bind fun v_law_c_71 => (((Res.ok v_law_b_35).bind fun a72 => (Res.ok v_law_d_61).bind fun b73 => mulI a72 b73).bind fun v_law_d_74 => (Res.ok (v_law_c_71, v_law_d_74)))) else (Res.ok (v_law_c_46, v_law_d_61))).bind fun s75 => ((((Res.ok v_law_way_66).bind fun a77 => (Res.ok (2 : Int)).bind fun b78 => .ok (decide (a77 = b78))).bind fun x88 => if x88 = true then ((((Res.ok v_law_a_20).bind fun a79 => (Res.ok s75.2).bind fun b80 => mulI a79 b80).bind fun a81 => (Res.ok (1 : Int)).bind fun b82 => .ok (a81 + b82)).bind fun v_law_c_83 => (((Res.ok v_law_b_35).bind fun a84 => (Res.ok s75.2).bind fun b85 => mulI a84 b85).bind fun v_law_d_86 => (Res.ok (v_law_c_83, v_law_d_86)))) else (Res.ok (s75.1, s75.2))).bind fun s87 => ((((Res.ok v_law_way_66).bind fun a89 => (Res.ok (3 : Int)).bind fun b90 => .ok (decide (a89 = b90))).bind fun x100 => if x100 = true then ((((Res.ok v_law_a_20).bind fun a91 => (Res.ok s87.2).bind fun b92 => mulI a91 b92).bind fun a93 => (Res.ok (1 : Int)).bind fun b94 => .ok (a93 - b94)).bind fun v_law_c_95 => (((Res.ok v_law_b_35).bind fun a96 => (Res.ok s87.2).bind fun b97 => mulI a96 b97).bind fun v_law_d_98 => (Res.ok (v_law_c_95, v_law_d_98)))) else (Res.ok (s87.1, s87.2))).bind fun s99 => ((((((Res.ok p_law_script).bind fun a103 => ((Res.ok (5 : Int)).bind fun a101 => (Res.ok ()).bind fun b102 => .ok (a101, b102)).bind fun b104 => .ok (a103, b104)).bind (fun d => m_law_cell d.1 d.2.1)).bind fun a109 => (((Res.ok v_law_choice_11).bind fun a105 => (Res.ok (864 : Int)).bind fun b106 => fdivI a105 b106).bind fun a107 => (Res.ok ()).bind fun b108 => .ok (a107, b108)).bind fun b110 => .ok (a109, b110)).bind (fun d => m_law_number d.1 d.2.1)).bind fun v_law_n_111 => ((((Res.ok v_law_choice_11).bind fun a112 => (Res.ok (5184 : Int)).bind fun b113 => fdivI a112 b113).bind fun a114 => (Res.ok (3 : Int)).bind fun b115 => modI a114 b115).bind fun v_law_near_116 => ((((Res.ok v_law_near_116).bind fun a117 => (Res.ok (0 : Int)).bind fun b118 => .ok (decide (a117 > b118))).bind fun x127 => if x127 = true then (((((Res.ok v_law_a_20).bind fun a119 => (Res.ok v_law_b_35).bind fun b120 => fdivI a119 b120).bind fun a121 => (Res.ok v_law_near_116).bind fun b122 => .ok (a121 + b122)).bind fun a123 => (Res.ok (1 : Int)).bind fun b124 => .ok (a123 - b124)).bind fun v_law_n_125 => (Res.ok v_law_n_125)) else (Res.ok v_law_n_111)).bind fun s126 => ((((Res.ok v_law_a_20).bind fun a130 => ((Res.ok v_law_b_35).bind fun a128 => (Res.ok ()).bind fun b129 => .ok (a128, b129)).bind fun b131 => .ok (a130, b131)).bind (fun d => qMk d.1 d.2.1)).bind fun v_law_x_132 => ((((Res.ok s99.1).bind fun a135 => ((Res.ok s99.2).bind fun a133 => (Res.ok ()).bind fun b134 => .ok (a133, b134)).bind fun b136 => .ok (a135, b136)).bind (fun d => qMk d.1 d.2.1)).bind fun v_law_y_137 => (((((((Res.ok v_law_x_132).bind fun a138 => .ok (Num.q a138)).bind fun a150 => (((Res.ok v_law_y_137).bind fun a139 => .ok (Num.q a139)).bind fun a148 => ((((Res.ok v_law_a_20).bind fun a140 => (Res.ok s99.2).bind fun b141 => mulI a140 b141).bind fun a144 => ((Res.ok s99.1).bind fun a142 => (Res.ok v_law_b_35).bind fun b143 => mulI a142 b143).bind fun b145 => .ok (a144 - b145)).bind fun a146 => (Res.ok ()).bind fun b147 => .ok (a146, b147)).bind fun b149 => .ok (a148, b149)).bind fun b151 => .ok (a150, b151)).bind (fun d => m_law_signs d.1 d.2.1 d.2.2.1)).bind fun a152 => .ok (!a152)).bind fun a168 => if a168 = true then .ok true else (((((Res.ok v_law_y_137).bind fun a153 => .ok (Num.q a153)).bind fun a165 => (((Res.ok v_law_x_132).bind fun a154 => .ok (Num.q a154)).bind fun a163 => ((((Res.ok s99.1).bind fun a155 => (Res.ok v_law_b_35).bind fun b156 => mulI a155 b156).bind fun a159 => ((Res.ok v_law_a_20).bind fun a157 => (Res.ok s99.2).bind fun b158 => mulI a157 b158).bind fun b160 => .ok (a159 - b160)).bind fun a161 => (Res.ok ()).bind fun b162 => .ok (a161, b162)).bind fun b164 => .ok (a163, b164)).bind fun b166 => .ok (a165, b166)).bind (fun d => m_law_signs d.1 d.2.1 d.2.2.1)).bind fun a167 => .ok (!a167))).bind fun x169 => if x169 = true then (Res.ok false) else (((((((Res.ok v_law_x_132).bind fun a170 => .ok (Num.q a170)).bind fun a176 => (((Res.ok v_law_x_132).bind fun a171 => .ok (Num.q a171)).bind fun a174 => ((Res.ok (0 : Int)).bind fun a172 => (Res.ok ()).bind fun b173 => .ok (a172, b173)).bind fun b175 => .ok (a174, b175)).bind fun b177 => .ok (a176, b177)).bind (fun d => m_law_signs d.1 d.2.1 d.2.2.1)).bind fun a178 => .ok (!a178)).bind fun a192 => if a192 = true then .ok true else (((((Res.ok v_law_x_132).bind fun a179 => .ok (Num.q a179)).bind fun a189 => (((((Res.ok v_law_a_20).bind fun a182 => ((Res.ok v_law_b_35).bind fun a180 => (Res.ok ()).bind fun b181 => .ok (a180, b181)).bind fun b183 => .ok (a182, b183)).bind (fun d => qMk d.1 d.2.1)).bind fun a184 => .ok (Num.q a184)).bind fun a187 => ((Res.ok (0 : Int)).bind fun a185 => (Res.ok ()).bind fun b186 => .ok (a185, b186)).bind fun b188 => .ok (a187, b188)).bind fun b190 => .ok (a189, b190)).bind (fun d => m_law_signs d.1 d.2.1 d.2.2.1)).bind fun a191 => .ok (!a191))).bind fun x193 => if x193 = true then (Res.ok false) else (((((Res.ok v_law_x_132).bind fun a194 => .ok (Num.q a194)).bind fun a204 => (((Res.ok s126).bind fun a195 => .ok (Num.i a195)).bind fun a202 => (((Res.ok v_law_a_20).bind fun a198 => ((Res.ok s126).bind fun a196 => (Res.ok v_law_b_35).bind fun b197 => mulI a196 b197).bind fun b199 => .ok (a198 - b199)).bind fun a200 => (Res.ok ()).bind fun b201 => .ok (a200, b201)).bind fun b203 => .ok (a202, b203)).bind fun b205 => .ok (a204, b205)).bind (fun d => m_law_signs d.1 d.2.1 d.2.2.1)).bind fun a231 => if a231 = true then (((((Res.ok s126).bind fun a206 => .ok (Num.i a206)).bind fun a216 => (((Res.ok v_law_x_132).bind fun a207 => .ok (Num.q a207)).bind fun a214 => ((((Res.ok s126).bind fun a208 => (Res.ok v_law_b_35).bind fun b209 => mulI a208 b209).bind fun a210 => (Res.ok v_law_a_20).bind fun b211 => .ok (a210 - b211)).bind fun a212 => (Res.ok ()).bind fun b213 => .ok (a212, b213)).bind fun b215 => .ok (a214, b215)).bind fun b217 => .ok (a216, b217)).bind (fun d => m_law_signs d.1 d.2.1 d.2.2.1)).bind fun a230 => if a230 = true then ((((Res.ok s126).bind fun a218 => .ok (Num.i a218)).bind fun a228 => (((Res.ok v_law_y_137).bind fun a219 => .ok (Num.q a219)).bind fun a226 => ((((Res.ok s126).bind fun a220 => (Res.ok s99.2).bind fun b221 => mulI a220 b221).bind fun a222 => (Res.ok s99.1).bind fun b223 => .ok (a222 - b223)).bind fun a224 => (Res.ok ()).bind fun b225 => .ok (a224, b225)).bind fun b227 => .ok (a226, b227)).bind fun b229 => .ok (a228, b229)).bind (fun d => m_law_signs d.1 d.2.1 d.2.2.1)) else .ok false) else .ok false)))))))))))))))))
abbrev C_law (P : Program) (w : World) (K : PySem.W.Frag) (mg : Str → Option Value) (base : Heap) : Prop := FnR P w K mg base (L2.CX P w) 4 (He.ga K "law") (spF K (aCons (rdL K (rp rInt)) aNil) (fun d => m_law d.1) (rp rBl))
theorem fn_law {P : Program} {w : World} {K : PySem.W.Frag} {mg : Str → Option Value} {base : Heap} (T : Txt K mg) (c_law_cell : C_law_cell P w K mg base) (c_law_number : C_law_number P w K mg base) (c_Fraction_2 : C_Fraction_2 P w K mg base) (c_law_signs : C_law_signs P w K mg base) {fd : FuncData} (F : FunD K "law" "law" (defArgs s_law) (defBody s_law) (defScope s_law) [] [] (He.ga K "law") fd) : FnOk P w K mg base (L2.CX P w) 4 (He.ga K "law") fd ["_law_script"] (spF K (aCons (rdL K (rp rInt)) aNil) (fun d => m_law d.1) (rp rBl)) := by
  refine FunD.fn (k := 3) (N := ["_law_script", "_law_choice", "_law_a", "_law_b", "_law_c", "_law_d", "_law_way", "_law_n", "_law_near", "_law_x", "_law_y"]) (ps := ["_law_script"]) F sc_law (fun I H vs d h => ?_) (fun cdv A outer s I0 H0 E vs d hr sm h => ?_)
  · obtain ⟨v0, _, rfl, h0, rfl⟩ := h; rfl
  obtain ⟨v0, _, rfl, h0, rfl⟩ := h
  have hx : ∀ {ctx : List (Option SF)} {mem : List MF} (I H : Hp) (σ : St) (d : Option Addr), Stt I0 H0 ctx mem I H σ → Fr H0 d → bK I0 H0 I H σ d := fun _ _ _ _ s f => ⟨s.fm, f⟩
  have tk : Takes (bx P w K mg base ["_law_script", "_law_choice", "_law_a", "_law_b", "_law_c", "_law_d", "_law_way", "_law_n", "_law_near", "_law_x", "_law_y"] "law" (defScope s_law) (He.ga K "law") cdv A outer s H0 E) (bW E) := takes_of rfl rfl rfl rfl
  obtain ⟨p_law_script, _⟩ := d
  exact ⟨Stt I0 H0 [some (SF.mk (fun I v x => (rdL K (rp rInt)) I H0 v x) p_law_script), none, none, none, none, none, none, none, none, none, none] [], Stt.start sm ⟨h0, ini_nil rfl⟩ rfl (by simp), (JR.seq (J1.set 1 (JE.bin (JE.callTy (JA.cons (JE.call (JA.cons (JE.varP 0 (r := (rdL K (rp rInt)))) (JA.cons JE.int JA.nil)) (cj_of c_law_cell (hr.mono (by decide)) tk) T.g_law_cell T.k_law_cell) JA.nil) cj_int T.n_int boot_int) (JE.bin JE.int JE.int opj_pow) opj_mod) hx sc_law.nd) fun v_law_choice_11 => (JR.seq (J1.set 2 (JE.call (JA.cons (JE.call (JA.cons (JE.varP 0 (r := (rdL K (rp rInt)))) (JA.cons JE.int JA.nil)) (cj_of c_law_cell (hr.mono (by decide)) tk) T.g_law_cell T.k_law_cell) (JA.cons (JE.var 1) JA.nil)) (cj_of c_law_number (hr.mono (by decide)) tk) T.g_law_number T.k_law_number) hx sc_law.nd) fun v_law_a_20 => (JR.seq (J1.set 3 (JE.bin JE.int (JE.callB (JA.cons (JE.call (JA.cons (JE.call (JA.cons (JE.varP 0 (r := (rdL K (rp rInt)))) (JA.cons JE.int JA.nil)) (cj_of c_law_cell (hr.mono (by decide)) tk) T.g_law_cell T.k_law_cell) (JA.cons (JE.bin (JE.var 1) JE.int opj_fdiv) JA.nil)) (cj_of c_law_number (hr.mono (by decide)) tk) T.g_law_number T.k_law_number) JA.nil) cj_abs T.n_abs boot_abs) opj_add) hx sc_law.nd) fun v_law_b_35 => (JR.seq (J1.set 4 (JE.call (JA.cons (JE.call (JA.cons (JE.varP 0 (r := (rdL K (rp rInt)))) (JA.cons JE.int JA.nil)) (cj_of c_law_cell (hr.mono (by decide)) tk) T.g_law_cell T.k_law_cell) (JA.cons (JE.bin (JE.var 1) JE.int opj_fdiv) JA.nil)) (cj_of c_law_number (hr.mono (by decide)) tk) T.g_law_number T.k_law_number) hx sc_law.nd) fun v_law_c_46 => (JR.seq (J1.set 5 (JE.bin JE.int (JE.callB (JA.cons (JE.call (JA.cons (JE.call (JA.cons (JE.varP 0 (r := (rdL K (rp rInt)))) (JA.cons JE.int JA.nil)) (cj_of c_law_cell (hr.mono (by decide)) tk) T.g_law_cell T.k_law_cell) (JA.cons (JE.bin (JE.var 1) JE.int opj_fdiv) JA.nil)) (cj_of c_law_number (hr.mono (by decide)) tk) T.g_law_number T.k_law_number) JA.nil) cj_abs T.n_abs boot_abs) opj_add) hx sc_law.nd) fun v_law_d_61 => (JR.seq (J1.set 6 (JE.bin (JE.bin (JE.var 1) JE.int opj_fdiv) JE.int opj_mod) hx sc_law.nd) fun v_law_way_66 => (JR.seq (J1.if (S := (Int × Int)) (G' := fun s75 => Stt I0 H0 [some (SF.mk (fun I v x => (rdL K (rp rInt)) I H0 v x) p_law_script), some (SF.mk rInt v_law_choice_11), some (SF.mk rInt v_law_a_20), some (SF.mk rInt v_law_b_35), some (SF.mk rInt s75.1), some (SF.mk rInt s75.2), some (SF.mk rInt v_law_way_66), none, none, none, none] []) (JT.cmp (JE.var 6) JE.int opj_eq) (JN.seq (J1.set 4 (JE.bin (JE.var 2) (JE.var 5) opj_mul) hx sc_law.nd) fun v_law_c_71 => (JN.seq (J1.set 5 (JE.bin (JE.var 3) (JE.var 5) opj_mul) hx sc_law.nd) fun v_law_d_74 => (JN.nil fun _ _ _ h => h))) (JN.nil fun _ _ _ h => h) hx) fun s75 => (JR.seq (J1.if (S := (Int × Int)) (G' := fun s87 => Stt I0 H0 [some (SF.mk (fun I v x => (rdL K (rp rInt)) I H0 v x) p_law_script), some (SF.mk rInt v_law_choice_11), some (SF.mk rInt v_law_a_20), some (SF.mk rInt v_law_b_35), some (SF.mk rInt s87.1), some (SF.mk rInt s87.2), some (SF.mk rInt v_law_way_66), none, none, none, none] []) (JT.cmp (JE.var 6) JE.int opj_eq) (JN.seq (J1.set 4 (JE.bin (JE.bin (JE.var 2) (JE.var 5) opj_mul) JE.int opj_add) hx sc_law.nd) fun v_law_c_83 => (JN.seq (J1.set 5 (JE.bin (JE.var 3) (JE.var 5) opj_mul) hx sc_law.nd) fun v_law_d_86 => (JN.nil fun _ _ _ h => h))) (JN.nil fun _ _ _ h => h) hx) fun s87 => (JR.seq (J1.if (S := (Int × Int)) (G' := fun s99 => Stt I0 H0 [some (SF.mk (fun I v x => (rdL K (rp rInt)) I H0 v x) p_law_script), some (SF.mk rInt v_law_choice_11), some (SF.mk rInt v_law_a_20), some (SF.mk rInt v_law_b_35), some (SF.mk rInt s99.1), some (SF.mk rInt s99.2), some (SF.mk rInt v_law_way_66), none, none, none, none] []) (JT.cmp (JE.var 6) JE.int opj_eq) (JN.seq (J1.set 4 (JE.bin (JE.bin (JE.var 2) (JE.var 5) opj_mul) JE.int opj_sub) hx sc_law.nd) fun v_law_c_95 => (JN.seq (J1.set 5 (JE.bin (JE.var 3) (JE.var 5) opj_mul) hx sc_law.nd) fun v_law_d_98 => (JN.nil fun _ _ _ h => h))) (JN.nil fun _ _ _ h => h) hx) fun s99 => (JR.seq (J1.set 7 (JE.call (JA.cons (JE.call (JA.cons (JE.varP 0 (r := (rdL K (rp rInt)))) (JA.cons JE.int JA.nil)) (cj_of c_law_cell (hr.mono (by decide)) tk) T.g_law_cell T.k_law_cell) (JA.cons (JE.bin (JE.var 1) JE.int opj_fdiv) JA.nil)) (cj_of c_law_number (hr.mono (by decide)) tk) T.g_law_number T.k_law_number) hx sc_law.nd) fun v_law_n_111 => (JR.seq (J1.set 8 (JE.bin (JE.bin (JE.var 1) JE.int opj_fdiv) JE.int opj_mod) hx sc_law.nd) fun v_law_near_116 => (JR.seq (J1.if (S := Int) (G' := fun s126 => Stt I0 H0 [some (SF.mk (fun I v x => (rdL K (rp rInt)) I H0 v x) p_law_script), some (SF.mk rInt v_law_choice_11), some (SF.mk rInt v_law_a_20), some (SF.mk rInt v_law_b_35), some (SF.mk rInt s99.1), some (SF.mk rInt s99.2), some (SF.mk rInt v_law_way_66), some (SF.mk rInt s126), some (SF.mk rInt v_law_near_116), none, none] []) (JT.cmp (JE.var 8) JE.int opj_gt) (JN.seq (J1.set 7 (JE.bin (JE.bin (JE.bin (JE.var 2) (JE.var 3) opj_fdiv) (JE.var 8) opj_add) JE.int opj_sub) hx sc_law.nd) fun v_law_n_125 => (JN.nil fun _ _ _ h => h)) (JN.nil fun _ _ _ h => h) hx) fun s126 => (JR.seq (J1.set 9 (JE.call (JA.cons (JE.var 2) (JA.cons (JE.var 3) JA.nil)) (c_Fraction_2 _ _ rfl rfl rfl rfl rfl (hr.mono (by decide)) tk) T.g_Fraction T.mk_Fraction.kp) hx sc_law.nd) fun v_law_x_132 => (JR.seq (J1.set 10 (JE.call (JA.cons (JE.var 4) (JA.cons (JE.var 5) JA.nil)) (c_Fraction_2 _ _ rfl rfl rfl rfl rfl (hr.mono (by decide)) tk) T.g_Fraction T.mk_Fraction.kp) hx sc_law.nd) fun v_law_y_137 => (JR.ifR (JT.bool (JW.or (JT.not (JT.of (JE.call (JA.cons (JE.numq (JE.var 9)) (JA.cons (JE.numq (JE.var 10)) (JA.cons (JE.bin (JE.bin (JE.var 2) (JE.var 5) opj_mul) (JE.bin (JE.var 4) (JE.var 3) opj_mul) opj_sub) JA.nil))) (cj_of c_law_signs (hr.mono (by decide)) tk) T.g_law_signs T.k_law_signs))) (JW.or1 (JT.not (JT.of (JE.call (JA.cons (JE.numq (JE.var 10)) (JA.cons (JE.numq (JE.var 9)) (JA.cons (JE.bin (JE.bin (JE.var 4) (JE.var 3) opj_mul) (JE.bin (JE.var 2) (JE.var 5) opj_mul) opj_sub) JA.nil))) (cj_of c_law_signs (hr.mono (by decide)) tk) T.g_law_signs T.k_law_signs)))))) (JR.ret JE.bl hx) (JR.ifR (JT.bool (JW.or (JT.not (JT.of (JE.call (JA.cons (JE.numq (JE.var 9)) (JA.cons (JE.numq (JE.var 9)) (JA.cons JE.int JA.nil))) (cj_of c_law_signs (hr.mono (by decide)) tk) T.g_law_signs T.k_law_signs))) (JW.or1 (JT.not (JT.of (JE.call (JA.cons (JE.numq (JE.var 9)) (JA.cons (JE.numq (JE.call (JA.cons (JE.var 2) (JA.cons (JE.var 3) JA.nil)) (c_Fraction_2 _ _ rfl rfl rfl rfl rfl (hr.mono (by decide)) tk) T.g_Fraction T.mk_Fraction.kp)) (JA.cons JE.int JA.nil))) (cj_of c_law_signs (hr.mono (by decide)) tk) T.g_law_signs T.k_law_signs)))))) (JR.ret JE.bl hx) (JR.ret (JE.and (JE.call (JA.cons (JE.numq (JE.var 9)) (JA.cons (JE.num (JE.var 7)) (JA.cons (JE.bin (JE.var 2) (JE.bin (JE.var 7) (JE.var 3) opj_mul) opj_sub) JA.nil))) (cj_of c_law_signs (hr.mono (by decide)) tk) T.g_law_signs T.k_law_signs) (JE.and (JE.call (JA.cons (JE.num (JE.var 7)) (JA.cons (JE.numq (JE.var 9)) (JA.cons (JE.bin (JE.bin (JE.var 7) (JE.var 3) opj_mul) (JE.var 2) opj_sub) JA.nil))) (cj_of c_law_signs (hr.mono (by decide)) tk) T.g_law_signs T.k_law_signs) (JE.one (JE.call (JA.cons (JE.num (JE.var 7)) (JA.cons (JE.numq (JE.var 10)) (JA.cons (JE.bin (JE.bin (JE.var 7) (JE.var 5) opj_mul) (JE.var 4) opj_sub) JA.nil))) (cj_of c_law_signs (hr.mono (by decide)) tk) T.g_law_signs T.k_law_signs)))) hx) hx) hx)))))))))))))))⟩
end L2.Tr

set_option exponentiation.threshold 100000
namespace L2.Tr
open PySem PySem.Spec PyProof.Rows
theorem cell_eq (ns : List Int) (k : Int) (hk : 0 ≤ k) : m_law_cell ns k = .ok (ns.getD k.toNat 0) := by
  unfold m_law_cell
  simp only [Res.ok_bind]
  by_cases h : k < (ns.length : Int)
  · simp only [h, decide_true, if_true]
    have hl : k.toNat < ns.length := by omega
    have e : atM ns ((k.toNat : Nat) : Int) = .ok (ns.getD k.toNat 0) := atM_nat (by simp [List.getD, hl])
    rwa [Int.toNat_of_nonneg hk] at e
  · simp only [h, decide_false, Bool.false_eq_true, if_false]
    have : ns[k.toNat]? = none := List.getElem?_eq_none (by omega)
    simp [List.getD, this]
theorem number_eq (c ch : Int) : ∃ v, m_law_number c ch = .ok v ∧ v.natAbs < 2 ^ 200 := by
  unfold m_law_number
  simp only [Res.ok_bind]
  rw [show powI 10 60 = .ok (10 ^ 60) from rfl]
  simp only [Res.ok_bind]
  rw [modI_ok (by decide), fdivI_ok (by decide) (by decide)]
  simp only [Res.ok_bind]
  rw [modI_ok (by decide), Int.fmod_eq_emod_of_nonneg ch (show (0 : Int) ≤ 3 by decide)]
  simp only [Res.ok_bind]
  have key : ∀ m : Int, 0 < m → m ≤ 10 ^ 60 → ∃ v, (modI c m).bind (fun z => if decide (Int.fmod (Int.fdiv ch 3) 2 = 1) = true then Res.ok (-z) else Res.ok z) = .ok v ∧ v.natAbs < 2 ^ 200 := fun m h0 h1 => by
    rw [modI_ok (by omega)]
    have a := Int.fmod_nonneg_of_pos c h0
    have b := Int.fmod_lt_of_pos c h0
    have q : (10 : Int) ^ 60 < 2 ^ 200 := by decide +kernel
    simp only [Res.ok_bind]
    split
    · exact ⟨_, rfl, by omega⟩
    · exact ⟨_, rfl, by omega⟩
  have h3 : ch % 3 = 0 ∨ ch % 3 = 1 ∨ ch % 3 = 2 := by omega
  rcases h3 with e | e | e <;> rw [e]
  · exact key 12 (by decide) (by decide)
  · exact key 1000 (by decide) (by decide)
  · exact key (10 ^ 60) (by decide) (by decide)
theorem signs_eq (x y : Num) (d : Int) (hx : fits x.val) (hy : fits y.val) (h1 : x.val < y.val ↔ d < 0) (h2 : y.val < x.val ↔ 0 < d) : m_law_signs x y d = .ok true := by
  have h3 : x.val ≤ y.val ↔ d ≤ 0 := by
    rw [← Rat.not_lt, h2]; omega
  have h4 : y.val ≤ x.val ↔ d ≥ 0 := by
    rw [← Rat.not_lt, h1]; omega
  have h5 : x.val = y.val ↔ d = 0 := by
    constructor
    · intro e
      have a := h3.mp (by rw [e]; exact Rat.le_refl)
      have b := h4.mp (by rw [e]; exact Rat.le_refl)
      omega
    · intro e
      exact Rat.le_antisymm (h3.mpr (by omega)) (h4.mpr (by omega))
  have h5' : y.val = x.val ↔ d = 0 := by rw [← h5]; exact ⟨Eq.symm, Eq.symm⟩
  have e : ((Res.ok (6 : Int)).bind fun a => rangeM1 a) = .ok [0, 1, 2, 3, 4, 5] := by rfl
  have a0 : ∀ a b c d e f : Bool, atM [a, b, c, d, e, f] 0 = .ok a := fun _ _ _ _ _ _ => rfl
  have a1 : ∀ a b c d e f : Bool, atM [a, b, c, d, e, f] 1 = .ok b := fun _ _ _ _ _ _ => rfl
  have a2 : ∀ a b c d e f : Bool, atM [a, b, c, d, e, f] 2 = .ok c := fun _ _ _ _ _ _ => rfl
  have a3 : ∀ a b c d e f : Bool, atM [a, b, c, d, e, f] 3 = .ok d := fun _ _ _ _ _ _ => rfl
  have a4 : ∀ a b c d e f : Bool, atM [a, b, c, d, e, f] 4 = .ok e := fun _ _ _ _ _ _ => rfl
  have a5 : ∀ a b c d e f : Bool, atM [a, b, c, d, e, f] 5 = .ok f := fun _ _ _ _ _ _ => rfl
  cases x with
  | i m => cases y with
    | i n =>
      have k1 : m < n ↔ d < 0 := by rw [← h1]; exact Rat.intCast_lt_intCast.symm
      have k2 : n < m ↔ d > 0 := by show _ ↔ 0 < d; rw [← h2]; exact Rat.intCast_lt_intCast.symm
      have k3 : m ≤ n ↔ d ≤ 0 := by rw [← h3]; exact Rat.intCast_le_intCast.symm
      have k4 : n ≤ m ↔ d ≥ 0 := by rw [← h4]; exact Rat.intCast_le_intCast.symm
      have k5 : m = n ↔ d = 0 := by rw [← h5]; exact Rat.intCast_inj.symm
      simp only [m_law_signs]
      rw [e]
      simp only [Res.ok_bind, forG, a0, a1, a2, a3, a4, a5, GT.gt, GE.ge, k1, k2, k3, k4, k5, Bool.not_true, Bool.false_eq_true, if_false, decide_true, Fl.out_nx, decide_eq_true_eq]
    | q r =>
      simp only [m_law_signs]
      rw [e]
      simp only [Res.ok_bind, qGt_ok (x := r) (y := .i m) hy hx, qGe_ok (x := r) (y := .i m) hy hx, qLt_ok (x := r) (y := .i m) hy hx, qLe_ok (x := r) (y := .i m) hy hx, qEq]
      simp only [Num.val] at h1 h2 h3 h4 h5 h5' ⊢
      simp only [Res.ok_bind, forG, a0, a1, a2, a3, a4, a5, GT.gt, h1, h2, h3, h4, h5', Bool.not_true, Bool.false_eq_true, if_false, decide_true, Fl.out_nx, decide_eq_true_eq]
  | q r => cases y with
    | i m =>
      simp only [m_law_signs]
      rw [e]
      simp only [Res.ok_bind, qGt_ok (x := r) (y := .i m) hx hy, qGe_ok (x := r) (y := .i m) hx hy, qLt_ok (x := r) (y := .i m) hx hy, qLe_ok (x := r) (y := .i m) hx hy, qEq]
      simp only [Num.val] at h1 h2 h3 h4 h5 h5' ⊢
      simp only [Res.ok_bind, forG, a0, a1, a2, a3, a4, a5, GT.gt, h1, h2, h3, h4, h5, Bool.not_true, Bool.false_eq_true, if_false, decide_true, Fl.out_nx, decide_eq_true_eq]
    | q t =>
      simp only [m_law_signs]
      rw [e]
      simp only [Res.ok_bind, qGt_ok (x := r) (y := .q t) hx hy, qGe_ok (x := r) (y := .q t) hx hy, qLt_ok (x := r) (y := .q t) hx hy, qLe_ok (x := r) (y := .q t) hx hy, qEq]
      simp only [Num.val] at h1 h2 h3 h4 h5 h5' ⊢
      simp only [Res.ok_bind, forG, a0, a1, a2, a3, a4, a5, GT.gt, h1, h2, h3, h4, h5, Bool.not_true, Bool.false_eq_true, if_false, decide_true, Fl.out_nx, decide_eq_true_eq]
theorem law_ok (ns : List Int) (hl : ns.length ≤ 63) : m_law ns = .ok true := by
  unfold m_law
  simp only [Res.ok_bind, cell_eq _ _ (show (0 : Int) ≤ 0 by decide), cell_eq _ _ (show (0 : Int) ≤ 1 by decide), cell_eq _ _ (show (0 : Int) ≤ 2 by decide), cell_eq _ _ (show (0 : Int) ≤ 3 by decide), cell_eq _ _ (show (0 : Int) ≤ 4 by decide), cell_eq _ _ (show (0 : Int) ≤ 5 by decide), show powI 10 9 = .ok (10 ^ 9) from rfl, modI_ok (show (10 ^ 9 : Int) ≠ 0 by decide), fdivI_ok (show (6 : Int) ≠ 0 by decide) (by decide), fdivI_ok (show (12 : Int) ≠ 0 by decide) (by decide), fdivI_ok (show (72 : Int) ≠ 0 by decide) (by decide), fdivI_ok (show (216 : Int) ≠ 0 by decide) (by decide), fdivI_ok (show (864 : Int) ≠ 0 by decide) (by decide), fdivI_ok (show (5184 : Int) ≠ 0 by decide) (by decide), modI_ok (show (4 : Int) ≠ 0 by decide), modI_ok (show (3 : Int) ≠ 0 by decide)]
  generalize Int.fmod _ (10 ^ 9) = ch
  obtain ⟨a, ea, ha⟩ := number_eq (ns.getD (Int.toNat 1) 0) ch
  obtain ⟨b0, eb, hb0⟩ := number_eq (ns.getD (Int.toNat 2) 0) (ch.fdiv 6)
  obtain ⟨c0, ec, hc0⟩ := number_eq (ns.getD (Int.toNat 3) 0) (ch.fdiv 12)
  obtain ⟨d0, ed, hd0⟩ := number_eq (ns.getD (Int.toNat 4) 0) (ch.fdiv 72)
  obtain ⟨n0, en, hn0⟩ := number_eq (ns.getD (Int.toNat 5) 0) (ch.fdiv 864)
  rw [ea, eb, ec, ed, en]
  simp only [Res.ok_bind, absN]
  generalize hB : (1 + (b0.natAbs : Int)) = b
  generalize hD : (1 + (d0.natAbs : Int)) = d1
  have hb : 0 < b := by omega
  have hd1 : 0 < d1 := by omega
  have hbl : b.natAbs ≤ 2 ^ 200 := by omega
  have hdl : d1.natAbs ≤ 2 ^ 200 := by omega
  generalize (ch.fdiv 216).fmod 4 = way
  have hnear : 0 ≤ (ch.fdiv 5184).fmod 3 ∧ (ch.fdiv 5184).fmod 3 < 3 := ⟨Int.fmod_nonneg_of_pos _ (by decide), Int.fmod_lt_of_pos _ (by decide)⟩
  generalize (ch.fdiv 5184).fmod 3 = near at hnear ⊢
  have l1 : ∀ {x : Int} {s : Nat}, s ≤ 4000 → x.natAbs ≤ 2 ^ s → x.natAbs ≤ big := fun hs h => Nat.le_trans h (Nat.pow_le_pow_right (by decide) hs)
  have p1 : (2 : Nat) ^ 401 = 2 ^ 400 + 2 ^ 400 := by decide +kernel
  have pm : ∀ {x y : Int}, x.natAbs ≤ 2 ^ 200 → y.natAbs ≤ 2 ^ 200 → (x * y).natAbs ≤ 2 ^ 400 := fun hx hy => by rw [Int.natAbs_mul]; exact pow2_mul hx hy
  have bl := l1 (by decide) hbl
  have al : a.natAbs ≤ big := l1 (s := 200) (by decide) (by omega)
  have dl := l1 (by decide) hdl
  have pad := pm (x := a) (y := d1) (by omega) hdl
  have pbd := pm hbl hdl
  have hbd : 0 < b * d1 := Int.mul_pos hb hd1
  have m1 : mulI a d1 = .ok (a * d1) := mul_fit al dl
  have m2 : mulI b d1 = .ok (b * d1) := mul_fit bl dl
  refine bind_to (fun s => 0 < s.2 ∧ s.1.natAbs ≤ 2 ^ 401 ∧ s.2.natAbs ≤ 2 ^ 401 ∧ (way ≠ 1 → s.2 = d1)) ?_ ?_
  · by_cases w : way = 1
    · rw [if_pos (by simpa using w), m1, m2]
      exact ⟨_, rfl, hbd, by dsimp only; omega, by dsimp only; omega, fun h => absurd w h⟩
    · rw [if_neg (by simpa using w)]
      exact ⟨_, rfl, hd1, by dsimp only; omega, by dsimp only; omega, fun _ => rfl⟩
  rintro ⟨c1, e1⟩ ⟨q1, q2, q3, q4⟩
  dsimp only at q1 q2 q3 q4 ⊢
  refine bind_to (fun s => 0 < s.2 ∧ s.1.natAbs ≤ 2 ^ 401 ∧ s.2.natAbs ≤ 2 ^ 401 ∧ (way ≠ 1 → way ≠ 2 → s.2 = d1)) ?_ ?_
  · by_cases w : way = 2
    · have := q4 (by omega)
      subst this
      rw [if_pos (by simpa using w), m1, m2]
      exact ⟨_, rfl, hbd, by dsimp only; omega, by dsimp only; omega, fun _ h => absurd w h⟩
    · rw [if_neg (by simpa using w)]
      exact ⟨_, rfl, q1, q2, q3, fun h _ => q4 h⟩
  rintro ⟨c2, e2⟩ ⟨r1, r2, r3, r4⟩
  dsimp only at r1 r2 r3 r4 ⊢
  refine bind_to (fun s => 0 < s.2 ∧ s.1.natAbs ≤ 2 ^ 401 ∧ s.2.natAbs ≤ 2 ^ 401) ?_ ?_
  · by_cases w : way = 3
    · have := r4 (by omega) (by omega)
      subst this
      rw [if_pos (by simpa using w), m1, m2]
      exact ⟨_, rfl, hbd, by dsimp only; omega, by dsimp only; omega⟩
    · rw [if_neg (by simpa using w)]
      exact ⟨_, rfl, r1, r2, r3⟩
  rintro ⟨c, d⟩ ⟨hd, hc, hdd⟩
  dsimp only at hd hc hdd ⊢
  refine bind_to (fun n => n.natAbs ≤ 2 ^ 401) ?_ ?_
  · by_cases w : near > 0
    · rw [if_pos (by simpa using w), fdivI_ok (by omega) (by have := log_big bl; omega), Int.fdiv_eq_ediv_of_nonneg _ (by omega)]
      have h1 := Int.natAbs_ediv_le_natAbs a b
      exact ⟨_, rfl, by omega⟩
    · rw [if_neg (by simpa using w)]
      exact ⟨_, rfl, by omega⟩
  intro n hn
  have zb : qMk a b = .ok (Rat.divInt a b) := qMk_ok (by omega) (by have := log_big bl; omega)
  have dl' := l1 (by decide) hdd
  have zd : qMk c d = .ok (Rat.divInt c d) := qMk_ok (by omega) (by have := log_big dl'; omega)
  have sx : fits (Rat.divInt a b) := (sz_divInt (s := 200) (by omega) hbl).fits
  have sy : fits (Rat.divInt c d) := (sz_divInt hc hdd).fits
  have cl := l1 (by decide) hc
  have nl := l1 (by decide) hn
  have sn : fits (n : Rat) := fits_int.mpr nl
  rw [zb, zd, mul_fit al dl', mul_fit cl bl, mul_fit nl bl, mul_fit nl dl']
  simp only [Res.ok_bind]
  rw [signs_eq (.q (Rat.divInt a b)) (.q (Rat.divInt c d)) _ sx sy (divs_lt hb hd) (by show Rat.divInt c d < Rat.divInt a b ↔ _; rw [divs_lt hd hb]; omega),
    signs_eq (.q (Rat.divInt c d)) (.q (Rat.divInt a b)) _ sy sx (divs_lt hd hb) (by show Rat.divInt a b < Rat.divInt c d ↔ _; rw [divs_lt hb hd]; omega),
    signs_eq (.q (Rat.divInt a b)) (.q (Rat.divInt a b)) 0 sx sx (by simp [Rat.lt_irrefl]) (by simp [Rat.lt_irrefl]),
    signs_eq (.q (Rat.divInt a b)) (.i n) _ sx sn (divs_lt_int hb) (by show (n : Rat) < Rat.divInt a b ↔ _; rw [int_lt_divs hb]; omega),
    signs_eq (.i n) (.q (Rat.divInt a b)) _ sn sx (int_lt_divs hb) (by show Rat.divInt a b < (n : Rat) ↔ _; rw [divs_lt_int hb]; omega),
    signs_eq (.i n) (.q (Rat.divInt c d)) _ sn sy (int_lt_divs hd) (by show Rat.divInt c d < (n : Rat) ↔ _; rw [divs_lt_int hd]; omega)]
  simp
end L2.Tr

namespace L2.Tr
open PySem PySem.Spec PyProof.Rows He
def fs : List FB := [fGlo "_law_cell", fKeep "_law_cell", fFree "int", fGlo "_law_number", fKeep "_law_number", fFree "abs", fGlo "Fraction", fMkr "Fraction", fGlo "_law_signs", fKeep "_law_signs", fFree "len", fFree "range", fFree "bool", fFree "isinstance", fOcl "Fraction", fOMet "Fraction" "__gt__", fOMet "Fraction" "__ge__", fOMet "Fraction" "__eq__", fNf "Fraction", fOMet "Fraction" "__lt__", fOMet "Fraction" "__le__", fNoat "Fraction" "top", fNoat "Fraction" "bottom", fKitT "Fraction" "int" false, fKit "Fraction" "Fraction" true, fGlo "law", fExc "BadFraction", fGlo "common_divisor", fKeep "common_divisor"]
def fnl : List He.DefD := [⟨("_law_cell", none), "_law_cell", "_law_cell", defArgs s_law_cell, defBody s_law_cell, defScope s_law_cell, [], []⟩,
  ⟨("_law_number", none), "_law_number", "_law_number", defArgs s_law_number, defBody s_law_number, defScope s_law_number, [], []⟩,
  ⟨("common_divisor", none), "common_divisor", "common_divisor", defArgs s_common_divisor, defBody s_common_divisor, defScope s_common_divisor, [], []⟩,
  ⟨("Fraction", some "__gt__"), "__gt__", "Fraction.__gt__", defArgs s_Fraction_gt, defBody s_Fraction_gt, defScope s_Fraction_gt, [], []⟩,
  ⟨("Fraction", some "__ge__"), "__ge__", "Fraction.__ge__", defArgs s_Fraction_ge, defBody s_Fraction_ge, defScope s_Fraction_ge, [], []⟩,
  ⟨("Fraction", some "__eq__"), "__eq__", "Fraction.__eq__", defArgs s_Fraction_eq, defBody s_Fraction_eq, defScope s_Fraction_eq, [], []⟩,
  ⟨("Fraction", some "__lt__"), "__lt__", "Fraction.__lt__", defArgs s_Fraction_lt, defBody s_Fraction_lt, defScope s_Fraction_lt, [], []⟩,
  ⟨("Fraction", some "__le__"), "__le__", "Fraction.__le__", defArgs s_Fraction_le, defBody s_Fraction_le, defScope s_Fraction_le, [], []⟩,
  ⟨("_law_signs", none), "_law_signs", "_law_signs", defArgs s_law_signs, defBody s_law_signs, defScope s_law_signs, [], []⟩,
  ⟨("law", none), "law", "law", defArgs s_law, defBody s_law, defScope s_law, [], []⟩,
  ⟨("Fraction", some "__init__"), "__init__", "Fraction.__init__", defArgs s_Fraction_init, defBody s_Fraction_init, defScope s_Fraction_init, [.int 1], []⟩]
theorem txt_of {K : PySem.W.Frag} {mg : Str → Option Value} {h : Heap} (KX : K.In h) (G : h.Ns mainGlobals mg) (c : SaysX fs fnl K) : Txt K mg where
  g_law_cell := glo_of KX G (c.fact 0)
  k_law_cell := (c.fact 1)
  n_int := free_of KX G (c.fact 2)
  g_law_number := glo_of KX G (c.fact 3)
  k_law_number := (c.fact 4)
  n_abs := free_of KX G (c.fact 5)
  g_Fraction := glo_of KX G (c.fact 6)
  mk_Fraction := mkr_of (c.fact 7)
  g_law_signs := glo_of KX G (c.fact 8)
  k_law_signs := (c.fact 9)
  n_len := free_of KX G (c.fact 10)
  F_law_cell := c.def_ 0
  F_law_number := c.def_ 1
  F_common_divisor := c.def_ 2
  n_range := free_of KX G (c.fact 11)
  n_bool := free_of KX G (c.fact 12)
  n_isinstance := free_of KX G (c.fact 13)
  o_Fraction := ocl_of (c.fact 14)
  om_Fraction_gt := omet_of (c.fact 15)
  om_Fraction_ge := omet_of (c.fact 16)
  om_Fraction_eq := omet_of (c.fact 17)
  nf_Fraction := nf_of (c.fact 18)
  om_Fraction_lt := omet_of (c.fact 19)
  om_Fraction_le := omet_of (c.fact 20)
  na_Fraction_top := noat_of (c.fact 21)
  na_Fraction_bottom := noat_of (c.fact 22)
  kT_Fraction_int := kitT_of (c.fact 23)
  kt_Fraction_Fraction := kit_of' (c.fact 24)
  F_Fraction_gt := c.def_ 3
  F_Fraction_ge := c.def_ 4
  F_Fraction_eq := c.def_ 5
  F_Fraction_lt := c.def_ 6
  F_Fraction_le := c.def_ 7
  F_law_signs := c.def_ 8
  F_law := c.def_ 9
  g_law := glo_of KX G (c.fact 25)
  F_Fraction_init := c.def_ 10
  ex_BadFraction := exc_of KX G (c.fact 26)
  g_common_divisor := glo_of KX G (c.fact 27)
  k_common_divisor := (c.fact 28)
theorem all_of {P : Program} {w : World} {K : PySem.W.Frag} {mg : Str → Option Value} {base : Heap} (T : Txt K mg) {fd : FuncData} (F : FunD K "law" "law" (defArgs s_law) (defBody s_law) (defScope s_law) [] [] (He.ga K "law") fd) : FnOk P w K mg base (L2.CX P w) 4 (He.ga K "law") fd ["_law_script"] (spF K (aCons (rdL K (rp rInt)) aNil) (fun d => m_law d.1) (rp rBl)) := by
  have c_law_cell : C_law_cell P w K mg base := fn_law_cell T
  have c_law_number : C_law_number P w K mg base := fn_law_number T
  have c_common_divisor : C_common_divisor P w K mg base := FnR.nice (fn_common_divisor T) nice_common_divisor
  have c_Fraction_2 : C_Fraction_2 P w K mg base := fn_Fraction_2 T c_common_divisor
  have c_Fraction_gt : C_Fraction_gt P w K mg base := FnR.nice (fn_Fraction_gt T) nice_Fraction_gt
  have c_Fraction_ge : C_Fraction_ge P w K mg base := FnR.nice (fn_Fraction_ge T) nice_Fraction_ge
  have c_Fraction_eq : C_Fraction_eq P w K mg base := FnR.nice (fn_Fraction_eq T) nice_Fraction_eq
  have c_Fraction_lt : C_Fraction_lt P w K mg base := FnR.nice (fn_Fraction_lt T) nice_Fraction_lt
  have c_Fraction_le : C_Fraction_le P w K mg base := FnR.nice (fn_Fraction_le T) nice_Fraction_le
  have c_law_signs : C_law_signs P w K mg base := fn_law_signs T c_Fraction_gt c_Fraction_ge c_Fraction_eq c_Fraction_lt c_Fraction_le
  exact fn_law T c_law_cell c_law_number c_Fraction_2 c_law_signs F
theorem law_end {P : Program} {w : World} {K : PySem.W.Frag} {mg : Str → Option Value} {h : Heap} {fa : Addr} (KX : K.In h) (hmg : mg ("law" : Str) = some (.ref fa)) (T : Txt K mg) :
    ∃ (K : PySem.W.Frag) (fd : FuncData) (sp : Sp), K.In h ∧ (∀ (s : Shared) (u : Value), BindsTo s fd ⟨[u], []⟩ [(("_law_script" : Str), u)]) ∧
        (∀ (H : Hp) (a : Addr) (ns : List Int), ns.length ≤ 63 → Only H → SqL K H a (ns.map V.int) → sp [.ref a] H (fun v _ => v = .bl true) fun _ _ _ => False) ∧
        ∀ base : Heap, K.In base → base.Ns mainGlobals mg → FnOk P w K mg base CX0 4 fa fd ["_law_script"] sp := by
  obtain ⟨fd, F⟩ := T.F_law
  have e := hmg.symm.trans T.g_law
  cases e
  have b := FunD.bindsA (ps := ["_law_script"]) F fun _ _ _ _ _ _ us hl => match us, hl with | [_], _ => rfl
  refine ⟨K, fd, (fun vs H Q _ => spF K (aCons (rdL K (rp rInt)) aNil) (fun d => m_law d.1) (rp rBl) vs H Q fun _ _ _ => False), KX, fun s u => b s [u] rfl, fun H a ns hl _ hS => ⟨fun _ => none, (ns, ()), (fun b o e => nomatch e), ⟨.ref a, [], rfl, ⟨a, ns.map V.int, rfl, hS, paired_ints _ _ ns⟩, rfl⟩, ?_⟩, fun base _ _ => FnOk.no (all_of T F)⟩
  show PostE K (m_law ns) _ _ _ _ _
  rw [law_ok ns hl]
  exact fun I' H' v _ r => r
abbrev RR : PySem.W.OpenRow := PySem.W.OpenLaw.row PySem.Challenge.rw_tracerline_k03_order
abbrev hk : PySem.W.Hook := hookX 4 fs fnl
def ob (s : PySem.W.SharedT) : AlX := obsXG 4 fs fnl (HandSHeadRun.getT s)
theorem ob_eq (s : PySem.W.SharedT) : ob s = hk.obs s.abs := obsXG_eq (HandSHeadRun.getT_eq s)
def names : List PySem.Str := ((["_wall", "__name__", "TracerError", "BadFraction", "common_divisor", "Fraction", "_law_cell", "_law_number", "_law_signs"] : List PySem.Str))
set_option maxHeartbeats 0 in
theorem run (w : World) : HandSHeadRun.RunEq RR (PySem.W.view RR.prog [11]) hk ob 20000 names w := by
  intro os
  kernel_rfl
end L2.Tr
open PySem PySem.W PySem.Calls PyProof.Rows
set_option maxHeartbeats 0 in
theorem PySem.Challenge.cw_tracerline_k03_order_holds : PySem.Challenge.rw_tracerline_k03_order.Holds := by
  w_on; o_law
  refine HandSHeadRun.head_any (r := OpenLaw.row PySem.Challenge.rw_tracerline_k03_order) (q := view (OpenLaw.row PySem.Challenge.rw_tracerline_k03_order).prog [11]) (H := L2.Tr.hk) (ob := L2.Tr.ob) (M := 20000) (loose := L2.Tr.names) (d := HandSHeadRun.topDef (OpenLaw.row PySem.Challenge.rw_tracerline_k03_order).prog 11) (kwd := []) L2.Tr.ob_eq
    (by kernel_rfl) (fun s => by kernel_rfl) L2.Tr.run (by kernel_rfl) (by kernel_rfl) (by kernel_rfl) (by rfl) (by first | assumption | decide +kernel) (by decide +kernel) ⟨rfl, rfl, rfl, rfl, rfl, by decide +kernel⟩ ?hw ?hc
  case hw => w_witness2
  case hc =>
    refine L2.walk_ofE (l := PySem.Challenge.rw_tracerline_k03_order) (n := 63) (k := 4) (x := "_law_script") (CX := L2.CX0) rfl (by decide) (by kernel_rfl) ⟨rfl, by decide, by decide⟩ ?F (fun _ _ _ _ z => z)
    intro w mg fa h Y G hmg0
    obtain ⟨K, KX, c⟩ := Y
    have hmg : mg ("law" : PySem.Str) = some (.ref fa) := by
      have e : (HandSHeadRun.topDef (OpenLaw.row PySem.Challenge.rw_tracerline_k03_order).prog 11).name = ("law" : PySem.Str) := by kernel_rfl
      rw [← e]
      exact hmg0
    have T := L2.Tr.txt_of KX G c
    exact L2.Tr.law_end (P := (PySem.Challenge.rw_tracerline_k03_order).prog) (w := w) KX hmg T

