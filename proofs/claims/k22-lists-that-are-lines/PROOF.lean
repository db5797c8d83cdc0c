import PyProof.Rows.All
import Wide.All
import OpenK.AllK
import Wide.FinOn
import HandS.ForMost
import HandS.ForExc
import HandS.More
import HandS.Wide
import HandS.Flow
import HandS.Defaults
import HandS.MakeKw
import HandS.CallSlots
import HandS.IsInst
import HandS.ExcIs
import HandS.OwnEq
import HandS.HeadHook1
import KE.KStateDown
import HandS.Head0
import HandS.Head1
import HandS.Head2
import HandS.HeadEnd
import HandS.HeadHook2
import HandS.MakeKwOnly
import OpenK.KOps
import HandS.List
import HandS.Style
import HandS.Comp
import KE.KCallOwn
import HandS.Property
import HandS.ClsMeth
import HandS.GenList
import HandS.ExcInit
import HandS.ExcField
import KE.KExcIs
import PySem.Challenge.RW_tracerline_k22_lists_that_are_lines
set_option Elab.async false
set_option linter.all false
set_option maxRecDepth 100000
set_option maxHeartbeats 0
set_option exponentiation.threshold 100000
namespace L2.Tr
open PySem PySem.Spec PyProof.Rows

/-! ### wishes: what must hold ahead of a piece of code -/
def wE (X : Cx) (e : Expr) : TE := fun σ H Q => ∀ (pins : List (Addr × Obj)) (s : Shared), Inv X pins σ H s → wpAny (model X.prog X.w) X.A (eval e X.env) (EP X pins σ Q) X.xe s
def wT (X : Cx) (e : Expr) : TT := fun σ H Q => ∀ (pins : List (Addr × Obj)) (s : Shared), Inv X pins σ H s → wpAny (model X.prog X.w) X.A (isTrue e X.env (eval e X.env)) (TP X pins σ Q) X.xe s
def wW (X : Cx) (e : Expr) : TT := fun σ H Q => ∀ (whole : Sem Value) (pins : List (Addr × Obj)) (s : Shared), Inv X pins σ H s → wpAny (model X.prog X.w) X.A (isTrue e X.env whole) (TP X pins σ Q) X.xe s
def wA (X : Cx) (es : List Expr) : TA := fun σ H Q => ∀ (pos : Pos) (pins : List (Addr × Obj)) (s : Shared), Inv X pins σ H s → wpAny (model X.prog X.w) X.A (spliced (backTo pos (starEach es X.env))) (AP X pins σ Q) X.xe s
def wS (X : Cx) (st : Stmt) : TS := fun D σ H => ∀ (pins : List (Addr × Obj)) (s : Shared), Inv X pins σ H s → wpAny (model X.prog X.w) X.A (exec st X.env) (SP X pins D) X.xe s
def wB (X : Cx) (st : List Stmt) : TS := fun D σ H => ∀ (pins : List (Addr × Obj)) (s : Shared), Inv X pins σ H s → wpAny (model X.prog X.w) X.A (execs st X.env) (SP X pins D) X.xe s
def opW (X : Cx) (f : Value → Value → Sem Value) (σ : St) (x y : V) (H : Hp) (Q : VK) : Prop := ∀ (pins : List (Addr × Obj)) (s : Shared) (v u : Value), Inv X pins σ H s → RelV x v → RelV y u → wpAny (model X.prog X.w) X.A (f v u) (EP X pins σ Q) X.xe s
def unW (X : Cx) (f : Value → Sem Value) (σ : St) (x : V) (H : Hp) (Q : VK) : Prop := ∀ (pins : List (Addr × Obj)) (s : Shared) (v : Value), Inv X pins σ H s → RelV x v → wpAny (model X.prog X.w) X.A (f v) (EP X pins σ Q) X.xe s
def callW (X : Cx) (f : Value) (σ : St) (xs : List V) (H : Hp) (Q : VK) : Prop := ∀ (pins : List (Addr × Obj)) (s : Shared) (us : List Value), Inv X pins σ H s → Vals xs us → wpAny (model X.prog X.w) X.A (call f us) (EP X pins σ Q) X.xe s
def truW (X : Cx) (σ : St) (x : V) (H : Hp) (Q : Bool → Hp → Prop) : Prop := ∀ (pins : List (Addr × Obj)) (s : Shared) (v : Value), Inv X pins σ H s → RelV x v → wpAny (model X.prog X.w) X.A (truthy v) (TP X pins σ Q) X.xe s

section
variable {X : Cx} {e a b c o : Expr} {es : List Expr} {st : Stmt} {ss : List Stmt} {σ : St} {H : Hp} {Q : VK} {D : Ends} {x y v : V} {pos pos' : Pos} {n : Str}
theorem pe_W : PE X e (wE X e) := ⟨fun pins s _ _ _ I h => h pins s I⟩
theorem pt_W : PT X e (wT X e) := ⟨fun pins s _ _ _ I h => h pins s I⟩
theorem pw_W : PW X e (wW X e) := ⟨fun wh pins s _ _ _ I h => h wh pins s I⟩
theorem pa_W : PA X es (wA X es) := ⟨fun pos pins s _ _ _ I h => h pos pins s I⟩
theorem ps_W : PS X st (wS X st) := ⟨fun pins s _ _ _ I h => h pins s I⟩
theorem pss_W : PSs X ss (wB X ss) := ⟨fun pins s _ _ _ I h => h pins s I⟩
theorem PE.w {t : TE} (p : PE X e t) (h : t σ H Q) : wE X e σ H Q := fun pins s I => p.run pins s σ H Q I h
theorem PT.w {t : TT} {Q : Bool → Hp → Prop} (p : PT X e t) (h : t σ H Q) : wT X e σ H Q := fun pins s I => p.run pins s σ H Q I h
theorem PW.w {t : TT} {Q : Bool → Hp → Prop} (p : PW X e t) (h : t σ H Q) : wW X e σ H Q := fun wh pins s I => p.run wh pins s σ H Q I h
theorem PA.w {t : TA} {Q : List V → Hp → Prop} (p : PA X es t) (h : t σ H Q) : wA X es σ H Q := fun pos pins s I => p.run pos pins s σ H Q I h
theorem PS.w {t : TS} (p : PS X st t) (h : t D σ H) : wS X st D σ H := fun pins s I => p.run pins s σ H D I h
theorem PSs.w {t : TS} (p : PSs X ss t) (h : t D σ H) : wB X ss D σ H := fun pins s I => p.run pins s σ H D I h
theorem OpR.w {f : Value → Value → Sem Value} {r : R2} (o : OpR X f r) (h : r x y H Q) : opW X f σ x y H Q := fun pins s v u I rx ry => o pins s σ H x y v u Q I rx ry h
theorem UnR.w {f : Value → Sem Value} {r : V → Hp → VK → Prop} (o : UnR X f r) (h : r x H Q) : unW X f σ x H Q := fun pins s v I rx => o pins s σ H x v Q I rx h
theorem CallR.w {f : Value} {r : List V → Hp → VK → Prop} {xs : List V} (o : CallR X f r) (h : r xs H Q) : callW X f σ xs H Q := fun pins s us I rx => o pins s σ H xs us Q I rx h
theorem TruR.w {r : V → Hp → (Bool → Hp → Prop) → Prop} {Q : Bool → Hp → Prop} (o : TruR X r) (h : r x H Q) : truW X σ x H Q := fun pins s v I rx => o pins s σ H x v Q I rx h

/-! ### expressions -/
theorem w_var (i : Nat) (h : Q v H) (hs : σ[i]? = some (some v) := by rfl) (hN : X.N[i]? = some n := by rfl) (hv : Vis X.env.scope n := by first | exact Or.inl rfl | exact Or.inr (Or.inl rfl) | exact Or.inr (Or.inr rfl)) (hd : (n == ("__debug__" : Str)) = false := by decide)
    (hcd : (n == ("__classdict__" : Str)) = false := by decide) : wE X (.Name n pos) σ H Q := PE.w (pe_var hN hv hd hcd) ⟨v, hs, h⟩
theorem w_int {i : Int} {j} (h : Q (.int i) H) : wE X (.Constant (.int i) j pos) σ H Q := PE.w pe_int h
theorem w_bl {i : Bool} {j} (h : Q (.bl i) H) : wE X (.Constant (.bool i) j pos) σ H Q := PE.w pe_bl h
theorem w_str {i : Str} {j} (h : Q (.str i) H) : wE X (.Constant (.str i) j pos) σ H Q := PE.w pe_str h
theorem w_non {j} (h : Q .non H) : wE X (.Constant .none j pos) σ H Q := PE.w pe_non h
theorem w_bin {op : Operator} (h : wE X a σ H fun x H1 => wE X b σ H1 fun y H2 => opW X (binaryOp op) σ x y H2 Q) : wE X (.BinOp a op b pos) σ H Q := fun pins s I =>
  wpAny_BinOp (thn (h pins s I) fun v s1 ⟨x, H1, I1, r1, q1⟩ => thn (q1 pins s1 I1) fun u s2 ⟨y, H2, I2, r2, q2⟩ => q2 pins s2 v u I2 r1 r2)
theorem w_un {op : UnaryOp} (h : wE X a σ H fun x H1 => unW X (unaryOp op) σ x H1 Q) : wE X (.UnaryOp op a pos) σ H Q := fun pins s I =>
  UnaryOp_ (thn (h pins s I) fun v s1 ⟨x, H1, I1, r1, q1⟩ => q1 pins s1 v I1 r1)
theorem w_cmp {op : CmpOp} (h : wE X a σ H fun x H1 => wE X b σ H1 fun y H2 => opW X (compareOp op) σ x y H2 Q) (hm : behindInMarks op b = false := by first | exact nomark _ | rfl) : wE X (.Compare a [op] [b] pos) σ H Q := fun pins s I =>
  wpAny_Compare1 (thn (h pins s I) fun v s1 ⟨x, H1, I1, r1, q1⟩ => thn (q1 pins s1 I1) fun u s2 ⟨y, H2, I2, r2, q2⟩ => q2 pins s2 v u I2 r1 r2) hm
/-- a test that is a comparison -/
theorem w_tcmp {op : CmpOp} {Q : Bool → Hp → Prop} (h : wE X a σ H fun x H1 => wE X b σ H1 fun y H2 => opW X (compareOp op) σ x y H2 fun z H3 => truW X σ z H3 Q) (hm : behindInMarks op b = false := by first | exact nomark _ | rfl) : wT X (.Compare a [op] [b] pos) σ H Q := fun pins s I =>
  wpAny_isTrue_Compare1 (thn (h pins s I) fun v s1 ⟨x, H1, I1, r1, q1⟩ => thn (q1 pins s1 I1) fun u s2 ⟨y, H2, I2, r2, q2⟩ => thn (q2 pins s2 v u I2 r1 r2) fun c s3 ⟨z, H3, I3, r3, q3⟩ => q3 pins s3 c I3 r3) hm
/-- a test of a plain form -/
theorem w_t {Q : Bool → Hp → Prop} (h : wE X e σ H fun x H1 => truW X σ x H1 Q) (he : ∀ whole, isTrue e X.env whole = (do let v ← whole; standAt e.pos; holding [v] (truthy v)) := by intro _; rfl) : wT X e σ H Q := fun pins s I =>
  isTrue_plain (thn (h pins s I) fun v s1 ⟨x, H1, I1, r1, q1⟩ => q1 pins s1 v I1 r1) (he _)
theorem tru_bl {k : Bool} {Q : Bool → Hp → Prop} (h : Q k H) : truW X σ (.bl k) H Q := fun pins s v I r => by
  cases (show v = Value.bool k from r)
  exact wpAny_truthy_bool ⟨H, I, h⟩
theorem tru_int {i : Int} {Q : Bool → Hp → Prop} (h : Q (i != 0) H) : truW X σ (.int i) H Q := TruR.w tru_ok ⟨_, rfl, h⟩
theorem w_not {Q : Bool → Hp → Prop} (h : wT X a σ H fun k H1 => Q (!k) H1) : wT X (.UnaryOp .Not a pos) σ H Q := PT.w (pt_not pt_W) h
/-- not as a value -/
theorem w_notV (h : wE X a σ H fun x H1 => ∃ k, x = .bl k ∧ Q (.bl (!k)) H1) : wE X (.UnaryOp .Not a pos) σ H Q := PE.w (pe_not pe_W) h
/-! ### and, or as tests -/
theorem w_tbool {Q : Bool → Hp → Prop} {op} (h : wW X (.BoolOp op es pos) σ H Q) : wT X (.BoolOp op es pos) σ H Q := fun pins s I => h _ pins s I
theorem w_and1 {Q : Bool → Hp → Prop} (h : wT X a σ H Q) : wW X (.BoolOp .And [a] pos) σ H Q := PW.w (pw_and1 pt_W) h
theorem w_or1 {Q : Bool → Hp → Prop} (h : wT X a σ H Q) : wW X (.BoolOp .Or [a] pos) σ H Q := PW.w (pw_or1 pt_W) h
theorem w_and {bs : List Expr} {Q : Bool → Hp → Prop} (h : wT X a σ H fun k H1 => if k = true then wW X (.BoolOp .And (b :: bs) pos) σ H1 Q else Q false H1) : wW X (.BoolOp .And (a :: b :: bs) pos) σ H Q := PW.w (pw_and pt_W pw_W) h
theorem w_or {bs : List Expr} {Q : Bool → Hp → Prop} (h : wT X a σ H fun k H1 => if k = true then Q true H1 else wW X (.BoolOp .Or (b :: bs) pos) σ H1 Q) : wW X (.BoolOp .Or (a :: b :: bs) pos) σ H Q := PW.w (pw_or pt_W pw_W) h
/-! ### and, or as values (bools) -/
theorem w_oneV {op} (h : wE X a σ H Q) : wE X (.BoolOp op [a] pos) σ H Q := PE.w (pe_one pe_W) h
theorem w_andV {bs : List Expr} (h : wE X a σ H fun x H1 => ∃ k, x = .bl k ∧ if k = true then wE X (.BoolOp .And (b :: bs) pos) σ H1 Q else Q (.bl false) H1) : wE X (.BoolOp .And (a :: b :: bs) pos) σ H Q := PE.w (pe_and pe_W pe_W) h
theorem w_orV {bs : List Expr} (h : wE X a σ H fun x H1 => ∃ k, x = .bl k ∧ if k = true then Q (.bl true) H1 else wE X (.BoolOp .Or (b :: bs) pos) σ H1 Q) : wE X (.BoolOp .Or (a :: b :: bs) pos) σ H Q := PE.w (pe_or pe_W pe_W) h
theorem w_ifx (h : wT X c σ H fun k H1 => if k = true then wE X a σ H1 Q else wE X b σ H1 Q) : wE X (.IfExp c a b pos) σ H Q := PE.w (pe_ifExp pt_W pe_W pe_W) h

/-! ### arguments, displays, calls -/
theorem w_nil {Q : List V → Hp → Prop} (h : Q [] H) : wA X [] σ H Q := PA.w pa_nil h
theorem w_cons {Q : List V → Hp → Prop} (h : wE X e σ H fun x H1 => wA X es σ H1 fun xs H2 => Q (x :: xs) H2) (hs : starEach (e :: es) X.env = (false, eval e X.env) :: starEach es X.env := by rfl) : wA X (e :: es) σ H Q := PA.w (pa_cons pe_W pa_W hs) h
theorem w_lst (h : wA X es σ H fun xs H1 => xs.length ≤ sizeLine ∧ ∀ p, H1 p = none → Q (.ref p) (upd H1 p (.lst xs))) : wE X (.List es pos) σ H Q := PE.w (pe_lst pa_W) h
theorem w_tup {x1} (h : wA X es σ H fun xs H1 => xs.length ≤ sizeLine ∧ ∀ p, H1 p = none → Q (.ref p) (upd H1 p (.tup xs))) : wE X (.Tuple es x1 pos) σ H Q := PE.w (pe_tup pa_W) h
theorem w_callB {id : String} (h : wA X (e :: es) σ H fun vs H1 => callW X (.builtin id) σ vs H1 Q) (hm : X.mg n = none) (hv : bootBuiltins n = some (.builtin id)) (hg : Gl X n := by rfl) (hn : n ≠ "__name__" := by decide) (hdb : (n == ("__debug__" : Str)) = false := by decide)
    (he : starEach (e :: es) X.env = (false, eval e X.env) :: starEach es X.env := by rfl) (hpl : (backTo pos (starEach es X.env)).any (·.1) = false := by rfl) : wE X (.Call (.Name n pos') (e :: es) [] pos) σ H Q := fun pins s I =>
  wpAny_Call_Name_kw (ld_blt I hg hm hv (PyProof.Rows.callWith_builtin1 (thn (h pos pins s I) fun us s1 ⟨vs, H1, I1, r1, q1⟩ => q1 pins s1 us I1 r1) he hpl) hn hdb)
theorem w_callTy {T : String} (h : wA X (e :: es) σ H fun vs H1 => callW X (.type T) σ vs H1 Q) (hm : X.mg n = none) (hv : bootBuiltins n = some (.type T)) (hg : Gl X n := by rfl) (hn : n ≠ "__name__" := by decide) (hdb : (n == ("__debug__" : Str)) = false := by decide)
    (he : starEach (e :: es) X.env = (false, eval e X.env) :: starEach es X.env := by rfl) (hpl : (backTo pos (starEach es X.env)).any (·.1) = false := by rfl) : wE X (.Call (.Name n pos') (e :: es) [] pos) σ H Q := fun pins s I =>
  wpAny_Call_Name_kw (ld_blt I hg hm hv (PyProof.Rows.callWith_type1 (thn (h pos pins s I) fun us s1 ⟨vs, H1, I1, r1, q1⟩ => q1 pins s1 us I1 r1) he hpl) hn hdb)
theorem w_bltn {u : Value} (h : Q v H) (hm : X.mg n = none) (hv : bootBuiltins n = some u) (r : RelV v u) (hg : Gl X n := by rfl) (hn : n ≠ "__name__" := by decide) (hd : (n == ("__debug__" : Str)) = false := by decide) : wE X (.Name n pos) σ H Q := PE.w (pe_bltn hg hm hv r hn hd) h
theorem w_glob {u : Value} (h : Q v H) (hm : X.mg n = some u) (r : RelV v u) (hg : Gl X n := by rfl) (hd : (n == ("__debug__" : Str)) = false := by decide) : wE X (.Name n pos) σ H Q := PE.w (pe_glob hg hm r hd) h

/-- the callee runs (a def, a class, a method with its self), the wish at these slots -/
theorem run_W {k : Nat} {f : Addr} {sp : Sp} {W : WX} {vs : List V} (F : FnR X.prog X.w X.K X.mg X.base (L2.CX X.prog X.w) k f sp) (hr : Room k X.A) (tk : Takes X W) (h : sp vs H Q fun cls d H' => W cls d σ H') : callW X (.ref f) σ vs H Q := fun pins s us I r => by
  refine wpAny_call (codeAny_mono (F X.A X.stack s H us vs Q _ hr I.env0 r h) fun r s' hq => ?_)
  cases r with
  | error e => exact passAt tk σ pins H s e s' I hq
  | ok fl =>
    cases fl with
    | ret u => exact I.after hq
    | next => exact False.elim hq
    | brk => exact False.elim hq
    | cont => exact False.elim hq
/-- f(e, ..), C(e, ..) by a global name -/
theorem w_call {f : Addr} (h : wA X (e :: es) σ H fun vs H1 => callW X (.ref f) σ vs H1 Q) (hm : X.mg n = some (.ref f)) (hk : PySem.W.keepIn X.K (.ref f) = true) (hg : Gl X n := by rfl) (hdb : (n == ("__debug__" : Str)) = false := by decide)
    (he : starEach (e :: es) X.env = (false, eval e X.env) :: starEach es X.env := by rfl) (hpl : (backTo pos (starEach es X.env)).any (·.1) = false := by rfl) : wE X (.Call (.Name n pos') (e :: es) [] pos) σ H Q := fun pins s I =>
  wpAny_Call_Name_kw (ld_glob I hg hm (PySem.W.callWith_K (h₀ := X.base) I.ok.mod.kin hk (thn (h pos pins s I) fun us s1 ⟨vs, H1, I1, r, q⟩ => ⟨I1.kIn, q pins s1 us I1 r⟩) he hpl) hdb)
theorem w_call0 {f : Addr} (h : callW X (.ref f) σ [] H Q) (hm : X.mg n = some (.ref f)) (hk : PySem.W.keepIn X.K (.ref f) = true) (hg : Gl X n := by rfl) (hdb : (n == ("__debug__" : Str)) = false := by decide) : wE X (.Call (.Name n pos') [] [] pos) σ H Q := fun pins s I =>
  wpAny_Call_Name_kw (ld_glob I hg hm (PySem.W.callWith_K0 I.kIn hk (h pins s [] I .nil)) hdb)
/-- o.m(e, ..) -/
theorem w_meth {pl : Sem Bool} {m : Str} {C f : Addr} {apos : Pos} (h : wE X o σ H fun x H1 => ∃ a dx fs, x = .ref a ∧ H1 a = some (.ins C dx fs) ∧ fs.lookup m = none ∧ wA X (e :: es) σ H1 fun vs H2 => callW X (.ref f) σ (x :: vs) H2 Q) (c : Cls X.K C) (hm : Meth X.K C m f)
    (hst : starEach (e :: es) X.env = (false, eval e X.env) :: starEach es X.env := by rfl) (hpl : (backTo pos (starEach es X.env)).any (·.1) = false := by rfl)
    (ht : eval (.Call (.Attribute o m apos) (e :: es) [] pos) X.env = (do
      let ov ← eval o X.env
      standAt apos.atName
      let (f, first) ← holding [ov] (getMethod ov m pl)
      callWith pos f first (backTo pos (starEach (e :: es) X.env)) (backToKw pos (keywordEach [] X.env))) := by rfl) : wE X (.Call (.Attribute o m apos) (e :: es) [] pos) σ H Q := fun pins s I => by
  refine PySem.W.methodCall_KW (pl := pl) (thn (h pins s I) fun u s1 ⟨x, H1, I1, rx, a, dx, fs, ex, ea, l, q⟩ => ?_) ht
  subst ex
  obtain rfl : u = Value.ref a := rx
  refine getmeth_ok I1 ea c hm l ?_
  exact PySem.W.callWith_K (first := [.ref a]) (h₀ := X.base) I.ok.mod.kin hm.kp (thn (q pos pins s1 I1) fun us s2 ⟨vs, H2, I2, r, q2⟩ => ⟨I2.kIn, q2 pins s2 (.ref a :: us) I2 (.cons rfl r)⟩) hst hpl
theorem w_meth0 {pl : Sem Bool} {m : Str} {C f : Addr} {apos : Pos} (h : wE X o σ H fun x H1 => ∃ a dx fs, x = .ref a ∧ H1 a = some (.ins C dx fs) ∧ fs.lookup m = none ∧ callW X (.ref f) σ [x] H1 Q) (c : Cls X.K C) (hm : Meth X.K C m f)
    (ht : eval (.Call (.Attribute o m apos) [] [] pos) X.env = (do
      let ov ← eval o X.env
      standAt apos.atName
      let (f, first) ← holding [ov] (getMethod ov m pl)
      callWith pos f first (backTo pos (starEach [] X.env)) (backToKw pos (keywordEach [] X.env))) := by rfl) : wE X (.Call (.Attribute o m apos) [] [] pos) σ H Q := fun pins s I => by
  refine PySem.W.methodCall_KW (pl := pl) (thn (h pins s I) fun u s1 ⟨x, H1, I1, rx, a, dx, fs, ex, ea, l, q⟩ => ?_) ht
  subst ex
  obtain rfl : u = Value.ref a := rx
  refine getmeth_ok I1 ea c hm l ?_
  exact PySem.W.callWith_K0 (first := [.ref a]) I1.kIn hm.kp (q pins s1 [.ref a] I1 (.cons rfl .nil))
/-- o.f -/
theorem w_fld {f : Str} (h : wE X o σ H fun x H1 => ∃ a C dx fs v, x = .ref a ∧ H1 a = some (.ins C dx fs) ∧ Cls X.K C ∧ NoAttr X.K C f ∧ fs.lookup f = some v ∧ Q v H1) (hb : attributeBase o f X.env (eval o X.env) = eval o X.env := by rfl) : wE X (.Attribute o f pos) σ H Q := PE.w (pe_fld pe_W hb) h

/-! ### statements -/
theorem b_nil (h : D.nx σ H) : wB X [] D σ H := PSs.w pss_nil h
theorem b_cons (h : wS X st { D with nx := fun σ' H' => wB X ss D σ' H' } σ H) : wB X (st :: ss) D σ H := PSs.w (pss_cons ps_W pss_W) h
theorem s_ret (h : wE X e σ H D.rt) : wS X (.Return (some e) pos) D σ H := PS.w (ps_ret pe_W) h
theorem s_retN (h : D.rt .non H) : wS X (.Return none pos) D σ H := PS.w ps_retN h
theorem s_expr (h : wE X e σ H fun _ H1 => D.nx σ H1) (hs : swapsWith e none pos.line X.env = pure false := by rfl) : wS X (.Expr e pos) D σ H := PS.w (ps_expr pe_W hs) h
theorem s_if {s1 s2 : List Stmt} (h : wT X c σ H fun k H1 => if k = true then wB X s1 D σ H1 else wB X s2 D σ H1) : wS X (.If c s1 s2 pos) D σ H := PS.w (ps_if pt_W pss_W pss_W) h
theorem s_pass (h : D.nx σ H) : wS X (.Pass pos) D σ H := PS.w ps_pass h
theorem s_set (i : Nat) (h : wE X e σ H fun x H1 => D.nx (σ.set i (some x)) H1) (hN : X.N.Nodup) (hi : X.N[i]? = some n := by rfl) (hx : Loc X.env.scope n := by first | exact Or.inl rfl | exact Or.inr rfl) (hs : swapsWith e (some (.Name n pos')) pos.line X.env = pure false := by rfl) (hf : X.fn n = true ∨ X.env.scope.names.lookup n = some .local := by first | exact .inl rfl | exact .inr rfl | assumption) :
    wS X (.Assign [.Name n pos'] e pos) D σ H := PS.w (ps_set hN hi hx pe_W hs hf) h
/-- o.f = e -/
theorem s_fld {f : Str} (h : wE X e σ H fun y H1 => wE X o σ H1 fun x H2 => ∃ a C dx fs, x = .ref a ∧ H2 a = some (.ins C dx fs) ∧ Cls X.K C ∧ NoAttr X.K C f ∧ fs.length < 1000 ∧ D.nx σ (upd H2 a (.ins C dx (putF f y fs))))
    (hs : swapsWith e (some (.Attribute o f pos')) pos.line X.env = pure false := by rfl) : wS X (.Assign [.Attribute o f pos'] e pos) D σ H := PS.w (ps_fld pe_W pe_W hs) h
theorem s_raise {W : WX} {t : L2.St → Hp → XK → Prop} (hc : X.calm = true) (tk : Takes X W) (he : PMk X e t) (h : t σ H fun cls d H' => W cls d σ H') : wS X (.Raise (some e) none pos) D σ H := PS.w (ps_raise hc tk he) h
theorem b_mono {D' : Ends} (h : wB X ss D σ H) (h1 : ∀ σ' H', D.nx σ' H' → D'.nx σ' H') (h2 : ∀ v H', D.rt v H' → D'.rt v H') (h3 : ∀ σ' H', D.bk σ' H' → D'.bk σ' H') (h4 : ∀ σ' H', D.ct σ' H' → D'.ct σ' H') : wB X ss D' σ H := fun pins s I =>
  thn (h pins s I) fun f s' q => by
    cases f with
    | next => obtain ⟨a, b, c, d⟩ := q; exact ⟨a, b, c, h1 _ _ d⟩
    | brk => obtain ⟨a, b, c, d⟩ := q; exact ⟨a, b, c, h3 _ _ d⟩
    | cont => obtain ⟨a, b, c, d⟩ := q; exact ⟨a, b, c, h4 _ _ d⟩
    | ret u => obtain ⟨v, a, b, c, r, d⟩ := q; exact ⟨v, a, b, c, r, h2 _ _ d⟩
theorem e_mono {Q' : VK} (h : wE X e σ H Q) (h1 : ∀ v H', Q v H' → Q' v H') : wE X e σ H Q' := fun pins s I => thn (h pins s I) fun u s' ⟨v, H', I', r, q⟩ => ⟨v, H', I', r, h1 _ _ q⟩
end
end L2.Tr

/-! operators of own classes -/
namespace PySem.W
open PySem PySem.Calls PyProof.Rows
section
variable {prog : Program} {w : World} {A : Around} {E : Value → Shared → Prop} {s : Shared} {K : Frag} {x C dx L f : Addr} {h₀ : Heap} {m : Str → Option Value} {ox : Obj} {od : Option Obj} {nm : String}
/-- int's own slot declines an instance -/
theorem tr_decl {name : Str} {sl id : String} {g : Int → Int → Sem Fin} {i : Int} {t : Tok} {Q : Value → Shared → Prop} (slot : Slot "int" name id) (entry : entryFor table id = some (Builtin.Int.intBinary sl g)) (args : ∀ a b, argsOk id ⟨[a, b], []⟩)
    (I : s.heap.get? x = some (instObj C dx)) (h : Q .notImplemented s) : wpAny (model prog w) A (call (.builtin id) [.int i t, .ref x]) Q E s := by
  refine GQ.call_here slot (typeIs_int s i t) entry (args _ _) ?_
  unfold Builtin.Int.intBinary slotArgs Builtin.Int.intOfSelf
  simp only [List.isEmpty_nil, Bool.not_true, Bool.false_eq_true, if_false, List.length_cons, List.length_nil, bne_self_eq_false, pure_bind, asInt?, List.headD_cons]
  refine wpAny_bind (wpAny_bind (wpAny_load I (wpAny_pure ?_)))
  obtain ⟨hp, g, d, tk, os⟩ := s
  wp_walk
  exact h
/-- n op x, n an int, x an instance whose class has the reflected method -/
theorem tr_binR {op : Operator} {sl id : String} {g : Int → Int → Sem Fin} {i : Int} {t : Tok} {fo : Value} {Q : Value → Shared → Prop} (X : K.In s.heap) (I : InstAt s.heap x (instObj C dx) C od) (hc : selfFirst K C = true)
    (hs : findIn K (.ref C) (PySem.dunder op.info.2) = some (some (.ref f))) (hr : findIn K (.ref C) (dunderR op.info.2) = some (some (.ref L))) (hf : isFn K (.ref L) = true)
    (fills : fillsNumberSlot (.type "int") op.info.2 = pure true) (hsub : subIn K (.ref C) (.type "int") = some false)
    (slot : Slot "int" (PySem.dunder op.info.2) id) (entry : entryFor table id = some (Builtin.Int.intBinary sl g)) (args : ∀ a b, argsOk id ⟨[a, b], []⟩)
    (h : wpAny (model prog w) A (call (.ref L) [.ref x, .int i t]) (CmpBack Q) E s) : wpAny (model prog w) A (binaryOp op (.int i t) (.ref x)) Q E s := by
  obtain ⟨cd, rest, hcd, hm⟩ := ksp_first hc
  rcases hi : op.info with ⟨sym, nm'⟩
  rw [hi] at hs hr fills slot
  dsimp only at hs hr fills slot
  have two := ksp_try X I hr hf h
  have one : ∀ {Q : Option Value → Shared → Prop}, Q none s → wpAny (model prog w) A (tryMethod (.int i t) (PySem.dunder nm') (.ref x)) Q E s := fun q =>
    wpAny_tryMethod_declines (typeIs_int s i t) slot (tr_decl slot entry args I.at_ ⟨rfl, q⟩)
  obtain ⟨hh, g', d, tt, os⟩ := s
  have L1 : Looks (model prog w) hh (typeOf (.int i t)) (.type "int") := Looks.of_pure rfl
  have L2 : Looks (model prog w) hh (typeOf (.ref x)) (.ref C) := I.type
  have L3 : Looks (model prog w) hh (fillsNumberSlot (.type "int") nm') true := Looks.of_pure fills
  have L4 : Looks (model prog w) hh (fillsNumberSlot (.ref C) nm') true := fills_K X hcd hm hs
  have L5 : Looks (model prog w) hh (isSubtype (.ref C) (.type "int")) false := looks_subIn X hsub
  have L6 : Looks (model prog w) hh (numberSlotInPython (.type "int") nm') false := Looks.of_pure rfl
  have hne : (Value.type "int" == Value.ref C) = false := Bool.eq_false_iff.mpr fun q => by cases beq_iff_eq.mp q
  simp only [binaryOp, hi]
  refine wpAny_holding (wpAny_bind ?_)
  unfold binaryOp1
  refine wpAny_bind (L1.at (wpAny_bind (L2.at (wpAny_bind (L3.at ?_)))))
  simp only [hne, Bool.false_eq_true, if_false]
  ksp_lk
  refine one ?_
  ksp_lk
  refine wpAny_mono two (fun r s' hr' => ?_) fun _ _ e => e
  obtain ⟨v, rfl, hq⟩ := hr'
  ksp_lk
  exact hq
/-- n op x, a comparison -/
theorem tr_cmpR {op : CmpOp} {sl id : String} {g : Int → Int → Sem Fin} {i : Int} {t : Tok} {Q : Value → Shared → Prop} (hu : A.units < cLine) (X : K.In s.heap) (I : InstAt s.heap x (instObj C dx) C od)
    (hr : findIn K (.ref C) (cmpInfo op).2.2 = some (some (.ref f))) (hf : isFn K (.ref f) = true) (hsub : subIn K (.ref C) (.type "int") = some false)
    (slot : Slot "int" (cmpInfo op).2.1 id) (entry : entryFor table id = some (Builtin.Int.intBinary sl g)) (args : ∀ a b, argsOk id ⟨[a, b], []⟩)
    (h : wpAny (model prog w) A (call (.ref f) [.ref x, .int i t]) (CmpBack Q) E s) : wpAny (model prog w) A (richCompare op (.int i t) (.ref x)) Q E s := by
  have two : wpAny (model prog w) A (tryCompare (.ref x) (cmpInfo op).2.2 (.int i t)) (fun r s' => ∃ v, r = some v ∧ Q v s') E s := by
    unfold tryCompare
    refine wpAny_bind (ifBound_K X I hr hf (wpAny_mono h (fun v s' hv => ?_) fun _ _ e => e))
    cases v <;> first | exact hv.elim | exact wpAny_pure ⟨_, rfl, hv⟩
  rcases hi : cmpInfo op with ⟨sym, f', r'⟩
  rw [hi] at two slot
  dsimp only at two slot
  have hne : (Value.type "int" != Value.ref C) = true := by
    have : (Value.type "int" == Value.ref C) = false := Bool.eq_false_iff.mpr fun q => by cases beq_iff_eq.mp q
    simp only [bne, this, Bool.not_false]
  simp only [richCompare, hi, (typeIs_int s i t).oneThing_none]
  refine wpAny_holding (wpAny_bind (wpAny_cRoomFor hu ?_))
  refine wpAny_bind (wpAny_typeOf (typeIs_int s i t) (wpAny_bind (I.type.here ?_)))
  simp only [hne, if_true]
  refine wpAny_bind ((looks_subIn X hsub).here ?_)
  simp only [Bool.false_eq_true, if_false, Bool.not_false, if_true]
  refine wpAny_bind (m := tryCompare (.int i t) _ (.ref x)) (wpAny_tryCompare_declines (typeIs_int s i t) slot (tr_decl slot entry args I.at_ ⟨rfl, ?_⟩))
  refine wpAny_bind (m := tryCompare (.ref x) _ (.int i t)) (wpAny_mono two (fun r s' z => ?_) fun _ _ e => e)
  obtain ⟨v, rfl, hq⟩ := z
  exact wpAny_pure hq
/-- object.__ne__ of an instance whose class has its own __eq__ -/
theorem tr_objNe {b : Value} {Q : Value → Shared → Prop} (hu : A.in1.units < cLine) (X : K.In s.heap) (I : InstAt s.heap x ox C od) (hm : mroIn K C (.type "object") = some true) (hr : findIn K (.ref C) "__eq__" = some (some (.ref f))) (hf : isFn K (.ref f) = true)
    (h : wpAny (model prog w) A.in1 (call (.ref f) [.ref x, b]) (fun v s' => ∃ k, v = .bool k ∧ Q (.bool (!k)) s') E s) : wpAny (model prog w) A (call (.builtin "object.__ne__") [.ref x, b]) Q E s := by
  refine wpAny_call (codeAny_call_builtin F.cmp_object.ne.plain F.cmpEntry_ne (check_slot (i := "object.__ne__") (owner := "object") (n := "__ne__") F.cmpKind_ne F.cmpSplit_ne (I.type.andThen (looks_mroIn X hm)) (F.cmpArgs_ne _ _) ?_))
  unfold Builtin.«object.__ne__»
  refine wpAny_bind (m := slotArgs "__ne__" 1 _) (wpAny_pure ?_)
  refine wpAny_bind (m := cRoomFor _ _) (wpAny_cRoomFor hu ?_)
  refine wpAny_bind (m := callSpecialIfBound? (.ref x) (Str.ofString "__eq__") _) (ifBound_K X I hr hf (wpAny_mono h (fun r s' hq => ?_) fun _ _ y => y))
  obtain ⟨k, rfl, hq⟩ := hq
  refine wpAny_bind (m := truthy (.bool k)) (wpAny_truthy_bool ?_)
  exact wpAny_pure hq
theorem tr_tryNe {b : Value} {Q : Option Value → Shared → Prop} (hu : A.in1.units < cLine) (X : K.In s.heap) (I : InstAt s.heap x ox C od) (hm : mroIn K C (.type "object") = some true) (hn : findIn K (.ref C) "__ne__" = some (some (.builtin "object.__ne__"))) (hr : findIn K (.ref C) "__eq__" = some (some (.ref f))) (hf : isFn K (.ref f) = true)
    (h : wpAny (model prog w) A.in1 (call (.ref f) [.ref x, b]) (fun v s' => ∃ k, v = .bool k ∧ Q (some (.bool (!k))) s') E s) : wpAny (model prog w) A (tryCompare (.ref x) "__ne__" b) Q E s := by
  unfold tryCompare
  simp only [callSpecialIfBound?, bindSpecialIfBound?]
  refine wpAny_bind (wpAny_holding (wpAny_bind (wpAny_bind (wpAny_bind (I.type.here ((looks_findIn X hn).here ?_))))))
  refine wpAny_bind (wpAny_askSetting (wpAny_ite ?_))
  have fin : wpAny (model prog w) A (call (.builtin "object.__ne__") ([.ref x] ++ [b]) >>= fun v => pure (some v)) (fun a s' => wpAny (model prog w) A (match a with | some .notImplemented => pure none | none => pure none | some v => pure (some v)) Q E s') E s :=
    wpAny_bind (tr_objNe hu X I hm hr hf (wpAny_mono h (fun v s' ⟨k, e, q⟩ => ⟨k, e, wpAny_pure (wpAny_pure q)⟩) fun _ _ h' => h'))
  simp only [F.cmp_object.ne.bind]
  split
  · exact wpAny_bind (wpAny_pure (wpAny_pure (by exact fin)))
  · exact wpAny_tryCatch (wpAny_bind (wpAny_pure (wpAny_pure (by exact fin))))
/-- x != b -/
theorem tr_ne {b tb : Value} {Q : Value → Shared → Prop} (hu : A.in1.units < cLine) (hu0 : A.units < cLine) (X : K.In s.heap) (I : InstAt s.heap x ox C od) (hb : Looks (model prog w) s.heap (typeOf b) tb) (hnf : notFirst K C tb = true) (hm : mroIn K C (.type "object") = some true)
    (hn : findIn K (.ref C) "__ne__" = some (some (.builtin "object.__ne__"))) (hr : findIn K (.ref C) "__eq__" = some (some (.ref f))) (hf : isFn K (.ref f) = true)
    (h : wpAny (model prog w) A.in1 (call (.ref f) [.ref x, b]) (fun v s' => ∃ k, v = .bool k ∧ Q (.bool (!k)) s') E s) : wpAny (model prog w) A (richCompare .NotEq (.ref x) b) Q E s := by
  have one : wpAny (model prog w) A (tryCompare (.ref x) "__ne__" b) (fun r s' => ∃ v, r = some v ∧ Q v s') E s := tr_tryNe hu X I hm hn hr hf (wpAny_mono h (fun v s' ⟨k, e, q⟩ => ⟨k, e, _, rfl, q⟩) fun _ _ h' => h')
  unfold richCompare
  simp only [oneThing_ref]
  refine wpAny_holding (wpAny_bind (wpAny_cRoomFor hu0 ?_))
  refine wpAny_bind (I.type.here (wpAny_bind (hb.here ?_)))
  split
  · rename_i q
    have e : subIn K tb (.ref C) = some false := by
      rcases Bool.or_eq_true_iff.mp hnf with e | e
      · rw [beq_iff_eq.mp e] at q; simp at q
      · exact beq_iff_eq.mp e
    refine wpAny_bind ((looks_subIn X e).here ?_)
    simp only [Bool.false_eq_true, if_false]
    refine wpAny_bind (m := tryCompare (.ref x) _ b) (wpAny_mono one (fun r s' z => ?_) fun _ _ e => e)
    obtain ⟨v, rfl, hq⟩ := z
    exact wpAny_pure hq
  · refine wpAny_bind (wpAny_pure ?_)
    simp only [Bool.false_eq_true, if_false]
    refine wpAny_bind (m := tryCompare (.ref x) _ b) (wpAny_mono one (fun r s' z => ?_) fun _ _ e => e)
    obtain ⟨v, rfl, hq⟩ := z
    exact wpAny_pure hq
/-- n != x -/
theorem tr_neR {sl id : String} {g : Int → Int → Sem Fin} {i : Int} {t : Tok} {Q : Value → Shared → Prop} (hu1 : A.in1.units < cLine) (hu : A.units < cLine) (X : K.In s.heap) (I : InstAt s.heap x (instObj C dx) C od) (hm : mroIn K C (.type "object") = some true)
    (hn : findIn K (.ref C) "__ne__" = some (some (.builtin "object.__ne__"))) (hr : findIn K (.ref C) "__eq__" = some (some (.ref f))) (hf : isFn K (.ref f) = true) (hsub : subIn K (.ref C) (.type "int") = some false)
    (h : wpAny (model prog w) A.in1 (call (.ref f) [.ref x, .int i t]) (fun v s' => ∃ k, v = .bool k ∧ Q (.bool (!k)) s') E s) : wpAny (model prog w) A (richCompare .NotEq (.int i t) (.ref x)) Q E s := by
  have two : wpAny (model prog w) A (tryCompare (.ref x) "__ne__" (.int i t)) (fun r s' => ∃ v, r = some v ∧ Q v s') E s := tr_tryNe hu1 X I hm hn hr hf (wpAny_mono h (fun v s' ⟨k, e, q⟩ => ⟨k, e, _, rfl, q⟩) fun _ _ h' => h')
  have hne : (Value.type "int" != Value.ref C) = true := by
    have : (Value.type "int" == Value.ref C) = false := Bool.eq_false_iff.mpr fun q => by cases beq_iff_eq.mp q
    simp only [bne, this, Bool.not_false]
  simp only [richCompare, cmpInfo, (typeIs_int s i t).oneThing_none]
  refine wpAny_holding (wpAny_bind (wpAny_cRoomFor hu ?_))
  refine wpAny_bind (wpAny_typeOf (typeIs_int s i t) (wpAny_bind (I.type.here ?_)))
  simp only [hne, if_true]
  refine wpAny_bind ((looks_subIn X hsub).here ?_)
  simp only [Bool.false_eq_true, if_false, Bool.not_false, if_true]
  refine wpAny_bind (m := tryCompare (.int i t) _ (.ref x)) (wpAny_tryCompare_declines (typeIs_int s i t) F.slot_int_ne (tr_decl (sl := "__ne__") F.slot_int_ne F.entry_int_ne F.args_int_ne_2 I.at_ ⟨rfl, ?_⟩))
  refine wpAny_bind (m := tryCompare (.ref x) _ (.int i t)) (wpAny_mono two (fun r s' z => ?_) fun _ _ e => e)
  obtain ⟨v, rfl, hq⟩ := z
  exact wpAny_pure hq
end
end PySem.W

namespace L2.Tr
open PySem PySem.Spec PyProof.Rows

/-! ### results of mirrors -/
inductive Pay where
  | int (i : Int) | str (s : Str) | bl (b : Bool) | non | frac (q : Rat) | obj (n : Nat) (xs : List Rat)
structure Exn where
  cls : Str
  pay : List (Str × Pay)
inductive Res (α : Type) where
  | ok (a : α) | err (e : Exn) | stuck
namespace Res
variable {α β γ : Type}
def bind (m : Res α) (f : α → Res β) : Res β := match m with
  | .ok a => f a
  | .err e => .err e
  | .stuck => .stuck
@[simp] theorem ok_bind (a : α) (f : α → Res β) : (ok a).bind f = f a := rfl
@[simp] theorem err_bind (e : Exn) (f : α → Res β) : (err e : Res α).bind f = err e := rfl
@[simp] theorem stuck_bind (f : α → Res β) : (stuck : Res α).bind f = stuck := rfl
theorem bind_assoc (m : Res α) (f : α → Res β) (g : β → Res γ) : (m.bind f).bind g = m.bind fun a => (f a).bind g := by cases m <;> rfl
theorem bind_ok (m : Res α) : (m.bind fun a => ok a) = m := by cases m <;> rfl
def guard (p : Prop) [Decidable p] (m : Res α) : Res α := if p then m else stuck
theorem guard_pos {p : Prop} [Decidable p] (h : p) (m : Res α) : guard p m = m := if_pos h
end Res

/-! ### representations -/
/-- by the frozen heap I and the heap H -/
abbrev Ra (α : Type) := Hp → Hp → V → α → Prop
/-- by the frozen heap alone -/
abbrev Rp (α : Type) := Hp → V → α → Prop
abbrev rp {α : Type} (r : Rp α) : Ra α := fun I _ v x => r I v x
class Mo {α : Type} (r : Rp α) : Prop where
  up : ∀ {I I' : Hp} {v : V} {x : α}, Same I I' → r I v x → r I' v x
class MoA {α : Type} (r : Ra α) : Prop where
  up : ∀ {I H I' H' : Hp} {v : V} {x : α}, Same I I' → Same H H' → r I H v x → r I' H' v x
instance {α : Type} {r : Rp α} [m : Mo r] : MoA (rp r) := ⟨fun a _ h => m.up a h⟩
instance {α : Type} {r : Ra α} {H0 : Hp} [m : MoA r] : Mo (fun I v x => r I H0 v x) := ⟨fun a h => m.up a (Same.refl _) h⟩

def rInt : Rp Int := fun _ v x => v = .int x
def rBl : Rp Bool := fun _ v x => v = .bl x
def rStr : Rp Str := fun _ v x => v = .str x
def rNon : Rp Unit := fun _ v _ => v = .non
instance : Mo rInt := ⟨fun _ h => h⟩
instance : Mo rBl := ⟨fun _ h => h⟩
instance : Mo rStr := ⟨fun _ h => h⟩
instance : Mo rNon := ⟨fun _ h => h⟩
/-- a Fraction -/
def frF (q : Rat) : List (Str × V) := [("top", .int q.num), ("bottom", .int (q.den : Int))]
def rFrac (K : PySem.W.Frag) : Rp Rat := fun I v q => ∃ a dx, v = .ref a ∧ I a = some (.ins (He.ga K "Fraction") dx (frF q))
instance {K : PySem.W.Frag} : Mo (rFrac K) := ⟨fun s ⟨a, dx, e, h⟩ => ⟨a, dx, e, s _ _ h⟩⟩
/-- an int or a Fraction -/
inductive Num where
  | i (n : Int) | q (r : Rat)
def Num.val : Num → Rat
  | .i n => (n : Rat)
  | .q r => r
def rNum (K : PySem.W.Frag) : Rp Num := fun I v x => match x with
  | .i n => v = .int n
  | .q r => rFrac K I v r
instance {K : PySem.W.Frag} : Mo (rNum K) := ⟨fun {I I' v x} s h => by
  cases x with
  | i n => exact h
  | q r => exact Mo.up (r := rFrac K) s h⟩
theorem Paired.mapQ {α β : Type} {F G : α → β → Prop} {l₁ : List α} {l₂ : List β} (h : Paired F l₁ l₂) (f : ∀ a b, F a b → G a b) : Paired G l₁ l₂ := Paired.mapP h f
/-- a frozen list -/
def rL {α : Type} (r : Rp α) : Rp (List α) := fun I v xs => ∃ l vs, v = .ref l ∧ I l = some (.lst vs) ∧ Paired (r I) vs xs
instance {α : Type} {r : Rp α} [m : Mo r] : Mo (rL r) := ⟨fun s ⟨l, vs, e, h, p⟩ => ⟨l, vs, e, s _ _ h, Paired.mapP p fun _ _ q => m.up s q⟩⟩
/-- a frozen tuple (of one kind) -/
def rT {α : Type} (r : Rp α) : Rp (List α) := fun I v xs => ∃ l vs, v = .ref l ∧ I l = some (.tup vs) ∧ Paired (r I) vs xs
instance {α : Type} {r : Rp α} [m : Mo r] : Mo (rT r) := ⟨fun s ⟨l, vs, e, h, p⟩ => ⟨l, vs, e, s _ _ h, Paired.mapP p fun _ _ q => m.up s q⟩⟩
/-- a list that can be read (frozen or not), or the script -/
def rdL {α : Type} (K : PySem.W.Frag) (r : Ra α) : Ra (List α) := fun I H v xs => ∃ l vs, v = .ref l ∧ SqL K H l vs ∧ Paired (r I H) vs xs
instance {α : Type} {K : PySem.W.Frag} {r : Ra α} [m : MoA r] : MoA (rdL K r) := ⟨fun s t ⟨l, vs, e, h, p⟩ => ⟨l, vs, e, t.seq h, Paired.mapP p fun _ _ q => m.up s t q⟩⟩

/-! ### exceptions -/
def PayR (K : PySem.W.Frag) (I : Hp) (v : V) : Pay → Prop
  | .int i => v = .int i
  | .str s => v = .str s
  | .bl b => v = .bl b
  | .non => v = .non
  | .frac q => rFrac K I v q
  | .obj _ _ => True
def ExR (K : PySem.W.Frag) (I H : Hp) (e : Exn) (cls : Value) (d : Option Addr) : Prop := cls = .ref (He.ga K e.cls) ∧ (match d with
  | none => e.pay = []
  | some a => e.pay ≠ [] ∧ ∃ fs : List (Str × V), H a = some (.xd fs) ∧ I a = none ∧ Paired (fun (p : Str × V) (q : Str × Pay) => p.1 = q.1 ∧ PayR K I p.2 q.2) fs e.pay)

/-! ### frames -/
/-- from (I, H) to (I', H') nothing that stood has changed -/
structure Fm (I H I' H' : Hp) : Prop where
  i : Same I I'
  h : Same H H'
  ih : Same I' H'
  mu : ∀ l, I l = none → H l ≠ none → I' l = none
theorem Fm.refl {I H : Hp} (h : Same I H) : Fm I H I H := ⟨Same.refl _, Same.refl _, h, fun _ e _ => e⟩
theorem Fm.trans {I H I1 H1 I2 H2 : Hp} (a : Fm I H I1 H1) (b : Fm I1 H1 I2 H2) : Fm I H I2 H2 :=
  ⟨a.i.trans b.i, a.h.trans b.h, b.ih, fun l e n => b.mu l (a.mu l e n) fun q => by
    cases z : H l with
    | none => exact n z
    | some o => rw [a.h l o z] at q; cases q⟩
/-- a new frozen object -/
theorem Fm.new {I H : Hp} {p : Addr} {o : HO} (s : Same I H) (h : H p = none) : Fm I H (upd I p o) (upd H p o) :=
  ⟨fun b u e => by rw [upd_ne (ne_of_none (s _ _ e) h)]; exact e, fun b u e => by rw [upd_ne (ne_of_none e h)]; exact e, fun b u e => by
    by_cases hb : b = p
    · subst hb; rw [upd_same] at e ⊢; exact e
    · rw [upd_ne hb] at e ⊢; exact s _ _ e, fun l e n => by
    have : l ≠ p := fun q => n (q ▸ h)
    rw [upd_ne this]; exact e⟩
/-- a new object that may still be changed -/
theorem Fm.newM {I H : Hp} {p : Addr} {o : HO} (s : Same I H) (h : H p = none) : Fm I H I (upd H p o) :=
  ⟨Same.refl _, fun b u e => by rw [upd_ne (ne_of_none e h)]; exact e, fun b u e => by rw [upd_ne (ne_of_none (s _ _ e) h)]; exact s _ _ e, fun l e n => e⟩

/-- the error's own dict is new -/
def Fr (H : Hp) (d : Option Addr) : Prop := ∀ a, d = some a → H a = none
theorem Fr.back {H H' : Hp} {d : Option Addr} (f : Fr H' d) (s : Same H H') : Fr H d := fun a e => s.free (f a e)
def PostE {α : Type} (K : PySem.W.Frag) (m : Res α) (r : Ra α) (I H : Hp) (E : XK) (Q : VK) : Prop := match m with
  | .ok a => ∀ I' H' v, Fm I H I' H' → r I' H' v a → Q v H'
  | .err e => ∀ I' H' cls d, Fm I H I' H' → Fr H d ∧ ExR K I' H' e cls d → E cls d H'
  | .stuck => False
theorem PostE.up {α : Type} {K : PySem.W.Frag} {m : Res α} {r : Ra α} {I H I1 H1 : Hp} {E : XK} {Q : VK} (h : PostE K m r I H E Q) (f : Fm I H I1 H1) : PostE K m r I1 H1 E Q := by
  cases m with
  | ok a => exact fun I' H' v g => h I' H' v (f.trans g)
  | err e => exact fun I' H' c d g x => h I' H' c d (f.trans g) ⟨x.1.back f.h, x.2⟩
  | stuck => exact h
theorem PostE.imp {α : Type} {K : PySem.W.Frag} {m : Res α} {r : Ra α} {I H : Hp} {E : XK} {Q Q' : VK} (h : PostE K m r I H E Q) (g : ∀ v H', Q v H' → Q' v H') : PostE K m r I H E Q' := by
  cases m with
  | ok a => exact fun I' H' v f r => g _ _ (h I' H' v f r)
  | err e => exact h
  | stuck => exact h

/-! ### environments -/
structure SF where
  {α : Type}
  r : Rp α
  [mo : Mo r]
  x : α
/-- a region of the call's own that may still be changed: its footprint is hidden -/
structure MF where
  Q : Hp → Hp → List Addr → Prop
  mo : ∀ {I I' H : Hp} {fp : List Addr}, Same I I' → Q I H fp → Q I' H fp
  lo : ∀ {I H H' : Hp} {fp : List Addr}, (∀ a, a ∈ fp → H' a = H a) → Q I H fp → Q I H' fp
/-- one object -/
def MF.one (l : Addr) (P : Hp → HO → Prop) (mo : ∀ {I I' : Hp} {o : HO}, Same I I' → P I o → P I' o) : MF := ⟨fun I H fp => fp = [l] ∧ ∃ o, H l = some o ∧ P I o, fun s ⟨e, o, h, p⟩ => ⟨e, o, h, mo s p⟩, fun k ⟨e, o, h, p⟩ => ⟨e, o, by rw [k l (by rw [e]; exact List.mem_singleton_self l)]; exact h, p⟩⟩
def MF.lst {α : Type} (l : Addr) (r : Rp α) [m : Mo r] (xs : List α) : MF := .one l (fun I o => ∃ vs, o = .lst vs ∧ Paired (r I) vs xs) (fun s ⟨vs, e, p⟩ => ⟨vs, e, Paired.mapP p fun _ _ q => m.up s q⟩)
def FldR (I : Hp) : List (Str × V) → List (Str × SF) → Prop
  | [], [] => True
  | p :: fs, q :: gs => p.1 = q.1 ∧ q.2.r I p.2 q.2.x ∧ FldR I fs gs
  | _, _ => False
theorem FldR.up {I I' : Hp} (s : Same I I') : ∀ {fs : List (Str × V)} {gs : List (Str × SF)}, FldR I fs gs → FldR I' fs gs
  | [], [], h => h
  | _ :: _, q :: _, ⟨a, b, c⟩ => ⟨a, q.2.mo.up s b, FldR.up s c⟩
  | [], _ :: _, h => h
  | _ :: _, [], h => h
def MF.ins (l C dx : Addr) (gs : List (Str × SF)) : MF := .one l (fun I o => ∃ fs, o = .ins C dx fs ∧ FldR I fs gs) (fun s ⟨fs, e, p⟩ => ⟨fs, e, FldR.up s p⟩)
/-- regions with their footprints -/
def Regs (I H : Hp) : List MF → List (List Addr) → Prop
  | [], [] => True
  | c :: mem, fp :: fps => c.Q I H fp ∧ Regs I H mem fps
  | _, _ => False
structure Stt (I0 H0 : Hp) (ctx : List (Option SF)) (mem : List MF) (I H : Hp) (σ : St) : Prop where
  fm : Fm I0 H0 I H
  len : σ.length = ctx.length
  sl : ∀ (i : Nat) (sf : SF), ctx[i]? = some (some sf) → ∃ v, σ[i]? = some (some v) ∧ sf.r I v sf.x
  me : ∃ fps, Regs I H mem fps ∧ fps.flatten.Nodup ∧ ∀ a, a ∈ fps.flatten → H0 a = none ∧ I a = none ∧ H a ≠ none
theorem Regs.up {I I' H H' : Hp} (s : Same I I') : ∀ {mem : List MF} {fps : List (List Addr)}, (∀ a, a ∈ fps.flatten → H' a = H a) → Regs I H mem fps → Regs I' H' mem fps
  | [], [], _, h => h
  | c :: _, fp :: fps, k, ⟨a, b⟩ => ⟨c.lo (fun x hx => k x (by rw [List.flatten_cons]; exact List.mem_append_left _ hx)) (c.mo s a), Regs.up s (fun x hx => k x (by rw [List.flatten_cons]; exact List.mem_append_right _ hx)) b⟩
  | [], _ :: _, _, h => h
  | _ :: _, [], _, h => h
theorem Regs.get {I H : Hp} : ∀ {mem : List MF} {fps : List (List Addr)} {j : Nat} {c : MF}, Regs I H mem fps → mem[j]? = some c → ∃ fp, fps[j]? = some fp ∧ c.Q I H fp
  | [], _, _, _, _, e => by simp at e
  | d :: _, fp :: _, 0, c, ⟨a, _⟩, e => ⟨fp, rfl, by
    have : d = c := by simpa using e
    rw [← this]; exact a⟩
  | _ :: mem, _ :: fps, j + 1, c, ⟨_, b⟩, e => by
    have e' : mem[j]? = some c := by simpa using e
    obtain ⟨fp, e1, q⟩ := Regs.get b e'
    exact ⟨fp, by simpa using e1, q⟩
  | _ :: _, [], _, _, h, _ => h.elim
section
variable {I0 H0 I H I' H' : Hp} {ctx : List (Option SF)} {mem : List MF} {σ : St}
theorem Stt.same (s : Stt I0 H0 ctx mem I H σ) : Same I H := s.fm.ih
theorem Stt.step (s : Stt I0 H0 ctx mem I H σ) (f : Fm I H I' H') : Stt I0 H0 ctx mem I' H' σ := by
  obtain ⟨fps, rg, nd, k⟩ := s.me
  have key : ∀ a, a ∈ fps.flatten → H' a = H a := fun a ha => by
    obtain ⟨_, _, h3⟩ := k a ha
    cases e : H a with
    | none => exact absurd e h3
    | some o => exact f.h _ _ e
  refine ⟨s.fm.trans f, s.len, fun i sf e => ?_, fps, rg.up f.i key, nd, fun a ha => ?_⟩
  · obtain ⟨v, e1, h⟩ := s.sl i sf e
    exact ⟨v, e1, sf.mo.up f.i h⟩
  · obtain ⟨h1, h2, h3⟩ := k a ha
    exact ⟨h1, f.mu _ h2 h3, by rw [key a ha]; exact h3⟩
/-- one object of the call's own -/
theorem Stt.me1 (s : Stt I0 H0 ctx mem I H σ) {j : Nat} {l : Addr} {P : Hp → HO → Prop} {c : MF} (hj : mem[j]? = some c) (hc : ∀ {I H : Hp} {fp : List Addr}, c.Q I H fp → fp = [l] ∧ ∃ o, H l = some o ∧ P I o) : H0 l = none ∧ I l = none ∧ ∃ o, H l = some o ∧ P I o := by
  obtain ⟨fps, rg, nd, k⟩ := s.me
  obtain ⟨fp, e, q⟩ := rg.get hj
  obtain ⟨e1, q⟩ := hc q
  obtain ⟨h1, h2, _⟩ := k l (List.mem_flatten.mpr ⟨fp, List.mem_of_getElem? e, by rw [e1]; exact List.mem_singleton_self l⟩)
  exact ⟨h1, h2, q⟩
theorem Stt.lstAt (s : Stt I0 H0 ctx mem I H σ) {α : Type} {j : Nat} {l : Addr} {r : Rp α} {mo : Mo r} {xs : List α} (hj : mem[j]? = some (MF.lst l r xs)) : H0 l = none ∧ I l = none ∧ ∃ o, H l = some o ∧ ∃ vs, o = .lst vs ∧ Paired (r I) vs xs :=
  s.me1 (P := fun I o => ∃ vs, o = .lst vs ∧ Paired (r I) vs xs) hj fun q => q
theorem Stt.insAt (s : Stt I0 H0 ctx mem I H σ) {j : Nat} {l C dx : Addr} {gs : List (Str × SF)} (hj : mem[j]? = some (MF.ins l C dx gs)) : H0 l = none ∧ I l = none ∧ ∃ o, H l = some o ∧ ∃ fs, o = .ins C dx fs ∧ FldR I fs gs :=
  s.me1 (P := fun I o => ∃ fs, o = .ins C dx fs ∧ FldR I fs gs) hj fun q => q
theorem Stt.set (s : Stt I0 H0 ctx mem I H σ) (i : Nat) {α : Type} {r : Rp α} [mo : Mo r] {x : α} {v : V} (h : r I v x) : Stt I0 H0 (ctx.set i (some ⟨r, x⟩)) mem I H (σ.set i (some v)) := by
  refine ⟨s.fm, by rw [List.length_set, List.length_set]; exact s.len, fun j sf e => ?_, s.me⟩
  by_cases hj : j = i
  · subst hj
    rw [List.getElem?_set] at e
    by_cases hl : j < ctx.length
    · simp only [hl, if_true] at e
      cases e
      exact ⟨v, by rw [List.getElem?_set]; simp [s.len, hl], h⟩
    · simp only [hl, if_true, if_false] at e
      cases e
  · rw [List.getElem?_set_ne (Ne.symm hj)] at e
    obtain ⟨w, e1, q⟩ := s.sl j sf e
    exact ⟨w, by rw [List.getElem?_set_ne (Ne.symm hj)]; exact e1, q⟩
end
/-! ### expressions -/
section
variable {α β γ δ : Type}
def JE (X : Cx) (I0 H0 : Hp) (W : WX) (ctx : List (Option SF)) (mem : List MF) (e : Expr) (m : Res α) (r : Ra α) : Prop :=
  ∀ (I H : Hp) (σ : St) (Q : VK), Stt I0 H0 ctx mem I H σ → PostE X.K m r I H (fun cls d H' => W cls d σ H') Q → wE X e σ H Q
def JT (X : Cx) (I0 H0 : Hp) (W : WX) (ctx : List (Option SF)) (mem : List MF) (e : Expr) (m : Res Bool) : Prop :=
  ∀ (I H : Hp) (σ : St) (Q : Bool → Hp → Prop), Stt I0 H0 ctx mem I H σ → PostE X.K m (rp rBl) I H (fun cls d H' => W cls d σ H') (fun v H' => ∀ b, v = .bl b → Q b H') → wT X e σ H Q
def OpJ (X : Cx) (W : WX) (f : Value → Value → Sem Value) (ra : Ra α) (rb : Ra β) (g : α → β → Res γ) (rc : Ra γ) : Prop :=
  ∀ (I H : Hp) (σ : St) (Q : VK) (u v : V) (x : α) (y : β), Same I H → ra I H u x → rb I H v y → PostE X.K (g x y) rc I H (fun cls d H' => W cls d σ H') Q → opW X f σ u v H Q
def UnJ (X : Cx) (W : WX) (f : Value → Sem Value) (ra : Ra α) (g : α → Res γ) (rc : Ra γ) : Prop :=
  ∀ (I H : Hp) (σ : St) (Q : VK) (u : V) (x : α), Same I H → ra I H u x → PostE X.K (g x) rc I H (fun cls d H' => W cls d σ H') Q → unW X f σ u H Q
def CallJ (X : Cx) (W : WX) (f : Value) (R : Hp → Hp → List V → δ → Prop) (g : δ → Res γ) (rc : Ra γ) : Prop :=
  ∀ (I H : Hp) (σ : St) (Q : VK) (vs : List V) (x : δ), Same I H → R I H vs x → PostE X.K (g x) rc I H (fun cls d H' => W cls d σ H') Q → callW X f σ vs H Q
/-- argument lists -/
def JA (X : Cx) (I0 H0 : Hp) (W : WX) (ctx : List (Option SF)) (mem : List MF) (es : List Expr) (m : Res δ) (R : Hp → Hp → List V → δ → Prop) : Prop :=
  ∀ (I H : Hp) (σ : St) (Q : List V → Hp → Prop), Stt I0 H0 ctx mem I H σ → (match m with
    | .ok a => ∀ I' H' vs, Fm I H I' H' → R I' H' vs a → Q vs H'
    | .err e => ∀ I' H' cls d, Fm I H I' H' → Fr H d ∧ ExR X.K I' H' e cls d → W cls d σ H'
    | .stuck => False) → wA X es σ H Q
def aNil : Hp → Hp → List V → Unit → Prop := fun _ _ vs _ => vs = []
def aCons (r : Ra α) (R : Hp → Hp → List V → δ → Prop) : Hp → Hp → List V → α × δ → Prop := fun I H vs x => ∃ v ws, vs = v :: ws ∧ r I H v x.1 ∧ R I H ws x.2

variable {X : Cx} {I0 H0 : Hp} {W : WX} {ctx : List (Option SF)} {mem : List MF} {e a b c o : Expr} {es : List Expr} {pos pos' : Pos} {n : Str} {ra : Ra α} {rb : Ra β} {rc : Ra γ} {ma : Res α} {mb : Res β}

theorem JE.co {m : Res α} {r : Ra α} {r' : Ra α} (j : JE X I0 H0 W ctx mem e m r) (c : ∀ I H v x, Same I H → r I H v x → r' I H v x) : JE X I0 H0 W ctx mem e m r' := fun I H σ Q st p => j I H σ Q st (by
  cases m with
  | ok a => exact fun I' H' v f q => p I' H' v f (c _ _ _ _ f.ih q)
  | err e => exact p
  | stuck => exact p)
theorem JE.map {m : Res α} {r : Ra α} {r' : Ra β} {g : α → β} (j : JE X I0 H0 W ctx mem e m r) (c : ∀ I H v x, Same I H → r I H v x → r' I H v (g x)) : JE X I0 H0 W ctx mem e (m.bind fun x => .ok (g x)) r' := fun I H σ Q st p => j I H σ Q st (by
  cases m with
  | ok a => exact fun I' H' v f q => p I' H' v f (c _ _ _ _ f.ih q)
  | err e => exact p
  | stuck => exact p)
theorem JE.num {m : Res Int} {K : PySem.W.Frag} (j : JE X I0 H0 W ctx mem e m (rp rInt)) : JE X I0 H0 W ctx mem e (m.bind fun x => .ok (Num.i x)) (rp (rNum K)) := j.map fun _ _ _ _ _ h => h
theorem JE.numq {m : Res Rat} {K : PySem.W.Frag} (j : JE X I0 H0 W ctx mem e m (rp (rFrac K))) : JE X I0 H0 W ctx mem e (m.bind fun x => .ok (Num.q x)) (rp (rNum K)) := j.map fun _ _ _ _ _ h => h
/-- a name in slot i -/
theorem JE.var (i : Nat) {r : Rp α} {mo : Mo r} {x : α} (hc : ctx[i]? = some (some (@SF.mk α r mo x)) := by rfl) (hN : X.N[i]? = some n := by rfl) (hv : Vis X.env.scope n := by first | exact Or.inl rfl | exact Or.inr (Or.inl rfl) | exact Or.inr (Or.inr rfl)) (hd : (n == ("__debug__" : Str)) = false := by decide)
    (hcd : (n == ("__classdict__" : Str)) = false := by decide) : JE X I0 H0 W ctx mem (.Name n pos) (.ok x) (rp r) := fun I H σ Q st p => by
  obtain ⟨v, e, h⟩ := st.sl i _ hc
  exact w_var i (p I H v (Fm.refl st.same) h) e hN hv hd hcd
/-- .. a parameter whose worth may lean on the heap at the entry -/
theorem JE.varP (i : Nat) {r : Ra α} {mo : Mo (fun I v x => r I H0 v x)} {x : α} [m : MoA r] (hc : ctx[i]? = some (some (@SF.mk α (fun I v x => r I H0 v x) mo x)) := by rfl) (hN : X.N[i]? = some n := by rfl) (hv : Vis X.env.scope n := by first | exact Or.inl rfl | exact Or.inr (Or.inl rfl) | exact Or.inr (Or.inr rfl)) (hd : (n == ("__debug__" : Str)) = false := by decide)
    (hcd : (n == ("__classdict__" : Str)) = false := by decide) : JE X I0 H0 W ctx mem (.Name n pos) (.ok x) r := fun I H σ Q st p => by
  obtain ⟨v, e, h⟩ := st.sl i _ hc
  exact w_var i (p I H v (Fm.refl st.same) (m.up (Same.refl _) st.fm.h h)) e hN hv hd hcd
theorem JE.int {i : Int} {j} : JE X I0 H0 W ctx mem (.Constant (.int i) j pos) (.ok i) (rp rInt) := fun I H σ Q st p => w_int (p I H _ (Fm.refl st.same) rfl)
theorem JE.bl {i : Bool} {j} : JE X I0 H0 W ctx mem (.Constant (.bool i) j pos) (.ok i) (rp rBl) := fun I H σ Q st p => w_bl (p I H _ (Fm.refl st.same) rfl)
theorem JE.str {i : Str} {j} : JE X I0 H0 W ctx mem (.Constant (.str i) j pos) (.ok i) (rp rStr) := fun I H σ Q st p => w_str (p I H _ (Fm.refl st.same) rfl)
theorem JE.non {j} : JE X I0 H0 W ctx mem (.Constant .none j pos) (.ok ()) (rp rNon) := fun I H σ Q st p => w_non (p I H _ (Fm.refl st.same) rfl)
theorem JE.bin {op : Operator} {g : α → β → Res γ} [MoA ra] (ja : JE X I0 H0 W ctx mem a ma ra) (jb : JE X I0 H0 W ctx mem b mb rb) (o : OpJ X W (binaryOp op) ra rb g rc) : JE X I0 H0 W ctx mem (.BinOp a op b pos) (ma.bind fun x => mb.bind fun y => g x y) rc := fun I H σ Q st p => by
  refine w_bin (ja I H σ _ st ?_)
  cases ma with
  | ok x =>
    intro I1 H1 u f1 r1
    refine jb I1 H1 σ _ (st.step f1) ?_
    have p1 := PostE.up p f1
    cases mb with
    | ok y => exact fun I2 H2 v f2 r2 => o I2 H2 σ Q u v x y f2.ih (MoA.up f2.i f2.h r1) r2 (PostE.up p1 f2)
    | err e => exact p1
    | stuck => exact p1
  | err e => exact p
  | stuck => exact p
theorem JE.cmp {op : CmpOp} {g : α → β → Res γ} [MoA ra] (ja : JE X I0 H0 W ctx mem a ma ra) (jb : JE X I0 H0 W ctx mem b mb rb) (o : OpJ X W (compareOp op) ra rb g rc) (hm : behindInMarks op b = false := by first | exact nomark _ | rfl) : JE X I0 H0 W ctx mem (.Compare a [op] [b] pos) (ma.bind fun x => mb.bind fun y => g x y) rc := fun I H σ Q st p => by
  refine w_cmp (ja I H σ _ st ?_) hm
  cases ma with
  | ok x =>
    intro I1 H1 u f1 r1
    refine jb I1 H1 σ _ (st.step f1) ?_
    have p1 := PostE.up p f1
    cases mb with
    | ok y => exact fun I2 H2 v f2 r2 => o I2 H2 σ Q u v x y f2.ih (MoA.up f2.i f2.h r1) r2 (PostE.up p1 f2)
    | err e => exact p1
    | stuck => exact p1
  | err e => exact p
  | stuck => exact p
theorem JT.cmp {op : CmpOp} {g : α → β → Res Bool} [MoA ra] (ja : JE X I0 H0 W ctx mem a ma ra) (jb : JE X I0 H0 W ctx mem b mb rb) (o : OpJ X W (compareOp op) ra rb g (rp rBl)) (hm : behindInMarks op b = false := by first | exact nomark _ | rfl) : JT X I0 H0 W ctx mem (.Compare a [op] [b] pos) (ma.bind fun x => mb.bind fun y => g x y) := fun I H σ Q st p => by
  refine w_tcmp (ja I H σ _ st ?_) hm
  cases ma with
  | ok x =>
    intro I1 H1 u f1 r1
    refine jb I1 H1 σ _ (st.step f1) ?_
    have p1 := PostE.up p f1
    cases mb with
    | ok y =>
      intro I2 H2 v f2 r2
      refine o I2 H2 σ _ u v x y f2.ih (MoA.up f2.i f2.h r1) r2 ?_
      have p2 := PostE.up p1 f2
      revert p2
      show PostE X.K (g x y) _ _ _ _ _ → _
      generalize g x y = z
      intro p2
      cases z with
      | ok k => intro I3 H3 v3 f3 r3; cases r3; exact tru_bl (p2 I3 H3 _ f3 rfl k rfl)
      | err e => exact p2
      | stuck => exact p2
    | err e => exact p1
    | stuck => exact p1
  | err e => exact p
  | stuck => exact p
theorem JE.un {op : UnaryOp} {g : α → Res γ} (ja : JE X I0 H0 W ctx mem a ma ra) (o : UnJ X W (unaryOp op) ra g rc) : JE X I0 H0 W ctx mem (.UnaryOp op a pos) (ma.bind fun x => g x) rc := fun I H σ Q st p => by
  refine w_un (ja I H σ _ st ?_)
  cases ma with
  | ok x => exact fun I1 H1 u f1 r1 => o I1 H1 σ Q u x f1.ih r1 (PostE.up p f1)
  | err e => exact p
  | stuck => exact p
/-- a test of a plain form whose value is a bool -/
theorem JT.of {m : Res Bool} (j : JE X I0 H0 W ctx mem e m (rp rBl)) (he : ∀ whole, isTrue e X.env whole = (do let v ← whole; standAt e.pos; holding [v] (truthy v)) := by intro _; rfl) : JT X I0 H0 W ctx mem e m := fun I H σ Q st p => by
  refine w_t (j I H σ _ st ?_) he
  cases m with
  | ok k => intro I1 H1 v f1 r1; cases r1; exact tru_bl (p I1 H1 _ f1 rfl k rfl)
  | err e => exact p
  | stuck => exact p
theorem JT.not {m : Res Bool} (j : JT X I0 H0 W ctx mem e m) : JT X I0 H0 W ctx mem (.UnaryOp .Not e pos) (m.bind fun b => .ok (!b)) := fun I H σ Q st p => by
  refine w_not (j I H σ _ st ?_)
  cases m with
  | ok k => exact fun I1 H1 v f1 r1 b hb => by cases r1; cases hb; exact p I1 H1 _ f1 rfl _ rfl
  | err e => exact p
  | stuck => exact p
theorem JE.not {m : Res Bool} (j : JE X I0 H0 W ctx mem e m (rp rBl)) : JE X I0 H0 W ctx mem (.UnaryOp .Not e pos) (m.bind fun b => .ok (!b)) (rp rBl) := fun I H σ Q st p => by
  refine w_notV (j I H σ _ st ?_)
  cases m with
  | ok k => exact fun I1 H1 v f1 r1 => ⟨k, r1, p I1 H1 _ f1 rfl⟩
  | err e => exact p
  | stuck => exact p
end
end L2.Tr

namespace L2.Tr
open PySem PySem.Spec PyProof.Rows
section
variable {α β γ δ S : Type}
def JW (X : Cx) (I0 H0 : Hp) (W : WX) (ctx : List (Option SF)) (mem : List MF) (e : Expr) (m : Res Bool) : Prop :=
  ∀ (I H : Hp) (σ : St) (Q : Bool → Hp → Prop), Stt I0 H0 ctx mem I H σ → PostE X.K m (rp rBl) I H (fun cls d H' => W cls d σ H') (fun v H' => ∀ b, v = .bl b → Q b H') → wW X e σ H Q
variable {X : Cx} {I0 H0 : Hp} {W : WX} {ctx : List (Option SF)} {mem : List MF} {e a b c o : Expr} {es bs : List Expr} {pos pos' : Pos} {n : Str} {ra : Ra α} {rb : Ra β} {rc : Ra γ} {ma : Res α} {mb : Res β} {m1 m2 mc : Res Bool}
theorem JT.bool {op} (j : JW X I0 H0 W ctx mem (.BoolOp op es pos) m1) : JT X I0 H0 W ctx mem (.BoolOp op es pos) m1 := fun I H σ Q st p => w_tbool (j I H σ Q st p)
theorem JW.and1 (j : JT X I0 H0 W ctx mem a m1) : JW X I0 H0 W ctx mem (.BoolOp .And [a] pos) m1 := fun I H σ Q st p => w_and1 (j I H σ Q st p)
theorem JW.or1 (j : JT X I0 H0 W ctx mem a m1) : JW X I0 H0 W ctx mem (.BoolOp .Or [a] pos) m1 := fun I H σ Q st p => w_or1 (j I H σ Q st p)
theorem JW.and (j : JT X I0 H0 W ctx mem a m1) (k : JW X I0 H0 W ctx mem (.BoolOp .And (b :: bs) pos) m2) : JW X I0 H0 W ctx mem (.BoolOp .And (a :: b :: bs) pos) (m1.bind fun x => if x = true then m2 else .ok false) := fun I H σ Q st p => by
  refine w_and (j I H σ _ st ?_)
  cases m1 with
  | ok x =>
    intro I1 H1 v f r y hy
    cases r; cases hy
    have p1 := PostE.up p f
    cases x with
    | true => exact iteT (k I1 H1 σ Q (st.step f) p1)
    | false => exact iteF (p1 I1 H1 _ (Fm.refl f.ih) rfl _ rfl)
  | err e => exact p
  | stuck => exact p
theorem JW.or (j : JT X I0 H0 W ctx mem a m1) (k : JW X I0 H0 W ctx mem (.BoolOp .Or (b :: bs) pos) m2) : JW X I0 H0 W ctx mem (.BoolOp .Or (a :: b :: bs) pos) (m1.bind fun x => if x = true then .ok true else m2) := fun I H σ Q st p => by
  refine w_or (j I H σ _ st ?_)
  cases m1 with
  | ok x =>
    intro I1 H1 v f r y hy
    cases r; cases hy
    have p1 := PostE.up p f
    cases x with
    | true => exact iteT (p1 I1 H1 _ (Fm.refl f.ih) rfl _ rfl)
    | false => exact iteF (k I1 H1 σ Q (st.step f) p1)
  | err e => exact p
  | stuck => exact p
theorem JE.one {op} {m : Res Bool} (j : JE X I0 H0 W ctx mem a m (rp rBl)) : JE X I0 H0 W ctx mem (.BoolOp op [a] pos) m (rp rBl) := fun I H σ Q st p => w_oneV (j I H σ Q st p)
theorem JE.and (j : JE X I0 H0 W ctx mem a m1 (rp rBl)) (k : JE X I0 H0 W ctx mem (.BoolOp .And (b :: bs) pos) m2 (rp rBl)) : JE X I0 H0 W ctx mem (.BoolOp .And (a :: b :: bs) pos) (m1.bind fun x => if x = true then m2 else .ok false) (rp rBl) := fun I H σ Q st p => by
  refine w_andV (j I H σ _ st ?_)
  cases m1 with
  | ok x =>
    intro I1 H1 v f r
    have p1 := PostE.up p f
    refine ⟨x, r, ?_⟩
    cases x with
    | true => exact iteT (k I1 H1 σ Q (st.step f) p1)
    | false => exact iteF (p1 I1 H1 _ (Fm.refl f.ih) rfl)
  | err e => exact p
  | stuck => exact p
theorem JE.or (j : JE X I0 H0 W ctx mem a m1 (rp rBl)) (k : JE X I0 H0 W ctx mem (.BoolOp .Or (b :: bs) pos) m2 (rp rBl)) : JE X I0 H0 W ctx mem (.BoolOp .Or (a :: b :: bs) pos) (m1.bind fun x => if x = true then .ok true else m2) (rp rBl) := fun I H σ Q st p => by
  refine w_orV (j I H σ _ st ?_)
  cases m1 with
  | ok x =>
    intro I1 H1 v f r
    have p1 := PostE.up p f
    refine ⟨x, r, ?_⟩
    cases x with
    | true => exact iteT (p1 I1 H1 _ (Fm.refl f.ih) rfl)
    | false => exact iteF (k I1 H1 σ Q (st.step f) p1)
  | err e => exact p
  | stuck => exact p
theorem JE.ifx {m m' : Res α} {r : Ra α} (j : JT X I0 H0 W ctx mem c mc) (k1 : JE X I0 H0 W ctx mem a m r) (k2 : JE X I0 H0 W ctx mem b m' r) : JE X I0 H0 W ctx mem (.IfExp c a b pos) (mc.bind fun x => if x = true then m else m') r := fun I H σ Q st p => by
  refine w_ifx (j I H σ _ st ?_)
  cases mc with
  | ok x =>
    intro I1 H1 v f r y hy
    cases r; cases hy
    have p1 := PostE.up p f
    cases x with
    | true => exact iteT (k1 I1 H1 σ Q (st.step f) p1)
    | false => exact iteF (k2 I1 H1 σ Q (st.step f) p1)
  | err e => exact p
  | stuck => exact p
/-! ### arguments and calls -/
theorem JA.nil : JA X I0 H0 W ctx mem [] (.ok ()) aNil := fun I H σ Q st p => w_nil (p I H [] (Fm.refl st.same) rfl)
theorem JA.cons {R : Hp → Hp → List V → δ → Prop} {m : Res δ} [MoA ra] (j : JE X I0 H0 W ctx mem e ma ra) (k : JA X I0 H0 W ctx mem es m R) (hs : starEach (e :: es) X.env = (false, eval e X.env) :: starEach es X.env := by rfl) :
    JA X I0 H0 W ctx mem (e :: es) (ma.bind fun x => m.bind fun y => .ok (x, y)) (aCons ra R) := fun I H σ Q st p => by
  refine Tr.w_cons (j I H σ _ st ?_) hs
  cases ma with
  | ok x =>
    intro I1 H1 v f1 r1
    refine k I1 H1 σ _ (st.step f1) ?_
    cases m with
    | ok y => exact fun I2 H2 vs f2 r2 => p I2 H2 _ (f1.trans f2) ⟨v, vs, rfl, MoA.up f2.i f2.h r1, r2⟩
    | err e => exact fun I2 H2 c d f2 x => p I2 H2 c d (f1.trans f2) ⟨x.1.back f1.h, x.2⟩
    | stuck => exact p
  | err e => exact p
  | stuck => exact p
variable {R : Hp → Hp → List V → δ → Prop} {md : Res δ} {g : δ → Res γ}
theorem JA.call (k : JA X I0 H0 W ctx mem es md R) {f : Value} (cj : CallJ X W f R g rc) {I H : Hp} {σ : St} {Q : VK} (st : Stt I0 H0 ctx mem I H σ) (p : PostE X.K (md.bind g) rc I H (fun cls d H' => W cls d σ H') Q) : wA X es σ H fun vs H1 => callW X f σ vs H1 Q := by
  refine k I H σ _ st ?_
  cases md with
  | ok x => exact fun I1 H1 vs f1 r1 => cj I1 H1 σ Q vs x f1.ih r1 (PostE.up p f1)
  | err e => exact p
  | stuck => exact p
/-- f(..), C(..) by a global name -/
theorem JE.call {f : Addr} (k : JA X I0 H0 W ctx mem (e :: es) md R) (cj : CallJ X W (.ref f) R g rc) (hm : X.mg n = some (.ref f)) (hk : PySem.W.keepIn X.K (.ref f) = true) (hg : Gl X n := by rfl) (hdb : (n == ("__debug__" : Str)) = false := by decide)
    (he : starEach (e :: es) X.env = (false, eval e X.env) :: starEach es X.env := by rfl) (hpl : (backTo pos (starEach es X.env)).any (·.1) = false := by rfl) : JE X I0 H0 W ctx mem (.Call (.Name n pos') (e :: es) [] pos) (md.bind g) rc := fun I H σ Q st p =>
  w_call (k.call cj st p) hm hk hg hdb he hpl
theorem JE.call0 {f : Addr} {g : Unit → Res γ} (cj : CallJ X W (.ref f) aNil g rc) (hm : X.mg n = some (.ref f)) (hk : PySem.W.keepIn X.K (.ref f) = true) (hg : Gl X n := by rfl) (hdb : (n == ("__debug__" : Str)) = false := by decide) : JE X I0 H0 W ctx mem (.Call (.Name n pos') [] [] pos) (g ()) rc := fun I H σ Q st p =>
  w_call0 (cj I H σ Q [] () st.same rfl p) hm hk hg hdb
/-- a built-in by its name -/
theorem JE.callB {id : String} (k : JA X I0 H0 W ctx mem (e :: es) md R) (cj : CallJ X W (.builtin id) R g rc) (hm : X.mg n = none) (hv : bootBuiltins n = some (.builtin id)) (hg : Gl X n := by rfl) (hn : n ≠ "__name__" := by decide) (hdb : (n == ("__debug__" : Str)) = false := by decide)
    (he : starEach (e :: es) X.env = (false, eval e X.env) :: starEach es X.env := by rfl) (hpl : (backTo pos (starEach es X.env)).any (·.1) = false := by rfl) : JE X I0 H0 W ctx mem (.Call (.Name n pos') (e :: es) [] pos) (md.bind g) rc := fun I H σ Q st p =>
  w_callB (k.call cj st p) hm hv hg hn hdb he hpl
theorem JE.callTy {T : String} (k : JA X I0 H0 W ctx mem (e :: es) md R) (cj : CallJ X W (.type T) R g rc) (hm : X.mg n = none) (hv : bootBuiltins n = some (.type T)) (hg : Gl X n := by rfl) (hn : n ≠ "__name__" := by decide) (hdb : (n == ("__debug__" : Str)) = false := by decide)
    (he : starEach (e :: es) X.env = (false, eval e X.env) :: starEach es X.env := by rfl) (hpl : (backTo pos (starEach es X.env)).any (·.1) = false := by rfl) : JE X I0 H0 W ctx mem (.Call (.Name n pos') (e :: es) [] pos) (md.bind g) rc := fun I H σ Q st p =>
  w_callTy (k.call cj st p) hm hv hg hn hdb he hpl
/-- what an instance must be for its methods -/
def InsOf (C : Addr) (r : Ra α) (m : Str) : Prop := ∀ I H v x, Same I H → r I H v x → ∃ a dx fs, v = .ref a ∧ H a = some (.ins C dx fs) ∧ fs.lookup m = none
theorem JE.meth {pl : Sem Bool} {m : Str} {C f : Addr} {apos : Pos} {g : α × δ → Res γ} [MoA ra] (j : JE X I0 H0 W ctx mem o ma ra) (hi : InsOf C ra m) (k : JA X I0 H0 W ctx mem (e :: es) md R) (cj : CallJ X W (.ref f) (aCons ra R) g rc) (c : Cls X.K C) (hm : Meth X.K C m f)
    (hst : starEach (e :: es) X.env = (false, eval e X.env) :: starEach es X.env := by rfl) (hpl : (backTo pos (starEach es X.env)).any (·.1) = false := by rfl)
    (ht : eval (.Call (.Attribute o m apos) (e :: es) [] pos) X.env = (do
      let ov ← eval o X.env
      standAt apos.atName
      let (f, first) ← holding [ov] (getMethod ov m pl)
      callWith pos f first (backTo pos (starEach (e :: es) X.env)) (backToKw pos (keywordEach [] X.env))) := by rfl) : JE X I0 H0 W ctx mem (.Call (.Attribute o m apos) (e :: es) [] pos) (ma.bind fun x => md.bind fun y => g (x, y)) rc := fun I H σ Q st p => by
  refine w_meth (j I H σ _ st ?_) c hm hst hpl ht
  cases ma with
  | ok x =>
    intro I1 H1 v f1 r1
    obtain ⟨a, dx, fs, ev, ha, hl⟩ := hi I1 H1 v x f1.ih r1
    refine ⟨a, dx, fs, ev, ha, hl, k I1 H1 σ _ (st.step f1) ?_⟩
    have p1 := PostE.up p f1
    cases md with
    | ok y => exact fun I2 H2 vs f2 r2 => cj I2 H2 σ Q (v :: vs) (x, y) f2.ih ⟨v, vs, rfl, MoA.up f2.i f2.h r1, r2⟩ (PostE.up p1 f2)
    | err e => exact p1
    | stuck => exact p1
  | err e => exact p
  | stuck => exact p
theorem JE.meth0 {pl : Sem Bool} {m : Str} {C f : Addr} {apos : Pos} {g : α × Unit → Res γ} (j : JE X I0 H0 W ctx mem o ma ra) (hi : InsOf C ra m) (cj : CallJ X W (.ref f) (aCons ra aNil) g rc) (c : Cls X.K C) (hm : Meth X.K C m f)
    (ht : eval (.Call (.Attribute o m apos) [] [] pos) X.env = (do
      let ov ← eval o X.env
      standAt apos.atName
      let (f, first) ← holding [ov] (getMethod ov m pl)
      callWith pos f first (backTo pos (starEach [] X.env)) (backToKw pos (keywordEach [] X.env))) := by rfl) : JE X I0 H0 W ctx mem (.Call (.Attribute o m apos) [] [] pos) (ma.bind fun x => g (x, ())) rc := fun I H σ Q st p => by
  refine w_meth0 (j I H σ _ st ?_) c hm ht
  cases ma with
  | ok x =>
    intro I1 H1 v f1 r1
    obtain ⟨a, dx, fs, ev, ha, hl⟩ := hi I1 H1 v x f1.ih r1
    exact ⟨a, dx, fs, ev, ha, hl, cj I1 H1 σ Q [v] (x, ()) f1.ih ⟨v, [], rfl, r1, rfl⟩ (PostE.up p f1)⟩
  | err e => exact p
  | stuck => exact p
/-- what a field is worth -/
def FldOf (K : PySem.W.Frag) (C : Addr) (r : Ra α) (f : Str) (get : α → β) (rf : Ra β) : Prop := ∀ I H v x, Same I H → r I H v x → ∃ a dx fs w, v = .ref a ∧ H a = some (.ins C dx fs) ∧ fs.lookup f = some w ∧ rf I H w (get x)
theorem JE.fld {C : Addr} {f : Str} {get : α → β} (j : JE X I0 H0 W ctx mem o ma ra) (hf : FldOf X.K C ra f get rb) (c : Cls X.K C) (hn : NoAttr X.K C f) (hb : attributeBase o f X.env (eval o X.env) = eval o X.env := by rfl) :
    JE X I0 H0 W ctx mem (.Attribute o f pos) (ma.bind fun x => .ok (get x)) rb := fun I H σ Q st p => by
  refine w_fld (j I H σ _ st ?_) hb
  cases ma with
  | ok x =>
    intro I1 H1 v f1 r1
    obtain ⟨a, dx, fs, w, ev, ha, hl, hw⟩ := hf I1 H1 v x f1.ih r1
    exact ⟨a, C, dx, fs, w, ev, ha, c, hn, hl, p I1 H1 w f1 hw⟩
  | err e => exact p
  | stuck => exact p
end

/-! ### statements -/
section
variable {α β γ δ S : Type}
abbrev Knows := Hp → Hp → St → Prop
abbrev KnowsX := Hp → Hp → St → Option Addr → Prop
def PostB (X : Cx) (W : WX) (Kx : KnowsX) (I : Hp) (m : Res S) (G : S → Knows) (D : Ends) : Prop := match m with
  | .ok s => ∀ I' H' σ', Same I I' → G s I' H' σ' → D.nx σ' H'
  | .err e => ∀ I' H' σ' cls d, Kx I' H' σ' d → ExR X.K I' H' e cls d → W cls d σ' H'
  | .stuck => False
def PostR (X : Cx) (I0 H0 : Hp) (W : WX) (Kx : KnowsX) (m : Res γ) (r : Ra γ) (D : Ends) : Prop := match m with
  | .ok y => ∀ I' H' v, Fm I0 H0 I' H' → r I' H' v y → D.rt v H'
  | .err e => ∀ I' H' σ' cls d, Kx I' H' σ' d → ExR X.K I' H' e cls d → W cls d σ' H'
  | .stuck => False
theorem PostB.up {X : Cx} {W : WX} {Kx : KnowsX} {I I1 : Hp} {m : Res S} {G : S → Knows} {D : Ends} (p : PostB X W Kx I m G D) (s : Same I I1) : PostB X W Kx I1 m G D := by
  cases m with
  | ok a => exact fun I' H' σ' q => p I' H' σ' (s.trans q)
  | err e => exact p
  | stuck => exact p
/-- one statement that goes on -/
def J1 (X : Cx) (W : WX) (Kx : KnowsX) (G : Knows) (st : Stmt) (m : Res S) (G' : S → Knows) : Prop := ∀ (I H : Hp) (σ : St) (D : Ends), G I H σ → PostB X W Kx I m G' D → wS X st D σ H
/-- a block that goes on -/
def JN (X : Cx) (W : WX) (Kx : KnowsX) (G : Knows) (ss : List Stmt) (m : Res S) (G' : S → Knows) : Prop := ∀ (I H : Hp) (σ : St) (D : Ends), G I H σ → PostB X W Kx I m G' D → wB X ss D σ H
/-- a block that ends the def -/
def JR (X : Cx) (I0 H0 : Hp) (W : WX) (Kx : KnowsX) (G : Knows) (ss : List Stmt) (m : Res γ) (r : Ra γ) : Prop := ∀ (I H : Hp) (σ : St) (D : Ends), G I H σ → PostR X I0 H0 W Kx m r D → wB X ss D σ H
variable {X : Cx} {I0 H0 : Hp} {W : WX} {Kx : KnowsX} {G : Knows} {ctx : List (Option SF)} {mem : List MF} {e a b c o : Expr} {es bs : List Expr} {st : Stmt} {ss s1 s2 : List Stmt} {pos pos' : Pos} {n : Str} {ra : Ra α} {rr : Ra γ} {ma : Res α} {mc : Res Bool}
theorem JN.nil {s : S} {G' : S → Knows} (h : ∀ I H σ, G I H σ → G' s I H σ) : JN X W Kx G [] (.ok s) G' := fun I H σ D g p => b_nil (p I H σ (Same.refl _) (h _ _ _ g))
theorem JN.seq {T : Type} {m : Res S} {G1 : S → Knows} {f : S → Res T} {G2 : T → Knows} (j : J1 X W Kx G st m G1) (k : ∀ s, JN X W Kx (G1 s) ss (f s) G2) : JN X W Kx G (st :: ss) (m.bind f) G2 := fun I H σ D g p => by
  refine b_cons (j I H σ _ g ?_)
  cases m with
  | ok s => exact fun I' H' σ' si g' => k s I' H' σ' D g' (PostB.up p si)
  | err e => exact p
  | stuck => exact p
theorem JN.last {m : Res S} {G1 : S → Knows} (j : J1 X W Kx G st m G1) : JN X W Kx G [st] m G1 := fun I H σ D g p => by
  refine b_cons (j I H σ _ g ?_)
  cases m with
  | ok s => exact fun I' H' σ' si g' => b_nil (p I' H' σ' si g')
  | err e => exact p
  | stuck => exact p
theorem JR.seq {m : Res S} {G1 : S → Knows} {f : S → Res γ} (j : J1 X W Kx G st m G1) (k : ∀ s, JR X I0 H0 W Kx (G1 s) ss (f s) rr) : JR X I0 H0 W Kx G (st :: ss) (m.bind f) rr := fun I H σ D g p => by
  refine b_cons (j I H σ _ g ?_)
  cases m with
  | ok s => exact fun I' H' σ' _ g' => k s I' H' σ' D g' p
  | err e => exact p
  | stuck => exact p
theorem JR.ret {m : Res γ} (j : JE X I0 H0 W ctx mem e m rr) (hx : ∀ I H σ d, Stt I0 H0 ctx mem I H σ → Fr H0 d → Kx I H σ d) : JR X I0 H0 W Kx (Stt I0 H0 ctx mem) (.Return (some e) pos :: ss) m rr := fun I H σ D g p => by
  refine b_cons (s_ret (j I H σ _ g ?_))
  cases m with
  | ok y => exact fun I' H' v f r => p I' H' v (g.fm.trans f) r
  | err e => exact fun I' H' c d f x => p I' H' σ c d (hx _ _ _ _ (g.step f) (x.1.back g.fm.h)) x.2
  | stuck => exact p
theorem JR.retN : JR X I0 H0 W Kx (Stt I0 H0 ctx mem) (.Return none pos :: ss) (.ok ()) (rp rNon) := fun I H σ D g p => b_cons (s_retN (p I H _ g.fm rfl))
theorem JR.ifR {m1 m2 : Res γ} (j : JT X I0 H0 W ctx mem c mc) (k1 : JR X I0 H0 W Kx (Stt I0 H0 ctx mem) s1 m1 rr) (k2 : JR X I0 H0 W Kx (Stt I0 H0 ctx mem) ss m2 rr) (hx : ∀ I H σ d, Stt I0 H0 ctx mem I H σ → Fr H0 d → Kx I H σ d) :
    JR X I0 H0 W Kx (Stt I0 H0 ctx mem) (.If c s1 [] pos :: ss) (mc.bind fun x => if x = true then m1 else m2) rr := fun I H σ D g p => by
  refine b_cons (s_if (j I H σ _ g ?_))
  cases mc with
  | ok x =>
    intro I1 H1 v f r y hy
    cases r; cases hy
    cases x with
    | true =>
      refine iteT (b_mono (k1 I1 H1 σ { D with nx := fun _ _ => False } (g.step f) ?_) (fun _ _ z => z.elim) (fun _ _ z => z) (fun _ _ z => z) (fun _ _ z => z))
      exact p
    | false => exact iteF (b_nil (k2 I1 H1 σ D (g.step f) p))
  | err e => exact fun I' H' c d f x => p I' H' σ c d (hx _ _ _ _ (g.step f) (x.1.back g.fm.h)) x.2
  | stuck => exact p
theorem JR.if2 {m1 m2 : Res γ} (j : JT X I0 H0 W ctx mem c mc) (k1 : JR X I0 H0 W Kx (Stt I0 H0 ctx mem) s1 m1 rr) (k2 : JR X I0 H0 W Kx (Stt I0 H0 ctx mem) s2 m2 rr) (hx : ∀ I H σ d, Stt I0 H0 ctx mem I H σ → Fr H0 d → Kx I H σ d) :
    JR X I0 H0 W Kx (Stt I0 H0 ctx mem) (.If c s1 s2 pos :: ss) (mc.bind fun x => if x = true then m1 else m2) rr := fun I H σ D g p => by
  refine b_cons (s_if (j I H σ _ g ?_))
  cases mc with
  | ok x =>
    intro I1 H1 v f r y hy
    cases r; cases hy
    cases x with
    | true => exact iteT (b_mono (k1 I1 H1 σ { D with nx := fun _ _ => False } (g.step f) p) (fun _ _ z => z.elim) (fun _ _ z => z) (fun _ _ z => z) (fun _ _ z => z))
    | false => exact iteF (b_mono (k2 I1 H1 σ { D with nx := fun _ _ => False } (g.step f) p) (fun _ _ z => z.elim) (fun _ _ z => z) (fun _ _ z => z) (fun _ _ z => z))
  | err e => exact fun I' H' c d f x => p I' H' σ c d (hx _ _ _ _ (g.step f) (x.1.back g.fm.h)) x.2
  | stuck => exact p
theorem J1.if {m1 m2 : Res S} {G' : S → Knows} (j : JT X I0 H0 W ctx mem c mc) (k1 : JN X W Kx (Stt I0 H0 ctx mem) s1 m1 G') (k2 : JN X W Kx (Stt I0 H0 ctx mem) s2 m2 G') (hx : ∀ I H σ d, Stt I0 H0 ctx mem I H σ → Fr H0 d → Kx I H σ d) :
    J1 X W Kx (Stt I0 H0 ctx mem) (.If c s1 s2 pos) (mc.bind fun x => if x = true then m1 else m2) G' := fun I H σ D g p => by
  refine s_if (j I H σ _ g ?_)
  cases mc with
  | ok x =>
    intro I1 H1 v f r y hy
    cases r; cases hy
    cases x with
    | true => exact iteT (k1 I1 H1 σ D (g.step f) (PostB.up p f.i))
    | false => exact iteF (k2 I1 H1 σ D (g.step f) (PostB.up p f.i))
  | err e => exact fun I' H' c d f x => p I' H' σ c d (hx _ _ _ _ (g.step f) (x.1.back g.fm.h)) x.2
  | stuck => exact p
theorem J1.set (i : Nat) {r : Rp α} [Mo r] {m : Res α} (j : JE X I0 H0 W ctx mem e m (rp r)) (hx : ∀ I H σ d, Stt I0 H0 ctx mem I H σ → Fr H0 d → Kx I H σ d) (hN : X.N.Nodup) (hi : X.N[i]? = some n := by rfl) (hl : Loc X.env.scope n := by first | exact Or.inl rfl | exact Or.inr rfl) (hs : swapsWith e (some (.Name n pos')) pos.line X.env = pure false := by rfl)
    (hf : X.fn n = true ∨ X.env.scope.names.lookup n = some .local := by first | exact .inl rfl | exact .inr rfl | assumption) : J1 X W Kx (Stt I0 H0 ctx mem) (.Assign [.Name n pos'] e pos) m (fun x => Stt I0 H0 (ctx.set i (some ⟨r, x⟩)) mem) := fun I H σ D g p => by
  refine s_set i (j I H σ _ g ?_) hN hi hl hs hf
  cases m with
  | ok x => exact fun I' H' v f h => p I' H' _ f.i ((g.step f).set i h)
  | err e => exact fun I' H' c d f x => p I' H' σ c d (hx _ _ _ _ (g.step f) (x.1.back g.fm.h)) x.2
  | stuck => exact p
theorem J1.expr {m : Res α} (j : JE X I0 H0 W ctx mem e m ra) (hx : ∀ I H σ d, Stt I0 H0 ctx mem I H σ → Fr H0 d → Kx I H σ d) (hs : swapsWith e none pos.line X.env = pure false := by rfl) : J1 X W Kx (Stt I0 H0 ctx mem) (.Expr e pos) m (fun _ => Stt I0 H0 ctx mem) := fun I H σ D g p => by
  refine s_expr (j I H σ _ g ?_) hs
  cases m with
  | ok x => exact fun I' H' v f h => p I' H' σ f.i (g.step f)
  | err e => exact fun I' H' c d f x => p I' H' σ c d (hx _ _ _ _ (g.step f) (x.1.back g.fm.h)) x.2
  | stuck => exact p
/-- a block that ends by itself: the def hands back None -/
theorem JR.end {m : Res S} {G' : S → Knows} {f : S → Res γ} (j : JN X W Kx G ss m G') : True := trivial
end
end L2.Tr

namespace L2.Tr
open PySem PySem.Spec PyProof.Rows
section
variable {α β γ δ S : Type} {X : Cx} {W : WX}
/-! ### ints -/
def mulI (x y : Int) : Res Int := Res.guard (x.natAbs.log2 + y.natAbs.log2 < 1000000) (.ok (x * y))
def modI (x y : Int) : Res Int := Res.guard (y ≠ 0) (.ok (x.fmod y))
def fdivI (x y : Int) : Res Int := Res.guard (y ≠ 0 ∧ y.natAbs.log2 < 9000) (.ok (x.fdiv y))
def powI (x y : Int) : Res Int := Res.guard (0 ≤ y ∧ (y ≤ 1000000 ∧ x.natAbs < 2 ^ 64 ∨ (x.natAbs.log2 + 1) * y.toNat ≤ 2 ^ 27)) (.ok (x ^ y.toNat))
theorem post_guard {p : Prop} [Decidable p] {m : Res α} {K : PySem.W.Frag} {r : Ra α} {I H : Hp} {E : XK} {Q : VK} (h : PostE K (Res.guard p m) r I H E Q) : p ∧ PostE K m r I H E Q := by
  unfold Res.guard at h
  by_cases q : p
  · rw [if_pos q] at h; exact ⟨q, h⟩
  · rw [if_neg q] at h; exact False.elim h
theorem op_fdivV : OpR X (binaryOp .FloorDiv) (rI (fun _ j => j ≠ 0 ∧ j.natAbs.log2 < 9000) fun i j => .int (i.fdiv j)) := opI fun i j _ _ _ _ _ hc q => floordiv_int hc.1 q (.inl (PyProof.noPylong_of_log2 hc.2))
theorem opj_add : OpJ X W (binaryOp .Add) (rp rInt) (rp rInt) (fun x y => .ok (x + y)) (rp rInt) := fun I H σ Q u v x y s a b p => OpR.w op_add ⟨x, y, a, b, p I H _ (Fm.refl s) rfl⟩
theorem opj_sub : OpJ X W (binaryOp .Sub) (rp rInt) (rp rInt) (fun x y => .ok (x - y)) (rp rInt) := fun I H σ Q u v x y s a b p => OpR.w op_sub ⟨x, y, a, b, p I H _ (Fm.refl s) rfl⟩
theorem opj_mul : OpJ X W (binaryOp .Mult) (rp rInt) (rp rInt) (fun x y => mulI x y) (rp rInt) := fun I H σ Q u v x y s a b p => OpR.w op_mulW ⟨x, y, a, b, (post_guard p).1, (post_guard p).2 I H _ (Fm.refl s) rfl⟩
theorem opj_mod : OpJ X W (binaryOp .Mod) (rp rInt) (rp rInt) (fun x y => modI x y) (rp rInt) := fun I H σ Q u v x y s a b p => OpR.w op_modN ⟨x, y, a, b, (post_guard p).1, (post_guard p).2 I H _ (Fm.refl s) rfl⟩
theorem opj_fdiv : OpJ X W (binaryOp .FloorDiv) (rp rInt) (rp rInt) (fun x y => fdivI x y) (rp rInt) := fun I H σ Q u v x y s a b p => OpR.w op_fdivV ⟨x, y, a, b, (post_guard p).1, (post_guard p).2 I H _ (Fm.refl s) rfl⟩
theorem op_powV : OpR X (binaryOp .Pow) (rI (fun x y => 0 ≤ y ∧ (y ≤ 1000000 ∧ x.natAbs < 2 ^ 64 ∨ (x.natAbs.log2 + 1) * y.toNat ≤ 2 ^ 27)) fun i j => .int (i ^ j.toNat)) := opI fun x y _ _ _ _ _ hc q => by
  rcases hc.2 with h | h
  · exact pow_int_small hc.1 h.1 h.2 q
  · refine pow_int hc.1 ?_ q
    have b : Builtin.Int.intBits x ≤ x.natAbs.log2 + 1 := by
      unfold Builtin.Int.intBits
      split <;> omega
    have e : y = (y.toNat : Int) := (Int.toNat_of_nonneg hc.1).symm
    rw [e]
    have := Nat.mul_le_mul_right y.toNat b
    have h2 : Builtin.Int.intBits x * y.toNat ≤ 2 ^ 27 := Nat.le_trans this h
    exact_mod_cast h2
theorem opj_pow : OpJ X W (binaryOp .Pow) (rp rInt) (rp rInt) (fun x y => powI x y) (rp rInt) := fun I H σ Q u v x y s a b p => OpR.w op_powV ⟨x, y, a, b, (post_guard p).1, (post_guard p).2 I H _ (Fm.refl s) rfl⟩
theorem opj_lt : OpJ X W (compareOp .Lt) (rp rInt) (rp rInt) (fun x y => .ok (decide (x < y))) (rp rBl) := fun I H σ Q u v x y s a b p => OpR.w op_lt ⟨x, y, a, b, p I H _ (Fm.refl s) rfl⟩
theorem opj_le : OpJ X W (compareOp .LtE) (rp rInt) (rp rInt) (fun x y => .ok (decide (x ≤ y))) (rp rBl) := fun I H σ Q u v x y s a b p => OpR.w op_le ⟨x, y, a, b, p I H _ (Fm.refl s) rfl⟩
theorem opj_gt : OpJ X W (compareOp .Gt) (rp rInt) (rp rInt) (fun x y => .ok (decide (y < x))) (rp rBl) := fun I H σ Q u v x y s a b p => OpR.w op_gt ⟨x, y, a, b, p I H _ (Fm.refl s) rfl⟩
theorem opj_ge : OpJ X W (compareOp .GtE) (rp rInt) (rp rInt) (fun x y => .ok (decide (y ≤ x))) (rp rBl) := fun I H σ Q u v x y s a b p => OpR.w op_ge ⟨x, y, a, b, p I H _ (Fm.refl s) rfl⟩
theorem decV {a b : Int} : decide (V.int a = V.int b) = decide (a = b) := by by_cases h : a = b <;> simp [h]
theorem decB {a b : Bool} : decide (V.bl a = V.bl b) = decide (a = b) := by by_cases h : a = b <;> simp [h]
theorem decS {a b : Str} : decide (V.str a = V.str b) = decide (a = b) := by by_cases h : a = b <;> simp [h]
theorem opj_eq : OpJ X W (compareOp .Eq) (rp rInt) (rp rInt) (fun x y => .ok (decide (x = y))) (rp rBl) := fun I H σ Q u v x y s a b p => by
  cases a; cases b
  exact OpR.w op_eq ⟨rfl, p I H _ (Fm.refl s) (by rw [decV]; rfl)⟩
theorem opj_ne : OpJ X W (compareOp .NotEq) (rp rInt) (rp rInt) (fun x y => .ok (!decide (x = y))) (rp rBl) := fun I H σ Q u v x y s a b p => by
  cases a; cases b
  exact OpR.w op_ne ⟨rfl, p I H _ (Fm.refl s) (by rw [decV]; rfl)⟩
theorem opj_eqB : OpJ X W (compareOp .Eq) (rp rBl) (rp rBl) (fun x y => .ok (decide (x = y))) (rp rBl) := fun I H σ Q u v x y s a b p => by
  cases a; cases b
  exact OpR.w op_eq ⟨rfl, p I H _ (Fm.refl s) (by rw [decB]; rfl)⟩
theorem opj_neB : OpJ X W (compareOp .NotEq) (rp rBl) (rp rBl) (fun x y => .ok (!decide (x = y))) (rp rBl) := fun I H σ Q u v x y s a b p => by
  cases a; cases b
  exact OpR.w op_ne ⟨rfl, p I H _ (Fm.refl s) (by rw [decB]; rfl)⟩
theorem opj_eqS : OpJ X W (compareOp .Eq) (rp rStr) (rp rStr) (fun x y => .ok (decide (x = y))) (rp rBl) := fun I H σ Q u v x y s a b p => by
  cases a; cases b
  exact OpR.w op_eq ⟨rfl, p I H _ (Fm.refl s) (by rw [decS]; rfl)⟩
theorem opj_neS : OpJ X W (compareOp .NotEq) (rp rStr) (rp rStr) (fun x y => .ok (!decide (x = y))) (rp rBl) := fun I H σ Q u v x y s a b p => by
  cases a; cases b
  exact OpR.w op_ne ⟨rfl, p I H _ (Fm.refl s) (by rw [decS]; rfl)⟩
theorem unj_neg : UnJ X W (unaryOp .USub) (rp rInt) (fun x => .ok (-x)) (rp rInt) := fun I H σ Q u x s a p => UnR.w un_neg ⟨x, a, p I H _ (Fm.refl s) rfl⟩
abbrev R1 (r : Ra α) := aCons r aNil
abbrev R2' (r : Ra α) (r' : Ra β) := aCons r (aCons r' aNil)
theorem cj_abs : CallJ X W (.builtin "abs") (R1 (rp rInt)) (fun d => .ok (if d.1 < 0 then -d.1 else d.1)) (rp rInt) := fun I H σ Q vs x s a p => by
  obtain ⟨v, ws, rfl, h, rfl⟩ := a
  exact CallR.w call_abs ⟨x.1, by rw [show v = _ from h], p I H _ (Fm.refl s) rfl⟩
theorem cj_int : CallJ X W (.type "int") (R1 (rp rInt)) (fun d => .ok d.1) (rp rInt) := fun I H σ Q vs x s a p => by
  obtain ⟨v, ws, rfl, h, rfl⟩ := a
  exact CallR.w call_int1 (.inl ⟨x.1, by rw [show v = _ from h], p I H _ (Fm.refl s) rfl⟩)
theorem cj_intB : CallJ X W (.type "int") (R1 (rp rBl)) (fun d => .ok (if d.1 = true then 1 else 0)) (rp rInt) := fun I H σ Q vs x s a p => by
  obtain ⟨v, ws, rfl, h, rfl⟩ := a
  exact CallR.w call_int1 (.inr ⟨x.1, by rw [show v = _ from h], p I H _ (Fm.refl s) rfl⟩)
theorem cj_bool : CallJ X W (.type "bool") (R1 (rp rBl)) (fun d => .ok d.1) (rp rBl) := fun I H σ Q vs x s a p => by
  obtain ⟨v, ws, rfl, h, rfl⟩ := a
  exact CallR.w call_bool1 (.inr ⟨x.1, by rw [show v = _ from h], p I H _ (Fm.refl s) rfl⟩)
theorem cj_max (hc : X.calm = true) : CallJ X W (.builtin "max") (R2' (rp rInt) (rp rInt)) (fun d => .ok (if d.2.1 > d.1 then d.2.1 else d.1)) (rp rInt) := fun I H σ Q vs x s a p => by
  obtain ⟨v, ws, rfl, h, v', ws', rfl, h', rfl⟩ := a
  exact CallR.w (call_max2 hc) ⟨x.1, x.2.1, by rw [show v = _ from h, show v' = _ from h'], p I H _ (Fm.refl s) rfl⟩
theorem cj_min (hc : X.calm = true) : CallJ X W (.builtin "min") (R2' (rp rInt) (rp rInt)) (fun d => .ok (if d.2.1 < d.1 then d.2.1 else d.1)) (rp rInt) := fun I H σ Q vs x s a p => by
  obtain ⟨v, ws, rfl, h, v', ws', rfl, h', rfl⟩ := a
  exact CallR.w (call_min2 hc) ⟨x.1, x.2.1, by rw [show v = _ from h, show v' = _ from h'], p I H _ (Fm.refl s) rfl⟩
theorem cj_len {r : Ra α} : CallJ X W (.builtin "len") (R1 (rdL X.K r)) (fun d => .ok (d.1.length : Int)) (rp rInt) := fun I H σ Q vs x s a p => by
  obtain ⟨v, ws, rfl, ⟨l, vs, rfl, hl, pr⟩, rfl⟩ := a
  exact CallR.w call_len ⟨_, vs.length, rfl, .inl ⟨vs, hl, rfl⟩, by rw [Paired.length pr]; exact p I H _ (Fm.refl s) rfl⟩

/-! ### lists -/
/-- a frozen list, a parameter's list: readable -/
theorem rL_rd {r : Rp α} {K : PySem.W.Frag} {I H : Hp} {v : V} {xs : List α} (s : Same I H) (h : rL r I v xs) : rdL K (rp r) I H v xs := by
  obtain ⟨l, vs, rfl, e, p⟩ := h
  exact ⟨l, vs, rfl, SqL.of (s _ _ e), p⟩
/-- the index i of a list, any sign -/
def atM (xs : List α) (i : Int) : Res α := match atI xs i with
  | some x => .ok x
  | none => .stuck
theorem paired_get {F : α → β → Prop} : ∀ {xs : List α} {ys : List β} {i : Nat} {y : β}, Paired F xs ys → ys[i]? = some y → ∃ x, xs[i]? = some x ∧ F x y
  | _, _, _, _, .nil, e => by simp at e
  | _, _, 0, _, .cons r _, e => by simp at e; subst e; exact ⟨_, rfl, r⟩
  | _, _, i + 1, y, .cons _ t, e => by
    obtain ⟨u, h1, h2⟩ := paired_get (i := i) (y := y) t (by simpa using e)
    exact ⟨u, by simpa using h1, h2⟩
end
end L2.Tr

namespace L2.Tr
open PySem PySem.Spec PyProof.Rows
section
variable {α β γ δ S : Type} {X : Cx} {I0 H0 : Hp} {W : WX} {ctx : List (Option SF)} {mem : List MF} {e a b c o : Expr} {es bs : List Expr} {pos pos' : Pos} {n : Str} {ra : Ra α} {rb : Ra β} {rc : Ra γ} {ma : Res α} {mb : Res β}
/-! ### subscripts, displays -/
theorem atI_pair {F : α → β → Prop} {xs : List α} {ys : List β} {i : Int} {y : β} (p : Paired F xs ys) (h : atI ys i = some y) : ∃ x, atI xs i = some x ∧ F x y := by
  unfold atI at h ⊢
  rw [Paired.length p]
  cases e : ixN ys.length i with
  | none => rw [e] at h; cases h
  | some j => rw [e] at h; exact paired_get p h
theorem JE.ix {r : Ra α} {m : Res (List α)} {mi : Res Int} [MoA r] (ja : JE X I0 H0 W ctx mem a m (rdL X.K r)) (jb : JE X I0 H0 W ctx mem b mi (rp rInt)) (hs : PlainIx b := by exact fun _ _ => rfl) :
    JE X I0 H0 W ctx mem (.Subscript a b pos) (m.bind fun xs => mi.bind fun i => atM xs i) r := fun I H σ Q st p => by
  refine PE.w (pe_ix ix_list pe_W pe_W hs) (ja I H σ _ st ?_)
  cases m with
  | ok xs =>
    intro I1 H1 u f1 r1
    refine jb I1 H1 σ _ (st.step f1) ?_
    have p1 := PostE.up p f1
    cases mi with
    | ok i =>
      intro I2 H2 v f2 r2
      obtain ⟨l, vs, rfl, hl, pr⟩ := MoA.up (r := rdL X.K r) f2.i f2.h r1
      have p2 : PostE X.K (atM xs i) r I2 H2 _ Q := PostE.up p1 f2
      unfold atM at p2
      cases e : atI xs i with
      | none => rw [e] at p2; exact p2.elim
      | some x =>
        rw [e] at p2
        obtain ⟨w, ew, hw⟩ := atI_pair pr e
        exact ⟨l, vs, i, w, rfl, r2, hl, ew, p2 I2 H2 w (Fm.refl f2.ih) hw⟩
    | err e => exact p1
    | stuck => exact p1
  | err e => exact p
  | stuck => exact p
def lR (n : Nat) (r : Ra α) : Hp → Hp → List V → List α → Prop := fun I H vs xs => vs.length = n ∧ Paired (r I H) vs xs
theorem JA.nilL {r : Ra α} : JA X I0 H0 W ctx mem [] (.ok []) (lR 0 r) := fun I H σ Q st p => w_nil (p I H [] (Fm.refl st.same) ⟨rfl, .nil⟩)
theorem JA.consL {k : Nat} {r : Ra α} {m : Res (List α)} [MoA r] (j : JE X I0 H0 W ctx mem e ma r) (jk : JA X I0 H0 W ctx mem es m (lR k r)) (hs : starEach (e :: es) X.env = (false, eval e X.env) :: starEach es X.env := by rfl) :
    JA X I0 H0 W ctx mem (e :: es) (ma.bind fun x => m.bind fun y => .ok (x :: y)) (lR (k + 1) r) := fun I H σ Q st p => by
  refine Tr.w_cons (j I H σ _ st ?_) hs
  cases ma with
  | ok x =>
    intro I1 H1 v f1 r1
    refine jk I1 H1 σ _ (st.step f1) ?_
    cases m with
    | ok y => exact fun I2 H2 vs f2 r2 => p I2 H2 _ (f1.trans f2) ⟨by rw [List.length_cons, r2.1], .cons (MoA.up f2.i f2.h r1) r2.2⟩
    | err e => exact fun I2 H2 c d f2 x => p I2 H2 c d (f1.trans f2) ⟨x.1.back f1.h, x.2⟩
    | stuck => exact p
  | err e => exact p
  | stuck => exact p
/-- [..], frozen at once -/
theorem JE.lst {k : Nat} {r : Rp α} {m : Res (List α)} [mo : Mo r] (j : JA X I0 H0 W ctx mem es m (lR k (rp r))) (hk : k ≤ sizeLine := by decide) : JE X I0 H0 W ctx mem (.List es pos) m (rp (rL r)) := fun I H σ Q st p => by
  refine w_lst (j I H σ _ st ?_)
  cases m with
  | ok xs => exact fun I1 H1 vs f1 r1 => ⟨by rw [r1.1]; exact hk, fun q hq => p _ _ _ (f1.trans (Fm.new f1.ih hq)) ⟨q, vs, rfl, upd_same, Paired.mapP r1.2 fun _ _ z => mo.up (Fm.new (o := .lst vs) f1.ih hq).i z⟩⟩
  | err e => exact p
  | stuck => exact p
theorem JE.tup {k : Nat} {r : Rp α} {m : Res (List α)} {x1} [mo : Mo r] (j : JA X I0 H0 W ctx mem es m (lR k (rp r))) (hk : k ≤ sizeLine := by decide) : JE X I0 H0 W ctx mem (.Tuple es x1 pos) m (rp (rT r)) := fun I H σ Q st p => by
  refine w_tup (j I H σ _ st ?_)
  cases m with
  | ok xs => exact fun I1 H1 vs f1 r1 => ⟨by rw [r1.1]; exact hk, fun q hq => p _ _ _ (f1.trans (Fm.new f1.ih hq)) ⟨q, vs, rfl, upd_same, Paired.mapP r1.2 fun _ _ z => mo.up (Fm.new (o := .tup vs) f1.ih hq).i z⟩⟩
  | err e => exact p
  | stuck => exact p
/-- a frozen list as a readable one -/
theorem JE.rd {r : Rp α} {m : Res (List α)} (j : JE X I0 H0 W ctx mem e m (rp (rL r))) : JE X I0 H0 W ctx mem e m (rdL X.K (rp r)) := j.co fun _ _ _ _ s h => rL_rd s h
/-! ### lists of ints compared -/
theorem eqvAll_ints : ∀ xs ys : List Int, PyData.eqvAll (xs.map .int) (ys.map .int) = decide (xs = ys)
  | [], [] => rfl
  | [], _ :: _ => rfl
  | _ :: _, [] => rfl
  | x :: xs, y :: ys => by
    show (PyData.eqv (.int x) (.int y) && PyData.eqvAll (xs.map .int) (ys.map .int)) = _
    rw [eqvAll_ints xs ys]
    show ((x == y) && _) = _
    by_cases h : x = y <;> by_cases h' : xs = ys <;> simp [h, h']
theorem dpAll_ints {K : PySem.W.Frag} {I H : Hp} : ∀ {vs : List V} {xs : List Int}, Paired (rp rInt I H) vs xs → DpAll K H vs (xs.map .int)
  | _, _, .nil => .nil
  | _, _, .cons h t => .cons (by rw [show _ = V.int _ from h]; exact .int _) (dpAll_ints t)
theorem shaped_ints (xs : List Int) : SeqAt.shaped (.list (xs.map .int)) = true := by
  have h1 : ∀ xs : List Int, PyData.canLayAll0 (xs.map .int) = true := fun xs => by
    induction xs with
    | nil => rfl
    | cons x xs ih => show (true && _) = true; rw [ih]; rfl
  have h2 : PyData.depth (.list (xs.map .int)) ≤ 64 := by
    have : ∀ xs : List Int, PyData.depthAll (xs.map .int) ≤ 1 := fun xs => by
      induction xs with
      | nil => exact Nat.zero_le _
      | cons x xs ih =>
        show max _ _ ≤ 1
        exact Nat.max_le.mpr ⟨by first | exact Nat.le_refl _ | exact Nat.zero_le _ | (simp [PyData.depth]), ih⟩
    have := this xs
    first | (show _ + 1 ≤ 64; omega) | (simp [PyData.depth]; omega)
  unfold SeqAt.shaped
  rw [decide_eq_true h2]
  show (PyData.canLayAll0 _ && true) = true
  rw [h1]; rfl
end
end L2.Tr

namespace L2.Tr
open PySem PySem.Spec PyProof.Rows
section
variable {α β γ δ S : Type} {X : Cx} {I0 H0 : Hp} {W : WX} {ctx : List (Option SF)} {mem : List MF} {e a b c o : Expr} {es bs : List Expr} {pos pos' : Pos} {n : Str} {ra : Ra α} {rb : Ra β} {rc : Ra γ} {ma : Res α} {mb : Res β}
theorem opj_eqL (hu : X.A.units + 64 < cLine) : OpJ X W (compareOp .Eq) (rdL X.K (rp rInt)) (rdL X.K (rp rInt)) (fun x y => .ok (decide (x = y))) (rp rBl) := fun I H σ Q u v x y s ⟨l, vs, e1, h1, p1⟩ ⟨l', vs', e2, h2, p2⟩ p => by
  subst e1; subst e2
  exact OpR.w (op_eqD hu) ⟨.list (x.map .int), .list (y.map .int), .lst h1 (dpAll_ints p1), .lst h2 (dpAll_ints p2), shaped_ints _, shaped_ints _, p I H _ (Fm.refl s) (by show V.bl (PyData.eqvAll _ _) = _; rw [eqvAll_ints])⟩
theorem opj_neL (hu : X.A.units + 64 < cLine) : OpJ X W (compareOp .NotEq) (rdL X.K (rp rInt)) (rdL X.K (rp rInt)) (fun x y => .ok (!decide (x = y))) (rp rBl) := fun I H σ Q u v x y s ⟨l, vs, e1, h1, p1⟩ ⟨l', vs', e2, h2, p2⟩ p => by
  subst e1; subst e2
  exact OpR.w (op_neD hu) ⟨.list (x.map .int), .list (y.map .int), .lst h1 (dpAll_ints p1), .lst h2 (dpAll_ints p2), shaped_ints _, shaped_ints _, p I H _ (Fm.refl s) (by show V.bl (!PyData.eqvAll _ _) = _; rw [eqvAll_ints])⟩

/-! ### own operators -/
/-- facts of an own class for its operators and isinstance -/
structure OCls (K : PySem.W.Frag) (C : Addr) : Prop where
  cl : Cls K C
  sf : PySem.W.selfFirst K C = true
  ca : PySem.W.findIn K (.ref C) "__class__" = some (some (.builtin "object.__class__"))
  cn : PySem.W.specialIn K (.builtin "object.__class__") "__get__" = some (some (.builtin "getset_descriptor.__get__"))
  ct : PySem.W.takesIn K (.builtin "object.__class__") = some true
  cm : PySem.W.mroIn K C (.type "object") = some true
  ni : PySem.W.subIn K (.ref C) (.type "int") = some false
  in_ : PySem.W.subIn K (.type "int") (.ref C) = some false
  ne : PySem.W.findIn K (.ref C) "__ne__" = some (some (.builtin "object.__ne__"))
structure OMet (K : PySem.W.Frag) (C : Addr) (m : Str) (f : Addr) : Prop where
  at_ : PySem.W.findIn K (.ref C) m = some (some (.ref f))
  fn : PySem.W.isFn K (.ref f) = true
def InsR (C : Addr) (r : Ra α) : Prop := ∀ I H v x, Same I H → r I H v x → ∃ a dx fs, v = .ref a ∧ H a = some (.ins C dx fs)
theorem insAt {pins : List (Addr × Obj)} {σ : St} {H : Hp} {s : Shared} {x C dx : Addr} {fs : List (Str × V)} (I : Inv X pins σ H s) (h : H x = some (.ins C dx fs)) : ∃ od, PySem.W.InstAt s.heap x (PySem.W.instObj C dx) C (some od) := by
  obtain ⟨mA, O, _⟩ := ins_get I.hok h
  obtain ⟨od, J, _⟩ := O.look
  exact ⟨od, J⟩
theorem cmpback' {v : V} {u : Value} {s : Shared} {Q : Value → Shared → Prop} (r : RelV v u) (h : Q u s) : PySem.W.CmpBack Q u s := by
  cases v with
  | non => cases (show u = Value.none from r); exact h
  | bl b => cases (show u = Value.bool b from r); exact h
  | int i => obtain ⟨t, e⟩ := (show ∃ t, u = Value.int i t from r); cases e; exact h
  | str x => obtain ⟨t, e⟩ := (show ∃ t, u = Value.str x t from r); cases e; exact h
  | byt b => obtain ⟨t, e⟩ := (show ∃ t, u = Value.bytes b t from r); cases e; exact h
  | flt b => obtain ⟨t, e⟩ := (show ∃ t, u = Value.float b t from r); cases e; exact h
  | ref a => cases (show u = Value.ref a from r); exact h
  | ty n => cases (show u = Value.type n from r); exact h
theorem back_W {f : Addr} {σ : St} {vs : List V} {H : Hp} {Q : VK} (h : callW X (.ref f) σ vs H Q) {pins : List (Addr × Obj)} {s : Shared} {us : List Value} (I : Inv X pins σ H s) (r : Vals vs us) :
    wpAny (model X.prog X.w) X.A (call (.ref f) us) (PySem.W.CmpBack (EP X pins σ Q)) X.xe s := thn (h pins s us I r) fun u s' ⟨v, H', I', rv, q⟩ => cmpback' rv ⟨v, H', I', rv, q⟩
/-- x op y, both of the class -/
theorem opj_own {op : Operator} {C f : Addr} {g : α × β × Unit → Res γ} (hc : OCls X.K C) (hm : OMet X.K C (PySem.dunder op.info.2) f) (ia : InsR C ra) (ib : InsR C rb) (cj : CallJ X W (.ref f) (R2' ra rb) g rc) :
    OpJ X W (binaryOp op) ra rb (fun x y => g (x, y, ())) rc := fun I H σ Q u v x y s a b p pins sh uu vv Iv ru rv => by
  obtain ⟨au, dx, fs, rfl, hu⟩ := ia I H u x s a
  obtain ⟨av, dy, gs, rfl, hv⟩ := ib I H v y s b
  cases (show uu = Value.ref au from ru)
  cases (show vv = Value.ref av from rv)
  obtain ⟨od, J⟩ := insAt Iv hu
  obtain ⟨od', J'⟩ := insAt Iv hv
  obtain ⟨m, hF⟩ := Iv.fr
  exact PySem.W.binop_K hF Iv.ok.mod.kin J J'.type hc.sf hm.at_ hm.fn (back_W (cj I H σ Q [.ref au, .ref av] (x, y, ()) s ⟨_, _, rfl, a, _, _, rfl, b, rfl⟩ p) Iv (.cons rfl (.cons rfl .nil)))
/-- x op n, n an int -/
theorem opj_ownI {op : Operator} {C f f' : Addr} {g : α × Int × Unit → Res γ} {fo ro : Option Value} (hc : OCls X.K C) (hm : OMet X.K C (PySem.dunder op.info.2) f) (hr : OMet X.K C (dunderR op.info.2) f') (h1 : PySem.W.findIn X.K (.type "int") (PySem.dunder op.info.2) = some fo) (h2 : PySem.W.findIn X.K (.type "int") (dunderR op.info.2) = some ro)
    (ia : InsR C ra) (cj : CallJ X W (.ref f) (R2' ra (rp rInt)) g rc) : OpJ X W (binaryOp op) ra (rp rInt) (fun x y => g (x, y, ())) rc := fun I H σ Q u v x y s a b p pins sh uu vv Iv ru rv => by
  obtain ⟨au, dx, fs, rfl, hu⟩ := ia I H u x s a
  cases (show uu = Value.ref au from ru)
  cases (show v = V.int y from b)
  obtain ⟨t, e⟩ := (show ∃ t, vv = Value.int y t from rv)
  cases e
  obtain ⟨od, J⟩ := insAt Iv hu
  obtain ⟨m, hF⟩ := Iv.fr
  exact PySem.W.ksp_binT (T := "int") hF Iv.ok.mod.kin J rfl hc.sf hm.at_ hm.fn hr.at_ (.inr ⟨_, rfl⟩) h1 h2 hc.in_ (back_W (cj I H σ Q [.ref au, .int y] (x, y, ()) s ⟨_, _, rfl, a, _, _, rfl, rfl, rfl⟩ p) Iv (.cons rfl (.cons ⟨_, rfl⟩ .nil)))
/-- n op x, n an int: the reflected method -/
theorem opj_ownR {op : Operator} {C f f' : Addr} {g : α × Int × Unit → Res γ} {sl id : String} {gi : Int → Int → Sem Fin} (hc : OCls X.K C) (hm : OMet X.K C (PySem.dunder op.info.2) f) (hr : OMet X.K C (dunderR op.info.2) f')
    (fills : fillsNumberSlot (.type "int") op.info.2 = pure true) (slot : Slot "int" (PySem.dunder op.info.2) id) (entry : entryFor table id = some (Builtin.Int.intBinary sl gi)) (args : ∀ a b, argsOk id ⟨[a, b], []⟩)
    (ia : InsR C ra) (cj : CallJ X W (.ref f') (R2' ra (rp rInt)) g rc) : OpJ X W (binaryOp op) (rp rInt) ra (fun x y => g (y, x, ())) rc := fun I H σ Q u v x y s a b p pins sh uu vv Iv ru rv => by
  obtain ⟨av, dx, fs, rfl, hv⟩ := ia I H v y s b
  cases (show vv = Value.ref av from rv)
  cases (show u = V.int x from a)
  obtain ⟨t, e⟩ := (show ∃ t, uu = Value.int x t from ru)
  cases e
  obtain ⟨od, J⟩ := insAt Iv hv
  exact PySem.W.tr_binR (fo := .none) Iv.kIn J hc.sf hm.at_ hr.at_ hr.fn fills hc.ni slot entry args (back_W (cj I H σ Q [.ref av, .int x] (y, x, ()) s ⟨_, _, rfl, b, _, _, rfl, rfl, rfl⟩ p) Iv (.cons rfl (.cons ⟨_, rfl⟩ .nil)))
theorem opj_addR {C f f' : Addr} {g : α × Int × Unit → Res γ} (hc : OCls X.K C) (hm : OMet X.K C "__add__" f) (hr : OMet X.K C "__radd__" f') (ia : InsR C ra) (cj : CallJ X W (.ref f') (R2' ra (rp rInt)) g rc) : OpJ X W (binaryOp .Add) (rp rInt) ra (fun x y => g (y, x, ())) rc :=
  opj_ownR (op := .Add) (sl := "__add__") hc hm hr F.fills_int_add F.slot_int_add F.entry_int_add F.args_int_add_2 ia cj
theorem opj_subR {C f f' : Addr} {g : α × Int × Unit → Res γ} (hc : OCls X.K C) (hm : OMet X.K C "__sub__" f) (hr : OMet X.K C "__rsub__" f') (ia : InsR C ra) (cj : CallJ X W (.ref f') (R2' ra (rp rInt)) g rc) : OpJ X W (binaryOp .Sub) (rp rInt) ra (fun x y => g (y, x, ())) rc :=
  opj_ownR (op := .Sub) (sl := "__sub__") hc hm hr F.fills_int_sub F.slot_int_sub F.entry_int_sub F.args_int_sub_2 ia cj
theorem opj_mulR {C f f' : Addr} {g : α × Int × Unit → Res γ} (hc : OCls X.K C) (hm : OMet X.K C "__mul__" f) (hr : OMet X.K C "__rmul__" f') (ia : InsR C ra) (cj : CallJ X W (.ref f') (R2' ra (rp rInt)) g rc) : OpJ X W (binaryOp .Mult) (rp rInt) ra (fun x y => g (y, x, ())) rc :=
  opj_ownR (op := .Mult) (sl := "__mul__") hc hm hr F.fills_int_mul F.slot_int_mul F.entry_int_mul F.args_int_mul_2 ia cj
/-! comparisons -/
theorem opj_cmp {op : CmpOp} {C f : Addr} {g : α × β × Unit → Res γ} (hop : ∀ a b, compareOp op a b = richCompare op a b) (hc : OCls X.K C) (hm : OMet X.K C (cmpInfo op).2.1 f) (hu : X.A.units < cLine) (hn : PySem.W.notFirst X.K C (.ref C) = true) (ia : InsR C ra) (ib : InsR C rb) (cj : CallJ X W (.ref f) (R2' ra rb) g rc) :
    OpJ X W (compareOp op) ra rb (fun x y => g (x, y, ())) rc := fun I H σ Q u v x y s a b p pins sh uu vv Iv ru rv => by
  obtain ⟨au, dx, fs, rfl, hu'⟩ := ia I H u x s a
  obtain ⟨av, dy, gs, rfl, hv⟩ := ib I H v y s b
  cases (show uu = Value.ref au from ru)
  cases (show vv = Value.ref av from rv)
  obtain ⟨od, J⟩ := insAt Iv hu'
  obtain ⟨od', J'⟩ := insAt Iv hv
  obtain ⟨m, hF⟩ := Iv.fr
  rw [hop]
  exact PySem.W.cmp_K hu hF Iv.ok.mod.kin J J'.type hn hm.at_ hm.fn (back_W (cj I H σ Q [.ref au, .ref av] (x, y, ()) s ⟨_, _, rfl, a, _, _, rfl, b, rfl⟩ p) Iv (.cons rfl (.cons rfl .nil)))
theorem opj_cmpI {op : CmpOp} {C f : Addr} {g : α × Int × Unit → Res γ} (hop : ∀ a b, compareOp op a b = richCompare op a b) (hc : OCls X.K C) (hm : OMet X.K C (cmpInfo op).2.1 f) (hu : X.A.units < cLine) (hn : PySem.W.notFirst X.K C (.type "int") = true) (ia : InsR C ra) (cj : CallJ X W (.ref f) (R2' ra (rp rInt)) g rc) :
    OpJ X W (compareOp op) ra (rp rInt) (fun x y => g (x, y, ())) rc := fun I H σ Q u v x y s a b p pins sh uu vv Iv ru rv => by
  obtain ⟨au, dx, fs, rfl, hu'⟩ := ia I H u x s a
  cases (show uu = Value.ref au from ru)
  cases (show v = V.int y from b)
  obtain ⟨t, e⟩ := (show ∃ t, vv = Value.int y t from rv)
  cases e
  obtain ⟨od, J⟩ := insAt Iv hu'
  obtain ⟨m, hF⟩ := Iv.fr
  rw [hop]
  exact PySem.W.cmp_K (tb := .type "int") hu hF Iv.ok.mod.kin J (PySem.W.Looks.of_pure rfl) hn hm.at_ hm.fn (back_W (cj I H σ Q [.ref au, .int y] (x, y, ()) s ⟨_, _, rfl, a, _, _, rfl, rfl, rfl⟩ p) Iv (.cons rfl (.cons ⟨_, rfl⟩ .nil)))
theorem opj_cmpR {op : CmpOp} {C f : Addr} {g : α × Int × Unit → Res γ} {sl id : String} {gi : Int → Int → Sem Fin} (hop : ∀ a b, compareOp op a b = richCompare op a b) (hc : OCls X.K C) (hr : OMet X.K C (cmpInfo op).2.2 f) (hu : X.A.units < cLine)
    (slot : Slot "int" (cmpInfo op).2.1 id) (entry : entryFor table id = some (Builtin.Int.intBinary sl gi)) (args : ∀ a b, argsOk id ⟨[a, b], []⟩) (ia : InsR C ra) (cj : CallJ X W (.ref f) (R2' ra (rp rInt)) g rc) :
    OpJ X W (compareOp op) (rp rInt) ra (fun x y => g (y, x, ())) rc := fun I H σ Q u v x y s a b p pins sh uu vv Iv ru rv => by
  obtain ⟨av, dx, fs, rfl, hv⟩ := ia I H v y s b
  cases (show vv = Value.ref av from rv)
  cases (show u = V.int x from a)
  obtain ⟨t, e⟩ := (show ∃ t, uu = Value.int x t from ru)
  cases e
  obtain ⟨od, J⟩ := insAt Iv hv
  rw [hop]
  exact PySem.W.tr_cmpR hu Iv.kIn J hr.at_ hr.fn hc.ni slot entry args (back_W (cj I H σ Q [.ref av, .int x] (y, x, ()) s ⟨_, _, rfl, b, _, _, rfl, rfl, rfl⟩ p) Iv (.cons rfl (.cons ⟨_, rfl⟩ .nil)))
/-- the callee at one level below -/
theorem run_W1 {k : Nat} {f : Addr} {sp : Sp} {vs : List V} {H : Hp} {σ : St} {Q : VK} (F : FnR X.prog X.w X.K X.mg X.base (L2.CX X.prog X.w) k f sp) (hr : Room (k + 1) X.A) (tk : Takes X W) (h : sp vs H Q fun cls d H' => W cls d σ H') {pins : List (Addr × Obj)} {s : Shared} {us : List Value} (I : Inv X pins σ H s) (r : Vals vs us) :
    wpAny (model X.prog X.w) X.A.in1 (call (.ref f) us) (EP X pins σ Q) X.xe s := by
  refine wpAny_call (codeAny_mono (F X.A.in1 X.stack s H us vs Q _ hr.in1 I.env0.in1 r h) fun r s' hq => ?_)
  cases r with
  | error e => exact passAt tk σ pins H s e s' I hq
  | ok fl =>
    cases fl with
    | ret u => exact I.after hq
    | next => exact False.elim hq
    | brk => exact False.elim hq
    | cont => exact False.elim hq
end
end L2.Tr

namespace L2.Tr
open PySem PySem.Spec PyProof.Rows
section
variable {α β γ δ S : Type} {X : Cx} {I0 H0 : Hp} {W : WX} {Kx : KnowsX} {G : Knows} {ctx : List (Option SF)} {mem : List MF} {e a b c o : Expr} {es bs : List Expr} {st : Stmt} {ss s1 s2 : List Stmt} {pos pos' : Pos} {n : Str} {ra : Ra α} {rb : Ra β} {rc : Ra γ} {ma : Res α} {mb : Res β}

/-! ### promises -/
def spF (K : PySem.W.Frag) (R : Hp → Hp → List V → δ → Prop) (m : δ → Res γ) (r : Ra γ) : Sp := fun vs H Q E => ∃ I d, Same I H ∧ R I H vs d ∧ PostE K (m d) r I H E Q
theorem cj_of {k : Nat} {f : Addr} {R : Hp → Hp → List V → δ → Prop} {m : δ → Res γ} (F : FnR X.prog X.w X.K X.mg X.base (L2.CX X.prog X.w) k f (spF X.K R m rc)) (hr : Room k X.A) (tk : Takes X W) : CallJ X W (.ref f) R m rc := fun I H σ Q vs d s h p => run_W F hr tk ⟨I, d, s, h, p⟩
/-- arguments by another reading -/
theorem CallJ.co {δ' : Type} {f : Value} {R : Hp → Hp → List V → δ → Prop} {R' : Hp → Hp → List V → δ' → Prop} {m : δ → Res γ} {h : δ' → δ} (cj : CallJ X W f R m rc) (c : ∀ I H vs x, Same I H → R' I H vs x → R I H vs (h x)) : CallJ X W f R' (fun x => m (h x)) rc := fun I H σ Q vs x s r p => cj I H σ Q vs (h x) s (c I H vs x s r) p

/-! ### x != y by an own __eq__ -/
theorem opj_neO {k : Nat} {C f : Addr} {g : α × β × Unit → Res Bool} (hc : OCls X.K C) (hm : OMet X.K C "__eq__" f) (hr : Room (k + 1) X.A) (tk : Takes X W) (hn : PySem.W.notFirst X.K C (.ref C) = true) (ia : InsR C ra) (ib : InsR C rb)
    (F : FnR X.prog X.w X.K X.mg X.base (L2.CX X.prog X.w) k f (spF X.K (R2' ra rb) g (rp rBl))) : OpJ X W (compareOp .NotEq) ra rb (fun x y => (g (x, y, ())).bind fun z => .ok (!z)) (rp rBl) := fun I H σ Q u v x y s a b p pins sh uu vv Iv ru rv => by
  obtain ⟨au, dx, fs, rfl, hu'⟩ := ia I H u x s a
  obtain ⟨av, dy, gs, rfl, hv⟩ := ib I H v y s b
  cases (show uu = Value.ref au from ru)
  cases (show vv = Value.ref av from rv)
  obtain ⟨od, J⟩ := insAt Iv hu'
  obtain ⟨od', J'⟩ := insAt Iv hv
  show wpAny _ _ (richCompare .NotEq _ _) _ _ _
  have hu1 : X.A.in1.units < cLine := by have := hr.un; show X.A.units + 1 < _; omega
  refine PySem.W.tr_ne hu1 hr.units0 Iv.kIn J J'.type hn hc.cm hc.ne hm.at_ hm.fn (thn (run_W1 (vs := [.ref au, .ref av]) (Q := fun z H' => ∃ k, z = .bl k ∧ Q (.bl (!k)) H') F hr tk ⟨I, (x, y, ()), s, ⟨_, _, rfl, a, _, _, rfl, b, rfl⟩, ?_⟩ Iv (.cons rfl (.cons rfl .nil))) fun w s' ⟨z, H', I', rz, k, ez, q⟩ => ?_)
  · show PostE _ (g (x, y, ())) _ _ _ _ _
    revert p
    show PostE _ ((g (x, y, ())).bind _) _ _ _ _ _ → _
    generalize g (x, y, ()) = z
    intro p
    cases z with
    | ok k => exact fun I' H' v f r => ⟨k, r, p I' H' _ f rfl⟩
    | err e => exact p
    | stuck => exact p
  · subst ez
    cases (show w = Value.bool k from rz)
    exact ⟨k, rfl, .bl (!k), H', I', rfl, q⟩
theorem opj_neI {k : Nat} {C f : Addr} {g : α × Int × Unit → Res Bool} (hc : OCls X.K C) (hm : OMet X.K C "__eq__" f) (hr : Room (k + 1) X.A) (tk : Takes X W) (hn : PySem.W.notFirst X.K C (.type "int") = true) (ia : InsR C ra)
    (F : FnR X.prog X.w X.K X.mg X.base (L2.CX X.prog X.w) k f (spF X.K (R2' ra (rp rInt)) g (rp rBl))) : OpJ X W (compareOp .NotEq) ra (rp rInt) (fun x y => (g (x, y, ())).bind fun z => .ok (!z)) (rp rBl) := fun I H σ Q u v x y s a b p pins sh uu vv Iv ru rv => by
  obtain ⟨au, dx, fs, rfl, hu'⟩ := ia I H u x s a
  cases (show uu = Value.ref au from ru)
  cases (show v = V.int y from b)
  obtain ⟨t, e⟩ := (show ∃ t, vv = Value.int y t from rv)
  cases e
  obtain ⟨od, J⟩ := insAt Iv hu'
  show wpAny _ _ (richCompare .NotEq _ _) _ _ _
  have hu1 : X.A.in1.units < cLine := by have := hr.un; show X.A.units + 1 < _; omega
  refine PySem.W.tr_ne (tb := .type "int") hu1 hr.units0 Iv.kIn J (PySem.W.Looks.of_pure rfl) hn hc.cm hc.ne hm.at_ hm.fn (thn (run_W1 (vs := [.ref au, .int y]) (Q := fun z H' => ∃ k, z = .bl k ∧ Q (.bl (!k)) H') F hr tk ⟨I, (x, y, ()), s, ⟨_, _, rfl, a, _, _, rfl, rfl, rfl⟩, ?_⟩ Iv (.cons rfl (.cons ⟨_, rfl⟩ .nil))) fun w s' ⟨z, H', I', rz, k, ez, q⟩ => ?_)
  · show PostE _ (g (x, y, ())) _ _ _ _ _
    revert p
    show PostE _ ((g (x, y, ())).bind _) _ _ _ _ _ → _
    generalize g (x, y, ()) = z
    intro p
    cases z with
    | ok k => exact fun I' H' v f r => ⟨k, r, p I' H' _ f rfl⟩
    | err e => exact p
    | stuck => exact p
  · subst ez
    cases (show w = Value.bool k from rz)
    exact ⟨k, rfl, .bl (!k), H', I', rfl, q⟩
theorem opj_neRI {k : Nat} {C f : Addr} {g : α × Int × Unit → Res Bool} (hc : OCls X.K C) (hm : OMet X.K C "__eq__" f) (hr : Room (k + 1) X.A) (tk : Takes X W) (ia : InsR C ra)
    (F : FnR X.prog X.w X.K X.mg X.base (L2.CX X.prog X.w) k f (spF X.K (R2' ra (rp rInt)) g (rp rBl))) : OpJ X W (compareOp .NotEq) (rp rInt) ra (fun x y => (g (y, x, ())).bind fun z => .ok (!z)) (rp rBl) := fun I H σ Q u v x y s a b p pins sh uu vv Iv ru rv => by
  obtain ⟨av, dx, fs, rfl, hv⟩ := ia I H v y s b
  cases (show vv = Value.ref av from rv)
  cases (show u = V.int x from a)
  obtain ⟨t, e⟩ := (show ∃ t, uu = Value.int x t from ru)
  cases e
  obtain ⟨od, J⟩ := insAt Iv hv
  show wpAny _ _ (richCompare .NotEq _ _) _ _ _
  have hu1 : X.A.in1.units < cLine := by have := hr.un; show X.A.units + 1 < _; omega
  refine PySem.W.tr_neR (sl := "") (id := "") (g := fun _ _ => pure default) hu1 hr.units0 Iv.kIn J hc.cm hc.ne hm.at_ hm.fn hc.ni (thn (run_W1 (vs := [.ref av, .int x]) (Q := fun z H' => ∃ k, z = .bl k ∧ Q (.bl (!k)) H') F hr tk ⟨I, (y, x, ()), s, ⟨_, _, rfl, b, _, _, rfl, rfl, rfl⟩, ?_⟩ Iv (.cons rfl (.cons ⟨_, rfl⟩ .nil))) fun w s' ⟨z, H', I', rz, k, ez, q⟩ => ?_)
  · show PostE _ (g (y, x, ())) _ _ _ _ _
    revert p
    show PostE _ ((g (y, x, ())).bind _) _ _ _ _ _ → _
    generalize g (y, x, ()) = z
    intro p
    cases z with
    | ok k => exact fun I' H' v f r => ⟨k, r, p I' H' _ f rfl⟩
    | err e => exact p
    | stuck => exact p
  · subst ez
    cases (show w = Value.bool k from rz)
    exact ⟨k, rfl, .bl (!k), H', I', rfl, q⟩
/-- -x -/
theorem unj_own {C f : Addr} {g : α × Unit → Res γ} (hm : OMet X.K C "__neg__" f) (ia : InsR C ra) (cj : CallJ X W (.ref f) (R1 ra) g rc) : UnJ X W (unaryOp .USub) ra (fun x => g (x, ())) rc := fun I H σ Q u x s a p pins sh uu Iv ru => by
  obtain ⟨au, dx, fs, rfl, hu'⟩ := ia I H u x s a
  cases (show uu = Value.ref au from ru)
  obtain ⟨od, J⟩ := insAt Iv hu'
  obtain ⟨m, hF⟩ := Iv.fr
  exact PySem.W.ksp_neg hF Iv.ok.mod.kin J hm.at_ hm.fn (cj I H σ Q [.ref au] (x, ()) s ⟨_, _, rfl, a, rfl⟩ p pins sh _ Iv (.cons rfl .nil))
/-- isinstance(x, T) -/
def TyR (K : PySem.W.Frag) (r : Ra α) (u : Value) (g : α → Bool) : Prop := ∀ I H v x, Same I H → r I H v x → ∃ t, TyX K H v t ∧ PySem.W.kitOne K t u = some (g x)
theorem JE.isi {u : Value} {cv : V} {g : α → Bool} [MoA ra] (j : JE X I0 H0 W ctx mem a ma ra) (jc : ∀ σ H Q, Q cv H → wE X b σ H Q) (hc : ClsV cv u) (ty : TyR X.K ra u g) (hm : X.mg "isinstance" = none) (hg : Gl X "isinstance" := by rfl)
    (hs : starEach [a, b] X.env = (false, eval a X.env) :: starEach [b] X.env := by rfl) (hs2 : starEach [b] X.env = (false, eval b X.env) :: starEach [] X.env := by rfl) (hpl : (backTo pos (starEach [b] X.env)).any (·.1) = false := by rfl) :
    JE X I0 H0 W ctx mem (.Call (.Name "isinstance" pos') [a, b] [] pos) (ma.bind fun x => .ok (g x)) (rp rBl) := fun I H σ Q st p => by
  refine w_callB (id := "isinstance") (Tr.w_cons (j I H σ _ st ?_) hs) hm (by decide +kernel) hg (by decide) (by decide) hs hpl
  cases ma with
  | ok x =>
    intro I1 H1 v f1 r1
    refine Tr.w_cons (jc σ H1 _ (w_nil ?_)) hs2
    obtain ⟨t, ty1, k⟩ := ty I1 H1 v x f1.ih r1
    exact CallR.w call_isi ⟨v, cv, t, u, g x, rfl, hc, ty1, k, p I1 H1 _ f1 rfl⟩
  | err e => exact p
  | stuck => exact p
/-- raise X('..'), an own class without __init__ over ValueError -/
structure ExcP (K : PySem.W.Frag) (mg : Str → Option Value) (x : Str) : Prop where
  ex : PySem.W.excIn K (He.ga K x) He.veBase "ValueError.__new__" = true
  kp : PySem.W.keepIn K (.ref (He.ga K x)) = true
  bs : PySem.W.subIn K (.ref (He.ga K x)) (.type "BaseException") = some true
  ty : PySem.W.typeIn K (.ref (He.ga K x)) = some (.type "type")
  gl : mg x = some (.ref (He.ga K x))
theorem JR.raiseP {x m : Str} {j : Nat} {p1 p2 p3 : Pos} (hc : X.calm = true) (tk : Takes X W) (ep : ExcP X.K X.mg x) (hx : ∀ I H σ d, Stt I0 H0 ctx mem I H σ → Fr H0 d → Kx I H σ d) (hg : Gl X x := by rfl) (hdb : (x == ("__debug__" : Str)) = false := by decide) :
    JR X I0 H0 W Kx (Stt I0 H0 ctx mem) (.Raise (some (.Call (.Name x p1) [.Constant (.str m) j p2] [] p3)) none pos :: ss) (.err ⟨x, []⟩ : Res γ) rc := fun I H σ D g p => by
  refine b_cons (s_raise hc tk (pmk_own PySem.F.excBase_ValueError ep.ex ep.gl ep.kp (raises_own ep.bs ep.ty) hg hdb) ?_)
  exact p I H σ _ none (hx _ _ _ _ g fun _ z => nomatch z) ⟨rfl, rfl⟩
/-! ### while -/
def whileM (c : S → Res Bool) (f : S → Res S) : Nat → S → Res S
  | 0, _ => .stuck
  | n + 1, s => (c s).bind fun b => if b = true then (f s).bind fun s' => whileM c f n s' else .ok s
theorem J1.while {fuel : Nat} {s0 : S} {cx : S → List (Option SF)} {me : S → List MF} {mc : S → Res Bool} {mf : S → Res S} (hp : PassesOwn (model X.prog X.w) X.A X.env X.xe) (jc : ∀ s, JT X I0 H0 W (cx s) (me s) c (mc s)) (jb : ∀ s, JN X W Kx (Stt I0 H0 (cx s) (me s)) ss (mf s) fun s' => Stt I0 H0 (cx s') (me s'))
    (hx : ∀ s I H σ d, Stt I0 H0 (cx s) (me s) I H σ → Fr H0 d → Kx I H σ d) : J1 X W Kx (Stt I0 H0 (cx s0) (me s0)) (.While c ss [] pos) (whileM mc mf fuel s0) (fun s => Stt I0 H0 (cx s) (me s)) := fun I H σ D g p => by
  refine PS.w (ps_while hp pt_W pss_W) ⟨fun k σ' H' => ∃ I' s, Stt I0 H0 (cx s) (me s) I' H' σ' ∧ PostB X W Kx I' (whileM mc mf k s) (fun s => Stt I0 H0 (cx s) (me s)) D, ⟨fuel, I, s0, g, p⟩, ?_⟩
  rintro k σ' H' ⟨I', s, g', p'⟩
  cases k with
  | zero => exact p'.elim
  | succ k =>
    refine jc s I' H' σ' _ g' ?_
    have p2 : PostB X W Kx I' ((mc s).bind fun b => if b = true then (mf s).bind fun s' => whileM mc mf k s' else .ok s) _ D := p'
    revert p2
    generalize mc s = z
    intro p2
    cases z with
    | ok x =>
      intro I1 H1 v f r y hy
      cases r; cases hy
      cases x with
      | true =>
        refine iteT ⟨fun σ2 H2 => ∃ I2 s', Stt I0 H0 (cx s') (me s') I2 H2 σ2 ∧ PostB X W Kx I2 (whileM mc mf k s') (fun s => Stt I0 H0 (cx s) (me s)) D, fun σ2 H2 h => ⟨k, Nat.lt_succ_self _, h⟩, ?_⟩
        refine jb s I1 H1 σ' _ (g'.step f) ?_
        have p3 : PostB X W Kx I1 ((mf s).bind fun s' => whileM mc mf k s') _ D := PostB.up p2 f.i
        revert p3
        generalize mf s = z
        intro p3
        cases z with
        | ok s' => exact fun I2 H2 σ2 si g2 => ⟨I2, s', g2, PostB.up p3 si⟩
        | err e => exact p3
        | stuck => exact p3
      | false => exact iteF (p2 I1 H1 σ' f.i (g'.step f))
    | err e => exact fun I' H' c d f x => p2 I' H' σ' c d (hx _ _ _ _ _ (g'.step f) (x.1.back g'.fm.h)) x.2
    | stuck => exact p2.elim
/-- a, b = e1, e2 -/
theorem J1.par (i j : Nat) {x y : Str} {r1 : Rp α} {r2 : Rp β} [Mo r1] [mo : Mo r2] {px py pt : Pos} {kt k2 pt2} (ja : JE X I0 H0 W ctx mem a ma (rp r1)) (jb : JE X I0 H0 W ctx mem b mb (rp r2)) (hx : ∀ I H σ d, Stt I0 H0 ctx mem I H σ → Fr H0 d → Kx I H σ d)
    (hN : X.N.Nodup) (hc : X.calm = true := by rfl) (hi : X.N[i]? = some x := by rfl) (hj : X.N[j]? = some y := by rfl) (hij : i ≠ j := by decide) (hlx : X.env.scope.names.lookup x = some .local := by rfl) (hly : X.env.scope.names.lookup y = some .local := by rfl)
    (hw : swappedStores [.Tuple [.Name x px, .Name y py] kt pt] (.Tuple [a, b] k2 pt2) X.env = pure (some [x, y]) := by rfl)
    (hs : swapsWithSole [.Tuple [.Name x px, .Name y py] kt pt] (.Tuple [a, b] k2 pt2) pos.line X.env = pure false := by rfl)
    (e1 : starEach [a, b] X.env = (false, eval a X.env) :: starEach [b] X.env := by rfl) (e2 : starEach [b] X.env = (false, eval b X.env) :: starEach [] X.env := by rfl) :
    J1 X W Kx (Stt I0 H0 ctx mem) (.Assign [.Tuple [.Name x px, .Name y py] kt pt] (.Tuple [a, b] k2 pt2) pos) (ma.bind fun u => mb.bind fun v => .ok (u, v)) (fun s => Stt I0 H0 ((ctx.set i (some ⟨r1, s.1⟩)).set j (some ⟨r2, s.2⟩)) mem) := fun I H σ D g p => by
  refine PS.w (ps_par hc hN hi hj hij hlx hly pa_W hw hs) (Tr.w_cons (ja I H σ _ g ?_) e1)
  cases ma with
  | ok u =>
    intro I1 H1 v1 f1 h1
    refine Tr.w_cons (jb I1 H1 σ _ (g.step f1) ?_) e2
    cases mb with
    | ok v => exact fun I2 H2 v2 f2 h2 => w_nil ⟨v1, v2, rfl, p I2 H2 _ (f1.i.trans f2.i) ((((g.step f1).step f2).set i (Mo.up f2.i h1)).set j h2)⟩
    | err e => exact fun I' H' c d f x => p I' H' σ c d (hx _ _ _ _ ((g.step f1).step f) (x.1.back (g.step f1).fm.h)) x.2
    | stuck => exact p.elim
  | err e => exact fun I' H' c d f x => p I' H' σ c d (hx _ _ _ _ (g.step f) (x.1.back g.fm.h)) x.2
  | stuck => exact p.elim
end
/-! ### defs -/
section
variable {γ δ : Type} {P : Program} {w : World} {K : PySem.W.Frag} {mg : Str → Option Value} {base : Heap} {x qual : Str} {params : Arguments} {body : List Stmt} {scope : Scope} {dvs : List V} {kws : List (Str × V)} {f : Addr} {fd : FuncData} {N ps : List Str} {k : Nat} {R : Hp → Hp → List V → δ → Prop} {m : δ → Res γ} {r : Ra γ}
abbrev bx (P : Program) (w : World) (K : PySem.W.Frag) (mg : Str → Option Value) (base : Heap) (N : List Str) (qual : Str) (scope : Scope) (f : Addr) (cdv : Value) (A : Around) (outer : List Env) (s : Shared) (H : Hp) (E : XK) : Cx := cxOf (L2.CX P w) P w K mg base N qual scope f cdv A outer s H E
abbrev bW (E : XK) : WX := fun cls d _ H => E cls d H
abbrev bK (I0 H0 : Hp) : KnowsX := fun I H _ d => Fm I0 H0 I H ∧ Fr H0 d
theorem FunD.fn (F : FunD K x qual params body scope dvs kws f fd) (S : FnScope N ps scope) (len : ∀ I H vs d, R I H vs d → vs.length = ps.length)
    (hb : ∀ (cdv : Value) (A : Around) (outer : List Env) (s : Shared) (I0 H0 : Hp) (E : XK) (vs : List V) (d : δ), Room k (A.deeper (envOfC qual scope s.heap.objs.size f cdv)) → Same I0 H0 → R I0 H0 vs d →
      ∃ G : Knows, G I0 H0 (start N vs) ∧ JR (bx P w K mg base N qual scope f cdv A outer s H0 E) I0 H0 (bW E) (bK I0 H0) G body (m d) r) : FnOk P w K mg base (L2.CX P w) (k + 1) f fd ps (spF K R m r) := by
  refine F.ok S (fun vs H Q E ⟨I, d, _, h, _⟩ => len I H vs d h) fun cdv A outer s H vs Q E hr ⟨I, d, sm, h, p⟩ => ⟨_, pss_W, ?_⟩
  obtain ⟨G, g, j⟩ := hb cdv A outer s I H E vs d hr sm h
  refine j I H _ _ g ?_
  revert p
  show PostE K (m d) r I H E Q → PostR _ _ _ _ _ (m d) _ _
  generalize m d = z
  intro p
  cases z with
  | ok y => exact p
  | err e => exact fun I' H' _ c d f x => p I' H' c d f.1 ⟨f.2, x⟩
  | stuck => exact p
end
end L2.Tr

namespace L2.Tr
open PySem PySem.Spec PyProof.Rows
section
variable {α β γ δ S : Type} {X : Cx} {I0 H0 : Hp} {W : WX} {Kx : KnowsX} {G : Knows} {ctx : List (Option SF)} {mem : List MF} {e a b c o : Expr} {es bs : List Expr} {st : Stmt} {ss s1 s2 : List Stmt} {pos pos' : Pos} {n : Str} {ra : Ra α} {rb : Ra β} {rc : Ra γ} {ma : Res α} {mb : Res β}
def rRef (x : Addr) : Rp Unit := fun _ v _ => v = .ref x
instance {x : Addr} : Mo (rRef x) := ⟨fun _ h => h⟩
def putG (f : Str) (s : SF) : List (Str × SF) → List (Str × SF)
  | [] => [(f, s)]
  | q :: gs => if q.1 = f then (f, s) :: gs else q :: putG f s gs
theorem FldR.put {I : Hp} {f : Str} {v : V} {s : SF} (h : s.r I v s.x) : ∀ {fs : List (Str × V)} {gs : List (Str × SF)}, FldR I fs gs → FldR I (putF f v fs) (putG f s gs)
  | [], [], _ => ⟨rfl, h, True.intro⟩
  | p :: fs, q :: gs, ⟨a, b, c⟩ => by
    show FldR I (if p.1 = f then _ else _) (if q.1 = f then _ else _)
    rw [← a]
    by_cases e : p.1 = f
    · rw [if_pos e, if_pos e]; exact ⟨e, h, c⟩
    · rw [if_neg e, if_neg e]; exact ⟨a, b, FldR.put h c⟩
  | [], _ :: _, h => h.elim
  | _ :: _, [], h => h.elim
theorem FldR.length {I : Hp} : ∀ {fs : List (Str × V)} {gs : List (Str × SF)}, FldR I fs gs → fs.length = gs.length
  | [], [], _ => rfl
  | _ :: _, _ :: _, ⟨_, _, c⟩ => congrArg Nat.succ (FldR.length c)
  | [], _ :: _, h => h.elim
  | _ :: _, [], h => h.elim
/-! ### regions -/
theorem Regs.split {I H : Hp} : ∀ {mem : List MF} {fps : List (List Addr)} {j : Nat} {c : MF}, Regs I H mem fps → mem[j]? = some c → ∃ M1 M2 A fp B, mem = M1 ++ c :: M2 ∧ fps = A ++ fp :: B ∧ M1.length = j ∧ Regs I H M1 A ∧ c.Q I H fp ∧ Regs I H M2 B
  | [], _, _, _, _, e => by simp at e
  | d :: mem, fp :: fps, 0, c, ⟨a, b⟩, e => by
    have : d = c := by simpa using e
    subst this
    exact ⟨[], mem, [], fp, fps, rfl, rfl, rfl, True.intro, a, b⟩
  | d :: mem, fp :: fps, j + 1, c, ⟨a, b⟩, e => by
    have e' : mem[j]? = some c := by simpa using e
    obtain ⟨M1, M2, A, fq, B, e1, e2, e3, h1, h2, h3⟩ := Regs.split b e'
    exact ⟨d :: M1, M2, fp :: A, fq, B, by rw [e1]; rfl, by rw [e2]; rfl, by rw [List.length_cons, e3], ⟨a, h1⟩, h2, h3⟩
  | _ :: _, [], _, _, h, _ => h.elim
theorem Regs.join {I H : Hp} : ∀ {M1 M2 : List MF} {A B : List (List Addr)}, Regs I H M1 A → Regs I H M2 B → Regs I H (M1 ++ M2) (A ++ B)
  | [], _, [], _, _, h => h
  | _ :: _, _, _ :: _, _, ⟨a, b⟩, h => ⟨a, Regs.join b h⟩
  | [], _, _ :: _, _, h, _ => h.elim
  | _ :: _, _, [], _, h, _ => h.elim
theorem set_mid {α : Type} {M1 M2 : List α} {c c' : α} {j : Nat} (h : M1.length = j) : (M1 ++ c :: M2).set j c' = M1 ++ c' :: M2 := by
  subst h; induction M1 with
  | nil => rfl
  | cons d M ih => rw [List.cons_append, List.length_cons, List.set_cons_succ, ih]; rfl
theorem erase_mid {α : Type} {M1 M2 : List α} {c : α} {j : Nat} (h : M1.length = j) : (M1 ++ c :: M2).eraseIdx j = M1 ++ M2 := by
  subst h; induction M1 with
  | nil => rfl
  | cons d M ih => rw [List.cons_append, List.length_cons, List.eraseIdx_cons_succ, ih]; rfl
theorem flat_mid {A B : List (List Addr)} {fp : List Addr} : (A ++ fp :: B).flatten = A.flatten ++ (fp ++ B.flatten) := by rw [List.flatten_append, List.flatten_cons]
/-- the heap without a region -/
def rm (H : Hp) (fp : List Addr) : Hp := fun a => if a ∈ fp then none else H a
theorem rm_in {H : Hp} {fp : List Addr} {a : Addr} (h : a ∈ fp) : rm H fp a = none := if_pos h
theorem rm_out {H : Hp} {fp : List Addr} {a : Addr} (h : a ∉ fp) : rm H fp a = H a := if_neg h
theorem Stt.change {I0 H0 I H : Hp} {c : MF} {σ : St} {j : Nat} (s : Stt I0 H0 ctx mem I H σ) (hj : mem[j]? = some c) : ∃ fp, c.Q I H fp ∧ fp.Nodup ∧ (∀ a, a ∈ fp → H0 a = none ∧ I a = none ∧ H a ≠ none) ∧
    ∀ (I' H' : Hp) (c' : MF) (fp' : List Addr), Fm I (rm H fp) I' H' → fp'.Nodup → (∀ a, a ∈ fp' → rm H fp a = none ∧ I' a = none ∧ H' a ≠ none) → c'.Q I' H' fp' → Stt I0 H0 ctx (mem.set j c') I' H' σ := by
  obtain ⟨fps, rg, nd, k⟩ := s.me
  obtain ⟨M1, M2, A, fp, B, e1, e2, e3, h1, h2, h3⟩ := rg.split hj
  subst e1; subst e2
  rw [flat_mid] at nd k
  have ndA := List.nodup_append.mp nd
  have ndB := List.nodup_append.mp ndA.2.1
  have kf : ∀ a, a ∈ fp → H0 a = none ∧ I a = none ∧ H a ≠ none := fun a ha => k a (List.mem_append_right _ (List.mem_append_left _ ha))
  refine ⟨fp, h2, ndB.1, kf, fun I' H' c' fp' f nd' k' q' => ?_⟩
  have oth : ∀ a, a ∈ A.flatten ∨ a ∈ B.flatten → a ∉ fp ∧ H0 a = none ∧ I a = none ∧ H a ≠ none := fun a ha => by
    rcases ha with ha | ha
    · exact ⟨fun z => ndA.2.2 a ha a (List.mem_append_left _ z) rfl, k a (List.mem_append_left _ ha)⟩
    · exact ⟨fun z => ndB.2.2 a z a ha rfl, k a (List.mem_append_right _ (List.mem_append_right _ ha))⟩
  have stay : ∀ a, a ∈ A.flatten ∨ a ∈ B.flatten → H' a = H a := fun a ha => by
    obtain ⟨n, _, _, z⟩ := oth a ha
    cases e : H a with
    | none => exact absurd e z
    | some o => exact f.h a o (by rw [rm_out n]; exact e)
  have out : ∀ a, a ∈ fp' → ¬ (a ∈ A.flatten ∨ a ∈ B.flatten) := fun a ha z => by
    obtain ⟨n, _, _, y⟩ := oth a z
    have := (k' a ha).1
    rw [rm_out n] at this
    exact y this
  have hm : ∀ a, H0 a ≠ none → a ∉ fp := fun a z y => z (kf a y).1
  refine ⟨⟨s.fm.i.trans f.i, fun b u e => f.h b u (by rw [rm_out (hm b (by rw [e]; intro z; cases z))]; exact s.fm.h b u e), f.ih, fun l e n => f.mu l (s.fm.mu l e n) ?_⟩, s.len, fun i sf e => ?_, A ++ fp' :: B, ?_, ?_, ?_⟩
  · rw [rm_out (hm l n)]
    cases z : H0 l with
    | none => exact absurd z n
    | some o => rw [s.fm.h l o z]; intro y; cases y
  · obtain ⟨v, e1, q⟩ := s.sl i sf e
    exact ⟨v, e1, sf.mo.up f.i q⟩
  · rw [set_mid e3]
    exact (h1.up f.i fun a ha => stay a (.inl ha)).join ⟨q', h3.up f.i fun a ha => stay a (.inr ha)⟩
  · rw [flat_mid]
    refine List.nodup_append.mpr ⟨ndA.1, List.nodup_append.mpr ⟨nd', ndB.2.1, fun a ha b hb e => out a ha (.inr (e ▸ hb))⟩, fun a ha b hb e => ?_⟩
    subst e
    rcases List.mem_append.mp hb with z | z
    · exact out a z (.inl ha)
    · exact ndA.2.2 a ha a (List.mem_append_right _ z) rfl
  · rw [flat_mid]
    have go : ∀ a, a ∈ A.flatten ∨ a ∈ B.flatten → H0 a = none ∧ I' a = none ∧ H' a ≠ none := fun a ha => by
      obtain ⟨n, x, y, z⟩ := oth a ha
      exact ⟨x, f.mu a y (by rw [rm_out n]; exact z), by rw [stay a ha]; exact z⟩
    intro a ha
    rcases List.mem_append.mp ha with z | z
    · exact go a (.inl z)
    · rcases List.mem_append.mp z with z | z
      · refine ⟨?_, (k' a z).2⟩
        cases e : H0 a with
        | none => rfl
        | some o =>
          have := (k' a z).1
          rw [rm_out (hm a (by rw [e]; intro y; cases y)), s.fm.h a o e] at this
          cases this
      · exact go a (.inr z)
theorem Fm.rmUpd {I H : Hp} {l : Addr} {o : HO} (s : Same I H) (hI : I l = none) : Fm I (rm H [l]) I (upd H l o) :=
  ⟨Same.refl _, fun b u e => by
    by_cases hb : b = l
    · subst hb; rw [rm_in (List.mem_singleton_self b)] at e; cases e
    · rw [rm_out (fun z => hb (List.mem_singleton.mp z))] at e; rw [upd_ne hb]; exact e, fun b u e => by
    have : b ≠ l := fun q => by rw [q, hI] at e; cases e
    rw [upd_ne this]; exact s b u e, fun _ e _ => e⟩
/-- the one object of cell j is changed -/
theorem Stt.cellAt {I0 H0 I H : Hp} {σ : St} {l : Addr} {c c' : MF} {o : HO} (s : Stt I0 H0 ctx mem I H σ) (j : Nat) (hj : mem[j]? = some c) (hc : ∀ {I H : Hp} {fp : List Addr}, c.Q I H fp → fp = [l]) (h : c'.Q I (upd H l o) [l]) :
    Stt I0 H0 ctx (mem.set j c') I (upd H l o) σ := by
  obtain ⟨fp, q, nd, k, go⟩ := s.change hj
  cases hc q
  obtain ⟨_, kI, _⟩ := k l (List.mem_singleton_self l)
  refine go I (upd H l o) _ [l] (Fm.rmUpd s.same kI) nd (fun a ha => ?_) h
  rw [List.mem_singleton.mp ha]
  exact ⟨rm_in (List.mem_singleton_self l), kI, by rw [upd_same]; intro z; cases z⟩
/-- a heap with a region added -/
def ice (I H : Hp) (fp : List Addr) : Hp := fun a => if a ∈ fp then H a else I a
theorem ice_in {I H : Hp} {fp : List Addr} {a : Addr} (h : a ∈ fp) : ice I H fp a = H a := if_pos h
theorem ice_out {I H : Hp} {fp : List Addr} {a : Addr} (h : a ∉ fp) : ice I H fp a = I a := if_neg h
theorem ice_same {I H : Hp} {fp : List Addr} (h : ∀ a, a ∈ fp → I a = none) : Same I (ice I H fp) := fun b u e => by
  rw [ice_out fun z => by rw [h b z] at e; cases e]; exact e
/-- a region is frozen -/
theorem Stt.freezeAt {I0 H0 I H : Hp} {c : MF} {σ : St} (s : Stt I0 H0 ctx mem I H σ) (j : Nat) (hj : mem[j]? = some c) : ∃ fp, c.Q I H fp ∧ (∀ a, a ∈ fp → I a = none) ∧ Same I (ice I H fp) ∧ Stt I0 H0 ctx (mem.eraseIdx j) (ice I H fp) H σ := by
  obtain ⟨fps, rg, nd, k⟩ := s.me
  obtain ⟨M1, M2, A, fp, B, e1, e2, e3, h1, h2, h3⟩ := rg.split hj
  subst e1; subst e2
  rw [flat_mid] at nd k
  have ndA := List.nodup_append.mp nd
  have ndB := List.nodup_append.mp ndA.2.1
  have kf : ∀ a, a ∈ fp → H0 a = none ∧ I a = none ∧ H a ≠ none := fun a ha => k a (List.mem_append_right _ (List.mem_append_left _ ha))
  have oth : ∀ a, a ∈ A.flatten ∨ a ∈ B.flatten → a ∉ fp ∧ H0 a = none ∧ I a = none ∧ H a ≠ none := fun a ha => by
    rcases ha with ha | ha
    · exact ⟨fun z => ndA.2.2 a ha a (List.mem_append_left _ z) rfl, k a (List.mem_append_left _ ha)⟩
    · exact ⟨fun z => ndB.2.2 a z a ha rfl, k a (List.mem_append_right _ (List.mem_append_right _ ha))⟩
  have sm : Same I (ice I H fp) := ice_same fun a ha => (kf a ha).2.1
  refine ⟨fp, h2, fun a ha => (kf a ha).2.1, sm, ⟨s.fm.i.trans sm, s.fm.h, fun b u e => ?_, fun l e n => ?_⟩, s.len, fun i sf e => ?_, A ++ B, ?_, ?_, fun a ha => ?_⟩
  · by_cases hb : b ∈ fp
    · rw [ice_in hb] at e; exact e
    · rw [ice_out hb] at e; exact s.fm.ih _ _ e
  · rw [ice_out fun z => n (kf l z).1]; exact s.fm.mu l e n
  · obtain ⟨v, e1, q⟩ := s.sl i sf e
    exact ⟨v, e1, sf.mo.up sm q⟩
  · rw [erase_mid e3]
    exact (h1.up sm fun _ _ => rfl).join (h3.up sm fun _ _ => rfl)
  · rw [List.flatten_append]
    exact List.nodup_append.mpr ⟨ndA.1, ndB.2.1, fun a ha b hb => ndA.2.2 a ha b (List.mem_append_right _ hb)⟩
  · rw [List.flatten_append] at ha
    obtain ⟨n, x, y, z⟩ := oth a (List.mem_append.mp ha)
    exact ⟨x, by rw [ice_out n]; exact y, z⟩
/-- a region that stands is taken up -/
theorem Stt.adoptR {I0 H0 I H I1 H1 : Hp} {c : MF} {σ : St} {fp : List Addr} (s : Stt I0 H0 ctx mem I H σ) (f : Fm I H I1 H1) (nd : fp.Nodup) (hk : ∀ a, a ∈ fp → H a = none ∧ I1 a = none ∧ H1 a ≠ none) (h : c.Q I1 H1 fp) : Stt I0 H0 ctx (c :: mem) I1 H1 σ := by
  have s2 := s.step f
  obtain ⟨fps, rg, nd0, k0⟩ := s.me
  obtain ⟨fm, len, sl, _⟩ := s2
  have key : ∀ a, a ∈ fps.flatten → H1 a = H a := fun a ha => by
    obtain ⟨_, _, h3⟩ := k0 a ha
    cases e : H a with
    | none => exact absurd e h3
    | some o => exact f.h _ _ e
  refine ⟨fm, len, sl, fp :: fps, ⟨h, rg.up f.i key⟩, ?_, fun a ha => ?_⟩
  · rw [List.flatten_cons]
    exact List.nodup_append.mpr ⟨nd, nd0, fun a ha b hb e => (k0 b hb).2.2 (e ▸ (hk a ha).1)⟩
  · rw [List.flatten_cons] at ha
    rcases List.mem_append.mp ha with z | z
    · exact ⟨s.fm.h.free (hk a z).1, (hk a z).2⟩
    · obtain ⟨h1, h2, h3⟩ := k0 a z
      exact ⟨h1, f.mu _ h2 h3, by rw [key a z]; exact h3⟩
theorem Stt.forgetAt {I0 H0 I H : Hp} {c : MF} {σ : St} (s : Stt I0 H0 ctx mem I H σ) (j : Nat) (hj : mem[j]? = some c) : Stt I0 H0 ctx (mem.eraseIdx j) I H σ := by
  obtain ⟨fps, rg, nd, k⟩ := s.me
  obtain ⟨M1, M2, A, fp, B, e1, e2, e3, h1, h2, h3⟩ := rg.split hj
  subst e1; subst e2
  rw [flat_mid] at nd k
  refine ⟨s.fm, s.len, s.sl, A ++ B, by rw [erase_mid e3]; exact h1.join h3, ?_, fun a ha => ?_⟩
  · have ndA := List.nodup_append.mp nd
    have ndB := List.nodup_append.mp ndA.2.1
    rw [List.flatten_append]
    exact List.nodup_append.mpr ⟨ndA.1, ndB.2.1, fun a ha b hb => ndA.2.2 a ha b (List.mem_append_right _ hb)⟩
  · rw [List.flatten_append] at ha
    rcases List.mem_append.mp ha with z | z
    · exact k a (List.mem_append_left _ z)
    · exact k a (List.mem_append_right _ (List.mem_append_right _ z))
/-- self.f = e within __init__ -/
theorem J1.sfld (i : Nat) {x C dx : Addr} {f sn : Str} {p1 : Pos} {gs : List (Str × SF)} {r : Rp α} [mo : Mo r] {m : Res α} (j : JE X I0 H0 W ctx (.ins x C dx gs :: mem) e m (rp r)) (cl : Cls X.K C) (hn : NoAttr X.K C f) (hg : gs.length < 1000) (hx : ∀ I H σ d, Stt I0 H0 ctx (.ins x C dx gs :: mem) I H σ → Fr H0 d → Kx I H σ d)
    (hc : ctx[i]? = some (some (SF.mk (rRef x) ())) := by rfl) (hN : X.N[i]? = some sn := by rfl) (hv : Vis X.env.scope sn := by first | exact Or.inl rfl | exact Or.inr (Or.inl rfl) | exact Or.inr (Or.inr rfl)) (hd : (sn == ("__debug__" : Str)) = false := by decide)
    (hcd : (sn == ("__classdict__" : Str)) = false := by decide) (hs : swapsWith e (some (.Attribute (.Name sn p1) f pos')) pos.line X.env = pure false := by rfl) :
    J1 X W Kx (Stt I0 H0 ctx (.ins x C dx gs :: mem)) (.Assign [.Attribute (.Name sn p1) f pos'] e pos) m (fun y => Stt I0 H0 ctx (.ins x C dx (putG f ⟨r, y⟩ gs) :: mem)) := fun I H σ D g p => by
  refine s_fld (j I H σ _ g ?_) hs
  cases m with
  | ok y =>
    intro I1 H1 v f1 h1
    have g1 := g.step f1
    obtain ⟨u, eu, hu⟩ := g1.sl i _ hc
    cases (show u = V.ref x from hu)
    obtain ⟨_, _, oo, zH, fs, eo, hf⟩ := g1.insAt (j := 0) (l := x) rfl
    subst eo
    refine w_var i ⟨x, C, dx, fs, rfl, zH, cl, hn, ?_, ?_⟩ eu hN hv hd hcd
    · rw [hf.length]; exact hg
    · exact p I1 _ σ f1.i (g1.cellAt (l := x) (c' := .ins x C dx (putG f ⟨r, y⟩ gs)) 0 rfl (fun q => q.1) ⟨rfl, _, upd_same, _, rfl, hf.put h1⟩)
  | err e => exact fun I' H' c d f x => p I' H' σ c d (hx _ _ _ _ (g.step f) (x.1.back g.fm.h)) x.2
  | stuck => exact p
/-- the object at the head of mem is frozen -/
theorem Stt.freeze {I0 H0 I H : Hp} {σ : St} {l C dx : Addr} {gs : List (Str × SF)} (s : Stt I0 H0 ctx (.ins l C dx gs :: mem) I H σ) : ∃ fs I', H l = some (.ins C dx fs) ∧ FldR I fs gs ∧ Stt I0 H0 ctx mem I' H σ ∧ Same I I' ∧ I' l = some (.ins C dx fs) := by
  obtain ⟨fp, ⟨e, o, h, fs, eo, p⟩, _, sm, s2⟩ := s.freezeAt 0 rfl
  subst e; subst eo
  exact ⟨fs, _, h, p, s2, sm, by rw [ice_in (List.mem_singleton_self l)]; exact h⟩

/-! ### C(..) -/
def spI (K : PySem.W.Frag) (C : Addr) (R : Hp → Hp → List V → δ → Prop) (m : δ → Res γ) (r : Ra γ) : Sp := fun vs H Q E => ∃ x dx ws H0 I d, vs = .ref x :: ws ∧ H0 x = none ∧ H0 dx = none ∧ dx ≠ x ∧ H = upd (upd H0 dx (.own x)) x (.ins C dx []) ∧ Same I H0 ∧ R I H0 ws d ∧
  PostE K (m d) r I H0 E (fun u H2 => u = .ref x → Q .non H2)
theorem cj_make {k : Nat} {C f : Addr} {fd : FuncData} {ps : List Str} {ds : List Value} {dvs : List V} {R R' : Hp → Hp → List V → δ → Prop} {m : δ → Res γ} (M : Mk X.K C f) (F : FnOk X.prog X.w X.K X.mg X.base (L2.CX X.prog X.w) k f fd ps (spI X.K C R m rc)) (hr : Room (k + 1) X.A) (hb : Binds X.K fd ps ds) (hd : Vals dvs ds) (tk : Takes X W)
    (hR : ∀ I H vs d, R' I H vs d → R I H (vs ++ dvs) d) : CallJ X W (.ref C) R' m rc := fun I H σ Q vs d sm h p pins s us Iv r => by
  have n1 := Iv.hok.fresh (Nat.le_succ s.heap.objs.size)
  have n2 := Iv.hok.fresh (Nat.le_refl s.heap.objs.size)
  have n3 := Nat.ne_of_lt (Nat.lt_succ_self s.heap.objs.size)
  have hq : spI X.K C R m rc (.ref (s.heap.objs.size + 1) :: (vs ++ dvs)) (upd (upd H s.heap.objs.size (.own (s.heap.objs.size + 1))) (s.heap.objs.size + 1) (.ins C s.heap.objs.size [])) (fun v H2 => v = .non ∧ Q (.ref (s.heap.objs.size + 1)) H2) (fun cls d H' => W cls d σ H') :=
    ⟨s.heap.objs.size + 1, s.heap.objs.size, vs ++ dvs, H, I, d, rfl, n1, n2, n3, rfl, sm, hR _ _ _ _ h, p.imp fun v H' q e => ⟨rfl, e ▸ q⟩⟩
  have I2 := Inv.made (C := C) Iv
  have r2 : Vals (V.ref (s.heap.objs.size + 1) :: (vs ++ dvs)) (Value.ref (s.heap.objs.size + 1) :: (us ++ ds)) := .cons rfl (r.append hd)
  have hl : (Value.ref (s.heap.objs.size + 1) :: us ++ ds).length = ps.length := by
    have e := r2.length
    rw [F.len _ _ _ _ hq] at e
    exact e.symm
  refine wpAny_call (make_map (f := f) Iv.kIn M.makes M.init (beq_iff_eq.mp M.fn) (codeAny_mono (F.run _ X.stack _ _ ⟨Value.ref (s.heap.objs.size + 1) :: us, []⟩ (Value.ref (s.heap.objs.size + 1) :: (us ++ ds)) _ _ _ (hr.make C us [])
    (I2.env0.make C us []) (hb _ (Value.ref (s.heap.objs.size + 1) :: us) I2.kIn hl) r2 hq) fun r s' hq' => ?_))
  cases r with
  | error e => exact passAt tk σ pins _ _ e s' I2 hq'
  | ok fl =>
    cases fl with
    | ret u =>
      obtain ⟨v, H', I3, rv, ev, q3⟩ := I2.after hq'
      subst ev
      exact ⟨rv, ⟨V.ref (s.heap.objs.size + 1), H', I3, rfl, q3⟩⟩
    | next => exact False.elim hq'
    | brk => exact False.elim hq'
    | cont => exact False.elim hq'
end
section
variable {γ δ : Type} {P : Program} {w : World} {K : PySem.W.Frag} {mg : Str → Option Value} {base : Heap} {x qual : Str} {params : Arguments} {body : List Stmt} {scope : Scope} {dvs : List V} {kws : List (Str × V)} {f C : Addr} {fd : FuncData} {N ps : List Str} {k : Nat} {R : Hp → Hp → List V → δ → Prop} {m : δ → Res γ} {r : Ra γ}
/-- the cell of a new instance -/
theorem Stt.fresh {I0 H0 : Hp} {y dx : Addr} {σ : St} {ctx : List (Option SF)} (sm : Same I0 H0) (n1 : H0 y = none) (n2 : H0 dx = none) (n3 : dx ≠ y) (hl : σ.length = ctx.length) (hs : ∀ (i : Nat) (sf : SF), ctx[i]? = some (some sf) → ∃ v, σ[i]? = some (some v) ∧ sf.r I0 v sf.x) :
    Stt I0 H0 ctx [.ins y C dx []] I0 (upd (upd H0 dx (.own y)) y (.ins C dx [])) σ := by
  have e1 : Same H0 (upd (upd H0 dx (.own y)) y (.ins C dx [])) := fun b u e => by rw [upd_ne (ne_of_none e n1), upd_ne (ne_of_none e n2)]; exact e
  exact ⟨⟨Same.refl _, e1, sm.trans e1, fun _ e _ => e⟩, hl, hs, [[y]], ⟨⟨rfl, _, upd_same, [], rfl, True.intro⟩, True.intro⟩, by simp, fun a ha => by
    cases List.mem_singleton.mp (show a ∈ [y] by simpa using ha)
    exact ⟨n1, sm.free n1, by rw [upd_same]; intro z; cases z⟩⟩
/-- an __init__ that makes its object whole -/
theorem FunD.init {S : Type} (F : FunD K x qual params body scope dvs kws f fd) (Sc : FnScope N ps scope) (len : ∀ I H vs d, R I H vs d → vs.length + 1 = ps.length)
    (hb : ∀ (cdv : Value) (A : Around) (outer : List Env) (s : Shared) (I0 H0 H1 : Hp) (E : XK) (vs : List V) (d : δ) (y dx : Addr), Room k (A.deeper (envOfC qual scope s.heap.objs.size f cdv)) → Same I0 H0 → R I0 H0 vs d → H0 y = none → H0 dx = none → dx ≠ y → H1 = upd (upd H0 dx (.own y)) y (.ins C dx []) →
      ∃ (G : Knows) (S : Type) (mm : Res S) (G' : S → Knows), G I0 H1 (start N (.ref y :: vs)) ∧ JN (bx P w K mg base N qual scope f cdv A outer s H1 E) (bW E) (bK I0 H0) G body mm G' ∧
        (match mm with
         | .ok s => ∃ z, m d = .ok z ∧ ∀ I' H' σ', G' s I' H' σ' → ∃ I'', Fm I0 H0 I'' H' ∧ r I'' H' (.ref y) z
         | .err e => m d = .err e
         | .stuck => m d = .stuck)) : FnOk P w K mg base (L2.CX P w) (k + 1) f fd ps (spI K C R m r) := by
  refine F.ok Sc (fun vs H Q E ⟨y, dx, ws, H0, I, d, e, _, _, _, _, _, h, _⟩ => by rw [e, List.length_cons]; exact len I H0 ws d h) fun cdv A outer s H vs Q E hr ⟨y, dx, ws, H0, I, d, e, n1, n2, n3, eH, sm, h, p⟩ => ⟨_, pss_W, ?_⟩
  subst e
  obtain ⟨G, S, mm, G', g, j, fin⟩ := hb cdv A outer s I H0 H E ws d y dx hr sm h n1 n2 n3 eH
  refine j I H _ _ g ?_
  cases mm with
  | ok z =>
    obtain ⟨y', e1, h1⟩ := fin
    intro I' H' σ' _ g'
    obtain ⟨I'', f1, r1⟩ := h1 I' H' σ' g'
    rw [e1] at p
    exact p I'' H' _ f1 r1 rfl
  | err e =>
    rw [show m d = _ from fin] at p
    exact fun I' H' _ c d f x => p I' H' c d f.1 ⟨f.2, x⟩
  | stuck =>
    rw [show m d = _ from fin] at p
    exact p
end
end L2.Tr

namespace L2.Tr
open PySem PySem.Spec PyProof.Rows He
/-! ### the head's facts -/
abbrev FB := PySem.W.Frag → Bool
abbrev AlX : Type := Bool × List FnW
def obsX (fs : List FB) (fn : List DefD) (K : PySem.W.Frag) : AlX := ((fs.all fun f => f K) && fn.all fun d => d.ok K, fn.map fun d => fnW K d.at_)
def valX (fn : List DefD) : AlX := (true, fn.map DefD.val)
def SaysX (fs : List FB) (fn : List DefD) (K : PySem.W.Frag) : Prop := obsX fs fn K = valX fn
def obsXG (n : Nat) (fs : List FB) (fn : List DefD) (g : Addr → Option Obj) : AlX := obsX fs fn (frG g (asD g n))
def hookX (n : Nat) (fs : List FB) (fn : List DefD) : PySem.W.Hook where
  α := AlX
  obs := fun s => obsXG n fs fn s.heap.get?
  val := fun _ => valX fn
  says := fun _ h => ∃ K : PySem.W.Frag, K.In h ∧ SaysX fs fn K
  of := fun _ _ e => ⟨_, frG_in, e⟩
  keeps := fun _ _ _ ⟨K, hK, c⟩ k => ⟨K, PySem.W.Frag.In.keeps hK k, c⟩
theorem obsXG_eq {n : Nat} {fs : List FB} {fn : List DefD} {g : Addr → Option Obj} {s : Shared} (h : ∀ a, g a = s.heap.get? a) : obsXG n fs fn g = (hookX n fs fn).obs s := by
  have e : g = s.heap.get? := funext h
  rw [e] <;> rfl
section
variable {fs : List FB} {fn : List DefD} {K : PySem.W.Frag} {mg : Str → Option Value} {h : Heap}
theorem SaysX.fact (c : SaysX fs fn K) (i : Nat) {f : FB} (h : fs[i]? = some f := by rfl) : f K = true := by
  have c1 := (ba (show ((fs.all fun f => f K) && fn.all fun d => d.ok K) = true from congrArg (fun z : AlX => z.1) c)).1
  exact List.all_eq_true.mp c1 f (List.mem_of_getElem? h)
theorem SaysX.def_ (c : SaysX fs fn K) (i : Nat) {d : DefD} (h : fn[i]? = some d := by rfl) : ∃ fd, FunD K d.name d.qual d.params d.body d.scope (d.dvs K) (d.kws K) (fAd K d.at_) fd := by
  have c2 := (ba (show ((fs.all fun f => f K) && fn.all fun d => d.ok K) = true from congrArg (fun z : AlX => z.1) c)).2
  have e : fn.map (fun d => fnW K d.at_) = fn.map DefD.val := congrArg (fun z : AlX => z.2) c
  have e2 : (fn.map fun d => fnW K d.at_)[i]? = (fn.map DefD.val)[i]? := by rw [e]
  rw [List.getElem?_map, List.getElem?_map, h] at e2
  exact DefD.funD (Option.some.inj e2) (List.all_eq_true.mp c2 d (List.mem_of_getElem? h))
def fGlo (x : Str) : FB := fun K => (Fa.glo x).ok K
def fFree (x : Str) : FB := fun K => (Fa.free x).ok K
def fKeep (x : Str) : FB := fun K => PySem.W.keepIn K (.ref (ga K x))
def fCls (x : Str) : FB := fun K => (Fa.cls x).ok K
def fNoat (x f : Str) : FB := fun K => (Fa.noat x f).ok K
def fMeth (x m : Str) : FB := fun K => (Fa.meth x m).ok K
def fMkr (x : Str) : FB := fun K => (Fa.mkr x).ok K
def fExc (x : Str) : FB := fun K => (Fa.exc x).ok K && (Fa.glo x).ok K
def fOcl (x : Str) : FB := fun K => (Fa.cls x).ok K && (PySem.W.selfFirst K (ga K x) && (eqO (PySem.W.findIn K (.ref (ga K x)) "__class__") (some (some (.builtin "object.__class__"))) && (eqO (PySem.W.specialIn K (.builtin "object.__class__") "__get__") (some (some (.builtin "getset_descriptor.__get__"))) &&
  (decide (PySem.W.takesIn K (.builtin "object.__class__") = some true) && (decide (PySem.W.mroIn K (ga K x) (.type "object") = some true) && (decide (PySem.W.subIn K (.ref (ga K x)) (.type "int") = some false) && (decide (PySem.W.subIn K (.type "int") (.ref (ga K x)) = some false) &&
  eqO (PySem.W.findIn K (.ref (ga K x)) "__ne__") (some (some (.builtin "object.__ne__"))))))))))
def fOMet (x m : Str) : FB := fun K => eqO (PySem.W.findIn K (.ref (ga K x)) m) (some (some (.ref (ma K (ga K x) m)))) && PySem.W.isFn K (.ref (ma K (ga K x) m))
def fNf (x : Str) : FB := fun K => PySem.W.notFirst K (ga K x) (.ref (ga K x)) && PySem.W.notFirst K (ga K x) (.type "int")
def fIntM (m : Str) : FB := fun K => (PySem.W.findIn K (.type "int") m).isSome
def fKit (x y : Str) (b : Bool) : FB := fun K => decide (PySem.W.kitOne K (.ref (ga K x)) (.ref (ga K y)) = some b)
def fKitT (x : Str) (t : String) (b : Bool) : FB := fun K => decide (PySem.W.kitOne K (.ref (ga K x)) (.type t) = some b)
def fKitI (t : String) (x : Str) (b : Bool) : FB := fun K => decide (PySem.W.kitOne K (.type t) (.ref (ga K x)) = some b)
theorem glo_of (X : K.In h) (G : h.Ns mainGlobals mg) {x : Str} (c : fGlo x K = true) : mg x = some (.ref (ga K x)) := glo_ok X G c
theorem free_of (X : K.In h) (G : h.Ns mainGlobals mg) {x : Str} (c : fFree x K = true) : mg x = none := free_ok X G c
theorem cls_of {x : Str} (c : fCls x K = true) : Cls K (ga K x) := cls_ok c
theorem noat_of {x f : Str} (c : fNoat x f K = true) : NoAttr K (ga K x) f := noat_ok c
theorem meth_of {x m : Str} (c : fMeth x m K = true) : Meth K (ga K x) m (ma K (ga K x) m) := meth_ok c
theorem mkr_of {x : Str} (c : fMkr x K = true) : Mk K (ga K x) (ma K (ga K x) "__init__") := mkr_ok c
theorem exc_of (X : K.In h) (G : h.Ns mainGlobals mg) {x : Str} (c : fExc x K = true) : ExcP K mg x := by
  obtain ⟨c1, c2⟩ := ba c
  obtain ⟨a, b, d, e⟩ := exc_ok c1
  exact ⟨a, b, d, e, glo_ok X G c2⟩
theorem ocl_of {x : Str} (c : fOcl x K = true) : OCls K (ga K x) := by
  obtain ⟨c0, c⟩ := ba c
  obtain ⟨c1, c⟩ := ba c
  obtain ⟨c2, c⟩ := ba c
  obtain ⟨c3, c⟩ := ba c
  obtain ⟨c4, c⟩ := ba c
  obtain ⟨c5, c⟩ := ba c
  obtain ⟨c6, c⟩ := ba c
  obtain ⟨c7, c8⟩ := ba c
  exact ⟨cls_ok c0, c1, eqO_ok c2, eqO_ok c3, of_decide_eq_true c4, of_decide_eq_true c5, of_decide_eq_true c6, of_decide_eq_true c7, eqO_ok c8⟩
theorem omet_of {x m : Str} (c : fOMet x m K = true) : OMet K (ga K x) m (ma K (ga K x) m) := by
  obtain ⟨a, b⟩ := ba c
  exact ⟨eqO_ok a, b⟩
theorem nf_of {x : Str} (c : fNf x K = true) : PySem.W.notFirst K (ga K x) (.ref (ga K x)) = true ∧ PySem.W.notFirst K (ga K x) (.type "int") = true := ba c
theorem intM_of {m : Str} (c : fIntM m K = true) : ∃ fo, PySem.W.findIn K (.type "int") m = some fo := Option.isSome_iff_exists.mp c
theorem kit_of' {x y : Str} {b : Bool} (c : fKit x y b K = true) : PySem.W.kitOne K (.ref (ga K x)) (.ref (ga K y)) = some b := of_decide_eq_true c
theorem kitT_of {x : Str} {t : String} {b : Bool} (c : fKitT x t b K = true) : PySem.W.kitOne K (.ref (ga K x)) (.type t) = some b := of_decide_eq_true c
theorem kitI_of {x : Str} {t : String} {b : Bool} (c : fKitI t x b K = true) : PySem.W.kitOne K (.type t) (.ref (ga K x)) = some b := of_decide_eq_true c
end
end L2.Tr

namespace L2.Tr
open PySem PySem.Spec PyProof.Rows
section
variable {α β γ δ S : Type} {X : Cx} {I0 H0 : Hp} {W : WX} {Kx : KnowsX} {G : Knows} {ctx cw : List (Option SF)} {mem : List MF} {e a b c o : Expr} {es bs : List Expr} {st b₀ : Stmt} {ss s1 s2 body suite : List Stmt} {pos pos' np : Pos} {n x : Str} {ra : Ra α} {rb : Ra β} {rr : Ra γ} {ma : Res α} {mb : Res β}
/-- what is known of fewer slots -/
def weakC : List (Option SF) → List (Option SF) → Prop
  | [], [] => True
  | _ :: c, none :: d => weakC c d
  | a :: c, some b :: d => a = some b ∧ weakC c d
  | _, _ => False
theorem weakC.len : ∀ {c d : List (Option SF)}, weakC c d → c.length = d.length
  | [], [], _ => rfl
  | _ :: _, none :: _, h => congrArg Nat.succ (weakC.len (c := _) h)
  | _ :: _, some _ :: _, h => congrArg Nat.succ (weakC.len (c := _) h.2)
  | [], _ :: _, h => h.elim
  | _ :: _, [], h => h.elim
theorem weakC.get : ∀ {c d : List (Option SF)} {i : Nat} {sf : SF}, weakC c d → d[i]? = some (some sf) → c[i]? = some (some sf)
  | [], [], _, _, _, e => by simp at e
  | _ :: _, none :: _, 0, _, _, e => by simp at e
  | _ :: c, none :: d, i + 1, sf, h, e => by
    have e' : d[i]? = some (some sf) := by simpa using e
    have := weakC.get (c := c) h e'
    simpa using this
  | _ :: _, some _ :: _, 0, _, h, e => by
    have e' : some _ = some (some _) := e
    rw [h.1]; simpa using e
  | _ :: c, some _ :: d, i + 1, sf, h, e => by
    have e' : d[i]? = some (some sf) := by simpa using e
    have := weakC.get (c := c) h.2 e'
    simpa using this
  | [], _ :: _, _, _, h, _ => h.elim
  | _ :: _, [], _, _, h, _ => h.elim
theorem Stt.weak {I H : Hp} {σ : St} (s : Stt I0 H0 ctx mem I H σ) (h : weakC ctx cw) : Stt I0 H0 cw mem I H σ := ⟨s.fm, by rw [s.len, h.len], fun i sf e => s.sl i sf (h.get e), s.me⟩
theorem Stt.unset {I H : Hp} {σ : St} (s : Stt I0 H0 ctx mem I H σ) (i : Nat) {u : Option V} : Stt I0 H0 (ctx.set i none) mem I H (σ.set i u) := by
  refine ⟨s.fm, by rw [List.length_set, List.length_set]; exact s.len, fun j sf e => ?_, s.me⟩
  by_cases hj : j = i
  · subst hj
    rw [List.getElem?_set] at e
    by_cases hl : j < ctx.length
    · simp [hl] at e
    · simp [hl] at e
  · rw [List.getElem?_set_ne (Ne.symm hj)] at e
    obtain ⟨w, e1, q⟩ := s.sl j sf e
    exact ⟨w, by rw [List.getElem?_set_ne (Ne.symm hj)]; exact e1, q⟩

/-! ### try -/
def tryM (m : Res S) (L : List (Str × Bool)) (h : Exn → Res γ) (f : S → Res γ) : Res γ := match m with
  | .ok s => f s
  | .err e => (match L.lookup e.cls with
    | some true => (match h e with
      | .ok y => .ok y
      | _ => .stuck)
    | some false => .err e
    | none => .stuck)
  | .stuck => .stuck
theorem lookup_mem {L : List (Str × Bool)} {x : Str} {b : Bool} (h : L.lookup x = some b) : (x, b) ∈ L := by
  induction L with
  | nil => cases h
  | cons p L ih =>
    obtain ⟨y, c⟩ := p
    have h' : (match x == y with | true => some c | false => L.lookup x) = some b := h
    cases q : (x == y) with
    | true =>
      rw [q] at h'
      cases h'
      rw [beq_iff_eq.mp q]; exact List.mem_cons_self
    | false => rw [q] at h'; exact List.mem_cons_of_mem _ (ih h')
def rExc (a : Addr) : Rp Unit := fun _ v _ => v = .ref a
instance {a : Addr} : Mo (rExc a) := ⟨fun _ h => h⟩
def MF.xd (K : PySem.W.Frag) (l : Addr) (ps : List (Str × Pay)) : MF := .one l (fun I o => ∃ fs, o = .xd fs ∧ Paired (fun (p : Str × V) (q : Str × Pay) => p.1 = q.1 ∧ PayR K I p.2 q.2) fs ps) (fun s ⟨fs, e, p⟩ => ⟨fs, e, Paired.mapP p fun _ q h => ⟨h.1, by
  obtain ⟨h1, h2⟩ := h
  cases hq : q.2 with
  | int i => rw [hq] at h2; exact h2
  | str i => rw [hq] at h2; exact h2
  | bl i => rw [hq] at h2; exact h2
  | non => rw [hq] at h2; exact h2
  | frac i => rw [hq] at h2; exact Mo.up (r := rFrac K) s h2
  | obj i j => exact True.intro⟩⟩)
def exm (K : PySem.W.Frag) (d : Option Addr) (e : Exn) : List MF := match d with
  | none => []
  | some a => [.xd K a e.pay]
/-- regions without an error's dict -/
def NoXd : List MF → Prop
  | [] => True
  | c :: m => (∀ (I H : Hp) (fp : List Addr) (a : Addr) (fs : List (Str × V)), c.Q I H fp → a ∈ fp → H a ≠ some (.xd fs)) ∧ NoXd m
theorem noxd_lst {α : Type} {l : Addr} {r : Rp α} {mo : Mo r} {xs : List α} : ∀ (I H : Hp) (fp : List Addr) (a : Addr) (fs : List (Str × V)), (MF.lst l r xs).Q I H fp → a ∈ fp → H a ≠ some (.xd fs) := fun I H fp a fs ⟨e, o, h, vs, eo, _⟩ ha z => by
  subst e; subst eo
  rw [List.mem_singleton.mp ha, h] at z; cases z
theorem noxd_ins {l C dx : Addr} {gs : List (Str × SF)} : ∀ (I H : Hp) (fp : List Addr) (a : Addr) (fs : List (Str × V)), (MF.ins l C dx gs).Q I H fp → a ∈ fp → H a ≠ some (.xd fs) := fun I H fp a fs ⟨e, o, h, vs, eo, _⟩ ha z => by
  subst e; subst eo
  rw [List.mem_singleton.mp ha, h] at z; cases z
theorem NoXd.at {I H : Hp} : ∀ {mem : List MF} {fps : List (List Addr)}, NoXd mem → Regs I H mem fps → ∀ (a : Addr) (fs : List (Str × V)), a ∈ fps.flatten → H a ≠ some (.xd fs)
  | [], [], _, _, a, fs, ha => by simp at ha
  | _ :: _, fp :: fps, ⟨n, m⟩, ⟨q, r⟩, a, fs, ha => by
    rw [List.flatten_cons] at ha
    rcases List.mem_append.mp ha with z | z
    · exact n I H fp a fs q z
    · exact NoXd.at m r a fs z
  | [], _ :: _, _, h, _, _, _ => h.elim
  | _ :: _, [], _, h, _, _, _ => h.elim
theorem Stt.exm {K : PySem.W.Frag} {I H : Hp} {σ : St} {ee : Exn} {cls : Value} {d : Option Addr} (s : Stt I0 H0 ctx mem I H σ) (f : Fr H0 d) (x : ExR K I H ee cls d) (hm : NoXd mem) : Stt I0 H0 ctx (Tr.exm K d ee ++ mem) I H σ := by
  cases d with
  | none => exact s
  | some a =>
    obtain ⟨_, _, fs, e1, e2, pr⟩ := x
    obtain ⟨fps, rg, nd, k⟩ := s.me
    have out : a ∉ fps.flatten := fun z => hm.at rg a fs z e1
    refine ⟨s.fm, s.len, s.sl, [a] :: fps, ⟨⟨rfl, _, e1, fs, rfl, pr⟩, rg⟩, ?_, fun b hb => ?_⟩
    · rw [List.flatten_cons]; exact List.nodup_cons.mpr ⟨out, nd⟩
    · rw [List.flatten_cons] at hb
      rcases List.mem_cons.mp hb with z | z
      · rw [z]; exact ⟨f a rfl, e2, by rw [e1]; intro y; cases y⟩
      · exact k b z
/-- try: body except x as n: suite; the suite ends the def -/
theorem JR.tryAs (i : Nat) {cv : Value} {L : List (Str × Bool)} {mb : Res S} {G' : S → Knows} {f : S → Res γ} {mh : Exn → Res γ} (tk : Takes X W)
    (jb : ∀ (W' : WX) (pn : List (Addr × Obj)) (xe : Value → Shared → Prop), Takes (X.tr pn xe) W' → PassesOwn (model X.prog X.w) X.A X.env xe → JN (X.tr pn xe) W' (fun I H σ d => Stt I0 H0 cw mem I H σ ∧ Fr H0 d) (Stt I0 H0 ctx mem) body mb G')
    (js : ∀ (a : Addr) (oe : Obj) (ee : Exn) (d : Option Addr) (pn : List (Addr × Obj)), Zc (.ref (He.ga X.K ee.cls)) d oe → (∃ vs, oe.data = .fields vs) → (ee.cls, true) ∈ L → (d = none → ee.pay = []) → (∀ q, d = some q → ee.pay ≠ []) → JR (X.suite a ((a, oe) :: pn)) I0 H0 (fun _ _ _ _ => False) (fun _ _ _ _ => True) (Stt I0 H0 (cw.set i (some ⟨rExc a, ()⟩)) (exm X.K d ee ++ mem)) (b₀ :: suite) (mh ee) rr)
    (k : ∀ s, JR X I0 H0 W Kx (G' s) ss (f s) rr) (hL : ∀ y b, (y, b) ∈ L → PySem.W.exmOne X.K (.ref (He.ga X.K y)) cv = some b) (hc : Names X x cv) (hx : ∀ I H σ d, Stt I0 H0 cw mem I H σ → Fr H0 d → Kx I H σ d) (hN : X.N.Nodup)
    (hs : X.stack = X.env :: X.outer := by rfl) (hf : X.env.frame = some X.env.locals := by rfl) (hi : X.N[i]? = some n := by rfl) (hln : X.env.kindOf n = some .local := by rfl) (hmx : NoXd mem := by exact True.intro) :
    JR X I0 H0 W Kx (Stt I0 H0 ctx mem) (.Try body [.ExceptHandler (some (.Name x np)) (some n) (b₀ :: suite) pos'] [] [] pos :: ss) (tryM mb L mh f) rr := fun I H σ D g p => by
  refine b_cons (PS.w (ps_try_as (i := i) (tb := fun W' D σ H => ∀ pn xe, Takes (X.tr pn xe) W' → PassesOwn (model X.prog X.w) X.A X.env xe → wB (X.tr pn xe) body D σ H) (ts := fun a cls d D σ H => ∀ oe pn, Zc cls d oe → (∃ vs, oe.data = .fields vs) → wB (X.suite a ((a, oe) :: pn)) (b₀ :: suite) D σ H) hs hf hN hi hln hc tk
    (fun W' pn xe t1 t2 => ⟨fun pins s σ H D Iv h => h pn xe t1 t2 pins s Iv⟩) (fun a oe cls d pn hz hf => ⟨fun pins s σ H D Iv h => h oe pn hz hf pins s Iv⟩)) ?_)
  intro pn xe t1 t2
  refine jb _ pn xe t1 t2 I H σ _ g ?_
  cases mb with
  | ok s => exact fun I' H' σ' _ g' => k s I' H' σ' D g' p
  | stuck => exact p.elim
  | err ee =>
    intro I' H' σ' cls d hk hxr
    obtain ⟨g1, fr⟩ := hk
    obtain ⟨ec, hxr2⟩ := id hxr
    have p1 : PostR X I0 H0 W Kx (match L.lookup ee.cls with
      | some true => (match mh ee with
        | .ok y => .ok y
        | _ => .stuck)
      | some false => .err ee
      | none => .stuck) rr D := p
    cases hl : L.lookup ee.cls with
    | none => rw [hl] at p1; exact p1.elim
    | some bb =>
      rw [hl] at p1
      refine ⟨bb, by rw [ec]; exact hL _ _ (lookup_mem hl), fun hb a ha oe pn' hz hf' => ?_, fun hb => ?_⟩
      · subst hb
        rw [ec] at hz
        refine b_mono (js a oe ee d pn' hz hf' (lookup_mem hl) (fun z => by subst z; exact hxr2) (fun q z => by subst z; exact hxr2.1) I' H' _ { nx := fun _ _ => False, rt := D.rt } ((g1.set i (r := rExc a) (x := ()) rfl).exm fr hxr hmx) ?_) (fun _ _ z => z.elim) (fun _ _ z => z) (fun _ _ z => z.elim) (fun _ _ z => z.elim)
        have p2 : PostR X I0 H0 W Kx (match mh ee with
          | .ok y => .ok y
          | _ => .stuck) rr D := p1
        revert p2
        generalize mh ee = z
        intro p2
        cases z with
        | ok y => exact p2
        | err _ => exact p2.elim
        | stuck => exact p2.elim
      · subst hb
        exact p1 I' H' σ' cls d (hx _ _ _ _ g1 fr) hxr
theorem JR.tryOnly {cv : Value} {L : List (Str × Bool)} {mb : Res S} {G' : S → Knows} {f : S → Res γ} {mh : Exn → Res γ} (tk : Takes X W)
    (jb : ∀ (W' : WX) (pn : List (Addr × Obj)) (xe : Value → Shared → Prop), Takes (X.tr pn xe) W' → PassesOwn (model X.prog X.w) X.A X.env xe → JN (X.tr pn xe) W' (fun I H σ d => Stt I0 H0 cw mem I H σ ∧ Fr H0 d) (Stt I0 H0 ctx mem) body mb G')
    (js : ∀ (a : Addr) (oe : Obj) (ee : Exn) (d : Option Addr) (pn : List (Addr × Obj)), Zc (.ref (He.ga X.K ee.cls)) d oe → (∃ vs, oe.data = .fields vs) → (ee.cls, true) ∈ L → (d = none → ee.pay = []) → (∀ q, d = some q → ee.pay ≠ []) → JR (X.suite a ((a, oe) :: pn)) I0 H0 (fun _ _ _ _ => False) (fun _ _ _ _ => True) (Stt I0 H0 cw (exm X.K d ee ++ mem)) (b₀ :: suite) (mh ee) rr)
    (k : ∀ s, JR X I0 H0 W Kx (G' s) ss (f s) rr) (hL : ∀ y b, (y, b) ∈ L → PySem.W.exmOne X.K (.ref (He.ga X.K y)) cv = some b) (hc : Names X x cv) (hx : ∀ I H σ d, Stt I0 H0 cw mem I H σ → Fr H0 d → Kx I H σ d)
    (hs : X.stack = X.env :: X.outer := by rfl) (hf : X.env.frame = some X.env.locals := by rfl) (hmx : NoXd mem := by exact True.intro) :
    JR X I0 H0 W Kx (Stt I0 H0 ctx mem) (.Try body [.ExceptHandler (some (.Name x np)) none (b₀ :: suite) pos'] [] [] pos :: ss) (tryM mb L mh f) rr := fun I H σ D g p => by
  refine b_cons (PS.w (ps_try_only (tb := fun W' D σ H => ∀ pn xe, Takes (X.tr pn xe) W' → PassesOwn (model X.prog X.w) X.A X.env xe → wB (X.tr pn xe) body D σ H) (ts := fun a cls d D σ H => ∀ oe pn, Zc cls d oe → (∃ vs, oe.data = .fields vs) → wB (X.suite a ((a, oe) :: pn)) (b₀ :: suite) D σ H) hs hf hc tk
    (fun W' pn xe t1 t2 => ⟨fun pins s σ H D Iv h => h pn xe t1 t2 pins s Iv⟩) (fun a oe cls d pn hz hf => ⟨fun pins s σ H D Iv h => h oe pn hz hf pins s Iv⟩)) ?_)
  intro pn xe t1 t2
  refine jb _ pn xe t1 t2 I H σ _ g ?_
  cases mb with
  | ok s => exact fun I' H' σ' _ g' => k s I' H' σ' D g' p
  | stuck => exact p.elim
  | err ee =>
    intro I' H' σ' cls d hk hxr
    obtain ⟨g1, fr⟩ := hk
    obtain ⟨ec, hxr2⟩ := id hxr
    have p1 : PostR X I0 H0 W Kx (match L.lookup ee.cls with
      | some true => (match mh ee with
        | .ok y => .ok y
        | _ => .stuck)
      | some false => .err ee
      | none => .stuck) rr D := p
    cases hl : L.lookup ee.cls with
    | none => rw [hl] at p1; exact p1.elim
    | some bb =>
      rw [hl] at p1
      refine ⟨bb, by rw [ec]; exact hL _ _ (lookup_mem hl), fun hb a ha oe pn' hz hf' => ?_, fun hb => ?_⟩
      · subst hb
        rw [ec] at hz
        refine b_mono (js a oe ee d pn' hz hf' (lookup_mem hl) (fun z => by subst z; exact hxr2) (fun q z => by subst z; exact hxr2.1) I' H' _ { nx := fun _ _ => False, rt := D.rt } (g1.exm fr hxr hmx) ?_) (fun _ _ z => z.elim) (fun _ _ z => z) (fun _ _ z => z.elim) (fun _ _ z => z.elim)
        have p2 : PostR X I0 H0 W Kx (match mh ee with
          | .ok y => .ok y
          | _ => .stuck) rr D := p1
        revert p2
        generalize mh ee = z
        intro p2
        cases z with
        | ok y => exact p2
        | err _ => exact p2.elim
        | stuck => exact p2.elim
      · subst hb
        exact p1 I' H' σ' cls d (hx _ _ _ _ g1 fr) hxr
/-- .. where the errors have no fields -/
theorem JR.tryAsP (i : Nat) {cv : Value} {L : List (Str × Bool)} {mb : Res S} {G' : S → Knows} {f : S → Res γ} {mh : Str → Res γ} (tk : Takes X W)
    (jb : ∀ (W' : WX) (pn : List (Addr × Obj)) (xe : Value → Shared → Prop), Takes (X.tr pn xe) W' → PassesOwn (model X.prog X.w) X.A X.env xe → JN (X.tr pn xe) W' (fun I H σ d => Stt I0 H0 cw mem I H σ ∧ Fr H0 d) (Stt I0 H0 ctx mem) body mb G')
    (js : ∀ cls, (cls, true) ∈ L → ∀ (a : Addr) (oe : Obj) (pn : List (Addr × Obj)), Zc (.ref (He.ga X.K cls)) none oe → (∃ vs, oe.data = .fields vs) → JR (X.suite a ((a, oe) :: pn)) I0 H0 (fun _ _ _ _ => False) (fun _ _ _ _ => True) (Stt I0 H0 (cw.set i (some ⟨rExc a, ()⟩)) mem) (b₀ :: suite) (mh cls) rr)
    (k : ∀ s, JR X I0 H0 W Kx (G' s) ss (f s) rr) (hL : ∀ y b, (y, b) ∈ L → PySem.W.exmOne X.K (.ref (He.ga X.K y)) cv = some b) (hc : Names X x cv) (hx : ∀ I H σ d, Stt I0 H0 cw mem I H σ → Fr H0 d → Kx I H σ d) (hN : X.N.Nodup)
    (hs : X.stack = X.env :: X.outer := by rfl) (hf : X.env.frame = some X.env.locals := by rfl) (hi : X.N[i]? = some n := by rfl) (hln : X.env.kindOf n = some .local := by rfl) (hmx : NoXd mem := by exact True.intro) :
    JR X I0 H0 W Kx (Stt I0 H0 ctx mem) (.Try body [.ExceptHandler (some (.Name x np)) (some n) (b₀ :: suite) pos'] [] [] pos :: ss) (tryM mb L (fun ee => if ee.pay.isEmpty = true then mh ee.cls else .stuck) f) rr :=
  JR.tryAs i tk jb (fun a oe ee d pn hz hf hm h0 h1 => by
    cases d with
    | none =>
      have e : ee.pay.isEmpty = true := by rw [h0 rfl]; rfl
      rw [if_pos e]
      exact js ee.cls hm a oe pn hz hf
    | some q =>
      have e : ¬ ee.pay.isEmpty = true := fun z => h1 q rfl (List.isEmpty_iff.mp z)
      rw [if_neg e]
      exact fun _ _ _ _ _ p => p.elim) k hL hc hx hN hs hf hi hln hmx
theorem JR.tryOnlyP {cv : Value} {L : List (Str × Bool)} {mb : Res S} {G' : S → Knows} {f : S → Res γ} {mh : Str → Res γ} (tk : Takes X W)
    (jb : ∀ (W' : WX) (pn : List (Addr × Obj)) (xe : Value → Shared → Prop), Takes (X.tr pn xe) W' → PassesOwn (model X.prog X.w) X.A X.env xe → JN (X.tr pn xe) W' (fun I H σ d => Stt I0 H0 cw mem I H σ ∧ Fr H0 d) (Stt I0 H0 ctx mem) body mb G')
    (js : ∀ cls, (cls, true) ∈ L → ∀ (a : Addr) (oe : Obj) (pn : List (Addr × Obj)), Zc (.ref (He.ga X.K cls)) none oe → (∃ vs, oe.data = .fields vs) → JR (X.suite a ((a, oe) :: pn)) I0 H0 (fun _ _ _ _ => False) (fun _ _ _ _ => True) (Stt I0 H0 cw mem) (b₀ :: suite) (mh cls) rr)
    (k : ∀ s, JR X I0 H0 W Kx (G' s) ss (f s) rr) (hL : ∀ y b, (y, b) ∈ L → PySem.W.exmOne X.K (.ref (He.ga X.K y)) cv = some b) (hc : Names X x cv) (hx : ∀ I H σ d, Stt I0 H0 cw mem I H σ → Fr H0 d → Kx I H σ d)
    (hs : X.stack = X.env :: X.outer := by rfl) (hf : X.env.frame = some X.env.locals := by rfl) (hmx : NoXd mem := by exact True.intro) :
    JR X I0 H0 W Kx (Stt I0 H0 ctx mem) (.Try body [.ExceptHandler (some (.Name x np)) none (b₀ :: suite) pos'] [] [] pos :: ss) (tryM mb L (fun ee => if ee.pay.isEmpty = true then mh ee.cls else .stuck) f) rr :=
  JR.tryOnly tk jb (fun a oe ee d pn hz hf hm h0 h1 => by
    cases d with
    | none =>
      have e : ee.pay.isEmpty = true := by rw [h0 rfl]; rfl
      rw [if_pos e]
      exact js ee.cls hm a oe pn hz hf
    | some q =>
      have e : ¬ ee.pay.isEmpty = true := fun z => h1 q rfl (List.isEmpty_iff.mp z)
      rw [if_neg e]
      exact fun _ _ _ _ _ p => p.elim) k hL hc hx hs hf hmx
end
end L2.Tr

namespace L2.Tr
open PySem PySem.Spec PyProof.Rows
section
variable {α β γ δ S : Type} {X : Cx} {I0 H0 : Hp} {W : WX} {Kx : KnowsX} {G : Knows} {ctx cw : List (Option SF)} {mem : List MF} {e a b c o : Expr} {es bs : List Expr} {pos pos' np : Pos} {n x : Str} {ra : Ra α} {rb : Ra β} {rc : Ra γ} {ma : Res α} {mb : Res β}
/-! ### the start of a def -/
def IniR (I : Hp) : List V → List (Option SF) → Prop
  | [], c => ∀ (i : Nat) (sf : SF), c[i]? ≠ some (some sf)
  | v :: vs, some sf :: c => sf.r I v sf.x ∧ IniR I vs c
  | _ :: _, _ => False
theorem IniR.get {I : Hp} : ∀ {vs : List V} {c : List (Option SF)} {n : Nat}, IniR I vs c → ∀ (i : Nat) (sf : SF), c[i]? = some (some sf) → ∃ v, (vs.map some ++ List.replicate n none)[i]? = some (some v) ∧ sf.r I v sf.x
  | [], c, n, h, i, sf, e => (h i sf e).elim
  | v :: vs, some sf' :: c, n, ⟨a, b⟩, 0, sf, e => by
    have e' : sf' = sf := by simpa using e
    subst e'
    exact ⟨v, by simp, a⟩
  | v :: vs, some sf' :: c, n, ⟨a, b⟩, i + 1, sf, e => by
    have e' : c[i]? = some (some sf) := by simpa using e
    obtain ⟨u, h1, h2⟩ := IniR.get (n := n) b i sf e'
    exact ⟨u, by simpa using h1, h2⟩
  | _ :: _, none :: _, _, h, _, _, _ => h.elim
  | _ :: _, [], _, h, _, _, _ => h.elim
theorem Stt.start {N : List Str} {vs : List V} (sm : Same I0 H0) (h : IniR I0 vs ctx) (hl : ctx.length = N.length) (hv : vs.length ≤ N.length) : Stt I0 H0 ctx [] I0 H0 (L2.start N vs) := by
  refine ⟨Fm.refl sm, ?_, fun i sf e => IniR.get h i sf e, [], True.intro, by simp, fun a ha => by simp at ha⟩
  unfold L2.start
  rw [List.length_append, List.length_map, List.length_replicate, hl]
  omega
theorem ini_nil {I : Hp} {c : List (Option SF)} (h : c.all (·.isNone) = true) : IniR I [] c := fun i sf e => by
  have := List.all_eq_true.mp h _ (List.mem_of_getElem? e)
  cases this
/-! ### promises, once more -/
theorem FnR.nice {P : Program} {w : World} {K : PySem.W.Frag} {mg : Str → Option Value} {base : Heap} {k : Nat} {f : Addr} {R : Hp → Hp → List V → δ → Prop} {m m' : δ → Res γ} (F : FnR P w K mg base (L2.CX P w) k f (spF K R m rc)) (h : ∀ d, m' d = .stuck ∨ m' d = m d) :
    FnR P w K mg base (L2.CX P w) k f (spF K R m' rc) := F.imp fun vs H Q E ⟨I, d, s, r, p⟩ => ⟨I, d, s, r, by
  rcases h d with e | e
  · rw [show m' d = _ from e] at p; exact p.elim
  · rw [← e]; exact p⟩
theorem FnOk.fr {P : Program} {w : World} {K : PySem.W.Frag} {mg : Str → Option Value} {base : Heap} {k : Nat} {f : Addr} {fd : FuncData} {ps : List Str} {ds : List Value} {dvs : List V} {δ' : Type} {R : Hp → Hp → List V → δ → Prop} {R' : Hp → Hp → List V → δ' → Prop} {m : δ → Res γ} {h : δ' → δ} (F : FnOk P w K mg base (L2.CX P w) k f fd ps (spF K R m rc)) (hb : Binds K fd ps ds) (hd : Vals dvs ds)
    (hR : ∀ I H vs d, R' I H vs d → R I H (vs ++ dvs) (h d)) : FnR P w K mg base (L2.CX P w) k f (spF K R' (fun d => m (h d)) rc) := (FnOk.raw F hb hd).imp fun vs H Q E ⟨I, d, s, r, p⟩ => ⟨I, h d, s, hR _ _ _ _ r, p⟩
theorem FnOk.fr0 {P : Program} {w : World} {K : PySem.W.Frag} {mg : Str → Option Value} {base : Heap} {k : Nat} {f : Addr} {fd : FuncData} {ps : List Str} {R : Hp → Hp → List V → δ → Prop} {m : δ → Res γ} (F : FnOk P w K mg base (L2.CX P w) k f fd ps (spF K R m rc)) (hb : Binds K fd ps []) :
    FnR P w K mg base (L2.CX P w) k f (spF K R m rc) := (FnOk.raw F hb .nil).imp fun vs H Q E h => by rw [List.append_nil]; exact h
/-! ### the types of things -/
theorem tyr_int {K : PySem.W.Frag} {t : String} {g : Bool} (h : kitB "int" t = some g) : TyR K (rp rInt) (.type t) (fun _ => g) := fun I H v x _ e => ⟨.type "int", by rw [show v = _ from e]; exact .base (.int _), kit_ty h⟩
theorem tyr_intC {K : PySem.W.Frag} {C : Addr} {g : Bool} (h : PySem.W.kitOne K (.type "int") (.ref C) = some g) : TyR K (rp rInt) (.ref C) (fun _ => g) := fun I H v x _ e => ⟨.type "int", by rw [show v = _ from e]; exact .base (.int _), h⟩
theorem tyr_ins {K : PySem.W.Frag} {C : Addr} {u : Value} {g : Bool} (hc : OCls K C) (ia : InsR C ra) (h : PySem.W.kitOne K (.ref C) u = some g) : TyR K ra u (fun _ => g) := fun I H v x s e => by
  obtain ⟨a, dx, fs, rfl, ha⟩ := ia I H v x s e
  exact ⟨.ref C, .base (.ins ha hc.cl hc.ca hc.cn hc.ct hc.cm), h⟩
theorem insF {K : PySem.W.Frag} : InsR (He.ga K "Fraction") (rp (rFrac K)) := fun I H v x s ⟨a, dx, e, h⟩ => ⟨a, dx, _, e, s _ _ h⟩
theorem tyr_num {K : PySem.W.Frag} {u : Value} {g1 g2 : Bool} (h1 : TyR K (rp rInt) u fun _ => g1) (h2 : TyR K (rp (rFrac K)) u fun _ => g2) : TyR K (rp (rNum K)) u (fun x => match x with | .i _ => g1 | .q _ => g2) := fun I H v x s e => by
  cases x with
  | i n => exact h1 I H v n s e
  | q r => exact h2 I H v r s e
theorem w_glob_at {C : Addr} (hm : X.mg n = some (.ref C)) (hg : Gl X n) (hd : (n == ("__debug__" : Str)) = false) (σ : St) (H : Hp) (Q : VK) (h : Q (.ref C) H) : wE X (.Name n pos) σ H Q := w_glob h hm rfl hg hd
theorem w_type_at {t : String} (hm : X.mg n = none) (hv : bootBuiltins n = some (.type t)) (hg : Gl X n) (hn : n ≠ "__name__") (hd : (n == ("__debug__" : Str)) = false) (σ : St) (H : Hp) (Q : VK) (h : Q (.ty t) H) : wE X (.Name n pos) σ H Q := w_bltn h hm hv rfl hg hn hd
/-! ### fields of a Fraction -/
theorem fld_top {K : PySem.W.Frag} : FldOf K (He.ga K "Fraction") (rp (rFrac K)) "top" (fun q => q.num) (rp rInt) := fun I H v x s ⟨a, dx, e, h⟩ => ⟨a, dx, _, .int x.num, e, s _ _ h, rfl, rfl⟩
theorem fld_bottom {K : PySem.W.Frag} : FldOf K (He.ga K "Fraction") (rp (rFrac K)) "bottom" (fun q => (q.den : Int)) (rp rInt) := fun I H v x s ⟨a, dx, e, h⟩ => ⟨a, dx, _, .int (x.den : Int), e, s _ _ h, rfl, rfl⟩
theorem insOfF {K : PySem.W.Frag} {m : Str} (h1 : (m == ("top" : Str)) = false := by decide +kernel) (h2 : (m == ("bottom" : Str)) = false := by decide +kernel) : InsOf (He.ga K "Fraction") (rp (rFrac K)) m := fun I H v x s ⟨a, dx, e, h⟩ => ⟨a, dx, _, e, s _ _ h, by
  show (match m == ("top" : Str) with | true => _ | false => (match m == ("bottom" : Str) with | true => _ | false => none)) = none
  rw [h1, h2]⟩
/-! ### operators of Fractions, ints and both -/
variable {f f' : Addr} {k k' : Nat} {g : Rat × Num × Unit → Res γ} {g' : Rat × Int × Unit → Res γ}
theorem opj_qq {op : Operator} (hc : OCls X.K (He.ga X.K "Fraction")) (hm : OMet X.K (He.ga X.K "Fraction") (PySem.dunder op.info.2) f) (F : FnR X.prog X.w X.K X.mg X.base (L2.CX X.prog X.w) k f (spF X.K (R2' (rp (rFrac X.K)) (rp (rNum X.K))) g rc)) (hr : Room k X.A) (tk : Takes X W) :
    OpJ X W (binaryOp op) (rp (rFrac X.K)) (rp (rFrac X.K)) (fun x y => g (x, .q y, ())) rc := opj_own (g := fun d => g (d.1, .q d.2.1, ())) hc hm insF insF ((cj_of F hr tk).co fun I H vs d _ h => h)
theorem opj_qi {op : Operator} {fo ro : Option Value} (hc : OCls X.K (He.ga X.K "Fraction")) (hm : OMet X.K (He.ga X.K "Fraction") (PySem.dunder op.info.2) f) (hm' : OMet X.K (He.ga X.K "Fraction") (dunderR op.info.2) f') (h1 : PySem.W.findIn X.K (.type "int") (PySem.dunder op.info.2) = some fo) (h2 : PySem.W.findIn X.K (.type "int") (dunderR op.info.2) = some ro)
    (F : FnR X.prog X.w X.K X.mg X.base (L2.CX X.prog X.w) k f (spF X.K (R2' (rp (rFrac X.K)) (rp (rNum X.K))) g rc)) (hr : Room k X.A) (tk : Takes X W) :
    OpJ X W (binaryOp op) (rp (rFrac X.K)) (rp rInt) (fun x y => g (x, .i y, ())) rc := opj_ownI (g := fun d => g (d.1, .i d.2.1, ())) hc hm hm' h1 h2 insF ((cj_of F hr tk).co fun I H vs d _ h => h)
theorem opj_qn {f : Value → Value → Sem Value} {g : Rat × Num × Unit → Res γ} (h1 : OpJ X W f (rp (rFrac X.K)) (rp (rFrac X.K)) (fun x y => g (x, .q y, ())) rc) (h2 : OpJ X W f (rp (rFrac X.K)) (rp rInt) (fun x y => g (x, .i y, ())) rc) :
    OpJ X W f (rp (rFrac X.K)) (rp (rNum X.K)) (fun x y => g (x, y, ())) rc := fun I H σ Q u v x y s a b p => by
  cases y with
  | i n => exact h2 I H σ Q u v x n s a b p
  | q r => exact h1 I H σ Q u v x r s a b p
theorem opj_cqq {op : CmpOp} (hop : ∀ a b, compareOp op a b = richCompare op a b) (hc : OCls X.K (He.ga X.K "Fraction")) (hm : OMet X.K (He.ga X.K "Fraction") (cmpInfo op).2.1 f) (hn : PySem.W.notFirst X.K (He.ga X.K "Fraction") (.ref (He.ga X.K "Fraction")) = true) (F : FnR X.prog X.w X.K X.mg X.base (L2.CX X.prog X.w) k f (spF X.K (R2' (rp (rFrac X.K)) (rp (rNum X.K))) g rc)) (hr : Room k X.A) (tk : Takes X W) :
    OpJ X W (compareOp op) (rp (rFrac X.K)) (rp (rFrac X.K)) (fun x y => g (x, .q y, ())) rc := opj_cmp (g := fun d => g (d.1, .q d.2.1, ())) hop hc hm hr.units0 hn insF insF ((cj_of F hr tk).co fun I H vs d _ h => h)
theorem opj_cqi {op : CmpOp} (hop : ∀ a b, compareOp op a b = richCompare op a b) (hc : OCls X.K (He.ga X.K "Fraction")) (hm : OMet X.K (He.ga X.K "Fraction") (cmpInfo op).2.1 f) (hn : PySem.W.notFirst X.K (He.ga X.K "Fraction") (.type "int") = true) (F : FnR X.prog X.w X.K X.mg X.base (L2.CX X.prog X.w) k f (spF X.K (R2' (rp (rFrac X.K)) (rp (rNum X.K))) g rc)) (hr : Room k X.A) (tk : Takes X W) :
    OpJ X W (compareOp op) (rp (rFrac X.K)) (rp rInt) (fun x y => g (x, .i y, ())) rc := opj_cmpI (g := fun d => g (d.1, .i d.2.1, ())) hop hc hm hr.units0 hn insF ((cj_of F hr tk).co fun I H vs d _ h => h)
theorem opj_ciq {op : CmpOp} {sl id : String} {gi : Int → Int → Sem Fin} (hop : ∀ a b, compareOp op a b = richCompare op a b) (hc : OCls X.K (He.ga X.K "Fraction")) (hm : OMet X.K (He.ga X.K "Fraction") (cmpInfo op).2.2 f) (slot : Slot "int" (cmpInfo op).2.1 id) (entry : entryFor table id = some (Builtin.Int.intBinary sl gi)) (args : ∀ a b, argsOk id ⟨[a, b], []⟩)
    (F : FnR X.prog X.w X.K X.mg X.base (L2.CX X.prog X.w) k f (spF X.K (R2' (rp (rFrac X.K)) (rp (rNum X.K))) g rc)) (hr : Room k X.A) (tk : Takes X W) :
    OpJ X W (compareOp op) (rp rInt) (rp (rFrac X.K)) (fun x y => g (y, .i x, ())) rc := opj_cmpR (g := fun d => g (d.1, .i d.2.1, ())) hop hc hm hr.units0 slot entry args insF ((cj_of F hr tk).co fun I H vs d _ h => h)
variable {gb : Rat × Num × Unit → Res Bool}
theorem opj_neqq (hc : OCls X.K (He.ga X.K "Fraction")) (hm : OMet X.K (He.ga X.K "Fraction") "__eq__" f) (hn : PySem.W.notFirst X.K (He.ga X.K "Fraction") (.ref (He.ga X.K "Fraction")) = true) (F : FnR X.prog X.w X.K X.mg X.base (L2.CX X.prog X.w) k f (spF X.K (R2' (rp (rFrac X.K)) (rp (rNum X.K))) gb (rp rBl))) (hr : Room (k + 1) X.A) (tk : Takes X W) :
    OpJ X W (compareOp .NotEq) (rp (rFrac X.K)) (rp (rFrac X.K)) (fun x y => (gb (x, .q y, ())).bind fun z => .ok (!z)) (rp rBl) := opj_neO (g := fun d => gb (d.1, .q d.2.1, ())) hc hm hr tk hn insF insF (F.imp fun vs H Q E ⟨I, d, s, r, p⟩ => ⟨I, (d.1, .q d.2.1, ()), s, r, p⟩)
theorem opj_neqi (hc : OCls X.K (He.ga X.K "Fraction")) (hm : OMet X.K (He.ga X.K "Fraction") "__eq__" f) (hn : PySem.W.notFirst X.K (He.ga X.K "Fraction") (.type "int") = true) (F : FnR X.prog X.w X.K X.mg X.base (L2.CX X.prog X.w) k f (spF X.K (R2' (rp (rFrac X.K)) (rp (rNum X.K))) gb (rp rBl))) (hr : Room (k + 1) X.A) (tk : Takes X W) :
    OpJ X W (compareOp .NotEq) (rp (rFrac X.K)) (rp rInt) (fun x y => (gb (x, .i y, ())).bind fun z => .ok (!z)) (rp rBl) := opj_neI (g := fun d => gb (d.1, .i d.2.1, ())) hc hm hr tk hn insF (F.imp fun vs H Q E ⟨I, d, s, r, p⟩ => ⟨I, (d.1, .i d.2.1, ()), s, r, p⟩)
theorem opj_neiq (hc : OCls X.K (He.ga X.K "Fraction")) (hm : OMet X.K (He.ga X.K "Fraction") "__eq__" f) (F : FnR X.prog X.w X.K X.mg X.base (L2.CX X.prog X.w) k f (spF X.K (R2' (rp (rFrac X.K)) (rp (rNum X.K))) gb (rp rBl))) (hr : Room (k + 1) X.A) (tk : Takes X W) :
    OpJ X W (compareOp .NotEq) (rp rInt) (rp (rFrac X.K)) (fun x y => (gb (y, .i x, ())).bind fun z => .ok (!z)) (rp rBl) := opj_neRI (g := fun d => gb (d.1, .i d.2.1, ())) hc hm hr tk insF (F.imp fun vs H Q E ⟨I, d, s, r, p⟩ => ⟨I, (d.1, .i d.2.1, ()), s, r, p⟩)
/-! ### isinstance of a caught error without fields, within the suite -/
theorem JE.isE {ad : Addr} {oe : Obj} {pn : List (Addr × Obj)} {D : Addr} {u : Value} {cv : V} {bb : Bool} (hz : Zc (.ref D) none oe) (hf : ∃ vs, oe.data = .fields vs) (C : ExcC X.K D) (hk : PySem.W.kitOne X.K (.ref D) u = some bb) (j : JE (X.suite ad ((ad, oe) :: pn)) I0 H0 W ctx mem a (.ok ()) (rp (rExc ad))) (jc : ∀ σ H Q, Q cv H → wE (X.suite ad ((ad, oe) :: pn)) b σ H Q) (hc : ClsV cv u) (hm : X.mg "isinstance" = none) (hg : Gl (X.suite ad ((ad, oe) :: pn)) "isinstance" := by rfl)
    (hs : starEach [a, b] X.env = (false, eval a X.env) :: starEach [b] X.env := by rfl) (hs2 : starEach [b] X.env = (false, eval b X.env) :: starEach [] X.env := by rfl) (hpl : (backTo pos (starEach [b] X.env)).any (·.1) = false := by rfl) :
    JE (X.suite ad ((ad, oe) :: pn)) I0 H0 W ctx mem (.Call (.Name "isinstance" pos') [a, b] [] pos) (.ok bb) (rp rBl) := fun I H σ Q st p => by
  refine w_callB (id := "isinstance") (Tr.w_cons (j I H σ _ st ?_) hs) hm (by decide +kernel) hg (by decide) (by decide) hs hpl
  intro I1 H1 v f1 r1
  cases (show v = V.ref ad from r1)
  refine Tr.w_cons (jc σ H1 _ (w_nil ?_)) hs2
  exact CallR.w (call_isE C hz hf) ⟨cv, u, bb, rfl, fun w hw => hc.eq hw, hk, p I1 H1 _ f1 rfl⟩
end
/-! ### C(..) as a promise -/
def MkR {γ δ : Type} (P : Program) (w : World) (K : PySem.W.Frag) (mg : Str → Option Value) (base : Heap) (k : Nat) (C : Addr) (R : Hp → Hp → List V → δ → Prop) (m : δ → Res γ) (r : Ra γ) : Prop :=
  ∀ (X : Cx) (W : WX), X.prog = P → X.w = w → X.K = K → X.mg = mg → X.base = base → Room k X.A → Takes X W → CallJ X W (.ref C) R m r
theorem MkR.nice {γ δ : Type} {P : Program} {w : World} {K : PySem.W.Frag} {mg : Str → Option Value} {base : Heap} {k : Nat} {C : Addr} {R : Hp → Hp → List V → δ → Prop} {m m' : δ → Res γ} {r : Ra γ} (F : MkR P w K mg base k C R m r) (h : ∀ d, m' d = .stuck ∨ m' d = m d) : MkR P w K mg base k C R m' r := fun X W e1 e2 e3 e4 e5 hr tk I H σ Q vs d s a p => by
  refine F X W e1 e2 e3 e4 e5 hr tk I H σ Q vs d s a ?_
  rcases h d with e | e
  · rw [show m' d = _ from e] at p; exact p.elim
  · rw [← e]; exact p
theorem MkR.mono {γ δ : Type} {P : Program} {w : World} {K : PySem.W.Frag} {mg : Str → Option Value} {base : Heap} {j k : Nat} {C : Addr} {R : Hp → Hp → List V → δ → Prop} {m : δ → Res γ} {r : Ra γ} (F : MkR P w K mg base j C R m r) (h : j ≤ k) : MkR P w K mg base k C R m r := fun X W e1 e2 e3 e4 e5 hr tk => F X W e1 e2 e3 e4 e5 (hr.mono h) tk
theorem mkR_of {γ δ δ' : Type} {P : Program} {w : World} {K : PySem.W.Frag} {mg : Str → Option Value} {base : Heap} {k : Nat} {C f : Addr} {fd : FuncData} {ps : List Str} {ds : List Value} {dvs : List V} {R : Hp → Hp → List V → δ → Prop} {R' : Hp → Hp → List V → δ' → Prop} {m : δ → Res γ} {h : δ' → δ} {r : Ra γ} (M : Mk K C f) (F : FnOk P w K mg base (L2.CX P w) k f fd ps (spI K C R m r)) (hb : Binds K fd ps ds) (hd : Vals dvs ds)
    (hR : ∀ I H vs d, R' I H vs d → R I H (vs ++ dvs) (h d)) : MkR P w K mg base (k + 1) C R' (fun d => m (h d)) r := fun X W e1 e2 e3 e4 e5 hr tk => by
  subst e1; subst e2; subst e3; subst e4; subst e5
  exact cj_make (R' := R') (m := fun d => m (h d)) (R := fun I H vs d => R I H vs (h d)) M (F.imp fun vs H Q E ⟨x, dx, ws, H0, I, d, a1, a2, a3, a4, a5, a6, a7, a8⟩ => ⟨x, dx, ws, H0, I, h d, a1, a2, a3, a4, a5, a6, a7, a8⟩) hr hb hd tk hR
def fExm (x y : Str) (b : Bool) : FB := fun K => (He.Fa.exm x y b).ok K
theorem exm_of {K : PySem.W.Frag} {x y : Str} {b : Bool} (c : fExm x y b K = true) : PySem.W.exmOne K (.ref (He.ga K x)) (.ref (He.ga K y)) = some b := He.exm_ok c
def fExcC (x : Str) : FB := fun K => He.eqO (PySem.W.findIn K (.ref (He.ga K x)) "__getattribute__") (some (some (.builtin "BaseException.__getattribute__"))) && (He.eqO (PySem.W.findIn K (.ref (He.ga K x)) "__getattr__") (some none) && (decide (PySem.W.subIn K (.ref (He.ga K x)) (.type "BaseException") = some true) && (PySem.W.hasDictIn K (He.ga K x) &&
  (He.eqO (PySem.W.findIn K (.ref (He.ga K x)) "__class__") (some (some (.builtin "object.__class__"))) && (He.eqO (PySem.W.specialIn K (.builtin "object.__class__") "__get__") (some (some (.builtin "getset_descriptor.__get__"))) && (decide (PySem.W.takesIn K (.builtin "object.__class__") = some true) && decide (PySem.W.mroIn K (He.ga K x) (.type "object") = some true)))))))
theorem excC_of {K : PySem.W.Frag} {x : Str} (c : fExcC x K = true) : ExcC K (He.ga K x) := by
  obtain ⟨c1, c⟩ := He.ba c
  obtain ⟨c2, c⟩ := He.ba c
  obtain ⟨c3, c⟩ := He.ba c
  obtain ⟨c4, c⟩ := He.ba c
  obtain ⟨c5, c⟩ := He.ba c
  obtain ⟨c6, c⟩ := He.ba c
  obtain ⟨c7, c8⟩ := He.ba c
  exact ⟨He.eqO_ok c1, He.eqO_ok c2, of_decide_eq_true c3, c4, He.eqO_ok c5, He.eqO_ok c6, of_decide_eq_true c7, of_decide_eq_true c8⟩
section
variable {S γ : Type} {X : Cx} {I0 H0 : Hp} {W : WX} {Kx : KnowsX} {ctx : List (Option SF)} {mem : List MF} {pos : Pos}
theorem J1.raiseP {x m : Str} {j : Nat} {p1 p2 p3 : Pos} {G' : S → Knows} (hc : X.calm = true) (tk : Takes X W) (ep : ExcP X.K X.mg x) (hx : ∀ I H σ d, Stt I0 H0 ctx mem I H σ → Fr H0 d → Kx I H σ d) (hg : Gl X x := by rfl) (hdb : (x == ("__debug__" : Str)) = false := by decide) :
    J1 X W Kx (Stt I0 H0 ctx mem) (.Raise (some (.Call (.Name x p1) [.Constant (.str m) j p2] [] p3)) none pos) (.err ⟨x, []⟩ : Res S) G' := fun I H σ D g p => by
  refine s_raise hc tk (pmk_own PySem.F.excBase_ValueError ep.ex ep.gl ep.kp (raises_own ep.bs ep.ty) hg hdb) ?_
  exact p I H σ _ none (hx _ _ _ _ g fun _ z => nomatch z) ⟨rfl, rfl⟩
end
end L2.Tr

namespace L2.Tr
open PySem PySem.Spec PyProof.Rows
section
variable {α β γ δ ε : Type} {X : Cx} {I0 H0 : Hp} {W : WX} {ctx : List (Option SF)} {mem : List MF} {e a b c o : Expr} {es bs : List Expr} {kws : List Keyword} {pos pos' kpos : Pos} {n x : Str} {nm : Option Str} {ra : Ra α} {rb : Ra β} {rc : Ra γ} {ma : Res α} {mb : Res β}
/-! ### keywords -/
def JK (X : Cx) (I0 H0 : Hp) (W : WX) (ctx : List (Option SF)) (mem : List MF) (kws : List Keyword) (m : Res δ) (R : Hp → Hp → List V → δ → Prop) : Prop :=
  ∀ (pos : Pos) (I H : Hp) (σ : St) (Q : List V → Hp → Prop), Stt I0 H0 ctx mem I H σ → (match m with
    | .ok a => ∀ I' H' vs, Fm I H I' H' → R I' H' vs a → Q vs H'
    | .err e => ∀ I' H' cls d, Fm I H I' H' → Fr H d ∧ ExR X.K I' H' e cls d → W cls d σ H'
    | .stuck => False) → ∀ (pins : List (Addr × Obj)) (s : Shared), Inv X pins σ H s → wpAny (model X.prog X.w) X.A (evalAll ((backToKw pos (keywordEach kws X.env)).map (·.2))) (AP X pins σ Q) X.xe s
theorem JK.nil : JK X I0 H0 W ctx mem [] (.ok ()) aNil := fun pos I H σ Q st p pins s Iv => wpAny_evalAll_nil ⟨[], H, Iv, .nil, p I H [] (Fm.refl st.same) rfl⟩
theorem JK.cons {R : Hp → Hp → List V → δ → Prop} {m : Res δ} [MoA ra] (j : JE X I0 H0 W ctx mem e ma ra) (k : JK X I0 H0 W ctx mem kws m R) : JK X I0 H0 W ctx mem (⟨nm, e, kpos⟩ :: kws) (ma.bind fun x => m.bind fun y => .ok (x, y)) (aCons ra R) := fun pos I H σ Q st p pins s Iv => by
  show wpAny _ _ (evalAll ((do let v ← eval e X.env; standAt pos; pure v) :: (backToKw pos (keywordEach kws X.env)).map (·.2))) _ _ s
  refine wpAny_evalAll_cons (wpAny_bind (thn (j I H σ (fun v H1 => ∀ pins s1 u, Inv X pins σ H1 s1 → RelV v u → wpAny (model X.prog X.w) X.A (evalAll ((backToKw pos (keywordEach kws X.env)).map (·.2))) (fun us s2 => AP X pins σ Q (u :: us) s2) X.xe s1) st ?_ pins s Iv) fun u s1 ⟨v, H1, I1, r1, q1⟩ => wpAny_bind (wpAny_standAt (wpAny_pure (q1 pins s1 u I1 r1)))))
  cases ma with
  | ok x =>
    intro I1 H1 v f1 r1 pins s1 u Iv1 ru
    refine thn (k pos I1 H1 σ (fun vs H2 => Q (v :: vs) H2) (st.step f1) ?_ pins s1 Iv1) fun us s2 ⟨vs, H2, I2, r2, q2⟩ => ⟨v :: vs, H2, I2, .cons ru r2, q2⟩
    cases m with
    | ok y => exact fun I2 H2 vs f2 r2 => p I2 H2 _ (f1.trans f2) ⟨v, vs, rfl, MoA.up f2.i f2.h r1, r2⟩
    | err e => exact fun I2 H2 c d f2 x => p I2 H2 c d (f1.trans f2) ⟨x.1.back f1.h, x.2⟩
    | stuck => exact p
  | err e => exact p
  | stuck => exact p
def callKW (X : Cx) (f : Value) (ks : List Str) (σ : St) (xs zs : List V) (H : Hp) (Q : VK) : Prop := ∀ (pins : List (Addr × Obj)) (s : Shared) (us ws : List Value), Inv X pins σ H s → Vals xs us → Vals zs ws → wpAny (model X.prog X.w) X.A (call f us (ks.zip ws)) (EP X pins σ Q) X.xe s
def CallKJ (X : Cx) (W : WX) (f : Value) (ks : List Str) (R : Hp → Hp → List V → δ → Prop) (R' : Hp → Hp → List V → ε → Prop) (g : δ → ε → Res γ) (rc : Ra γ) : Prop :=
  ∀ (I H : Hp) (σ : St) (Q : VK) (vs zs : List V) (x : δ) (y : ε), Same I H → R I H vs x → R' I H zs y → PostE X.K (g x y) rc I H (fun cls d H' => W cls d σ H') Q → callKW X f ks σ vs zs H Q
class MoR {δ : Type} (R : Hp → Hp → List V → δ → Prop) : Prop where
  up : ∀ {I H I' H' : Hp} {vs : List V} {x : δ}, Same I I' → Same H H' → R I H vs x → R I' H' vs x
instance : MoR aNil := ⟨fun _ _ h => h⟩
instance {r : Ra α} {R : Hp → Hp → List V → δ → Prop} [m : MoA r] [m' : MoR R] : MoR (aCons r R) := ⟨fun a b ⟨v, ws, e, h, h'⟩ => ⟨v, ws, e, m.up a b h, m'.up a b h'⟩⟩
variable {R : Hp → Hp → List V → δ → Prop} {R' : Hp → Hp → List V → ε → Prop} {md : Res δ} {me : Res ε} {g : δ → ε → Res γ} {ks : List Str}
theorem JE.callK {f : Addr} [MoR R] (ja : JA X I0 H0 W ctx mem (e :: es) md R) (jk : JK X I0 H0 W ctx mem kws me R') (cj : CallKJ X W (.ref f) ks R R' g rc) (hm : X.mg n = some (.ref f)) (hk : PySem.W.keepIn X.K (.ref f) = true) (hg : Gl X n := by rfl) (hdb : (n == ("__debug__" : Str)) = false := by decide)
    (hall : (backToKw pos (keywordEach kws X.env)).all (·.1.isSome) = true := by rfl) (hks : (backToKw pos (keywordEach kws X.env)).filterMap (·.1) = ks := by rfl) (he : starEach (e :: es) X.env = (false, eval e X.env) :: starEach es X.env := by rfl)
    (hpl : ((backTo pos (starEach (e :: es) X.env)).any (·.1) || (backToKw pos (keywordEach kws X.env)).any (·.1.isNone)) = false := by rfl) : JE X I0 H0 W ctx mem (.Call (.Name n pos') (e :: es) kws pos) (md.bind fun x => me.bind fun y => g x y) rc := fun I H σ Q st p pins s Iv => by
  refine wpAny_Call_Name_kw (ld_glob Iv hg hm ?_ hdb)
  refine PySem.W.callWith_KW (h₀ := X.base) Iv.ok.mod.kin hk hall (thn (ja I H σ (fun vs H1 => ∀ pins s1 us, Inv X pins σ H1 s1 → Vals vs us → wpAny (model X.prog X.w) X.A (evalAll ((backToKw pos (keywordEach kws X.env)).map (·.2))) (fun ws s2 => X.K.In s2.heap ∧ wpAny (model X.prog X.w) X.A (PySem.call (.ref f) us (ks.zip ws)) (EP X pins σ Q) X.xe s2) X.xe s1) st ?_ pos pins s Iv) fun us s1 ⟨vs, H1, I1, r1, q1⟩ => ?_) hpl he
  · cases md with
    | ok x =>
      intro I1 H1 vs f1 r1 pins s1 us Iv1 ru
      have p1 := PostE.up p f1
      refine thn (jk pos I1 H1 σ (fun zs H2 => callKW X (.ref f) ks σ vs zs H2 Q) (st.step f1) ?_ pins s1 Iv1) fun ws s2 ⟨zs, H2, I2, r2, q2⟩ => ⟨I2.kIn, q2 pins s2 us ws I2 ru r2⟩
      cases me with
      | ok y => exact fun I2 H2 zs f2 r2 => cj I2 H2 σ Q vs zs x y f2.ih (MoR.up f2.i f2.h r1) r2 (PostE.up p1 f2)
      | err e => exact p1
      | stuck => exact p1
    | err e => exact p
    | stuck => exact p
  · refine thn (q1 pins s1 us I1 r1) fun ws s2 h => ?_
    rw [hks]
    exact h
theorem JE.callK0 {f : Addr} {g : Unit → ε → Res γ} (jk : JK X I0 H0 W ctx mem kws me R') (cj : CallKJ X W (.ref f) ks aNil R' g rc) (hm : X.mg n = some (.ref f)) (hk : PySem.W.keepIn X.K (.ref f) = true) (hg : Gl X n := by rfl) (hdb : (n == ("__debug__" : Str)) = false := by decide)
    (hall : (backToKw pos (keywordEach kws X.env)).all (·.1.isSome) = true := by rfl) (hks : (backToKw pos (keywordEach kws X.env)).filterMap (·.1) = ks := by rfl)
    (hpl : ((backTo pos (starEach [] X.env)).any (·.1) || (backToKw pos (keywordEach kws X.env)).any (·.1.isNone)) = false := by rfl) : JE X I0 H0 W ctx mem (.Call (.Name n pos') [] kws pos) (me.bind fun y => g () y) rc := fun I H σ Q st p pins s Iv => by
  refine wpAny_Call_Name_kw (ld_glob Iv hg hm ?_ hdb)
  refine PySem.W.callWith_KW0 (h₀ := X.base) Iv.ok.mod.kin hk hall ?_ hpl
  rw [hks]
  refine thn (jk pos I H σ (fun zs H2 => callKW X (.ref f) ks σ [] zs H2 Q) st ?_ pins s Iv) fun ws s2 ⟨zs, H2, I2, r2, q2⟩ => ⟨I2.kIn, q2 pins s2 [] ws I2 .nil r2⟩
  cases me with
  | ok y => exact fun I2 H2 zs f2 r2 => cj I2 H2 σ Q [] zs () y f2.ih rfl r2 (PostE.up p f2)
  | err e => exact p
  | stuck => exact p
/-- C(.., k = v): how it binds gives the promise of __init__ -/
theorem cjk_make {k n : Nat} {C f : Addr} {fd : FuncData} {ps : List Str} {gg : List Value → List Value → List Value} {gV : List V → List V → List V} {η : Type} {Ri : Hp → Hp → List V → η → Prop} {m : η → Res γ} {h : δ → ε → η} (M : Mk X.K C f) (F : FnOk X.prog X.w X.K X.mg X.base (L2.CX X.prog X.w) k f fd ps (spI X.K C Ri m rc)) (hr : Room (k + 1) X.A)
    (hb : KBn X.K fd ps (n + 1) ks gg gV) (tk : Takes X W) (hR : ∀ I H vs zs x y, R I H vs x → R' I H zs y → vs.length = n ∧ zs.length = ks.length ∧ ∀ v, ∃ ws, gV (v :: vs) zs = v :: ws ∧ Ri I H ws (h x y)) : CallKJ X W (.ref C) ks R R' (fun x y => m (h x y)) rc := fun I H σ Q vs zs x y sm r r' p pins s us ws Iv rv rz => by
  obtain ⟨l1, l2, hw⟩ := hR I H vs zs x y r r'
  have n1 := Iv.hok.fresh (Nat.le_succ s.heap.objs.size)
  have n2 := Iv.hok.fresh (Nat.le_refl s.heap.objs.size)
  have n3 := Nat.ne_of_lt (Nat.lt_succ_self s.heap.objs.size)
  obtain ⟨wv, ew, hRi⟩ := hw (.ref (s.heap.objs.size + 1))
  have hq : spI X.K C Ri m rc (gV (.ref (s.heap.objs.size + 1) :: vs) zs) (upd (upd H s.heap.objs.size (.own (s.heap.objs.size + 1))) (s.heap.objs.size + 1) (.ins C s.heap.objs.size [])) (fun v H2 => v = .non ∧ Q (.ref (s.heap.objs.size + 1)) H2) (fun cls d H' => W cls d σ H') :=
    ⟨s.heap.objs.size + 1, s.heap.objs.size, wv, H, I, h x y, ew, n1, n2, n3, rfl, sm, hRi, p.imp fun v H' q e => ⟨rfl, e ▸ q⟩⟩
  have I2 := Inv.made (C := C) Iv
  have r1 : Vals (V.ref (s.heap.objs.size + 1) :: vs) (Value.ref (s.heap.objs.size + 1) :: us) := .cons rfl rv
  have r2 := hb.rel r1 rz
  have nl : (Value.ref (s.heap.objs.size + 1) :: us).length = n + 1 := by rw [List.length_cons, ← rv.length, l1]
  refine wpAny_call (make_map (f := f) Iv.kIn M.makes M.init (beq_iff_eq.mp M.fn) (codeAny_mono (F.run _ X.stack _ _ ⟨Value.ref (s.heap.objs.size + 1) :: us, ks.zip ws⟩ (gg (Value.ref (s.heap.objs.size + 1) :: us) ws) _ _ _ (hr.make C us (ks.zip ws))
    (I2.env0.make C us (ks.zip ws)) (hb.to _ (Value.ref (s.heap.objs.size + 1) :: us) ws I2.kIn nl (rz.length.symm.trans l2)) r2 hq) fun r s' hq' => ?_))
  cases r with
  | error e => exact passAt tk σ pins _ _ e s' I2 hq'
  | ok fl =>
    cases fl with
    | ret u =>
      obtain ⟨v, H', I3, rv, ev, q3⟩ := I2.after hq'
      subst ev
      exact ⟨rv, ⟨V.ref (s.heap.objs.size + 1), H', I3, rfl, q3⟩⟩
    | next => exact False.elim hq'
    | brk => exact False.elim hq'
    | cont => exact False.elim hq'
theorem cx_false {P : Program} {w : World} {l : List Env} {H : Hp} {s : Shared} {e : Value} {s' : Shared} (h : L2.CX P w l H s (fun _ _ _ => False) e s') : False := by
  obtain ⟨_, _, _, _, _, _, _, _, _, _, _, _, z⟩ := h
  exact z.elim
end
def MkK {γ δ ε : Type} (P : Program) (w : World) (K : PySem.W.Frag) (mg : Str → Option Value) (base : Heap) (k : Nat) (C : Addr) (ks : List Str) (R : Hp → Hp → List V → δ → Prop) (R' : Hp → Hp → List V → ε → Prop) (m : δ → ε → Res γ) (r : Ra γ) : Prop :=
  ∀ (X : Cx) (W : WX), X.prog = P → X.w = w → X.K = K → X.mg = mg → X.base = base → Room k X.A → Takes X W → CallKJ X W (.ref C) ks R R' m r
theorem MkK.nice {γ δ ε : Type} {P : Program} {w : World} {K : PySem.W.Frag} {mg : Str → Option Value} {base : Heap} {k : Nat} {C : Addr} {ks : List Str} {R : Hp → Hp → List V → δ → Prop} {R' : Hp → Hp → List V → ε → Prop} {m m' : δ → ε → Res γ} {r : Ra γ} (F : MkK P w K mg base k C ks R R' m r) (h : ∀ d e, m' d e = .stuck ∨ m' d e = m d e) : MkK P w K mg base k C ks R R' m' r := fun X W e1 e2 e3 e4 e5 hr tk I H σ Q vs zs d ee s a b p => by
  refine F X W e1 e2 e3 e4 e5 hr tk I H σ Q vs zs d ee s a b ?_
  rcases h d ee with e | e
  · rw [show m' d ee = _ from e] at p; exact p.elim
  · rw [← e]; exact p
end L2.Tr

namespace L2.Tr
open PySem PySem.Spec PyProof.Rows
/-! ### the greatest common divisor -/
abbrev absI (x : Int) : Int := if x < 0 then -x else x
theorem absI_eq (x : Int) : absI x = (x.natAbs : Int) := by unfold absI; split <;> omega
theorem modI_ok {x y : Int} (h : y ≠ 0) : modI x y = .ok (x.fmod y) := Res.guard_pos h _
theorem cd_loop {c : Int × Int → Res Bool} {f : Int × Int → Res (Int × Int)} (hc : ∀ s, c s = .ok (!decide (s.2 = 0))) (hf : ∀ s, s.2 ≠ 0 → f s = .ok (s.2, s.1.fmod s.2)) : ∀ (k : Nat) (a b : Nat), b < k → whileM c f k ((a : Int), (b : Int)) = .ok ((Nat.gcd b a : Int), 0)
  | 0, _, _, h => by omega
  | k + 1, a, b, h => by
    show (c _).bind _ = _
    rw [hc]
    by_cases hb : b = 0
    · subst hb
      simp
    · have hb' : ¬ ((b : Int) = 0) := by omega
      simp only [Res.ok_bind, decide_eq_false hb', Bool.not_false, if_true]
      rw [hf _ hb', Int.fmod_eq_emod_of_nonneg _ (by omega)]
      show whileM c f k (((b : Nat) : Int), (((a % b : Nat)) : Int)) = _
      rw [cd_loop hc hf k b (a % b) (by have := Nat.mod_lt a (Nat.pos_of_ne_zero hb); omega)]
      rw [Nat.gcd_rec b a]
/-! ### Fraction(t, b) -/
def eBF : Exn := ⟨"BadFraction", []⟩
def qRaw (t b : Int) : Res Rat := if b = 0 then .err eBF else Res.guard ((Int.gcd t b).log2 < 9000) (.ok (Rat.divInt t b))
def qMk (t b : Int) : Res Rat := if b = 0 then .err eBF else Res.guard (b.natAbs.log2 < 9000) (.ok (Rat.divInt t b))
theorem log2_mono {a b : Nat} (h : a ≤ b) : a.log2 ≤ b.log2 := by
  by_cases ha : a = 0
  · subst ha; simp
  · have hb : b ≠ 0 := by omega
    exact (Nat.le_log2 hb).mpr (Nat.le_trans (Nat.log2_self_le ha) h)
theorem qMk_raw (t b : Int) : qMk t b = .stuck ∨ qMk t b = qRaw t b := by
  unfold qMk qRaw
  by_cases hb : b = 0
  · simp [hb]
  · rw [if_neg hb, if_neg hb]
    by_cases h : b.natAbs.log2 < 9000
    · right
      have : (Int.gcd t b).log2 ≤ b.natAbs.log2 := log2_mono (Int.gcd_le_natAbs_right t hb)
      rw [Res.guard_pos h, Res.guard_pos (by omega)]
    · left; unfold Res.guard; rw [if_neg h]
theorem div_num {t b : Int} (hb : b ≠ 0) (dv : Int) (hd : dv = if b < 0 then -(Int.gcd t b : Int) else (Int.gcd t b : Int)) : t.fdiv dv = (Rat.divInt t b).num ∧ b.fdiv dv = ((Rat.divInt t b).den : Int) := by
  have hg : (Int.gcd t b : Int) ≠ 0 := by
    intro h
    have := Int.gcd_eq_zero_iff.mp (by exact_mod_cast h : Int.gcd t b = 0)
    exact hb this.2
  obtain ⟨x, hx⟩ : (Int.gcd t b : Int) ∣ t := Int.gcd_dvd_left t b
  obtain ⟨y, hy⟩ : (Int.gcd t b : Int) ∣ b := Int.gcd_dvd_right t b
  have hgp : (0 : Int) < (Int.gcd t b : Int) := by omega
  rw [Rat.num_divInt, Rat.den_divInt, if_neg hb, Int.gcd_comm b t]
  generalize hG : (Int.gcd t b) = G at *
  have e1 : ∀ z : Int, ((G : Int) * z).fdiv G = z := fun z => by rw [Int.mul_comm]; exact Int.mul_fdiv_cancel z hg
  have e2 : ∀ z : Int, ((G : Int) * z).fdiv (-G) = -z := fun z => by
    have : (G : Int) * z = (-z) * (-(G : Int)) := by rw [Int.neg_mul_neg, Int.mul_comm]
    rw [this]; exact Int.mul_fdiv_cancel _ (by omega)
  have e3 : ∀ z : Int, ((G : Int) * z) / G = z := fun z => Int.mul_ediv_cancel_left z hg
  by_cases h : b < 0
  · rw [if_pos h] at hd
    subst hd
    have sg : b.sign = -1 := Int.sign_eq_neg_one_of_neg h
    refine ⟨?_, ?_⟩
    · rw [sg, hx, e2, show (-1 : Int) * ((G : Int) * x) = (G : Int) * (-x) from by rw [Int.mul_neg, Int.neg_mul, Int.one_mul], e3]
    · have e4 : ((b.natAbs / G : Nat) : Int) = -y := by
        rw [Int.natCast_ediv, show (b.natAbs : Int) = (G : Int) * (-y) from by rw [Int.mul_neg, ← hy]; omega, e3]
      rw [e4]
      conv => lhs; rw [hy]
      exact e2 y
  · rw [if_neg h] at hd
    subst hd
    have sg : b.sign = 1 := Int.sign_eq_one_of_pos (by omega)
    refine ⟨?_, ?_⟩
    · rw [sg, Int.one_mul]
      conv => lhs; rw [hx]
      conv => rhs; rw [hx]
      rw [e1, e3]
    · have e4 : ((b.natAbs / G : Nat) : Int) = y := by
        rw [Int.natCast_ediv, show (b.natAbs : Int) = (G : Int) * y from by rw [← hy]; omega, e3]
      rw [e4]
      conv => lhs; rw [hy]
      exact e1 y
theorem frF_of {I : Hp} {fs : List (Str × V)} {q : Rat} {n d : Int} (hn : n = q.num) (hd : d = q.den) (h : FldR I fs [("top", ⟨rInt, n⟩), ("bottom", ⟨rInt, d⟩)]) : fs = frF q := by
  subst hn; subst hd
  match fs, h with
  | [(a, u), (b, v)], ⟨e1, e2, e3, e4, _⟩ =>
    cases (show a = _ from e1); cases (show u = _ from e2); cases (show b = _ from e3); cases (show v = _ from e4)
    rfl
/-! ### the defs of exact.py -/
def n_cd (a b : Int) : Res Int := .ok (Int.gcd a b : Int)
def qInt (n : Int) : Res Rat := .ok (n : Rat)
theorem qInt_raw (n : Int) : qInt n = .stuck ∨ qInt n = qRaw n 1 := by
  right
  unfold qInt qRaw
  rw [if_neg (by decide), Res.guard_pos (by rw [Int.gcd_one]; decide)]
  congr 1
  exact Rat.ext (by rw [Rat.num_divInt]; simp) (by rw [Rat.den_divInt]; simp)
theorem vals_rev : ∀ {vs : List V} {us : List Value}, Vals vs us → Vals vs.reverse us.reverse
  | _, _, .nil => .nil
  | _, _, .cons a b => by
    rw [List.reverse_cons, List.reverse_cons]
    exact (vals_rev b).append (.cons a .nil)
theorem weak_refl : ∀ c : List (Option SF), weakC c c
  | [] => True.intro
  | none :: c => weak_refl c
  | some _ :: c => ⟨rfl, weak_refl c⟩
theorem weak_nil : weakC [] [] := True.intro
theorem weak_some {a : SF} {c d : List (Option SF)} (h : weakC c d) : weakC (some a :: c) (some a :: d) := ⟨rfl, h⟩
theorem weak_none {a : Option SF} {c d : List (Option SF)} (h : weakC c d) : weakC (a :: c) (none :: d) := h
theorem Stt.recast {I0 H0 I H : Hp} {ctx : List (Option SF)} {mem : List MF} {σ : L2.St} (s : Stt I0 H0 ctx mem I H σ) (i : Nat) {a b : SF} (hc : ctx[i]? = some (some a)) (h : ∀ v, a.r I v a.x → b.r I v b.x) : Stt I0 H0 (ctx.set i (some b)) mem I H σ := by
  refine ⟨s.fm, by rw [List.length_set]; exact s.len, fun j sf e => ?_, s.me⟩
  by_cases hj : j = i
  · subst hj
    rw [List.getElem?_set] at e
    have hl : j < ctx.length := (List.getElem?_eq_some_iff.mp hc).1
    simp only [hl, if_true] at e
    cases e
    obtain ⟨v, e1, q⟩ := s.sl j a hc
    exact ⟨v, e1, h v q⟩
  · rw [List.getElem?_set_ne (Ne.symm hj)] at e
    exact s.sl j sf e
theorem JR.num {γ : Type} {X : Cx} {I0 H0 : Hp} {W : WX} {Kx : KnowsX} {ctx : List (Option SF)} {mem : List MF} {ss : List Stmt} {rr : Ra γ} {K : PySem.W.Frag} (i : Nat) {x : Num} {f1 : Int → Res γ} {f2 : Rat → Res γ} (k1 : ∀ n, JR X I0 H0 W Kx (Stt I0 H0 (ctx.set i (some ⟨rInt, n⟩)) mem) ss (f1 n) rr) (k2 : ∀ r, JR X I0 H0 W Kx (Stt I0 H0 (ctx.set i (some ⟨rFrac K, r⟩)) mem) ss (f2 r) rr)
    (hc : ctx[i]? = some (some ⟨rNum K, x⟩) := by rfl) : JR X I0 H0 W Kx (Stt I0 H0 ctx mem) ss (match x with | .i n => f1 n | .q r => f2 r) rr := fun I H σ D g p => by
  cases x with
  | i n => exact k1 n I H σ D (g.recast i (b := ⟨rInt, n⟩) hc fun v h => h) p
  | q r => exact k2 r I H σ D (g.recast i (b := ⟨rFrac K, r⟩) hc fun v h => h) p
theorem JR.dead {γ : Type} {X : Cx} {I0 H0 : Hp} {W : WX} {Kx : KnowsX} {G : Knows} {ss : List Stmt} {rr : Ra γ} : JR X I0 H0 W Kx G ss (.stuck : Res γ) rr := fun _ _ _ _ _ p => p.elim
theorem JN.dead {S : Type} {X : Cx} {W : WX} {Kx : KnowsX} {G : Knows} {ss : List Stmt} {G' : S → Knows} : JN X W Kx G ss (.stuck : Res S) G' := fun _ _ _ _ _ p => p.elim
theorem paired_ints (I H : Hp) : ∀ ns : List Int, Paired (rp rInt I H) (ns.map V.int) ns
  | [] => .nil
  | _ :: ns => .cons rfl (paired_ints I H ns)
/-! ### a law's cell -/
def cellAt (ns : List Int) (k : Nat) : Int := ns.getD k 0
theorem atM_nat {α : Type} {xs : List α} {k : Nat} {x : α} (h : xs[k]? = some x) : atM xs (k : Int) = .ok x := by unfold atM; rw [atI_nat h]
theorem powI_ok {x : Int} {y : Nat} (h1 : y ≤ 1000000) (h2 : x.natAbs < 2 ^ 64) : powI x (y : Int) = .ok (x ^ y) := by
  unfold powI; rw [Res.guard_pos ⟨by omega, .inl ⟨by omega, h2⟩⟩]; rfl
theorem mulI_ok {x y : Int} (h : x.natAbs.log2 + y.natAbs.log2 < 1000000) : mulI x y = .ok (x * y) := Res.guard_pos h _
theorem fdivI_ok {x y : Int} (h0 : y ≠ 0) (h : y.natAbs.log2 < 9000) : fdivI x y = .ok (x.fdiv y) := Res.guard_pos ⟨h0, h⟩ _
theorem log2_lt {x n : Nat} (h : x < 2 ^ (n + 1)) : x.log2 < n + 1 := by
  by_cases hx : x = 0
  · subst hx; simp
  · exact (Nat.log2_lt hx).mpr h
theorem FnOk.no {P : Program} {w : World} {K : PySem.W.Frag} {mg : Str → Option Value} {base : Heap} {k : Nat} {f : Addr} {fd : FuncData} {ps : List Str} {sp : Sp} (F : FnOk P w K mg base (L2.CX P w) k f fd ps sp) : FnOk P w K mg base CX0 k f fd ps (fun vs H Q _ => sp vs H Q fun _ _ _ => False) :=
  ⟨fun vs H Q _ h => F.len vs H Q _ h, fun A outer s H args us vs Q E hr e0 hb hv h => codeAny_mono (F.run A outer s H args us vs Q _ hr e0 hb hv h) fun r s' hq => by
    cases r with
    | error e => exact cx_false hq
    | ok fl => cases fl <;> exact hq⟩
end L2.Tr

namespace L2.Tr
open PySem PySem.Spec PyProof.Rows
/-! ### what is walked -/
/-- J walks the values vs while ok holds of the heap -/
def ItR (J : It) (vs : List V) (ok : Hp → Prop) : Prop := ∀ (i : Nat) (H : Hp), ok H → (i < vs.length → J.go i H ∧ ∀ x H', J.yld i H x H' → H' = H ∧ vs[i]? = some x) ∧ (vs.length ≤ i → J.stop i H)
theorem itr_list {K : PySem.W.Frag} {l : Addr} {vs : List V} : ItR (Itl K l) vs (fun H => SqL K H l vs) := fun i H q => ⟨fun h => ⟨⟨vs, vs[i], q, by simp [h]⟩, fun x H' y => ⟨y.1, y.2 vs q⟩⟩, fun h => ⟨vs, q, h⟩⟩
theorem itr_tup {K : PySem.W.Frag} {l : Addr} {vs : List V} : ItR (Itt K l) vs (fun H => SqT K H l vs) := fun i H q => ⟨fun h => ⟨⟨vs, vs[i], q, by simp [h]⟩, fun x H' y => ⟨y.1, y.2 vs q⟩⟩, fun h => ⟨vs, q, h⟩⟩
def rngV (lo : Int) (n : Nat) : List V := (List.range n).map fun (i : Nat) => .int (lo + (i : Int))
def rngI (lo : Int) (n : Nat) : List Int := (List.range n).map fun (i : Nat) => lo + (i : Int)
theorem itr_rng {lo : Int} {n : Nat} : ItR (Itr lo n) (rngV lo n) (fun _ => True) := fun i H _ => by
  have e : (rngV lo n).length = n := by simp [rngV]
  rw [e]
  exact ⟨fun h => ⟨h, fun x H' y => ⟨y.1, by rw [y.2]; simp [rngV, h]⟩⟩, fun h => h⟩
theorem rng_pair {I : Hp} {lo : Int} {n : Nat} : Paired (rInt I) (rngV lo n) (rngI lo n) := by
  unfold rngV rngI
  generalize List.range n = l
  induction l with
  | nil => exact .nil
  | cons a l ih => exact .cons rfl ih
def rngCV (lo c : Int) (n : Nat) : List V := (List.range n).map fun (i : Nat) => .int (lo + (i : Int) * c)
def rngCI (lo c : Int) (n : Nat) : List Int := (List.range n).map fun (i : Nat) => lo + (i : Int) * c
theorem itr_rngC {lo c : Int} {n : Nat} : ItR (Itc lo c n) (rngCV lo c n) (fun _ => True) := fun i H _ => by
  have e : (rngCV lo c n).length = n := by simp [rngCV]
  rw [e]
  exact ⟨fun h => ⟨h, fun x H' y => ⟨y.1, by rw [y.2]; simp [rngCV, h]⟩⟩, fun h => h⟩
theorem rngC_pair {I : Hp} {lo c : Int} {n : Nat} : Paired (rInt I) (rngCV lo c n) (rngCI lo c n) := by
  unfold rngCV rngCI
  generalize List.range n = l
  induction l with
  | nil => exact .nil
  | cons a l ih => exact .cons rfl ih
section
variable {α β γ δ S : Type} {X : Cx} {I0 H0 : Hp} {W : WX} {Kx : KnowsX} {G : Knows} {ctx cw : List (Option SF)} {mem : List MF} {e a b c o tg iter : Expr} {es bs : List Expr} {ss body : List Stmt} {pos pos' : Pos} {n : Str} {ra : Ra α} {rr : Ra γ} {ma : Res α}
def wI (X : Cx) (tg iter : Expr) : TI := fun σ H R => ∀ (pins : List (Addr × Obj)) (s : Shared), Inv X pins σ H s → wpAny (model X.prog X.w) X.A (eval iter X.env) (fun v s1 => wpAny (model X.prog X.w) X.A (pyIter v) (PIE X pins σ tg R) X.xe s1) X.xe s
theorem pi_W : PI X tg iter (wI X tg iter) := ⟨fun pins s _ _ _ I h => h pins s I⟩
theorem PI.w {t : TI} {σ : St} {H : Hp} {R : It → Hp → Prop} (p : PI X tg iter t) (h : t σ H R) : wI X tg iter σ H R := fun pins s I => p.run pins s σ H R I h
/-- what an iterable is worth: its items -/
def JI (X : Cx) (I0 H0 : Hp) (W : WX) (ctx : List (Option SF)) (mem : List MF) (tg iter : Expr) (m : Res (List β)) (r : Rp β) : Prop :=
  ∀ (I H : Hp) (σ : St) (R : It → Hp → Prop), Stt I0 H0 ctx mem I H σ → (match m with
    | .ok xs => ∀ I' H' J vs (okp : Hp → Prop), Fm I H I' H' → ItR J vs okp → (∀ I'' H'', Same I' I'' → Same I'' H'' → Same H0 H'' → okp H'') → Paired (r I') vs xs → R J H'
    | .err e => ∀ I' H' cls d, Fm I H I' H' → Fr H d ∧ ExR X.K I' H' e cls d → W cls d σ H'
    | .stuck => False) → wI X tg iter σ H R
theorem JI.list {r : Rp β} {m : Res (List β)} (j : JE X I0 H0 W ctx mem iter m (rp (rL r))) : JI X I0 H0 W ctx mem tg iter m r := fun I H σ R st p => by
  refine PI.w (pi_list pe_W) (j I H σ _ st ?_)
  cases m with
  | ok xs =>
    rintro I1 H1 v f1 ⟨l, vs, rfl, hl, pr⟩
    exact ⟨l, rfl, ⟨vs, SqL.of (f1.ih _ _ hl)⟩, p I1 H1 _ vs _ f1 itr_list (fun I2 H2 s1 s2 _ => SqL.of (s2 _ _ (s1 _ _ hl))) pr⟩
  | err e => exact p
  | stuck => exact p
theorem JI.tup {r : Rp β} {m : Res (List β)} (j : JE X I0 H0 W ctx mem iter m (rp (rT r))) : JI X I0 H0 W ctx mem tg iter m r := fun I H σ R st p => by
  refine PI.w (pi_tup pe_W) (j I H σ _ st ?_)
  cases m with
  | ok xs =>
    rintro I1 H1 v f1 ⟨l, vs, rfl, hl, pr⟩
    exact ⟨l, rfl, ⟨vs, SqT.of (f1.ih _ _ hl)⟩, p I1 H1 _ vs _ f1 itr_tup (fun I2 H2 s1 s2 _ => SqT.of (s2 _ _ (s1 _ _ hl))) pr⟩
  | err e => exact p
  | stuck => exact p
/-- a parameter's list -/
theorem JI.par (i : Nat) {r : Rp β} {mo : Mo (fun I v x => rdL X.K (rp r) I H0 v x)} {x : List β} [m : Mo r] (hc : ctx[i]? = some (some (@SF.mk (List β) (fun I v x => rdL X.K (rp r) I H0 v x) mo x)) := by rfl) (hN : X.N[i]? = some n := by rfl) (hv : Vis X.env.scope n := by first | exact Or.inl rfl | exact Or.inr (Or.inl rfl) | exact Or.inr (Or.inr rfl)) (hd : (n == ("__debug__" : Str)) = false := by decide)
    (hcd : (n == ("__classdict__" : Str)) = false := by decide) : JI X I0 H0 W ctx mem tg (.Name n pos) (.ok x) r := fun I H σ R st p => by
  obtain ⟨v, e, l, vs, ev, hl, pr⟩ := st.sl i _ hc
  subst ev
  refine PI.w (pi_list pe_W) (w_var i ⟨l, rfl, ⟨vs, st.fm.h.seq hl⟩, ?_⟩ e hN hv hd hcd)
  exact p I H _ vs _ (Fm.refl st.same) itr_list (fun I2 H2 s1 s2 s3 => s3.seq hl) pr
def rangeM (lo hi : Int) : Res (List Int) := Res.guard (-(2 ^ 62) ≤ lo ∧ lo < 2 ^ 62 ∧ -(2 ^ 62) ≤ hi ∧ hi < 2 ^ 62) (.ok (rngI lo (hi - lo).toNat))
def rangeM1 (hi : Int) : Res (List Int) := Res.guard (-(2 ^ 62) ≤ hi ∧ hi < 2 ^ 62) (.ok (rngI 0 hi.toNat))
theorem JI.range1 {m : Res Int} (j : JE X I0 H0 W ctx mem a m (rp rInt)) (hm : X.mg "range" = none) (hg : Gl X "range" := by rfl) (hs : starEach [a] X.env = (false, eval a X.env) :: starEach [] X.env := by rfl) : JI X I0 H0 W ctx mem tg (.Call (.Name "range" pos') [a] [] pos) (m.bind fun x => rangeM1 x) rInt := fun I H σ R st p => by
  refine PI.w (pi_range1 hg hm (pa_cons pe_W pa_nil hs) hs) (j I H σ _ st ?_)
  cases m with
  | ok x =>
    intro I1 H1 v f1 r1
    cases (show v = V.int x from r1)
    by_cases hh : -(2 ^ 62) ≤ x ∧ x < 2 ^ 62
    · have e : ((Res.ok x).bind fun x => rangeM1 x) = .ok (rngI 0 x.toNat) := Res.guard_pos hh _
      rw [e] at p
      exact ⟨x, rfl, hh.1, hh.2, p I1 H1 _ _ _ f1 itr_rng (fun _ _ _ _ _ => True.intro) rng_pair⟩
    · have e : ((Res.ok x).bind fun x => rangeM1 x) = .stuck := if_neg hh
      rw [e] at p
      exact p.elim
  | err e => exact p
  | stuck => exact p
theorem JI.range2 {m m' : Res Int} (j : JE X I0 H0 W ctx mem a m (rp rInt)) (j' : JE X I0 H0 W ctx mem b m' (rp rInt)) (hm : X.mg "range" = none) (hg : Gl X "range" := by rfl) (hs : starEach [a, b] X.env = (false, eval a X.env) :: starEach [b] X.env := by rfl) (hs2 : starEach [b] X.env = (false, eval b X.env) :: starEach [] X.env := by rfl) :
    JI X I0 H0 W ctx mem tg (.Call (.Name "range" pos') [a, b] [] pos) (m.bind fun x => m'.bind fun y => rangeM x y) rInt := fun I H σ R st p => by
  refine PI.w (pi_range2 hg hm (pa_cons pe_W (pa_cons pe_W pa_nil hs2) hs) (by rw [hs, hs2]; rfl) (by rw [hs2]; rfl)) (j I H σ _ st ?_)
  cases m with
  | ok x =>
    intro I1 H1 v f1 r1
    refine j' I1 H1 σ _ (st.step f1) ?_
    cases m' with
    | ok y =>
      intro I2 H2 v2 f2 r2
      cases (show v = V.int x from r1)
      cases (show v2 = V.int y from r2)
      by_cases hh : -(2 ^ 62) ≤ x ∧ x < 2 ^ 62 ∧ -(2 ^ 62) ≤ y ∧ y < 2 ^ 62
      · have e : ((Res.ok x).bind fun x => (Res.ok y).bind fun y => rangeM x y) = .ok (rngI x (y - x).toNat) := Res.guard_pos hh _
        rw [e] at p
        exact ⟨x, y, rfl, hh, p I2 H2 _ _ _ (f1.trans f2) itr_rng (fun _ _ _ _ _ => True.intro) rng_pair⟩
      · have e : ((Res.ok x).bind fun x => (Res.ok y).bind fun y => rangeM x y) = .stuck := if_neg hh
        rw [e] at p
        exact p.elim
    | err e => exact fun I2 H2 c d f2 x => p I2 H2 c d (f1.trans f2) ⟨x.1.back f1.h, x.2⟩
    | stuck => exact p
  | err e => exact p
  | stuck => exact p

/-! ### for: a body that goes on -/
def forS (f : β → S → Res S) : List β → S → Res S
  | [], s => .ok s
  | x :: xs, s => (f x s).bind fun s' => forS f xs s'
theorem paired_drop {F : α → β → Prop} {xs : List α} {ys : List β} (p : Paired F xs ys) (i : Nat) {x : α} (h : xs[i]? = some x) : ∃ y, ys[i]? = some y ∧ F x y := by
  have hl := Paired.length p
  have hi : i < ys.length := by rw [← hl]; exact (List.getElem?_eq_some_iff.mp h).1
  obtain ⟨x', e1, e2⟩ := paired_get p (List.getElem?_eq_getElem hi)
  rw [h] at e1
  cases e1
  exact ⟨_, List.getElem?_eq_getElem hi, e2⟩
theorem forS_drop {f : β → S → Res S} {xs : List β} {i : Nat} {x : β} (h : xs[i]? = some x) (s : S) : forS f (xs.drop i) s = (f x s).bind fun s' => forS f (xs.drop (i + 1)) s' := by
  have hi := (List.getElem?_eq_some_iff.mp h).1
  rw [List.drop_eq_getElem_cons hi]
  have : xs[i] = x := (List.getElem?_eq_some_iff.mp h).2
  rw [this]
  rfl
theorem J1.forS (j : Nat) {r : Rp β} [mo : Mo r] {m : Res (List β)} {cx : S → List (Option SF)} {me : S → List MF} {f : β → S → Res S} {s0 : S} (hp : PassesOwn (model X.prog X.w) X.A X.env X.xe) (ji : JI X I0 H0 W ctx (me s0) (.Name n pos') iter m r)
    (jb : ∀ x s, JN X W Kx (Stt I0 H0 ((cx s).set j (some ⟨r, x⟩)) (me s)) body (f x s) fun s' => Stt I0 H0 (cx s') (me s')) (hx : ∀ I H σ d, Stt I0 H0 ctx (me s0) I H σ → Fr H0 d → Kx I H σ d) (hw : weakC ctx (cx s0)) (hN : X.N.Nodup) (hc : X.calm = true := by rfl)
    (hj : X.N[j]? = some n := by rfl) (hl : Loc X.env.scope n := by first | exact Or.inl rfl | exact Or.inr rfl) (hf : X.fn n = true ∨ X.env.scope.names.lookup n = some .local := by first | exact .inl rfl | exact .inr rfl | assumption) (hs : ∀ x, foldedSetIterable iter X.env x = pure x := by intro _; rfl) :
    J1 X W Kx (Stt I0 H0 ctx (me s0)) (.For (.Name n pos') iter body [] pos) (m.bind fun xs => Tr.forS f xs s0) (fun s => Stt I0 H0 (cx s) (me s)) := fun I H σ D g p => by
  refine PS.w (ps_for hp hc pi_W (pg_name (i := j) hN hj hl hf) pss_W hs) (ji I H σ _ g ?_)
  cases m with
  | ok xs =>
    intro I1 H1 J vs okp f1 itr stay pr
    have p0 : PostB X W Kx I1 (Tr.forS f xs s0) (fun s => Stt I0 H0 (cx s) (me s)) D := PostB.up p f1.i
    have hlen := Paired.length pr
    refine ⟨fun i k σ' H' => k + i = vs.length ∧ ∃ I' s, Same I1 I' ∧ Stt I0 H0 (cx s) (me s) I' H' σ' ∧ PostB X W Kx I' (Tr.forS f (xs.drop i) s) (fun s => Stt I0 H0 (cx s) (me s)) D, ⟨vs.length, rfl, I1, s0, Same.refl _, (g.step f1).weak hw, p0⟩, ?_⟩
    rintro i k σ' H' ⟨hk, I', s, si, g', p'⟩
    have hok := stay I' H' si g'.same g'.fm.h
    by_cases hi : i < vs.length
    · obtain ⟨go, yl⟩ := (itr i H' hok).1 hi
      refine .inr ⟨go, fun σ2 H2 => ∃ I2 s2, Same I1 I2 ∧ Stt I0 H0 (cx s2) (me s2) I2 H2 σ2 ∧ PostB X W Kx I2 (Tr.forS f (xs.drop (i + 1)) s2) (fun s => Stt I0 H0 (cx s) (me s)) D, fun σ2 H2 h => ⟨k - 1, by omega, by omega, h⟩, fun v H2 hy => ?_⟩
      obtain ⟨rfl, ev⟩ := yl v H2 hy
      obtain ⟨x, ex, hr⟩ := paired_drop pr i ev
      rw [forS_drop ex] at p'
      have key := jb x s I' H2 (σ'.set j (some v)) { D with nx := fun σ2 H2 => ∃ I2 s2, Same I' I2 ∧ Stt I0 H0 (cx s2) (me s2) I2 H2 σ2 ∧ PostB X W Kx I2 (Tr.forS f (xs.drop (i + 1)) s2) (fun s => Stt I0 H0 (cx s) (me s)) D, ct := fun _ _ => False, bk := fun _ _ => False } (g'.set j (mo.up si hr)) ?_
      · refine b_mono key (fun σ2 H2 ⟨I2, s2, q1, q2, q3⟩ => ⟨I2, s2, si.trans q1, q2, q3⟩) (fun _ _ z => z) (fun _ _ z => z.elim) (fun _ _ z => z.elim)
      · revert p'
        generalize f x s = z
        intro p'
        cases z with
        | ok s2 => exact fun I2 H2 σ2 q1 q2 => ⟨I2, s2, q1, q2, PostB.up p' q1⟩
        | err e => exact p'
        | stuck => exact p'.elim
    · refine .inl ⟨(itr i H' hok).2 (by omega), ?_⟩
      have : xs.drop i = [] := List.drop_eq_nil_of_le (by omega)
      rw [this] at p'
      exact p' I' H' σ' (Same.refl _) g'
  | err e => exact fun I' H' c d f x => p I' H' σ c d (hx _ _ _ _ (g.step f) (x.1.back g.fm.h)) x.2
  | stuck => exact p.elim
end
end L2.Tr

namespace L2.Tr
open PySem PySem.Spec PyProof.Rows
/-! ### general flow: a block may go on, return, break or continue -/
inductive Fl (S L γ : Type)
  | nx (s : S)
  | rt (y : γ)
  | bk (l : L)
  | ct (l : L)
section
variable {α β γ δ S T L L' : Type}
def Fl.then (f : S → Res (Fl T L γ)) : Fl S L γ → Res (Fl T L γ)
  | .nx s => f s
  | .rt y => .ok (.rt y)
  | .bk l => .ok (.bk l)
  | .ct l => .ok (.ct l)
def Fl.out (f : S → Res γ) : Fl S L γ → Res γ
  | .nx s => f s
  | .rt y => .ok y
  | .bk _ => .stuck
  | .ct _ => .stuck
@[simp] theorem Fl.then_nx (f : S → Res (Fl T L γ)) (s : S) : Fl.then f (.nx s) = f s := rfl
@[simp] theorem Fl.then_rt (f : S → Res (Fl T L γ)) (y : γ) : Fl.then f (.rt y) = .ok (.rt y) := rfl
@[simp] theorem Fl.then_bk (f : S → Res (Fl T L γ)) (y : L) : Fl.then f (.bk y) = .ok (.bk y) := rfl
@[simp] theorem Fl.then_ct (f : S → Res (Fl T L γ)) (y : L) : Fl.then f (.ct y) = .ok (.ct y) := rfl
@[simp] theorem Fl.out_nx (f : S → Res γ) (s : S) : Fl.out (L := L) f (.nx s) = f s := rfl
@[simp] theorem Fl.out_rt (f : S → Res γ) (y : γ) : Fl.out (L := L) f (.rt y) = .ok y := rfl
def forG (f : β → S → Res (Fl S S γ)) : List β → S → Res (Fl S L γ)
  | [], s => .ok (.nx s)
  | x :: xs, s => (f x s).bind fun
    | .nx s' => forG f xs s'
    | .ct s' => forG f xs s'
    | .bk s' => .ok (.nx s')
    | .rt y => .ok (.rt y)
def whileG (c : S → Res Bool) (f : S → Res (Fl S S γ)) : Nat → S → Res (Fl S L γ)
  | 0, _ => .stuck
  | n + 1, s => (c s).bind fun b => if b = true then (f s).bind fun
    | .nx s' => whileG c f n s'
    | .ct s' => whileG c f n s'
    | .bk s' => .ok (.nx s')
    | .rt y => .ok (.rt y) else .ok (.nx s)
def PostG (X : Cx) (I0 H0 : Hp) (W : WX) (Kx : KnowsX) (I : Hp) (m : Res (Fl S L γ)) (G : S → Knows) (GL : L → Knows) (r : Ra γ) (D : Ends) : Prop := match m with
  | .ok (.nx s) => ∀ I' H' σ', Same I I' → G s I' H' σ' → D.nx σ' H'
  | .ok (.bk s) => ∀ I' H' σ', Same I I' → GL s I' H' σ' → D.bk σ' H'
  | .ok (.ct s) => ∀ I' H' σ', Same I I' → GL s I' H' σ' → D.ct σ' H'
  | .ok (.rt y) => ∀ I' H' v, Fm I0 H0 I' H' → r I' H' v y → D.rt v H'
  | .err e => ∀ I' H' σ' cls d, Kx I' H' σ' d → ExR X.K I' H' e cls d → W cls d σ' H'
  | .stuck => False
theorem PostG.up {X : Cx} {I0 H0 : Hp} {W : WX} {Kx : KnowsX} {I I1 : Hp} {m : Res (Fl S L γ)} {G : S → Knows} {GL : L → Knows} {r : Ra γ} {D : Ends} (p : PostG X I0 H0 W Kx I m G GL r D) (s : Same I I1) : PostG X I0 H0 W Kx I1 m G GL r D := by
  cases m with
  | ok a => cases a with
    | nx s => exact fun I' H' σ' q => p I' H' σ' (Same.trans ‹Same I I1› q)
    | bk s => exact fun I' H' σ' q => p I' H' σ' (Same.trans ‹Same I I1› q)
    | ct s => exact fun I' H' σ' q => p I' H' σ' (Same.trans ‹Same I I1› q)
    | rt y => exact p
  | err e => exact p
  | stuck => exact p
def J1G (X : Cx) (I0 H0 : Hp) (W : WX) (Kx : KnowsX) (G : Knows) (st : Stmt) (m : Res (Fl S L γ)) (G' : S → Knows) (GL : L → Knows) (r : Ra γ) : Prop := ∀ (I H : Hp) (σ : St) (D : Ends), G I H σ → PostG X I0 H0 W Kx I m G' GL r D → wS X st D σ H
def JG (X : Cx) (I0 H0 : Hp) (W : WX) (Kx : KnowsX) (G : Knows) (ss : List Stmt) (m : Res (Fl S L γ)) (G' : S → Knows) (GL : L → Knows) (r : Ra γ) : Prop := ∀ (I H : Hp) (σ : St) (D : Ends), G I H σ → PostG X I0 H0 W Kx I m G' GL r D → wB X ss D σ H
variable {X : Cx} {I0 H0 : Hp} {W : WX} {Kx : KnowsX} {G : Knows} {ctx : List (Option SF)} {mem : List MF} {e a b c o iter : Expr} {es bs : List Expr} {st : Stmt} {ss s1 s2 body : List Stmt} {pos pos' : Pos} {n : Str} {ra : Ra α} {rr : Ra γ} {ma : Res α} {mc : Res Bool} {GL : L → Knows}
theorem JG.nil {s : S} {G' : S → Knows} (h : ∀ I H σ, G I H σ → G' s I H σ) : JG X I0 H0 W Kx G [] (.ok (.nx s)) G' GL rr := fun I H σ D g p => b_nil (p I H σ (Same.refl _) (h _ _ _ g))
theorem JG.seq {m : Res S} {G1 : S → Knows} {f : S → Res (Fl T L γ)} {G2 : T → Knows} (j : J1 X W Kx G st m G1) (k : ∀ s, JG X I0 H0 W Kx (G1 s) ss (f s) G2 GL rr) : JG X I0 H0 W Kx G (st :: ss) (m.bind f) G2 GL rr := fun I H σ D g p => by
  refine b_cons (j I H σ _ g ?_)
  cases m with
  | ok s => exact fun I' H' σ' si g' => k s I' H' σ' D g' (PostG.up p si)
  | err e => exact p
  | stuck => exact p
theorem JG.seqG {m : Res (Fl S L γ)} {G1 : S → Knows} {f : S → Res (Fl T L γ)} {G2 : T → Knows} (j : J1G X I0 H0 W Kx G st m G1 GL rr) (k : ∀ s, JG X I0 H0 W Kx (G1 s) ss (f s) G2 GL rr) : JG X I0 H0 W Kx G (st :: ss) (m.bind (Fl.then f)) G2 GL rr := fun I H σ D g p => by
  refine b_cons (j I H σ _ g ?_)
  cases m with
  | ok a => cases a with
    | nx s => exact fun I' H' σ' si g' => k s I' H' σ' D g' (PostG.up p si)
    | bk s => exact p
    | ct s => exact p
    | rt s => exact p
  | err e => exact p
  | stuck => exact p
theorem JR.seqG {m : Res (Fl S L γ)} {G1 : S → Knows} {f : S → Res γ} (j : J1G X I0 H0 W Kx G st m G1 GL rr) (k : ∀ s, JR X I0 H0 W Kx (G1 s) ss (f s) rr) : JR X I0 H0 W Kx G (st :: ss) (m.bind (Fl.out f)) rr := fun I H σ D g p => by
  refine b_cons (j I H σ _ g ?_)
  cases m with
  | ok a => cases a with
    | nx s => exact fun I' H' σ' si g' => k s I' H' σ' D g' p
    | bk s => exact p.elim
    | ct s => exact p.elim
    | rt s => exact p
  | err e => exact p
  | stuck => exact p
theorem JG.rt {m : Res γ} {G' : S → Knows} (j : JR X I0 H0 W Kx G ss m rr) : JG X I0 H0 W Kx G ss (m.bind fun y => .ok (.rt y)) G' GL rr := fun I H σ D g p => by
  refine j I H σ D g ?_
  cases m with
  | ok y => exact p
  | err e => exact p
  | stuck => exact p
theorem J1G.of {m : Res S} {G' : S → Knows} (j : J1 X W Kx G st m G') : J1G X I0 H0 W Kx G st (m.bind fun s => .ok (.nx s)) G' GL rr := fun I H σ D g p => by
  refine j I H σ D g ?_
  cases m with
  | ok y => exact p
  | err e => exact p
  | stuck => exact p
theorem JG.ifT {m1 m2 : Res (Fl S L γ)} {G' : S → Knows} (j : JT X I0 H0 W ctx mem c mc) (k1 : JG X I0 H0 W Kx (Stt I0 H0 ctx mem) s1 m1 (fun _ _ _ _ => False) GL rr) (k2 : JG X I0 H0 W Kx (Stt I0 H0 ctx mem) ss m2 G' GL rr) (hx : ∀ I H σ d, Stt I0 H0 ctx mem I H σ → Fr H0 d → Kx I H σ d) :
    JG X I0 H0 W Kx (Stt I0 H0 ctx mem) (.If c s1 [] pos :: ss) (mc.bind fun x => if x = true then m1 else m2) G' GL rr := fun I H σ D g p => by
  refine b_cons (s_if (j I H σ _ g ?_))
  cases mc with
  | ok x =>
    intro I1 H1 v f r y hy
    cases r; cases hy
    cases x with
    | true =>
      refine iteT (b_mono (k1 I1 H1 σ { D with nx := fun _ _ => False } (g.step f) ?_) (fun _ _ z => z.elim) (fun _ _ z => z) (fun _ _ z => z) (fun _ _ z => z))
      have p1 : PostG X I0 H0 W Kx I1 m1 _ _ _ _ := PostG.up p f.i
      cases m1 with
      | ok a => cases a with
        | nx s => exact fun _ _ _ _ z => z
        | bk s => exact p1
        | ct s => exact p1
        | rt s => exact p1
      | err e => exact p1
      | stuck => exact p1
    | false => exact iteF (b_nil (k2 I1 H1 σ D (g.step f) (PostG.up p f.i)))
  | err e => exact fun I' H' c d f x => p I' H' σ c d (hx _ _ _ _ (g.step f) (x.1.back g.fm.h)) x.2
  | stuck => exact p
theorem J1G.if {m1 m2 : Res (Fl S L γ)} {G' : S → Knows} (j : JT X I0 H0 W ctx mem c mc) (k1 : JG X I0 H0 W Kx (Stt I0 H0 ctx mem) s1 m1 G' GL rr) (k2 : JG X I0 H0 W Kx (Stt I0 H0 ctx mem) s2 m2 G' GL rr) (hx : ∀ I H σ d, Stt I0 H0 ctx mem I H σ → Fr H0 d → Kx I H σ d) :
    J1G X I0 H0 W Kx (Stt I0 H0 ctx mem) (.If c s1 s2 pos) (mc.bind fun x => if x = true then m1 else m2) G' GL rr := fun I H σ D g p => by
  refine s_if (j I H σ _ g ?_)
  cases mc with
  | ok x =>
    intro I1 H1 v f r y hy
    cases r; cases hy
    cases x with
    | true => exact iteT (k1 I1 H1 σ D (g.step f) (PostG.up p f.i))
    | false => exact iteF (k2 I1 H1 σ D (g.step f) (PostG.up p f.i))
  | err e => exact fun I' H' c d f x => p I' H' σ c d (hx _ _ _ _ (g.step f) (x.1.back g.fm.h)) x.2
  | stuck => exact p
theorem JG.bk {l : L} {G' : S → Knows} (h : ∀ I H σ, G I H σ → GL l I H σ) : JG X I0 H0 W Kx G (.Break pos :: ss) (.ok (.bk l)) G' GL rr := fun I H σ D g p => b_cons (PS.w ps_break (p I H σ (Same.refl _) (h _ _ _ g)))
theorem JG.ct {l : L} {G' : S → Knows} (h : ∀ I H σ, G I H σ → GL l I H σ) : JG X I0 H0 W Kx G (.Continue pos :: ss) (.ok (.ct l)) G' GL rr := fun I H σ D g p => b_cons (PS.w ps_continue (p I H σ (Same.refl _) (h _ _ _ g)))
theorem JG.pre {G1 : Knows} {m : Res (Fl S L γ)} {G' : S → Knows} (h : ∀ I H σ, G I H σ → G1 I H σ) (j : JG X I0 H0 W Kx G1 ss m G' GL rr) : JG X I0 H0 W Kx G ss m G' GL rr := fun I H σ D g p => j I H σ D (h _ _ _ g) p
theorem JR.pre {G1 : Knows} {m : Res γ} (h : ∀ I H σ, G I H σ → G1 I H σ) (j : JR X I0 H0 W Kx G1 ss m rr) : JR X I0 H0 W Kx G ss m rr := fun I H σ D g p => j I H σ D (h _ _ _ g) p
theorem forG_drop {f : β → S → Res (Fl S S γ)} {xs : List β} {i : Nat} {x : β} (h : xs[i]? = some x) (s : S) : (forG f (xs.drop i) s : Res (Fl S L γ)) = (f x s).bind fun
    | .nx s' => forG f (xs.drop (i + 1)) s'
    | .ct s' => forG f (xs.drop (i + 1)) s'
    | .bk s' => .ok (.nx s')
    | .rt y => .ok (.rt y) := by
  have hi := (List.getElem?_eq_some_iff.mp h).1
  rw [List.drop_eq_getElem_cons hi]
  have : xs[i] = x := (List.getElem?_eq_some_iff.mp h).2
  rw [this]
  rfl
theorem J1G.forG (j : Nat) {r : Rp β} [mo : Mo r] {m : Res (List β)} {cx : S → List (Option SF)} {me : S → List MF} {f : β → S → Res (Fl S S γ)} {s0 : S} (hp : PassesOwn (model X.prog X.w) X.A X.env X.xe) (ji : JI X I0 H0 W ctx (me s0) (.Name n pos') iter m r)
    (jb : ∀ x s, JG X I0 H0 W Kx (Stt I0 H0 ((cx s).set j (some ⟨r, x⟩)) (me s)) body (f x s) (fun s' => Stt I0 H0 (cx s') (me s')) (fun s' => Stt I0 H0 (cx s') (me s')) rr) (hx : ∀ I H σ d, Stt I0 H0 ctx (me s0) I H σ → Fr H0 d → Kx I H σ d) (hw : weakC ctx (cx s0)) (hN : X.N.Nodup) (hc : X.calm = true := by rfl)
    (hj : X.N[j]? = some n := by rfl) (hl : Loc X.env.scope n := by first | exact Or.inl rfl | exact Or.inr rfl) (hf : X.fn n = true ∨ X.env.scope.names.lookup n = some .local := by first | exact .inl rfl | exact .inr rfl | assumption) (hs : ∀ x, foldedSetIterable iter X.env x = pure x := by intro _; rfl) :
    J1G X I0 H0 W Kx (Stt I0 H0 ctx (me s0)) (.For (.Name n pos') iter body [] pos) (m.bind fun xs => (Tr.forG f xs s0 : Res (Fl S L γ))) (fun s => Stt I0 H0 (cx s) (me s)) GL rr := fun I H σ D g p => by
  refine PS.w (ps_for hp hc pi_W (pg_name (i := j) hN hj hl hf) pss_W hs) (ji I H σ _ g ?_)
  cases m with
  | ok xs =>
    intro I1 H1 J vs okp f1 itr stay pr
    have p0 : PostG X I0 H0 W Kx I1 (Tr.forG f xs s0) (fun s => Stt I0 H0 (cx s) (me s)) GL rr D := PostG.up p f1.i
    have hlen := Paired.length pr
    refine ⟨fun i k σ' H' => k + i = vs.length ∧ ∃ I' s, Same I1 I' ∧ Stt I0 H0 (cx s) (me s) I' H' σ' ∧ PostG X I0 H0 W Kx I' (Tr.forG f (xs.drop i) s) (fun s => Stt I0 H0 (cx s) (me s)) GL rr D, ⟨vs.length, rfl, I1, s0, Same.refl _, (g.step f1).weak hw, p0⟩, ?_⟩
    rintro i k σ' H' ⟨hk, I', s, si, g', p'⟩
    have hok := stay I' H' si g'.same g'.fm.h
    by_cases hi : i < vs.length
    · obtain ⟨go, yl⟩ := (itr i H' hok).1 hi
      refine .inr ⟨go, fun σ2 H2 => ∃ I2 s2, Same I1 I2 ∧ Stt I0 H0 (cx s2) (me s2) I2 H2 σ2 ∧ PostG X I0 H0 W Kx I2 (Tr.forG f (xs.drop (i + 1)) s2) (fun s => Stt I0 H0 (cx s) (me s)) GL rr D, fun σ2 H2 h => ⟨k - 1, by omega, by omega, h⟩, fun v H2 hy => ?_⟩
      obtain ⟨rfl, ev⟩ := yl v H2 hy
      obtain ⟨x, ex, hr⟩ := paired_drop pr i ev
      rw [forG_drop ex] at p'
      refine jb x s I' H2 (σ'.set j (some v)) _ (g'.set j (mo.up si hr)) ?_
      revert p'
      generalize f x s = z
      intro p'
      cases z with
      | ok a => cases a with
        | nx s2 => exact fun I2 H2 σ2 q1 q2 => ⟨I2, s2, si.trans q1, q2, PostG.up p' q1⟩
        | ct s2 => exact fun I2 H2 σ2 q1 q2 => ⟨I2, s2, si.trans q1, q2, PostG.up p' q1⟩
        | bk s2 => exact p'
        | rt y => exact p'
      | err e => exact p'
      | stuck => exact p'.elim
    · refine .inl ⟨(itr i H' hok).2 (by omega), ?_⟩
      have : xs.drop i = [] := List.drop_eq_nil_of_le (by omega)
      rw [this] at p'
      exact p' I' H' σ' (Same.refl _) g'
  | err e => exact fun I' H' c d f x => p I' H' σ c d (hx _ _ _ _ (g.step f) (x.1.back g.fm.h)) x.2
  | stuck => exact p.elim
theorem J1G.whileG {fuel : Nat} {s0 : S} {cx : S → List (Option SF)} {me : S → List MF} {mc : S → Res Bool} {mf : S → Res (Fl S S γ)} (hp : PassesOwn (model X.prog X.w) X.A X.env X.xe) (jc : ∀ s, JT X I0 H0 W (cx s) (me s) c (mc s)) (jb : ∀ s, JG X I0 H0 W Kx (Stt I0 H0 (cx s) (me s)) ss (mf s) (fun s' => Stt I0 H0 (cx s') (me s')) (fun s' => Stt I0 H0 (cx s') (me s')) rr)
    (hx : ∀ s I H σ d, Stt I0 H0 (cx s) (me s) I H σ → Fr H0 d → Kx I H σ d) : J1G X I0 H0 W Kx (Stt I0 H0 (cx s0) (me s0)) (.While c ss [] pos) (Tr.whileG mc mf fuel s0 : Res (Fl S L γ)) (fun s => Stt I0 H0 (cx s) (me s)) GL rr := fun I H σ D g p => by
  refine PS.w (ps_while hp pt_W pss_W) ⟨fun k σ' H' => ∃ I' s, Stt I0 H0 (cx s) (me s) I' H' σ' ∧ PostG X I0 H0 W Kx I' (Tr.whileG mc mf k s) (fun s => Stt I0 H0 (cx s) (me s)) GL rr D, ⟨fuel, I, s0, g, p⟩, ?_⟩
  rintro k σ' H' ⟨I', s, g', p'⟩
  cases k with
  | zero => exact p'.elim
  | succ k =>
    refine jc s I' H' σ' _ g' ?_
    have p2 : PostG X I0 H0 W Kx I' ((mc s).bind fun b => if b = true then (mf s).bind fun
      | .nx s' => Tr.whileG mc mf k s'
      | .ct s' => Tr.whileG mc mf k s'
      | .bk s' => .ok (.nx s')
      | .rt y => .ok (.rt y) else .ok (.nx s)) _ GL rr D := p'
    revert p2
    generalize mc s = z
    intro p2
    cases z with
    | ok x =>
      intro I1 H1 v f r y hy
      cases r; cases hy
      cases x with
      | true =>
        refine iteT ⟨fun σ2 H2 => ∃ I2 s', Stt I0 H0 (cx s') (me s') I2 H2 σ2 ∧ PostG X I0 H0 W Kx I2 (Tr.whileG mc mf k s') (fun s => Stt I0 H0 (cx s) (me s)) GL rr D, fun σ2 H2 h => ⟨k, Nat.lt_succ_self _, h⟩, ?_⟩
        refine jb s I1 H1 σ' _ (g'.step f) ?_
        have p3 : PostG X I0 H0 W Kx I1 ((mf s).bind fun
          | .nx s' => Tr.whileG mc mf k s'
          | .ct s' => Tr.whileG mc mf k s'
          | .bk s' => .ok (.nx s')
          | .rt y => .ok (.rt y)) _ GL rr D := PostG.up p2 f.i
        revert p3
        generalize mf s = z
        intro p3
        cases z with
        | ok a => cases a with
          | nx s' => exact fun I2 H2 σ2 si g2 => ⟨I2, s', g2, PostG.up p3 si⟩
          | ct s' => exact fun I2 H2 σ2 si g2 => ⟨I2, s', g2, PostG.up p3 si⟩
          | bk s' => exact p3
          | rt y => exact p3
        | err e => exact p3
        | stuck => exact p3
      | false => exact iteF (p2 I1 H1 σ' f.i (g'.step f))
    | err e => exact fun I' H' c d f x => p2 I' H' σ' c d (hx _ _ _ _ _ (g'.step f) (x.1.back g'.fm.h)) x.2
    | stuck => exact p2.elim
end
end L2.Tr
namespace L2.Tr
open PySem PySem.Spec PyProof.Rows
def Fl.get {S L γ : Type} : Fl S L γ → Res S
  | .nx s => .ok s
  | _ => .stuck
theorem J1.ofG {S L γ : Type} {X : Cx} {I0 H0 : Hp} {W : WX} {Kx : KnowsX} {G : Knows} {st : Stmt} {m : Res (Fl S L γ)} {G' : S → Knows} {rr : Ra γ} (j : J1G X I0 H0 W Kx G st m G' (fun _ _ _ _ => False) rr) : J1 X W Kx G st (m.bind Fl.get) G' := fun I H σ D g p => by
  refine j I H σ D g ?_
  cases m with
  | ok a => cases a with
    | nx s => exact p
    | bk s => exact p.elim
    | ct s => exact p.elim
    | rt s => exact p.elim
  | err e => exact p
  | stuck => exact p
theorem tyr_bool {K : PySem.W.Frag} {t : String} {g : Bool} (h : kitB "bool" t = some g) : TyR K (rp rBl) (.type t) (fun _ => g) := fun I H v x _ e => ⟨.type "bool", by rw [show v = _ from e]; exact .base (.bl _), kit_ty h⟩
end L2.Tr

namespace L2.Tr
open PySem PySem.Spec PyProof.Rows
/-! ### fractions in plain Lean -/
abbrev big : Nat := 2 ^ 4000
def fitI (n : Int) : Prop := n.natAbs ≤ big
def fits (q : Rat) : Prop := q.num.natAbs ≤ big ∧ q.den ≤ big
instance (n : Int) : Decidable (fitI n) := inferInstanceAs (Decidable (_ ≤ _))
instance (q : Rat) : Decidable (fits q) := inferInstanceAs (Decidable (_ ∧ _))
theorem log_big {n : Nat} (h : n ≤ big) : n.log2 ≤ 4000 := by
  have := log2_mono h
  have e : big.log2 = 4000 := Nat.log2_two_pow
  omega
theorem big_mul {a b : Nat} (ha : a ≤ big) (hb : b ≤ big) : (a * b).log2 < 9000 := by
  have h1 : a * b ≤ 2 ^ 8000 := by
    have := Nat.mul_le_mul ha hb
    rwa [show big * big = 2 ^ 8000 from by rw [← Nat.pow_add]] at this
  have := log2_mono h1
  rw [Nat.log2_two_pow] at this
  omega
theorem mul_fit {a b : Int} (ha : a.natAbs ≤ big) (hb : b.natAbs ≤ big) : mulI a b = .ok (a * b) := mulI_ok (by have := log_big ha; have := log_big hb; omega)
theorem fits_int {n : Int} : fits (n : Rat) ↔ fitI n := by
  unfold fits fitI
  rw [Rat.num_intCast, Rat.den_intCast]
  exact ⟨fun h => h.1, fun h => ⟨h, Nat.one_le_two_pow⟩⟩
theorem den_nz (x : Rat) : (x.den : Int) ≠ 0 := by have := x.den_nz; omega
theorem qMk_ok {t b : Int} (hb : b ≠ 0) (hl : b.natAbs.log2 < 9000) : qMk t b = .ok (Rat.divInt t b) := by unfold qMk; rw [if_neg hb, Res.guard_pos hl]
def gQ (x : Rat) (y : Num) (r : Rat) : Res Rat := Res.guard (fits x ∧ fits y.val) (.ok r)
def gB (x : Rat) (y : Num) (r : Bool) : Res Bool := Res.guard (fits x ∧ fits y.val) (.ok r)
def qAdd (x : Rat) (y : Num) : Res Rat := gQ x y (x + y.val)
def qSub (x : Rat) (y : Num) : Res Rat := gQ x y (x - y.val)
def qMul (x : Rat) (y : Num) : Res Rat := gQ x y (x * y.val)
def qRadd (x : Rat) (y : Int) : Res Rat := gQ x (.i y) ((y : Rat) + x)
def qRsub (x : Rat) (y : Int) : Res Rat := gQ x (.i y) ((y : Rat) - x)
def qRmul (x : Rat) (y : Int) : Res Rat := gQ x (.i y) ((y : Rat) * x)
def qNeg (x : Rat) : Res Rat := Res.guard (fits x) (.ok (-x))
def qAbs (x : Rat) : Res Rat := Res.guard (fits x) (.ok (if x < 0 then -x else x))
def qBool (x : Rat) : Res Bool := .ok (!decide (x = 0))
def qEq (x : Rat) (y : Num) : Res Bool := .ok (decide (x = y.val))
def qLt (x : Rat) (y : Num) : Res Bool := gB x y (decide (x < y.val))
def qLe (x : Rat) (y : Num) : Res Bool := gB x y (decide (x ≤ y.val))
def qGt (x : Rat) (y : Num) : Res Bool := gB x y (decide (y.val < x))
def qGe (x : Rat) (y : Num) : Res Bool := gB x y (decide (y.val ≤ x))
def qAs (y : Num) : Res Rat := .ok y.val
def qOver (x : Rat) (y : Num) : Res Rat := Res.guard (fits x ∧ fits y.val) (if y.val = 0 then .err eBF else .ok (x / y.val))
theorem stuck_or {α : Type} {p : Prop} [Decidable p] {m r : Res α} (h : p → m = r) : Res.guard p m = .stuck ∨ Res.guard p m = r := by
  by_cases hp : p
  · exact .inr (by rw [Res.guard_pos hp, h hp])
  · exact .inl (if_neg hp)
theorem fd {x : Rat} (h : fits x) : ((x.den : Int)).natAbs ≤ big := by rw [Int.natAbs_natCast]; exact h.2
theorem qMk_dd {x y : Rat} (hx : fits x) (hy : fits y) (t : Int) : qMk t ((x.den : Int) * (y.den : Int)) = .ok (Rat.divInt t ((x.den : Int) * (y.den : Int))) :=
  qMk_ok (Int.mul_ne_zero (den_nz x) (den_nz y)) (by rw [Int.natAbs_mul, Int.natAbs_natCast, Int.natAbs_natCast]; exact big_mul hx.2 hy.2)
theorem qMk_d {x : Rat} (hx : fits x) (t : Int) : qMk t (x.den : Int) = .ok (Rat.divInt t (x.den : Int)) :=
  qMk_ok (den_nz x) (by rw [Int.natAbs_natCast]; have := log_big hx.2; omega)
theorem add_divs (x y : Rat) : Rat.divInt (x.num * (y.den : Int) + y.num * (x.den : Int)) ((x.den : Int) * (y.den : Int)) = x + y := by
  conv => rhs; rw [← Rat.num_divInt_den x, ← Rat.num_divInt_den y, Rat.divInt_add_divInt _ _ (den_nz x) (den_nz y)]
theorem sub_divs (x y : Rat) : Rat.divInt (x.num * (y.den : Int) - y.num * (x.den : Int)) ((x.den : Int) * (y.den : Int)) = x - y := by
  conv => rhs; rw [← Rat.num_divInt_den x, ← Rat.num_divInt_den y, Rat.divInt_sub_divInt _ _ (den_nz x) (den_nz y)]
theorem mul_divs (x y : Rat) : Rat.divInt (x.num * y.num) ((x.den : Int) * (y.den : Int)) = x * y := by
  conv => rhs; rw [← Rat.num_divInt_den x, ← Rat.num_divInt_den y, Rat.divInt_mul_divInt _ _]
theorem add_div1 (x : Rat) (n : Int) : Rat.divInt (x.num + n * (x.den : Int)) (x.den : Int) = x + (n : Rat) := by
  have := add_divs x (n : Rat)
  rw [Rat.num_intCast, Rat.den_intCast] at this
  simpa using this
theorem sub_div1 (x : Rat) (n : Int) : Rat.divInt (x.num - n * (x.den : Int)) (x.den : Int) = x - (n : Rat) := by
  have := sub_divs x (n : Rat)
  rw [Rat.num_intCast, Rat.den_intCast] at this
  simpa using this
theorem mul_div1 (x : Rat) (n : Int) : Rat.divInt (x.num * n) (x.den : Int) = x * (n : Rat) := by
  have := mul_divs x (n : Rat)
  rw [Rat.num_intCast, Rat.den_intCast] at this
  simpa using this
theorem neg_div1 (x : Rat) : Rat.divInt (-x.num) (x.den : Int) = -x := by
  conv => rhs; rw [← Rat.num_divInt_den x, Rat.neg_divInt]
theorem eq_dec (x y : Rat) : (if decide (x.num = y.num) = true then Res.ok (decide ((x.den : Int) = (y.den : Int))) else .ok false) = .ok (decide (x = y)) := by
  by_cases h : x = y
  · subst h; simp
  · rw [decide_eq_false h]
    by_cases h1 : x.num = y.num
    · rw [decide_eq_true h1, if_pos rfl, decide_eq_false]
      intro h2
      exact h (Rat.ext h1 (by exact_mod_cast h2))
    · rw [decide_eq_false h1, if_neg (by decide)]
theorem eq_dec1 (x : Rat) (n : Int) : (if decide ((x.den : Int) = 1) = true then Res.ok (decide (x.num = n)) else .ok false) = .ok (decide (x = (n : Rat))) := by
  have h := eq_dec x (n : Rat)
  rw [Rat.num_intCast, Rat.den_intCast] at h
  rw [← h]
  by_cases h1 : (x.den : Int) = 1 <;> by_cases h2 : x.num = n <;> simp [h1, h2]
theorem lt_int (x : Rat) (n : Int) : x < (n : Rat) ↔ x.num < n * (x.den : Int) := by
  rw [Rat.lt_iff, Rat.num_intCast, Rat.den_intCast]; simp
theorem le_int (x : Rat) (n : Int) : x ≤ (n : Rat) ↔ x.num ≤ n * (x.den : Int) := by
  rw [Rat.le_iff, Rat.num_intCast, Rat.den_intCast]; simp
theorem gt_int (x : Rat) (n : Int) : (n : Rat) < x ↔ n * (x.den : Int) < x.num := by
  rw [Rat.lt_iff, Rat.num_intCast, Rat.den_intCast]; simp
theorem ge_int (x : Rat) (n : Int) : (n : Rat) ≤ x ↔ n * (x.den : Int) ≤ x.num := by
  rw [Rat.le_iff, Rat.num_intCast, Rat.den_intCast]; simp
/-! ### sizes -/
def Sz (s : Nat) (q : Rat) : Prop := q.num.natAbs ≤ 2 ^ s ∧ q.den ≤ 2 ^ s
theorem Sz.fits {s : Nat} {q : Rat} (h : Sz s q) (hs : s ≤ 4000 := by decide) : fits q := ⟨Nat.le_trans h.1 (Nat.pow_le_pow_right (by decide) hs), Nat.le_trans h.2 (Nat.pow_le_pow_right (by decide) hs)⟩
theorem Sz.mono {s t : Nat} {q : Rat} (h : Sz s q) (hs : s ≤ t) : Sz t q := ⟨Nat.le_trans h.1 (Nat.pow_le_pow_right (by decide) hs), Nat.le_trans h.2 (Nat.pow_le_pow_right (by decide) hs)⟩
theorem sz_divInt {t b : Int} {s : Nat} (h1 : t.natAbs ≤ 2 ^ s) (h2 : b.natAbs ≤ 2 ^ s) : Sz s (Rat.divInt t b) := by
  by_cases hb : b = 0
  · subst hb
    rw [Rat.divInt_zero]
    exact ⟨by simp, Nat.one_le_two_pow⟩
  · refine ⟨?_, ?_⟩
    · obtain ⟨m, m0, e1, _⟩ := Rat.divInt_num_den hb (show Rat.divInt t b = ⟨(Rat.divInt t b).num, (Rat.divInt t b).den, (Rat.divInt t b).den_nz, (Rat.divInt t b).reduced⟩ from rfl)
      have h3 : t.natAbs = (Rat.divInt t b).num.natAbs * m.natAbs := by rw [← Int.natAbs_mul, ← e1]
      refine Nat.le_trans ?_ h1
      rw [h3]
      exact Nat.le_mul_of_pos_right _ (by omega)
    · rw [Rat.den_divInt, if_neg hb]
      exact Nat.le_trans (Nat.div_le_self _ _) h2
theorem sz_int {n : Int} {s : Nat} (h : n.natAbs ≤ 2 ^ s) : Sz s (n : Rat) := by
  unfold Sz
  rw [Rat.num_intCast, Rat.den_intCast]
  exact ⟨h, Nat.one_le_two_pow⟩
theorem pow2_mul {a b s t : Nat} (ha : a ≤ 2 ^ s) (hb : b ≤ 2 ^ t) : a * b ≤ 2 ^ (s + t) := by
  rw [Nat.pow_add]; exact Nat.mul_le_mul ha hb
theorem Sz.mul {s t : Nat} {x y : Rat} (hx : Sz s x) (hy : Sz t y) : Sz (s + t) (x * y) := by
  rw [← mul_divs]
  refine sz_divInt ?_ ?_
  · rw [Int.natAbs_mul]; exact pow2_mul hx.1 hy.1
  · rw [Int.natAbs_mul, Int.natAbs_natCast, Int.natAbs_natCast]; exact pow2_mul hx.2 hy.2
theorem Sz.add {s t : Nat} {x y : Rat} (hx : Sz s x) (hy : Sz t y) : Sz (s + t + 1) (x + y) := by
  rw [← add_divs]
  have a1 := pow2_mul hx.1 hy.2
  have a2 := pow2_mul hx.2 hy.1
  have a3 := pow2_mul hx.2 hy.2
  have e : 2 ^ (s + t + 1) = 2 ^ (s + t) + 2 ^ (s + t) := by rw [Nat.pow_succ]; omega
  refine sz_divInt ?_ ?_
  · refine Nat.le_trans (Int.natAbs_add_le _ _) ?_
    rw [Int.natAbs_mul, Int.natAbs_mul, Int.natAbs_natCast, Int.natAbs_natCast, Nat.mul_comm y.num.natAbs]
    omega
  · rw [Int.natAbs_mul, Int.natAbs_natCast, Int.natAbs_natCast]; omega
theorem Sz.neg {s : Nat} {x : Rat} (hx : Sz s x) : Sz s (-x) := by
  refine ⟨?_, ?_⟩
  · show (-x.num).natAbs ≤ _; rw [Int.natAbs_neg]; exact hx.1
  · exact hx.2
theorem Sz.sub {s t : Nat} {x y : Rat} (hx : Sz s x) (hy : Sz t y) : Sz (s + t + 1) (x - y) := by
  rw [Rat.sub_eq_add_neg]; exact hx.add hy.neg
theorem Sz.inv {s : Nat} {x : Rat} (hx : Sz s x) : Sz s x⁻¹ := by
  rw [Rat.inv_def]
  exact sz_divInt (by rw [Int.natAbs_natCast]; exact hx.2) hx.1
theorem Sz.div {s t : Nat} {x y : Rat} (hx : Sz s x) (hy : Sz t y) : Sz (s + t) (x / y) := by
  rw [Rat.div_def]; exact hx.mul hy.inv
theorem div_divs (x y : Rat) (h : y ≠ 0) : Rat.divInt (x.num * (y.den : Int)) ((x.den : Int) * y.num) = x / y := by
  rw [Rat.div_def, Rat.inv_def]
  conv => rhs; rw [← Rat.num_divInt_den x, Rat.divInt_mul_divInt]
theorem num_zero {y : Rat} : y.num = 0 ↔ y = 0 := Rat.num_eq_zero
theorem qMk_dn {x y : Rat} (hx : fits x) (hy : fits y) (h : y ≠ 0) (t : Int) : qMk t ((x.den : Int) * y.num) = .ok (Rat.divInt t ((x.den : Int) * y.num)) :=
  qMk_ok (Int.mul_ne_zero (den_nz x) (fun e => h (num_zero.mp e))) (by rw [Int.natAbs_mul, Int.natAbs_natCast]; exact big_mul hx.2 hy.1)
/-- m answers something that P holds of, and so the rest answers r -/
theorem bind_to {α β : Type} {m : Res α} {f : α → Res β} {r : Res β} (P : α → Prop) (h : ∃ v, m = .ok v ∧ P v) (k : ∀ v, P v → f v = r) : m.bind f = r := by
  obtain ⟨v, rfl, p⟩ := h
  exact k v p
theorem divs_lt {a b c d : Int} (hb : 0 < b) (hd : 0 < d) : Rat.divInt a b < Rat.divInt c d ↔ a * d - c * b < 0 := by
  rw [← Rat.not_le, Rat.le_iff_sub_nonneg, Rat.divInt_sub_divInt _ _ (by omega) (by omega), Rat.divInt_nonneg_iff_of_pos_right (Int.mul_pos hb hd)]
  omega
theorem int_divs {b : Int} (n : Int) (hb : b ≠ 0) : (n : Rat) = Rat.divInt (n * b) b := by
  have := Rat.divInt_mul_right (n := n) (d := 1) (a := b) hb
  rw [Int.one_mul] at this
  rw [this]
  exact Rat.ext (by rw [Rat.num_divInt]; simp) (by rw [Rat.den_divInt]; simp)
theorem divs_lt_int {a b n : Int} (hb : 0 < b) : Rat.divInt a b < (n : Rat) ↔ a - n * b < 0 := by
  have e : (n : Rat) = Rat.divInt n 1 := by have := int_divs (b := 1) n (by decide); rwa [Int.mul_one] at this
  rw [e, divs_lt hb (by decide), Int.mul_one]
theorem int_lt_divs {a b n : Int} (hb : 0 < b) : (n : Rat) < Rat.divInt a b ↔ n * b - a < 0 := by
  have e : (n : Rat) = Rat.divInt n 1 := by have := int_divs (b := 1) n (by decide); rwa [Int.mul_one] at this
  rw [e, divs_lt (by decide) hb, Int.mul_one]
theorem absN (v : Int) : (if v < 0 then -v else v) = (v.natAbs : Int) := by split <;> omega
/-! ### the guards, passed -/
theorem qAdd_ok {x : Rat} {y : Num} (hx : fits x) (hy : fits y.val) : qAdd x y = .ok (x + y.val) := Res.guard_pos ⟨hx, hy⟩ _
theorem qSub_ok {x : Rat} {y : Num} (hx : fits x) (hy : fits y.val) : qSub x y = .ok (x - y.val) := Res.guard_pos ⟨hx, hy⟩ _
theorem qMul_ok {x : Rat} {y : Num} (hx : fits x) (hy : fits y.val) : qMul x y = .ok (x * y.val) := Res.guard_pos ⟨hx, hy⟩ _
theorem qRadd_ok {x : Rat} {y : Int} (hx : fits x) (hy : fits (y : Rat)) : qRadd x y = .ok ((y : Rat) + x) := Res.guard_pos ⟨hx, hy⟩ _
theorem qRsub_ok {x : Rat} {y : Int} (hx : fits x) (hy : fits (y : Rat)) : qRsub x y = .ok ((y : Rat) - x) := Res.guard_pos ⟨hx, hy⟩ _
theorem qRmul_ok {x : Rat} {y : Int} (hx : fits x) (hy : fits (y : Rat)) : qRmul x y = .ok ((y : Rat) * x) := Res.guard_pos ⟨hx, hy⟩ _
theorem qNeg_ok {x : Rat} (hx : fits x) : qNeg x = .ok (-x) := Res.guard_pos hx _
theorem qAbs_ok {x : Rat} (hx : fits x) : qAbs x = .ok (if x < 0 then -x else x) := Res.guard_pos hx _
theorem qLt_ok {x : Rat} {y : Num} (hx : fits x) (hy : fits y.val) : qLt x y = .ok (decide (x < y.val)) := Res.guard_pos ⟨hx, hy⟩ _
theorem qLe_ok {x : Rat} {y : Num} (hx : fits x) (hy : fits y.val) : qLe x y = .ok (decide (x ≤ y.val)) := Res.guard_pos ⟨hx, hy⟩ _
theorem qGt_ok {x : Rat} {y : Num} (hx : fits x) (hy : fits y.val) : qGt x y = .ok (decide (y.val < x)) := Res.guard_pos ⟨hx, hy⟩ _
theorem qGe_ok {x : Rat} {y : Num} (hx : fits x) (hy : fits y.val) : qGe x y = .ok (decide (y.val ≤ x)) := Res.guard_pos ⟨hx, hy⟩ _
theorem qOver_ok {x : Rat} {y : Num} (hx : fits x) (hy : fits y.val) (h : y.val ≠ 0) : qOver x y = .ok (x / y.val) := by unfold qOver; rw [Res.guard_pos ⟨hx, hy⟩, if_neg h]
theorem qOver_err {x : Rat} {y : Num} (hx : fits x) (hy : fits y.val) (h : y.val = 0) : qOver x y = .err eBF := by unfold qOver; rw [Res.guard_pos ⟨hx, hy⟩, if_pos h]
end L2.Tr

/-! in-place operators of an own class without in-place methods; abs and bool of an own class -/
namespace PySem.W
open PySem PySem.Calls PyProof.Rows
section
variable {prog : Program} {w : World} {A : Around} {E : Value → Shared → Prop} {s : Shared} {K : Frag} {x C dx L f : Addr} {h₀ : Heap} {m : Str → Option Value} {ox : Obj} {od : Option Obj} {nm : String}
def noIpl (K : Frag) (C : Addr) (nm : String) : Bool := match clsIn K C with
  | some cd => cd.mro.all fun c => He.eqO (findIn K c (dunderI nm)) (some none)
  | none => false
theorem tr_fillsNo {add : Bool} (X : K.In s.heap) (h : noIpl K C nm = true) : Looks (model prog w) s.heap (fillsInplaceSlot (.ref C) nm add) false := by
  unfold noIpl at h
  split at h
  · rename_i cd hc
    intro A Q E s' k q
    have Lm : Looks (model prog w) s.heap (mroOf (.ref C)) cd.mro := (looks_clsIn X hc).andThen (f := fun cd => pure cd.mro) .now
    unfold fillsInplaceSlot
    refine wpAny_bind ((Lm.keeps k).at ?_)
    have X' := X.keeps k
    generalize cd.mro = l at h
    clear Lm
    induction l with
    | nil => exact wpAny_pure q
    | cons c l ih =>
      rw [List.all_cons] at h
      obtain ⟨h1, h2⟩ := (Bool.and_eq_true _ _ ▸ h : _ ∧ _)
      rw [List.anyM_cons]
      refine wpAny_bind (wpAny_bind ((looks_findIn X' (He.eqO_ok h1)).at ?_))
      dsimp only
      refine wpAny_pure ?_
      simp only [Bool.false_eq_true, if_false]
      exact ih h2
  · cases h
theorem tr_bin1K {b : Value} {nm : String} {Q : Value → Shared → Prop} (X : K.In s.heap) (I : InstAt s.heap x ox C od) (hb : Looks (model prog w) s.heap (typeOf b) (.ref C)) (hc : selfFirst K C = true)
    (hs : findIn K (.ref C) (PySem.dunder nm) = some (some (.ref f))) (hf : isFn K (.ref f) = true)
    (h : wpAny (model prog w) A (call (.ref f) [.ref x, b]) (CmpBack Q) E s) : wpAny (model prog w) A (binaryOp1 nm (.ref x) b) (fun r s' => ∃ v, r = some v ∧ Q v s') E s := by
  obtain ⟨cd, rest, hcd, hm⟩ := ksp_first hc
  unfold binaryOp1
  refine wpAny_bind (I.type.here (wpAny_bind (hb.here (wpAny_bind ((fills_K X hcd hm hs).here ?_)))))
  simp only [beq_self_eq_true, if_true]
  refine wpAny_bind (wpAny_pure ?_)
  simp only [Bool.and_false, Bool.false_eq_true, if_false, Bool.false_and]
  refine wpAny_bind (wpAny_pure ?_)
  simp only [Bool.false_eq_true, if_false]
  refine wpAny_bind (m := tryMethod (.ref x) _ b) ?_
  unfold tryMethod
  refine wpAny_bind (special_fn X I hs (beq_iff_eq.mp hf) (wpAny_mono h (fun v s' hv => ?_) fun _ _ e => e))
  cases v <;> first | exact hv.elim | exact wpAny_pure (wpAny_pure ⟨_, rfl, hv⟩)
theorem tr_bin1T {T : String} {nm' : String} {b : Value} {fo ro rc : Option Value} {Q : Value → Shared → Prop} (X : K.In s.heap) (I : InstAt s.heap x ox C od) (hb : typeOf b = pure (.type T)) (hc : selfFirst K C = true)
    (hs : findIn K (.ref C) (PySem.dunder nm') = some (some (.ref f))) (hf : isFn K (.ref f) = true) (hr : findIn K (.ref C) (dunderR nm') = some rc) (hp : rc = none ∨ ∃ g : Addr, rc = some (.ref g))
    (h1 : findIn K (.type T) (PySem.dunder nm') = some fo) (h2 : findIn K (.type T) (dunderR nm') = some ro) (hsub : subIn K (.type T) (.ref C) = some false)
    (h : wpAny (model prog w) A (call (.ref f) [.ref x, b]) (CmpBack Q) E s) : wpAny (model prog w) A (binaryOp1 nm' (.ref x) b) (fun r s' => ∃ v, r = some v ∧ Q v s') E s := by
  obtain ⟨cd, rest, hcd, hm⟩ := ksp_first hc
  have one := ksp_try X I hs hf h
  obtain ⟨hh, g, d, tt, os⟩ := s
  have L1 : Looks (model prog w) hh (typeOf (.ref x)) (.ref C) := I.type
  have L2 : Looks (model prog w) hh (typeOf b) (.type T) := Looks.of_pure hb
  have L3 : Looks (model prog w) hh (fillsNumberSlot (.ref C) nm') true := fills_K X hcd hm hs
  have L4 : Looks (model prog w) hh (fillsNumberSlot (.type T) nm') ((fo.isSome && !isSeqSlot fo) || (ro.isSome && !isSeqSlot ro)) := ksp_fillsT X h1 h2
  have L5 : Looks (model prog w) hh (isSubtype (.type T) (.ref C)) false := looks_subIn X hsub
  have L6 : Looks (model prog w) hh (numberSlotInPython (.ref C) nm') true := ksp_inPy X hs hr hp
  have L7 : Looks (model prog w) hh (numberSlotInPython (.type T) nm') false := Looks.of_pure rfl
  have L8 : Looks (model prog w) hh (typeLookup (.type T) (dunderR nm')) ro := looks_findIn X h2
  generalize ((fo.isSome && !isSeqSlot fo) || (ro.isSome && !isSeqSlot ro)) = right at L4
  have hne : (Value.ref C == Value.type T) = false := Bool.eq_false_iff.mpr fun q => by cases beq_iff_eq.mp q
  unfold binaryOp1
  refine wpAny_bind (L1.at (wpAny_bind (L2.at (wpAny_bind (L3.at ?_)))))
  simp only [hne, Bool.false_eq_true, if_false]
  cases right with
  | false =>
    ksp_lk
    refine wpAny_mono one (fun r s' hr' => ?_) fun _ _ e => e
    obtain ⟨v, rfl, hq⟩ := hr'
    ksp_lk
    exact ⟨_, rfl, hq⟩
  | true =>
    ksp_lk
    refine wpAny_mono one (fun r s' hr' => ?_) fun _ _ e => e
    obtain ⟨v, rfl, hq⟩ := hr'
    ksp_lk
    exact ⟨_, rfl, hq⟩
theorem tr_ipl {op : Operator} {b : Value} {Q : Value → Shared → Prop} (X : K.In s.heap) (I : InstAt s.heap x ox C od) (hn : noIpl K C op.info.2 = true)
    (h : wpAny (model prog w) A (binaryOp1 op.info.2 (.ref x) b) (fun r s' => ∃ v, r = some v ∧ Q v s') E s) : wpAny (model prog w) A (inplaceOp op (.ref x) b) Q E s := by
  have L2 : Looks (model prog w) s.heap (fillsInplaceSlot (.ref C) op.info.2 (op == .Add)) false := tr_fillsNo X hn
  unfold inplaceOp
  refine wpAny_holding (wpAny_bind (I.type.here (wpAny_bind (L2.here ?_))))
  simp only [Bool.false_eq_true, if_false]
  refine wpAny_bind (m := binaryOp1 _ _ _) (wpAny_mono h (fun r s' z => ?_) fun _ _ e => e)
  obtain ⟨v, rfl, hq⟩ := z
  exact wpAny_pure hq
theorem tr_abs {Q : Value → Shared → Prop} (X : K.In s.heap) (I : InstAt s.heap x ox C od) (hs : findIn K (.ref C) "__abs__" = some (some (.ref f))) (hf : isFn K (.ref f) = true)
    (h : wpAny (model prog w) A.in1 (call (.ref f) [.ref x]) Q E s) : wpAny (model prog w) A (call (.builtin "abs") [.ref x]) Q E s := by
  refine call_function_entry kind_abs plain_abs entry_abs (args_abs _) ?_
  unfold Builtin.«abs»
  refine wpAny_bind (m := oneArg "abs" _) (wpAny_pure ?_)
  refine wpAny_bind (m := callSpecial? (.ref x) (Str.ofString "__abs__")) (special_fn X I hs (beq_iff_eq.mp hf) (wpAny_mono h (fun r s' hr => ?_) fun _ _ y => y))
  exact wpAny_pure ⟨_, rfl, hr⟩
theorem meets_bool_own (prog : Program) (w : World) (x : Addr) : MeetsIn prog w (Builtin.«bool.__new__» ⟨[.type "bool", .ref x], []⟩) (fun A R s => wpAny (model prog w) A.in1 (truthy (.ref x)) (fun b s' => R (.ok (.ret (.bool b))) s') (fun e s' => R (.error e) s') s) := fun A R s hs => by
  unfold Builtin.«bool.__new__»
  dsimp only
  refine wpAny_bind (m := isType (.type "bool")) (wpAny_pure ?_)
  simp only [Bool.not_true, Bool.false_eq_true, if_false]
  rw [F.conv_sub_bool]
  refine wpAny_bind (wpAny_pure ?_)
  simp only [Bool.not_true, Bool.false_eq_true, if_false]
  refine wpAny_bind (m := someArgs "bool" 0 1 _) (wpAny_pure ?_)
  refine wpAny_bind (m := truthy (.ref x)) (wpAny_mono hs (fun b s' h => wpAny_pure h) fun _ _ h => h)
theorem tr_bool {Q : Value → Shared → Prop} (X : K.In s.heap) (I : InstAt s.heap x ox C od) (hs : findIn K (.ref C) "__bool__" = some (some (.ref f))) (hf : isFn K (.ref f) = true)
    (h : wpAny (model prog w) A.in1.in1 (call (.ref f) [.ref x]) (fun r s' => ∃ b, r = .bool b ∧ Q (.bool b) s') E s) : wpAny (model prog w) A (call (.type "bool") [.ref x]) Q E s := by
  refine callType_newIn PySem.F.called_bool PySem.F.newNe_bool (PySem.F.typeCall_bool_1 _) (PySem.F.newCall_bool_1 _) (fun obj => PySem.F.args_object_init_2 obj _) PySem.F.entry_bool_new (meets_bool_own prog w x) ?_
  unfold truthy
  refine wpAny_bind (m := callSpecial? (.ref x) (Str.ofString "__bool__")) (special_fn X I hs (beq_iff_eq.mp hf) (wpAny_mono h (fun r s' hr => ?_) fun _ _ y => y))
  obtain ⟨b, rfl, q⟩ := hr
  exact wpAny_pure ⟨rfl, q⟩
theorem tr_truthy {Q : Bool → Shared → Prop} (X : K.In s.heap) (I : InstAt s.heap x ox C od) (hs : findIn K (.ref C) "__bool__" = some (some (.ref f))) (hf : isFn K (.ref f) = true)
    (h : wpAny (model prog w) A (call (.ref f) [.ref x]) (fun r s' => ∃ b, r = .bool b ∧ Q b s') E s) : wpAny (model prog w) A (truthy (.ref x)) Q E s := by
  unfold truthy
  refine wpAny_bind (m := callSpecial? (.ref x) (Str.ofString "__bool__")) (special_fn X I hs (beq_iff_eq.mp hf) (wpAny_mono h (fun r s' hr => ?_) fun _ _ y => y))
  obtain ⟨b, rfl, q⟩ := hr
  exact wpAny_pure q
end
end PySem.W
namespace L2.Tr
open PySem PySem.Spec PyProof.Rows He
section
variable {α β γ δ S : Type} {X : Cx} {I0 H0 : Hp} {W : WX} {Kx : KnowsX} {ctx : List (Option SF)} {mem : List MF} {e a b c o : Expr} {es bs : List Expr} {pos pos' : Pos} {n : Str} {ra : Ra α} {rb : Ra β} {rc : Ra γ} {ma : Res α} {mb : Res β}
def fNoIpl (x : Str) (nm : String) : FB := fun K => PySem.W.noIpl K (ga K x) nm
theorem noIpl_of {K : PySem.W.Frag} {x : Str} {nm : String} (c : fNoIpl x nm K = true) : PySem.W.noIpl K (ga K x) nm = true := c
/-- x op= y, both of the class -/
theorem opi_own {op : Operator} {C f : Addr} {g : α × β × Unit → Res γ} (hc : OCls X.K C) (hn : PySem.W.noIpl X.K C op.info.2 = true) (hm : OMet X.K C (PySem.dunder op.info.2) f) (ia : InsR C ra) (ib : InsR C rb) (cj : CallJ X W (.ref f) (R2' ra rb) g rc) :
    OpJ X W (inplaceOp op) ra rb (fun x y => g (x, y, ())) rc := fun I H σ Q u v x y s a b p pins sh uu vv Iv ru rv => by
  obtain ⟨au, dx, fs, rfl, hu⟩ := ia I H u x s a
  obtain ⟨av, dy, gs, rfl, hv⟩ := ib I H v y s b
  cases (show uu = Value.ref au from ru)
  cases (show vv = Value.ref av from rv)
  obtain ⟨od, J⟩ := insAt Iv hu
  obtain ⟨od', J'⟩ := insAt Iv hv
  exact PySem.W.tr_ipl Iv.kIn J hn (PySem.W.tr_bin1K Iv.kIn J J'.type hc.sf hm.at_ hm.fn (back_W (cj I H σ Q [.ref au, .ref av] (x, y, ()) s ⟨_, _, rfl, a, _, _, rfl, b, rfl⟩ p) Iv (.cons rfl (.cons rfl .nil))))
theorem opi_ownI {op : Operator} {C f f' : Addr} {g : α × Int × Unit → Res γ} {fo ro : Option Value} (hc : OCls X.K C) (hn : PySem.W.noIpl X.K C op.info.2 = true) (hm : OMet X.K C (PySem.dunder op.info.2) f) (hr : OMet X.K C (dunderR op.info.2) f') (h1 : PySem.W.findIn X.K (.type "int") (PySem.dunder op.info.2) = some fo) (h2 : PySem.W.findIn X.K (.type "int") (dunderR op.info.2) = some ro)
    (ia : InsR C ra) (cj : CallJ X W (.ref f) (R2' ra (rp rInt)) g rc) : OpJ X W (inplaceOp op) ra (rp rInt) (fun x y => g (x, y, ())) rc := fun I H σ Q u v x y s a b p pins sh uu vv Iv ru rv => by
  obtain ⟨au, dx, fs, rfl, hu⟩ := ia I H u x s a
  cases (show uu = Value.ref au from ru)
  cases (show v = V.int y from b)
  obtain ⟨t, e⟩ := (show ∃ t, vv = Value.int y t from rv)
  cases e
  obtain ⟨od, J⟩ := insAt Iv hu
  exact PySem.W.tr_ipl Iv.kIn J hn (PySem.W.tr_bin1T (T := "int") Iv.kIn J rfl hc.sf hm.at_ hm.fn hr.at_ (.inr ⟨_, rfl⟩) h1 h2 hc.in_ (back_W (cj I H σ Q [.ref au, .int y] (x, y, ()) s ⟨_, _, rfl, a, _, _, rfl, rfl, rfl⟩ p) Iv (.cons rfl (.cons ⟨_, rfl⟩ .nil))))
variable {f f' : Addr} {k k' : Nat} {g : Rat × Num × Unit → Res γ} {g' : Rat × Int × Unit → Res γ}
theorem opi_qq {op : Operator} (hn : PySem.W.noIpl X.K (He.ga X.K "Fraction") op.info.2 = true) (hc : OCls X.K (He.ga X.K "Fraction")) (hm : OMet X.K (He.ga X.K "Fraction") (PySem.dunder op.info.2) f) (F : FnR X.prog X.w X.K X.mg X.base (L2.CX X.prog X.w) k f (spF X.K (R2' (rp (rFrac X.K)) (rp (rNum X.K))) g rc)) (hr : Room k X.A) (tk : Takes X W) :
    OpJ X W (inplaceOp op) (rp (rFrac X.K)) (rp (rFrac X.K)) (fun x y => g (x, .q y, ())) rc := opi_own (g := fun d => g (d.1, .q d.2.1, ())) hc hn hm insF insF ((cj_of F hr tk).co fun I H vs d _ h => h)
theorem opi_qi {op : Operator} {fo ro : Option Value} (hn : PySem.W.noIpl X.K (He.ga X.K "Fraction") op.info.2 = true) (hc : OCls X.K (He.ga X.K "Fraction")) (hm : OMet X.K (He.ga X.K "Fraction") (PySem.dunder op.info.2) f) (hm' : OMet X.K (He.ga X.K "Fraction") (dunderR op.info.2) f') (h1 : PySem.W.findIn X.K (.type "int") (PySem.dunder op.info.2) = some fo) (h2 : PySem.W.findIn X.K (.type "int") (dunderR op.info.2) = some ro)
    (F : FnR X.prog X.w X.K X.mg X.base (L2.CX X.prog X.w) k f (spF X.K (R2' (rp (rFrac X.K)) (rp (rNum X.K))) g rc)) (hr : Room k X.A) (tk : Takes X W) :
    OpJ X W (inplaceOp op) (rp (rFrac X.K)) (rp rInt) (fun x y => g (x, .i y, ())) rc := opi_ownI (g := fun d => g (d.1, .i d.2.1, ())) hc hn hm hm' h1 h2 insF ((cj_of F hr tk).co fun I H vs d _ h => h)
theorem opi_add : OpJ X W (inplaceOp .Add) (rp rInt) (rp rInt) (fun x y => .ok (x + y)) (rp rInt) := fun I H σ Q u v x y s a b p => OpR.w iop_add ⟨x, y, a, b, p I H _ (Fm.refl s) rfl⟩
theorem opi_sub : OpJ X W (inplaceOp .Sub) (rp rInt) (rp rInt) (fun x y => .ok (x - y)) (rp rInt) := fun I H σ Q u v x y s a b p => OpR.w iop_sub ⟨x, y, a, b, p I H _ (Fm.refl s) rfl⟩
/-- x op= e, x a local name -/
theorem J1.aug (i : Nat) {op : Operator} {r1 : Rp α} {r2 : Rp β} {r3 : Rp γ} [mo1 : Mo r1] [Mo r3] {mo : Mo r1} {m : Res β} {x : α} {h : α → β → Res γ} (j : JE X I0 H0 W ctx mem e m (rp r2)) (op_ : OpJ X W (inplaceOp op) (rp r1) (rp r2) h (rp r3)) (hx : ∀ I H σ d, Stt I0 H0 ctx mem I H σ → Fr H0 d → Kx I H σ d) (hN : X.N.Nodup)
    (hc : ctx[i]? = some (some (@SF.mk α r1 mo x)) := by rfl) (hi : X.N[i]? = some n := by rfl) (hl : Loc X.env.scope n := by first | exact Or.inl rfl | exact Or.inr rfl)
    (hf : X.fn n = true ∨ X.env.scope.names.lookup n = some .local := by first | exact .inl rfl | exact .inr rfl | assumption) : J1 X W Kx (Stt I0 H0 ctx mem) (.AugAssign (.Name n pos') op e pos) (m.bind fun y => h x y) (fun z => Stt I0 H0 (ctx.set i (some ⟨r3, z⟩)) mem) := fun I H σ D g p => by
  obtain ⟨v, e1, rv⟩ := g.sl i _ hc
  intro pins sh Iv
  obtain ⟨m', hn, hl'⟩ := Iv.loc
  have vis : Vis X.env.scope n := by rcases hl with k | k; exact .inl k; exact .inr (.inl k)
  obtain ⟨u, r, l⟩ := hl' i n v hi e1 vis
  refine wpAny_AugAssign_Name ?_
  have go : wpAny (model X.prog X.w) X.A (eval e X.env) (fun w s₂ => wpAny (model X.prog X.w) X.A (inplaceOp op u w) (fun r s₃ => wpAny (model X.prog X.w) X.A (storeName X.env n r) (fun _ => SP X pins D .next) X.xe s₃) X.xe s₂) X.xe sh := by
    refine thn (j I H σ (fun y H1 => opW X (inplaceOp op) σ v y H1 fun z H2 => D.nx (σ.set i (some z)) H2) g ?_ pins sh Iv) fun w s1 ⟨y, H1, I1, r1, q1⟩ => ?_
    · cases m with
      | ok y =>
        intro I1 H1 vy f1 ry
        refine op_ I1 H1 σ _ v vy x y f1.ih (mo1.up f1.i rv) ry ?_
        revert p
        show PostB X W Kx I (h x y) _ D → _
        generalize h x y = z
        intro p
        cases z with
        | ok z => exact fun I2 H2 vz f2 rz => p I2 H2 _ (f1.i.trans f2.i) (((g.step f1).step f2).set i rz)
        | err e => exact fun I' H' c d f x => p I' H' σ c d (hx _ _ _ _ ((g.step f1).step f) (x.1.back (g.step f1).fm.h)) x.2
        | stuck => exact p
      | err e => exact fun I' H' c d f x => p I' H' σ c d (hx _ _ _ _ (g.step f) (x.1.back g.fm.h)) x.2
      | stuck => exact p
    refine thn (q1 pins s1 u w I1 r r1) fun z s2 ⟨zv, H2, I2, r2, q2⟩ => ?_
    exact store_ok I2 hN hi hl r2 (fun s3 I3 => ⟨_, H2, I3, q2⟩) hf
  rcases l with ⟨hk, hm⟩ | ⟨hk, c, hc', hcell⟩
  · exact wpAny_loadName_local Iv.ok.kind hk hn hm go
  · rcases hk with hk | hk
    · exact wpAny_loadName_cell Iv.ok.kind hk hc' hcell go
    · rcases hl with k | k
      · have : X.env.scope.names.lookup n = some .free := hk
        rw [k] at this; cases this
      · have : X.env.scope.names.lookup n = some .free := hk
        rw [k] at this; cases this
/-- abs(x), x of an own class -/
theorem cj_absO {k : Nat} {C f : Addr} {g : α × Unit → Res γ} (hm : OMet X.K C "__abs__" f) (ia : InsR C ra) (hr : Room (k + 1) X.A) (tk : Takes X W) (F : FnR X.prog X.w X.K X.mg X.base (L2.CX X.prog X.w) k f (spF X.K (R1 ra) g rc)) : CallJ X W (.builtin "abs") (R1 ra) g rc := fun I H σ Q vs x s h p pins sh us Iv r => by
  obtain ⟨v, ws, rfl, h1, rfl⟩ := h
  obtain ⟨au, dx, fs, rfl, hu⟩ := ia I H v x.1 s h1
  obtain rfl := Vals.ref1 r
  obtain ⟨od, J⟩ := insAt Iv hu
  exact PySem.W.tr_abs Iv.kIn J hm.at_ hm.fn (run_W1 (vs := [.ref au]) F hr tk ⟨I, x, s, ⟨_, _, rfl, h1, rfl⟩, p⟩ Iv r)
theorem run_W2 {k : Nat} {f : Addr} {sp : Sp} {vs : List V} {H : Hp} {σ : St} {Q : VK} (F : FnR X.prog X.w X.K X.mg X.base (L2.CX X.prog X.w) k f sp) (hr : Room (k + 2) X.A) (tk : Takes X W) (h : sp vs H Q fun cls d H' => W cls d σ H') {pins : List (Addr × Obj)} {s : Shared} {us : List Value} (I : Inv X pins σ H s) (r : Vals vs us) :
    wpAny (model X.prog X.w) X.A.in1.in1 (call (.ref f) us) (EP X pins σ Q) X.xe s := by
  refine wpAny_call (codeAny_mono (F X.A.in1.in1 X.stack s H us vs Q _ (Room.in1 (k := k) (Room.in1 (k := k + 1) hr)) I.env0.in1.in1 r h) fun r s' hq => ?_)
  cases r with
  | error e => exact passAt tk σ pins H s e s' I hq
  | ok fl =>
    cases fl with
    | ret u => exact I.after hq
    | next => exact False.elim hq
    | brk => exact False.elim hq
    | cont => exact False.elim hq
theorem cj_boolO {k : Nat} {C f : Addr} {g : α × Unit → Res Bool} (hm : OMet X.K C "__bool__" f) (ia : InsR C ra) (hr : Room (k + 2) X.A) (tk : Takes X W) (F : FnR X.prog X.w X.K X.mg X.base (L2.CX X.prog X.w) k f (spF X.K (R1 ra) g (rp rBl))) : CallJ X W (.type "bool") (R1 ra) g (rp rBl) := fun I H σ Q vs x s h p pins sh us Iv r => by
  obtain ⟨v, ws, rfl, h1, rfl⟩ := h
  obtain ⟨au, dx, fs, rfl, hu⟩ := ia I H v x.1 s h1
  obtain rfl := Vals.ref1 r
  obtain ⟨od, J⟩ := insAt Iv hu
  refine PySem.W.tr_bool Iv.kIn J hm.at_ hm.fn (thn (run_W2 (vs := [.ref au]) (Q := fun z H' => (∃ b, z = .bl b) ∧ Q z H') F hr tk ⟨I, x, s, ⟨_, _, rfl, h1, rfl⟩, ?_⟩ Iv r) fun w s' ⟨z, H', I', rz, ⟨b, ez⟩, q⟩ => ?_)
  · revert p
    generalize g x = z
    intro p
    cases z with
    | ok y => exact fun I' H' v f r => ⟨⟨y, r⟩, p I' H' v f r⟩
    | err e => exact p
    | stuck => exact p
  · subst ez
    cases (show w = Value.bool b from rz)
    exact ⟨b, rfl, .bl b, H', I', rfl, q⟩
/-- if x:, x of an own class with __bool__ -/
theorem unused_ : True := trivial
end
end L2.Tr

namespace L2.Tr
open PySem PySem.Spec PyProof.Rows
section
variable {K : PySem.W.Frag} {x qual : Str} {params : Arguments} {body : List Stmt} {scope : Scope} {kws : List (Str × V)} {f : Addr} {fd : FuncData} {ps : List Str}
/-- keywords at a def without defaults -/
theorem kbindsN (F : FunD K x qual params body scope [] kws f fd) (n : Nat) (ks : List Str) (g : {α : Type} → List α → List α → List α) (hrel : ∀ {vs zs : List V} {us ws : List Value}, Vals vs us → Vals zs ws → Vals (g vs zs) (g us ws))
    (h : ∀ (kV doc pm : Value) (an : Option Addr) (cdv ct : Value) (us ws : List Value), us.length = n → ws.length = ks.length → bindArgs (PySem.W.fnOf x qual params body scope .none kV doc pm an cdv ct) ⟨us, ks.zip ws⟩ = pure (ps.zip (g us ws))) : KBn K fd ps n ks g g := by
  obtain ⟨oc, od, dV, kV, doc, pm, an, cdv, ct, osl, rfl, lk, hcd, hD, hK⟩ := F.ex
  rcases hD with ⟨_, rfl⟩ | ⟨e, _⟩
  · exact ⟨fun s us ws _ l1 l2 => .of_eq (h kV doc pm an cdv ct us ws l1 l2), hrel⟩
  · exact absurd rfl e
end
section
variable {α β γ δ ε : Type} {X : Cx} {I0 H0 : Hp} {W : WX} {ctx : List (Option SF)} {mem : List MF} {e a b c o : Expr} {es bs : List Expr} {kws : List Keyword} {pos pos' kpos : Pos} {n x : Str} {nm : Option Str} {ra : Ra α} {rb : Ra β} {rc : Ra γ} {ma : Res α} {mb : Res β}
variable {R : Hp → Hp → List V → δ → Prop} {R' : Hp → Hp → List V → ε → Prop} {md : Res δ} {me : Res ε} {g : δ → ε → Res γ} {ks : List Str}
theorem cjk_fn {k n : Nat} {f : Addr} {fd : FuncData} {ps : List Str} {gg : List Value → List Value → List Value} {gV : List V → List V → List V} {η : Type} {Ri : Hp → Hp → List V → η → Prop} {m : η → Res γ} {h : δ → ε → η} (F : FnOk X.prog X.w X.K X.mg X.base (L2.CX X.prog X.w) k f fd ps (spF X.K Ri m rc)) (hr : Room k X.A)
    (hb : KBn X.K fd ps n ks gg gV) (tk : Takes X W) (hR : ∀ I H vs zs x y, R I H vs x → R' I H zs y → vs.length = n ∧ zs.length = ks.length ∧ Ri I H (gV vs zs) (h x y)) : CallKJ X W (.ref f) ks R R' (fun x y => m (h x y)) rc := fun I H σ Q vs zs x y sm r r' p pins s us ws Iv rv rz => by
  obtain ⟨l1, l2, hRi⟩ := hR I H vs zs x y r r'
  refine wpAny_call (codeAny_mono (F.run X.A X.stack s H ⟨us, ks.zip ws⟩ (gg us ws) (gV vs zs) Q _ hr Iv.env0 (hb.to s us ws Iv.kIn (rv.length.symm.trans l1) (rz.length.symm.trans l2)) (hb.rel rv rz) ⟨I, h x y, sm, hRi, p⟩) fun r s' hq => ?_)
  cases r with
  | error e => exact passAt tk σ pins H s e s' Iv hq
  | ok fl =>
    cases fl with
    | ret u => exact Iv.after hq
    | next => exact False.elim hq
    | brk => exact False.elim hq
    | cont => exact False.elim hq
/-- o.m(k = v, ..) -/
theorem JE.methK0 {pl : Sem Bool} {m : Str} {C f : Addr} {apos : Pos} {g : α × Unit → ε → Res γ} [MoA ra] (j : JE X I0 H0 W ctx mem o ma ra) (hi : InsOf C ra m) (jk : JK X I0 H0 W ctx mem kws me R') (cj : CallKJ X W (.ref f) ks (aCons ra aNil) R' g rc) (c : Cls X.K C) (hm : Meth X.K C m f)
    (hall : (backToKw pos (keywordEach kws X.env)).all (·.1.isSome) = true := by rfl) (hks : (backToKw pos (keywordEach kws X.env)).filterMap (·.1) = ks := by rfl)
    (hpl : ((backTo pos (starEach [] X.env)).any (·.1) || (backToKw pos (keywordEach kws X.env)).any (·.1.isNone)) = false := by rfl)
    (ht : eval (.Call (.Attribute o m apos) [] kws pos) X.env = (do
      let ov ← eval o X.env
      standAt apos.atName
      let (f, first) ← holding [ov] (getMethod ov m pl)
      callWith pos f first (backTo pos (starEach [] X.env)) (backToKw pos (keywordEach kws X.env))) := by rfl) : JE X I0 H0 W ctx mem (.Call (.Attribute o m apos) [] kws pos) (ma.bind fun x => me.bind fun y => g (x, ()) y) rc := fun I H σ Q st p pins s Iv => by
  refine PySem.W.methodCall_KW (pl := pl) (thn (j I H σ (fun v H1 => ∃ a dx fs, v = .ref a ∧ H1 a = some (.ins C dx fs) ∧ fs.lookup m = none ∧ ∀ pins s1, Inv X pins σ H1 s1 → wpAny (model X.prog X.w) X.A (evalAll ((backToKw pos (keywordEach kws X.env)).map (·.2))) (fun ws s2 => X.K.In s2.heap ∧ wpAny (model X.prog X.w) X.A (PySem.call (.ref f) ([.ref a] ++ []) (ks.zip ws)) (EP X pins σ Q) X.xe s2) X.xe s1) st ?_ pins s Iv) fun u s1 ⟨v, H1, I1, rx, a, dx, fs, ex, ea, l, q⟩ => ?_) ht
  · cases ma with
    | ok x =>
      intro I1 H1 v f1 r1
      obtain ⟨a, dx, fs, ev, ha, hl⟩ := hi I1 H1 v x f1.ih r1
      have p1 := PostE.up p f1
      refine ⟨a, dx, fs, ev, ha, hl, fun pins s1 Iv1 => ?_⟩
      refine thn (jk pos I1 H1 σ (fun zs H2 => callKW X (.ref f) ks σ [v] zs H2 Q) (st.step f1) ?_ pins s1 Iv1) fun ws s2 ⟨zs, H2, I2, r2, q2⟩ => ⟨I2.kIn, q2 pins s2 [.ref a] ws I2 (by rw [ev]; exact .cons rfl .nil) r2⟩
      cases me with
      | ok y => exact fun I2 H2 zs f2 r2 => cj I2 H2 σ Q [v] zs (x, ()) y f2.ih ⟨v, [], rfl, MoA.up f2.i f2.h r1, rfl⟩ r2 (PostE.up p1 f2)
      | err e => exact p1
      | stuck => exact p1
    | err e => exact p
    | stuck => exact p
  · subst ex
    obtain rfl : u = Value.ref a := rx
    refine getmeth_ok I1 ea c hm l ?_
    refine PySem.W.callWith_KW0 (h₀ := X.base) (first := [.ref a]) I1.ok.mod.kin hm.kp hall ?_ hpl
    rw [hks]
    exact q pins s1 I1
end
end L2.Tr
namespace L2.Tr
open PySem PySem.Spec PyProof.Rows
/-! ### contexts written out -/
section
variable {γ S L : Type} {X : Cx} {I0 H0 : Hp} {W : WX} {Kx : KnowsX} {G : Knows} {st : Stmt} {ss : List Stmt} {mem : List MF} {rr : Ra γ}
theorem J1.cx {m : Res S} {c c' : S → List (Option SF)} {me : S → List MF} (j : J1 X W Kx G st m (fun s => Stt I0 H0 (c s) (me s))) (h : ∀ s, c s = c' s := by intro _; rfl) : J1 X W Kx G st m (fun s => Stt I0 H0 (c' s) (me s)) := by
  have e : c = c' := funext h
  rw [← e]; exact j
theorem JN.at {m : Res S} {G' : S → Knows} {c c' : List (Option SF)} (j : JN X W Kx (Stt I0 H0 c' mem) ss m G') (h : c = c' := by rfl) : JN X W Kx (Stt I0 H0 c mem) ss m G' := by
  rw [h]; exact j
theorem JG.at {m : Res (Fl S L γ)} {G' : S → Knows} {GL : L → Knows} {c c' : List (Option SF)} (j : JG X I0 H0 W Kx (Stt I0 H0 c' mem) ss m G' GL rr) (h : c = c' := by rfl) : JG X I0 H0 W Kx (Stt I0 H0 c mem) ss m G' GL rr := by
  rw [h]; exact j
theorem JR.at {m : Res γ} {c c' : List (Option SF)} (j : JR X I0 H0 W Kx (Stt I0 H0 c' mem) ss m rr) (h : c = c' := by rfl) : JR X I0 H0 W Kx (Stt I0 H0 c mem) ss m rr := by
  rw [h]; exact j
end
end L2.Tr

namespace L2.Tr
open PySem PySem.Spec PyProof.Rows
/-! ### sizes by instances -/
class Bd (x : Int) (s : outParam Nat) : Prop where
  le : x.natAbs ≤ 2 ^ s
class NZ (x : Int) : Prop where
  ne : x ≠ 0
class SzC (q : Rat) (s : outParam Nat) : Prop where
  sz : Sz s q
instance {x y : Int} {s t : Nat} [h : Bd x s] [k : Bd y t] : Bd (x * y) (s + t) := ⟨by rw [Int.natAbs_mul]; exact pow2_mul h.le k.le⟩
theorem pow_add1 (s t : Nat) : 2 ^ s + 2 ^ t ≤ 2 ^ (s + t + 1) := by
  have a := Nat.pow_le_pow_right (show 0 < 2 by decide) (show s ≤ s + t by omega)
  have b := Nat.pow_le_pow_right (show 0 < 2 by decide) (show t ≤ s + t by omega)
  rw [Nat.pow_succ]; omega
instance {x y : Int} {s t : Nat} [h : Bd x s] [k : Bd y t] : Bd (x + y) (s + t + 1) := ⟨by
  have := Int.natAbs_add_le x y; have := h.le; have := k.le; have := pow_add1 s t; omega⟩
instance {x y : Int} {s t : Nat} [h : Bd x s] [k : Bd y t] : Bd (x - y) (s + t + 1) := ⟨by
  have := Int.natAbs_sub_le x y; have := h.le; have := k.le; have := pow_add1 s t; omega⟩
instance {x : Int} {s : Nat} [h : Bd x s] : Bd (-x) s := ⟨by rw [Int.natAbs_neg]; exact h.le⟩
instance {x : Int} {s : Nat} [h : Bd x s] : Bd (x.natAbs : Int) s := ⟨by rw [Int.natAbs_natCast]; exact h.le⟩
instance : Bd 0 0 := ⟨by decide⟩
instance : Bd 1 0 := ⟨by decide⟩
instance {x y : Int} [h : NZ x] [k : NZ y] : NZ (x * y) := ⟨Int.mul_ne_zero h.ne k.ne⟩
instance {x : Int} [h : NZ x] : NZ (-x) := ⟨Int.neg_ne_zero.mpr h.ne⟩
instance {x y : Rat} {s t : Nat} [h : SzC x s] [k : SzC y t] : SzC (x + y) (s + t + 1) := ⟨h.sz.add k.sz⟩
instance {x y : Rat} {s t : Nat} [h : SzC x s] [k : SzC y t] : SzC (x - y) (s + t + 1) := ⟨h.sz.sub k.sz⟩
instance {x y : Rat} {s t : Nat} [h : SzC x s] [k : SzC y t] : SzC (x * y) (s + t) := ⟨h.sz.mul k.sz⟩
instance {x y : Rat} {s t : Nat} [h : SzC x s] [k : SzC y t] : SzC (x / y) (s + t) := ⟨h.sz.div k.sz⟩
instance {x : Rat} {s : Nat} [h : SzC x s] : SzC (-x) s := ⟨h.sz.neg⟩
instance {n : Int} {s : Nat} [h : Bd n s] : SzC (n : Rat) s := ⟨sz_int h.le⟩
instance {n : Int} {m : Int} {s t : Nat} [h : Bd n s] [k : Bd m t] : SzC (Rat.divInt n m) (s + t) := ⟨sz_divInt (Nat.le_trans h.le (Nat.pow_le_pow_right (by decide) (by omega))) (Nat.le_trans k.le (Nat.pow_le_pow_right (by decide) (by omega)))⟩
instance : SzC 0 0 := ⟨⟨by decide, by decide⟩⟩
instance : SzC 1 0 := ⟨⟨by decide, by decide⟩⟩
theorem Bd.big {x : Int} {s : Nat} (b : Bd x s) (h : s ≤ 4000) : x.natAbs ≤ big := Nat.le_trans b.le (Nat.pow_le_pow_right (by decide) h)
theorem mulI_bd {x y : Int} {s t : Nat} [h : Bd x s] [k : Bd y t] (hs : s ≤ 4000) (ht : t ≤ 4000) : mulI x y = .ok (x * y) := mul_fit (h.big hs) (k.big ht)
theorem qMk_bd {x y : Int} {t : Nat} [k : Bd y t] [z : NZ y] (ht : t ≤ 4000) : qMk x y = .ok (Rat.divInt x y) := qMk_ok z.ne (by have := log_big (k.big ht); omega)
theorem fdivI_bd {x y : Int} {t : Nat} [k : Bd y t] [z : NZ y] (ht : t ≤ 4000) : fdivI x y = .ok (x.fdiv y) := fdivI_ok z.ne (by have := log_big (k.big ht); omega)
section
variable {x y : Rat} {n : Int} {s t : Nat} [h : SzC x s]
theorem qAdd_q [k : SzC y t] (hs : s ≤ 4000) (ht : t ≤ 4000) : qAdd x (.q y) = .ok (x + y) := qAdd_ok (h.sz.fits hs) (show fits y from k.sz.fits ht)
theorem qAdd_i [k : Bd n t] (hs : s ≤ 4000) (ht : t ≤ 4000) : qAdd x (.i n) = .ok (x + (n : Rat)) := qAdd_ok (h.sz.fits hs) (show fits (n : Rat) from (sz_int k.le).fits ht)
theorem qSub_q [k : SzC y t] (hs : s ≤ 4000) (ht : t ≤ 4000) : qSub x (.q y) = .ok (x - y) := qSub_ok (h.sz.fits hs) (show fits y from k.sz.fits ht)
theorem qSub_i [k : Bd n t] (hs : s ≤ 4000) (ht : t ≤ 4000) : qSub x (.i n) = .ok (x - (n : Rat)) := qSub_ok (h.sz.fits hs) (show fits (n : Rat) from (sz_int k.le).fits ht)
theorem qMul_q [k : SzC y t] (hs : s ≤ 4000) (ht : t ≤ 4000) : qMul x (.q y) = .ok (x * y) := qMul_ok (h.sz.fits hs) (show fits y from k.sz.fits ht)
theorem qMul_i [k : Bd n t] (hs : s ≤ 4000) (ht : t ≤ 4000) : qMul x (.i n) = .ok (x * (n : Rat)) := qMul_ok (h.sz.fits hs) (show fits (n : Rat) from (sz_int k.le).fits ht)
theorem qRadd_b [k : Bd n t] (hs : s ≤ 4000) (ht : t ≤ 4000) : qRadd x n = .ok ((n : Rat) + x) := qRadd_ok (h.sz.fits hs) ((sz_int k.le).fits ht)
theorem qRsub_b [k : Bd n t] (hs : s ≤ 4000) (ht : t ≤ 4000) : qRsub x n = .ok ((n : Rat) - x) := qRsub_ok (h.sz.fits hs) ((sz_int k.le).fits ht)
theorem qRmul_b [k : Bd n t] (hs : s ≤ 4000) (ht : t ≤ 4000) : qRmul x n = .ok ((n : Rat) * x) := qRmul_ok (h.sz.fits hs) ((sz_int k.le).fits ht)
theorem qNeg_b (hs : s ≤ 4000) : qNeg x = .ok (-x) := qNeg_ok (h.sz.fits hs)
theorem qAbs_b (hs : s ≤ 4000) : qAbs x = .ok (if x < 0 then -x else x) := qAbs_ok (h.sz.fits hs)
end
theorem divInt_neg2 (t b : Int) : Rat.divInt (-t) (-b) = Rat.divInt t b := Rat.neg_divInt_neg t b
/-! ### divInt as a quotient -/
theorem nz_cast {b : Int} (h : b ≠ 0) : (b : Rat) ≠ 0 := fun e => h (Rat.intCast_eq_zero_iff.mp e)
end L2.Tr

namespace L2.Tr
open PySem PySem.Spec PyProof.Rows
section
variable {α β γ δ S L : Type} {X : Cx} {I0 H0 I H : Hp} {W : WX} {Kx : KnowsX} {G : Knows} {ctx : List (Option SF)} {mem : List MF} {e a b c o : Expr} {es bs : List Expr} {st : Stmt} {ss s1 s2 : List Stmt} {pos pos' : Pos} {n : Str} {ra : Ra α} {rb : Ra β} {rr : Ra γ} {ma : Res α} {mb : Res β} {σ : St}
/-- a cell that stands is taken up -/
theorem Stt.adopt {I1 H1 : Hp} {l : Addr} {r : Rp α} {mo : Mo r} {xs : List α} {vs : List V} (s : Stt I0 H0 ctx mem I H σ) (f : Fm I H I1 H1) (hl : H l = none) (hI : I1 l = none) (h1 : H1 l = some (.lst vs)) (h : Paired (r I1) vs xs) : Stt I0 H0 ctx (MF.lst l r xs :: mem) I1 H1 σ :=
  s.adoptR (fp := [l]) f (by simp) (fun a ha => by rw [List.mem_singleton.mp ha]; exact ⟨hl, hI, by rw [h1]; intro z; cases z⟩) ⟨rfl, _, h1, vs, rfl, h⟩
/-- a new cell -/
theorem Stt.push {l : Addr} {r : Rp α} {mo : Mo r} {xs : List α} {vs : List V} (s : Stt I0 H0 ctx mem I H σ) (hl : H l = none) (h : Paired (r I) vs xs) : Stt I0 H0 ctx (MF.lst l r xs :: mem) I (upd H l (.lst vs)) σ :=
  s.adopt (Fm.newM s.same hl) hl (s.same.free hl) upd_same h
/-- the list of cell j is changed -/
theorem Stt.relst {l : Addr} {r : Rp α} {mo : Mo r} {xs zs : List α} {vs : List V} (s : Stt I0 H0 ctx mem I H σ) (j : Nat) (hj : mem[j]? = some (MF.lst l r xs)) (h : Paired (r I) vs zs) : Stt I0 H0 ctx (mem.set j (MF.lst l r zs)) I (upd H l (.lst vs)) σ :=
  s.cellAt (c' := MF.lst l r zs) j hj (fun q => q.1) ⟨rfl, _, upd_same, vs, rfl, h⟩
/-! ### expressions that make a new list -/
def JM (X : Cx) (I0 H0 : Hp) (W : WX) (ctx : List (Option SF)) (mem : List MF) (e : Expr) (m : Res (List α)) (r : Rp α) : Prop :=
  ∀ (I H : Hp) (σ : St) (Q : VK), Stt I0 H0 ctx mem I H σ → (match m with
    | .ok xs => ∀ I1 H1 l vs, Fm I H I1 H1 → H l = none → I1 l = none → H1 l = some (.lst vs) → Paired (r I1) vs xs → Q (.ref l) H1
    | .err e => ∀ I' H' cls d, Fm I H I' H' → Fr H d ∧ ExR X.K I' H' e cls d → W cls d σ H'
    | .stuck => False) → wE X e σ H Q
/-- the list is laid now -/
theorem mpost {Q : VK} {I H I1 H1 : Hp} {r : Rp α} {xs : List α} (p : ∀ I1 H1 l vs, Fm I H I1 H1 → H l = none → I1 l = none → H1 l = some (.lst vs) → Paired (r I1) vs xs → Q (.ref l) H1) {l : Addr} {vs : List V} (f : Fm I H I1 H1) (hl : H1 l = none) (pr : Paired (r I1) vs xs) : Q (.ref l) (upd H1 l (.lst vs)) :=
  p I1 (upd H1 l (.lst vs)) l vs (f.trans (Fm.newM f.ih hl)) (f.h.free hl) (f.ih.free hl) upd_same pr
/-- a cell that stands unfrozen is frozen -/
theorem Fm.ice {I H I1 H1 : Hp} {l : Addr} {o : HO} (f : Fm I H I1 H1) (hl : H l = none) (hI : I1 l = none) (h : H1 l = some o) : Fm I H (upd I1 l o) H1 ∧ Same I1 (upd I1 l o) := by
  have sm : Same I1 (upd I1 l o) := fun b u e => by
    have : b ≠ l := fun q => by rw [q, hI] at e; cases e
    rw [upd_ne this]; exact e
  refine ⟨⟨f.i.trans sm, f.h, fun b u e => ?_, fun b e nn => ?_⟩, sm⟩
  · by_cases hb : b = l
    · subst hb; rw [upd_same] at e; cases e; exact h
    · rw [upd_ne hb] at e; exact f.ih _ _ e
  · have : b ≠ l := fun q => nn (q ▸ hl)
    rw [upd_ne this]; exact f.mu b e nn
theorem JE.ofM {r : Rp α} [mo : Mo r] {m : Res (List α)} (j : JM X I0 H0 W ctx mem e m r) : JE X I0 H0 W ctx mem e m (rp (rL r)) := fun I H σ Q st p => by
  refine j I H σ Q st ?_
  cases m with
  | ok xs =>
    intro I1 H1 l vs f hl hI h1 pr
    obtain ⟨f2, sm⟩ := f.ice hl hI h1
    exact p _ H1 _ f2 ⟨l, vs, rfl, upd_same, Paired.mapP pr fun _ _ z => mo.up sm z⟩
  | err e => exact p
  | stuck => exact p
theorem JM.lst {k : Nat} {r : Rp α} {m : Res (List α)} (j : JA X I0 H0 W ctx mem es m (lR k (rp r))) (hk : k ≤ sizeLine := by decide) : JM X I0 H0 W ctx mem (.List es pos) m r := fun I H σ Q st p => by
  refine w_lst (j I H σ _ st ?_)
  cases m with
  | ok xs => exact fun I1 H1 vs f1 r1 => ⟨by rw [r1.1]; exact hk, fun q hq => mpost p f1 hq r1.2⟩
  | err e => exact p
  | stuck => exact p
/-- x = [..], the list may still be changed -/
theorem J1.setM (i : Nat) {r : Rp α} [Mo r] {m : Res (List α)} (j : JM X I0 H0 W ctx mem e m r) (hx : ∀ I H σ d, Stt I0 H0 ctx mem I H σ → Fr H0 d → Kx I H σ d) (hN : X.N.Nodup) (hi : X.N[i]? = some n := by rfl) (hl : Loc X.env.scope n := by first | exact Or.inl rfl | exact Or.inr rfl) (hs : swapsWith e (some (.Name n pos')) pos.line X.env = pure false := by rfl)
    (hf : X.fn n = true ∨ X.env.scope.names.lookup n = some .local := by first | exact .inl rfl | exact .inr rfl | assumption) : J1 X W Kx (Stt I0 H0 ctx mem) (.Assign [.Name n pos'] e pos) m (fun xs I H σ => ∃ l, Stt I0 H0 (ctx.set i (some ⟨rRef l, ()⟩)) (MF.lst l r xs :: mem) I H σ) := fun I H σ D g p => by
  refine s_set i (j I H σ _ g ?_) hN hi hl hs hf
  cases m with
  | ok xs => exact fun I1 H1 l vs f hl hI h1 pr => p I1 _ _ f.i ⟨l, (g.adopt f hl hI h1 pr).set i rfl⟩
  | err e => exact fun I' H' c d f x => p I' H' σ c d (hx _ _ _ _ (g.step f) (x.1.back g.fm.h)) x.2
  | stuck => exact p
theorem JN.ex {ι : Type} {Gi : ι → Knows} {m : Res S} {G' : S → Knows} (j : ∀ l, JN X W Kx (Gi l) ss m G') : JN X W Kx (fun I H σ => ∃ l, Gi l I H σ) ss m G' := fun I H σ D ⟨l, g⟩ p => j l I H σ D g p
theorem JR.ex {ι : Type} {Gi : ι → Knows} {m : Res γ} (j : ∀ l, JR X I0 H0 W Kx (Gi l) ss m rr) : JR X I0 H0 W Kx (fun I H σ => ∃ l, Gi l I H σ) ss m rr := fun I H σ D ⟨l, g⟩ p => j l I H σ D g p
theorem JG.ex {ι : Type} {Gi : ι → Knows} {m : Res (Fl S L γ)} {G' : S → Knows} {GL : L → Knows} (j : ∀ l, JG X I0 H0 W Kx (Gi l) ss m G' GL rr) : JG X I0 H0 W Kx (fun I H σ => ∃ l, Gi l I H σ) ss m G' GL rr := fun I H σ D ⟨l, g⟩ p => j l I H σ D g p
/-- a list of the call's own is frozen: a ghost step -/
theorem Stt.frz {r : Rp α} [mo : Mo r] {l : Addr} {xs : List α} (s : Stt I0 H0 ctx mem I H σ) (i j : Nat) (hj : mem[j]? = some (MF.lst l r xs)) (hc : ctx[i]? = some (some (SF.mk (rRef l) ()))) : ∃ I', Same I I' ∧ Stt I0 H0 (ctx.set i (some ⟨rL r, xs⟩)) (mem.eraseIdx j) I' H σ := by
  obtain ⟨fp, ⟨e, o, hH, vs, eo, pr⟩, _, sm, s2⟩ := s.freezeAt j hj
  subst e; subst eo
  refine ⟨_, sm, s2.recast i (b := ⟨rL r, xs⟩) hc fun v h => ?_⟩
  exact ⟨l, vs, h, by rw [ice_in (List.mem_singleton_self l)]; exact hH, Paired.mapP pr fun _ _ z => mo.up sm z⟩
theorem JN.frz (i j : Nat) {r : Rp α} [mo : Mo r] {l : Addr} {xs : List α} {m : Res S} {G' : S → Knows} (k : JN X W Kx (Stt I0 H0 (ctx.set i (some ⟨rL r, xs⟩)) (mem.eraseIdx j)) ss m G') (hj : mem[j]? = some (MF.lst l r xs) := by rfl) (hc : ctx[i]? = some (some (SF.mk (rRef l) ())) := by rfl) : JN X W Kx (Stt I0 H0 ctx mem) ss m G' := fun I H σ D g p => by
  obtain ⟨I', sm, g'⟩ := g.frz i j hj hc
  exact k I' H σ D g' (PostB.up p sm)
theorem JR.frz (i j : Nat) {r : Rp α} [mo : Mo r] {l : Addr} {xs : List α} {m : Res γ} (k : JR X I0 H0 W Kx (Stt I0 H0 (ctx.set i (some ⟨rL r, xs⟩)) (mem.eraseIdx j)) ss m rr) (hj : mem[j]? = some (MF.lst l r xs) := by rfl) (hc : ctx[i]? = some (some (SF.mk (rRef l) ())) := by rfl) : JR X I0 H0 W Kx (Stt I0 H0 ctx mem) ss m rr := fun I H σ D g p => by
  obtain ⟨I', sm, g'⟩ := g.frz i j hj hc
  exact k I' H σ D g' p
theorem JG.frz (i j : Nat) {r : Rp α} [mo : Mo r] {l : Addr} {xs : List α} {m : Res (Fl S L γ)} {G' : S → Knows} {GL : L → Knows} (k : JG X I0 H0 W Kx (Stt I0 H0 (ctx.set i (some ⟨rL r, xs⟩)) (mem.eraseIdx j)) ss m G' GL rr) (hj : mem[j]? = some (MF.lst l r xs) := by rfl) (hc : ctx[i]? = some (some (SF.mk (rRef l) ())) := by rfl) : JG X I0 H0 W Kx (Stt I0 H0 ctx mem) ss m G' GL rr := fun I H σ D g p => by
  obtain ⟨I', sm, g'⟩ := g.frz i j hj hc
  exact k I' H σ D g' (PostG.up p sm)
/-- the name of such a list, to be read -/
theorem JE.rdM (i j : Nat) {r : Rp α} [mo : Mo r] {l : Addr} {xs : List α} (hj : mem[j]? = some (MF.lst l r xs) := by rfl) (hc : ctx[i]? = some (some (SF.mk (rRef l) ())) := by rfl) (hN : X.N[i]? = some n := by rfl) (hv : Vis X.env.scope n := by first | exact Or.inl rfl | exact Or.inr (Or.inl rfl) | exact Or.inr (Or.inr rfl)) (hd : (n == ("__debug__" : Str)) = false := by decide)
    (hcd : (n == ("__classdict__" : Str)) = false := by decide) : JE X I0 H0 W ctx mem (.Name n pos) (.ok xs) (rdL X.K (rp r)) := fun I H σ Q st p => by
  obtain ⟨u, eu, hu⟩ := st.sl i _ hc
  cases (show u = V.ref l from hu)
  obtain ⟨_, _, o, zH, vs, eo, pr⟩ := st.lstAt hj
  subst eo
  exact w_var i (p I H _ (Fm.refl st.same) ⟨l, vs, rfl, SqL.of zH, pr⟩) eu hN hv hd hcd
def appM (xs : List α) (y : α) : Res (List α) := Res.guard (xs.length < sizeLine) (.ok (xs ++ [y]))
theorem paired_app {F : α → β → Prop} : ∀ {xs xs' : List α} {ys ys' : List β}, Paired F xs ys → Paired F xs' ys' → Paired F (xs ++ xs') (ys ++ ys')
  | _, _, _, _, .nil, q => q
  | _, _, _, _, .cons h t, q => .cons h (paired_app t q)
/-- x.append(e) -/
theorem J1.app (i j : Nat) {r : Rp α} [mo : Mo r] {l : Addr} {xs : List α} {m : Res α} {p1 apos cpos : Pos} (je : JE X I0 H0 W ctx mem e m (rp r)) (hx : ∀ I H σ d, Stt I0 H0 ctx mem I H σ → Fr H0 d → Kx I H σ d)
    (hj : mem[j]? = some (MF.lst l r xs) := by rfl) (hc : ctx[i]? = some (some (SF.mk (rRef l) ())) := by rfl) (hN : X.N[i]? = some n := by rfl) (hv : Vis X.env.scope n := by first | exact Or.inl rfl | exact Or.inr (Or.inl rfl) | exact Or.inr (Or.inr rfl)) (hd : (n == ("__debug__" : Str)) = false := by decide)
    (hcd : (n == ("__classdict__" : Str)) = false := by decide) (hbase : attributeBase (.Name n p1) "append" X.env (eval (.Name n p1) X.env) = eval (.Name n p1) X.env := by rfl)
    (hfew : ((backTo cpos (starEach [e] X.env)).all (fun x => !x.1) && (backToKw cpos (keywordEach [] X.env)).all (fun x => x.1.isSome) && decide ([e].length + ([] : List Keyword).length + (if ([] : List Keyword).isEmpty then 0 else 1) < 30)) = true := by rfl)
    (hline : (apos.endLine == cpos.line) = true := by rfl) (hst : starEach [e] X.env = (false, eval e X.env) :: starEach [] X.env := by rfl) (hplain : (backTo cpos (starEach [] X.env)).any (·.1) = false := by rfl) (hs : swapsWith (.Call (.Attribute (.Name n p1) "append" apos) [e] [] cpos) none pos.line X.env = pure false := by rfl) :
    J1 X W Kx (Stt I0 H0 ctx mem) (.Expr (.Call (.Attribute (.Name n p1) "append" apos) [e] [] cpos) pos) (m.bind fun y => appM xs y) (fun zs => Stt I0 H0 ctx (mem.set j (MF.lst l r zs))) := fun I H σ D g p => by
  obtain ⟨u, eu, hu⟩ := g.sl i _ hc
  cases (show u = V.ref l from hu)
  obtain ⟨_, _, o, zH, vs, eo, pr⟩ := g.lstAt hj
  subst eo
  refine s_expr (PE.w (pe_bm PySem.F.plainAttrs_list PySem.F.slot_list_append PySem.F.type_list_append mt_append pe_W pa_W hbase hfew hline hst hplain) (w_var i ?_ eu hN hv hd hcd)) hs
  refine ⟨.inl ⟨rfl, vs, SqL.of zH⟩, ?_⟩
  refine Tr.w_cons (je I H σ _ g ?_) hst
  cases m with
  | ok y =>
    intro I1 H1 v f1 h1
    have g1 := g.step f1
    obtain ⟨_, _, o, zH1, vs1, eo, pr1⟩ := g1.lstAt hj
    subst eo
    by_cases hz : xs.length < sizeLine
    · refine w_nil ⟨l, vs1, v, rfl, rfl, zH1, by rw [Paired.length pr1]; exact hz, ?_⟩
      have e1 : ((Res.ok y).bind fun y => appM xs y) = .ok (xs ++ [y]) := Res.guard_pos hz _
      rw [e1] at p
      exact p I1 _ σ f1.i (g1.relst j hj (paired_app pr1 (.cons h1 .nil)))
    · have e1 : ((Res.ok y).bind fun y => appM xs y) = .stuck := if_neg hz
      rw [e1] at p
      exact p.elim
  | err e => exact fun I' H' c d f x => p I' H' σ c d (hx _ _ _ _ (g.step f) (x.1.back g.fm.h)) x.2
  | stuck => exact p.elim
end
end L2.Tr

namespace L2.Tr
open PySem PySem.Spec PyProof.Rows
section
variable {α β γ δ S L : Type} {X : Cx} {I0 H0 I H : Hp} {W : WX} {Kx : KnowsX} {G : Knows} {ctx : List (Option SF)} {mem : List MF} {e a b c o : Expr} {es bs : List Expr} {st : Stmt} {ss s1 s2 : List Stmt} {pos pos' p2 : Pos} {n : Str} {ra : Ra α} {rb : Ra β} {rr : Ra γ} {ma : Res α} {mb : Res β} {σ : St} {r : Rp α}
/-! ### lists of the heap, frozen or not -/
def rH (r : Rp α) : Ra (List α) := fun I H v xs => ∃ l vs, v = .ref l ∧ H l = some (.lst vs) ∧ Paired (r I) vs xs
instance [m : Mo r] : MoA (rH r) := ⟨fun s t ⟨l, vs, e, h, p⟩ => ⟨l, vs, e, t _ _ h, Paired.mapP p fun _ _ q => m.up s q⟩⟩
theorem JE.hp {m : Res (List α)} (j : JE X I0 H0 W ctx mem e m (rp (rL r))) : JE X I0 H0 W ctx mem e m (rH r) := j.co fun _ _ _ _ s ⟨l, vs, e, h, p⟩ => ⟨l, vs, e, s _ _ h, p⟩
theorem JE.hM (i j : Nat) [mo : Mo r] {l : Addr} {xs : List α} (hj : mem[j]? = some (MF.lst l r xs) := by rfl) (hc : ctx[i]? = some (some (SF.mk (rRef l) ())) := by rfl) (hN : X.N[i]? = some n := by rfl) (hv : Vis X.env.scope n := by first | exact Or.inl rfl | exact Or.inr (Or.inl rfl) | exact Or.inr (Or.inr rfl)) (hd : (n == ("__debug__" : Str)) = false := by decide)
    (hcd : (n == ("__classdict__" : Str)) = false := by decide) : JE X I0 H0 W ctx mem (.Name n pos) (.ok xs) (rH r) := fun I H σ Q st p => by
  obtain ⟨u, eu, hu⟩ := st.sl i _ hc
  cases (show u = V.ref l from hu)
  obtain ⟨_, _, o, zH, vs, eo, pr⟩ := st.lstAt hj
  subst eo
  exact w_var i (p I H _ (Fm.refl st.same) ⟨l, vs, rfl, zH, pr⟩) eu hN hv hd hcd
def catM (xs ys : List α) : Res (List α) := Res.guard (xs.length + ys.length ≤ sizeLine) (.ok (xs ++ ys))
def repM (xs : List α) (k : Int) : Res (List α) := Res.guard (-(2 ^ 63) ≤ k ∧ k < 2 ^ 63 ∧ xs.length * k.toNat ≤ sizeLine) (.ok (List.replicate k.toNat xs).flatten)
theorem paired_rep {F : α → β → Prop} {xs : List α} {ys : List β} (p : Paired F xs ys) : ∀ k : Nat, Paired F (List.replicate k xs).flatten (List.replicate k ys).flatten
  | 0 => .nil
  | k + 1 => by
    rw [List.replicate_succ, List.replicate_succ, List.flatten_cons, List.flatten_cons]
    exact paired_app p (paired_rep p k)
theorem JM.cat [mo : Mo r] {m m' : Res (List α)} (ja : JE X I0 H0 W ctx mem a m (rH r)) (jb : JE X I0 H0 W ctx mem b m' (rH r)) : JM X I0 H0 W ctx mem (.BinOp a .Add b pos) (m.bind fun xs => m'.bind fun ys => catM xs ys) r := fun I H σ Q st p => by
  refine w_bin (ja I H σ _ st ?_)
  cases m with
  | ok xs =>
    intro I1 H1 u f1 r1
    refine jb I1 H1 σ _ (st.step f1) ?_
    cases m' with
    | ok ys =>
      intro I2 H2 v f2 r2
      obtain ⟨l, vs, rfl, hl, pr⟩ := MoA.up (r := rH r) f2.i f2.h r1
      obtain ⟨l', vs', rfl, hl', pr'⟩ := r2
      by_cases hz : xs.length + ys.length ≤ sizeLine
      · have e1 : ((Res.ok xs).bind fun xs => (Res.ok ys).bind fun ys => catM xs ys) = .ok (xs ++ ys) := Res.guard_pos hz _
        rw [e1] at p
        exact OpR.w op_cat ⟨l, l', vs, vs', rfl, rfl, hl, hl', by rw [Paired.length pr, Paired.length pr']; exact hz, fun q hq => mpost p (f1.trans f2) hq (paired_app pr pr')⟩
      · have e1 : ((Res.ok xs).bind fun xs => (Res.ok ys).bind fun ys => catM xs ys) = .stuck := if_neg hz
        rw [e1] at p
        exact p.elim
    | err e => exact fun I2 H2 c d f2 x => p I2 H2 c d (f1.trans f2) ⟨x.1.back f1.h, x.2⟩
    | stuck => exact p
  | err e => exact p
  | stuck => exact p
theorem JM.rep [mo : Mo r] {m : Res (List α)} {mi : Res Int} (ja : JE X I0 H0 W ctx mem a m (rH r)) (jb : JE X I0 H0 W ctx mem b mi (rp rInt)) : JM X I0 H0 W ctx mem (.BinOp a .Mult b pos) (m.bind fun xs => mi.bind fun k => repM xs k) r := fun I H σ Q st p => by
  refine w_bin (ja I H σ _ st ?_)
  cases m with
  | ok xs =>
    intro I1 H1 u f1 r1
    refine jb I1 H1 σ _ (st.step f1) ?_
    cases mi with
    | ok k =>
      intro I2 H2 v f2 r2
      obtain ⟨l, vs, rfl, hl, pr⟩ := MoA.up (r := rH r) f2.i f2.h r1
      by_cases hz : -(2 ^ 63) ≤ k ∧ k < 2 ^ 63 ∧ xs.length * k.toNat ≤ sizeLine
      · have e1 : ((Res.ok xs).bind fun xs => (Res.ok k).bind fun k => repM xs k) = .ok (List.replicate k.toNat xs).flatten := Res.guard_pos hz _
        rw [e1] at p
        exact OpR.w op_rep ⟨l, k, vs, rfl, r2, hl, hz.1, hz.2.1, by rw [Paired.length pr]; exact hz.2.2, fun q hq => mpost p (f1.trans f2) hq (paired_rep pr _)⟩
      · have e1 : ((Res.ok xs).bind fun xs => (Res.ok k).bind fun k => repM xs k) = .stuck := if_neg hz
        rw [e1] at p
        exact p.elim
    | err e => exact fun I2 H2 c d f2 x => p I2 H2 c d (f1.trans f2) ⟨x.1.back f1.h, x.2⟩
    | stuck => exact p
  | err e => exact p
  | stuck => exact p
/-! ### slices -/
def cutL (xs : List α) (lo hi : Option Int) : List α := (xs.drop (HT.sIx xs.length 0 lo)).take (HT.sIx xs.length xs.length hi - HT.sIx xs.length 0 lo)
theorem paired_dropN {F : α → β → Prop} : ∀ {xs : List α} {ys : List β} (k : Nat), Paired F xs ys → Paired F (xs.drop k) (ys.drop k)
  | _, _, 0, p => p
  | _, _, _ + 1, .nil => .nil
  | _, _, k + 1, .cons _ t => paired_dropN k t
theorem paired_takeN {F : α → β → Prop} : ∀ {xs : List α} {ys : List β} (k : Nat), Paired F xs ys → Paired F (xs.take k) (ys.take k)
  | _, _, 0, _ => .nil
  | _, _, _ + 1, .nil => .nil
  | _, _, k + 1, .cons h t => .cons h (paired_takeN k t)
theorem paired_cut {F : V → β → Prop} {xs : List V} {ys : List β} (p : Paired F xs ys) (lo hi : Option Int) : Paired F (cutV xs lo hi) (cutL ys lo hi) := by
  unfold cutV cutL
  rw [Paired.length p]
  exact paired_takeN _ (paired_dropN _ p)
/-- a part of a slice -/
def JO (X : Cx) (I0 H0 : Hp) (W : WX) (ctx : List (Option SF)) (mem : List MF) (e : Option Expr) (m : Res (Option Int)) : Prop := match e with
  | none => m = .ok none
  | some e => ∃ mi : Res Int, m = mi.bind (fun i => .ok (some i)) ∧ JE X I0 H0 W ctx mem e mi (rp rInt)
theorem JO.no : JO X I0 H0 W ctx mem none (.ok none) := rfl
theorem JO.at {m : Res Int} (j : JE X I0 H0 W ctx mem e m (rp rInt)) : JO X I0 H0 W ctx mem (some e) (m.bind fun i => .ok (some i)) := ⟨m, rfl, j⟩
def PostO (X : Cx) (W : WX) (σ : St) (I H : Hp) (m : Res (Option Int)) (Q : Option Int → Hp → Prop) : Prop := match m with
  | .ok o => ∀ I' H', Fm I H I' H' → Q o H'
  | .err e => ∀ I' H' cls d, Fm I H I' H' → Fr H d ∧ ExR X.K I' H' e cls d → W cls d σ H'
  | .stuck => False
theorem JO.po {e : Option Expr} {m : Res (Option Int)} (j : JO X I0 H0 W ctx mem e m) : ∃ t, PO X e t ∧ ∀ (I H : Hp) (σ : St) (Q : Option Int → Hp → Prop), Stt I0 H0 ctx mem I H σ → PostO X W σ I H m Q → t σ H Q := by
  cases e with
  | none =>
    obtain rfl : m = .ok none := j
    exact ⟨_, po_none, fun I H σ Q st p => p I H (Fm.refl st.same)⟩
  | some e =>
    obtain ⟨mi, rfl, ji⟩ := j
    refine ⟨_, po_some pe_W, fun I H σ Q st p => ji I H σ _ st ?_⟩
    cases mi with
    | ok i => exact fun I1 H1 v f r => ⟨i, r, p I1 H1 f⟩
    | err e => exact p
    | stuck => exact p
theorem JM.sl [mo : Mo r] {lo hi : Option Expr} {m : Res (List α)} {ml mh : Res (Option Int)} (ja : JE X I0 H0 W ctx mem a m (rdL X.K (rp r))) (jl : JO X I0 H0 W ctx mem lo ml) (jh : JO X I0 H0 W ctx mem hi mh) :
    JM X I0 H0 W ctx mem (.Subscript a (.Slice lo hi none p2) pos) (m.bind fun xs => ml.bind fun x => mh.bind fun y => .ok (cutL xs x y)) r := fun I H σ Q st p => by
  obtain ⟨tl, pl, hl⟩ := jl.po
  obtain ⟨th, ph, hh⟩ := jh.po
  refine PE.w (pe_slice sl_list pe_W pl ph) (ja I H σ _ st ?_)
  cases m with
  | ok xs =>
    intro I1 H1 u f1 r1
    refine hl I1 H1 σ _ (st.step f1) ?_
    cases ml with
    | ok x =>
      intro I2 H2 f2
      refine hh I2 H2 σ _ ((st.step f1).step f2) ?_
      cases mh with
      | ok y =>
        intro I3 H3 f3
        obtain ⟨l, vs, rfl, hs, pr⟩ := MoA.up (r := rdL X.K (rp r)) (f2.trans f3).i (f2.trans f3).h r1
        exact ⟨l, vs, rfl, hs, fun q hq => mpost p (f1.trans (f2.trans f3)) hq (paired_cut pr x y)⟩
      | err e => exact fun I' H' c d f z => p I' H' c d (f1.trans (f2.trans f)) ⟨(z.1.back f2.h).back f1.h, z.2⟩
      | stuck => exact p
    | err e => exact fun I' H' c d f z => p I' H' c d (f1.trans f) ⟨z.1.back f1.h, z.2⟩
    | stuck => exact p
  | err e => exact p
  | stuck => exact p
theorem paired_rev {F : α → β → Prop} : ∀ {xs : List α} {ys : List β}, Paired F xs ys → Paired F xs.reverse ys.reverse
  | _, _, .nil => .nil
  | _, _, .cons h t => by
    rw [List.reverse_cons, List.reverse_cons]
    exact paired_app (paired_rev t) (.cons h .nil)
theorem JM.rev [mo : Mo r] {m : Res (List α)} {k : Nat} {q1 q2 q3 : Pos} (ja : JE X I0 H0 W ctx mem a m (rdL X.K (rp r))) : JM X I0 H0 W ctx mem (.Subscript a (.Slice none none (some (.UnaryOp .USub (.Constant (.int 1) k q1) q2)) q3) pos) (m.bind fun xs => .ok xs.reverse) r := fun I H σ Q st p => by
  refine PE.w (pe_revL pe_W) (ja I H σ _ st ?_)
  cases m with
  | ok xs =>
    rintro I1 H1 u f1 ⟨l, vs, rfl, hs, pr⟩
    exact ⟨l, vs, rfl, hs, fun q hq => mpost p f1 hq (paired_rev pr)⟩
  | err e => exact p
  | stuck => exact p
/-- list(x) of a list -/
theorem JM.list [mo : Mo r] {m : Res (List α)} (ja : JE X I0 H0 W ctx mem a m (rdL X.K (rp r))) (hm : X.mg "list" = none) (hg : Gl X "list" := by rfl) (hs : starEach [a] X.env = (false, eval a X.env) :: starEach [] X.env := by rfl) (hpl : (backTo pos (starEach [] X.env)).any (·.1) = false := by rfl) :
    JM X I0 H0 W ctx mem (.Call (.Name "list" pos') [a] [] pos) (m.bind fun xs => .ok xs) r := fun I H σ Q st p => by
  refine w_callTy (T := "list") (Tr.w_cons (ja I H σ _ st ?_) hs) hm (by decide +kernel) hg (by decide) (by decide) hs hpl
  cases m with
  | ok xs =>
    rintro I1 H1 u f1 ⟨l, vs, rfl, hs, pr⟩
    exact w_nil (CallR.w call_list_of ⟨l, vs, rfl, .inl hs, fun q hq => mpost p f1 hq pr⟩)
  | err e => exact p
  | stuck => exact p
/-- list(x) of a tuple -/
theorem JM.listT [mo : Mo r] {m : Res (List α)} (ja : JE X I0 H0 W ctx mem a m (rp (rT r))) (hm : X.mg "list" = none) (hg : Gl X "list" := by rfl) (hs : starEach [a] X.env = (false, eval a X.env) :: starEach [] X.env := by rfl) (hpl : (backTo pos (starEach [] X.env)).any (·.1) = false := by rfl) :
    JM X I0 H0 W ctx mem (.Call (.Name "list" pos') [a] [] pos) (m.bind fun xs => .ok xs) r := fun I H σ Q st p => by
  refine w_callTy (T := "list") (Tr.w_cons (ja I H σ _ st ?_) hs) hm (by decide +kernel) hg (by decide) (by decide) hs hpl
  cases m with
  | ok xs =>
    rintro I1 H1 u f1 ⟨l, vs, rfl, hs, pr⟩
    exact w_nil (CallR.w call_list_of ⟨l, vs, rfl, .inr (SqT.of (f1.ih _ _ hs)), fun q hq => mpost p f1 hq pr⟩)
  | err e => exact p
  | stuck => exact p
end
end L2.Tr

namespace L2.Tr
open PySem PySem.Spec PyProof.Rows
section
variable {α β γ δ S L : Type} {X : Cx} {I0 H0 I H : Hp} {W : WX} {Kx : KnowsX} {G : Knows} {ctx : List (Option SF)} {mem : List MF} {e a b c o ix : Expr} {es bs : List Expr} {st : Stmt} {ss s1 s2 : List Stmt} {pos pos' p2 : Pos} {n : Str} {ra : Ra α} {rb : Ra β} {rr : Ra γ} {ma : Res α} {mb : Res β} {σ : St} {r : Rp α}
def popM (xs : List α) : Res (List α) := Res.guard (0 < xs.length) (.ok xs.dropLast)
theorem paired_dropLast {F : α → β → Prop} : ∀ {xs : List α} {ys : List β}, Paired F xs ys → Paired F xs.dropLast ys.dropLast
  | _, _, .nil => .nil
  | _, _, .cons _ .nil => .nil
  | _, _, .cons h (.cons h' t) => .cons h (paired_dropLast (.cons h' t))
/-- x.pop() as a statement -/
theorem J1.pop (i j : Nat) [mo : Mo r] {l : Addr} {xs : List α} {p1 apos cpos : Pos} (hj : mem[j]? = some (MF.lst l r xs) := by rfl) (hc : ctx[i]? = some (some (SF.mk (rRef l) ())) := by rfl) (hN : X.N[i]? = some n := by rfl) (hv : Vis X.env.scope n := by first | exact Or.inl rfl | exact Or.inr (Or.inl rfl) | exact Or.inr (Or.inr rfl)) (hd : (n == ("__debug__" : Str)) = false := by decide)
    (hcd : (n == ("__classdict__" : Str)) = false := by decide) (hbase : attributeBase (.Name n p1) "pop" X.env (eval (.Name n p1) X.env) = eval (.Name n p1) X.env := by rfl) (hline : (apos.endLine == cpos.line) = true := by rfl) (hs : swapsWith (.Call (.Attribute (.Name n p1) "pop" apos) [] [] cpos) none pos.line X.env = pure false := by rfl) :
    J1 X W Kx (Stt I0 H0 ctx mem) (.Expr (.Call (.Attribute (.Name n p1) "pop" apos) [] [] cpos) pos) (popM xs) (fun zs => Stt I0 H0 ctx (mem.set j (MF.lst l r zs))) := fun I H σ D g p => by
  obtain ⟨u, eu, hu⟩ := g.sl i _ hc
  cases (show u = V.ref l from hu)
  obtain ⟨_, _, o, zH, vs, eo, pr⟩ := g.lstAt hj
  subst eo
  by_cases hz : 0 < xs.length
  · have e1 : popM xs = .ok xs.dropLast := Res.guard_pos hz _
    rw [e1] at p
    have hl := Paired.length pr
    refine s_expr (PE.w (pe_bm0 PySem.F.plainAttrs_list PySem.F.slot_list_pop PySem.F.type_list_pop mt_pop pe_W hbase hline) (w_var i ⟨(show tyV X.K "list" (.ref l) H from Or.inl ⟨rfl, vs, SqL.of zH⟩), l, vs, vs[vs.length - 1]'(by omega), rfl, rfl, zH, List.getElem?_eq_getElem _, ?_⟩ eu hN hv hd hcd)) hs
    exact p I _ σ (Same.refl _) (g.relst j hj (paired_dropLast pr))
  · have e1 : popM xs = .stuck := if_neg hz
    rw [e1] at p
    exact p.elim
def putM (xs : List α) (k : Int) (y : α) : Res (List α) := match ixN xs.length k with
  | some j => .ok (xs.set j y)
  | none => .stuck
theorem paired_set {F : α → β → Prop} {x : α} {y : β} (h : F x y) : ∀ {xs : List α} {ys : List β} (k : Nat), Paired F xs ys → Paired F (xs.set k x) (ys.set k y)
  | _, _, _, .nil => .nil
  | _, _, 0, .cons _ t => .cons h t
  | _, _, k + 1, .cons h' t => .cons h' (paired_set h k t)
/-- x[k] = e -/
theorem J1.put (i j : Nat) [mo : Mo r] {l : Addr} {xs : List α} {m : Res α} {mi : Res Int} {p1 : Pos} (je : JE X I0 H0 W ctx mem e m (rp r)) (ji : JE X I0 H0 W ctx mem ix mi (rp rInt)) (hx : ∀ I H σ d, Stt I0 H0 ctx mem I H σ → Fr H0 d → Kx I H σ d)
    (hj : mem[j]? = some (MF.lst l r xs) := by rfl) (hc : ctx[i]? = some (some (SF.mk (rRef l) ())) := by rfl) (hN : X.N[i]? = some n := by rfl) (hv : Vis X.env.scope n := by first | exact Or.inl rfl | exact Or.inr (Or.inl rfl) | exact Or.inr (Or.inr rfl)) (hd : (n == ("__debug__" : Str)) = false := by decide)
    (hcd : (n == ("__classdict__" : Str)) = false := by decide) (ha : ∀ v, assign (.Subscript (.Name n p1) ix pos') X.env v = (do
      let ov ← holding [v] (eval (.Name n p1) X.env)
      let iv ← holding [v, ov] (eval ix X.env)
      standAt pos'
      holding [v, ov, iv] (setItem ov iv v)
      release [v, ov, iv] []) := by intro _; rfl)
    (hs : swapsWithSole [.Subscript (.Name n p1) ix pos'] e pos.line X.env = pure false := by rfl) (hw : swappedStores [.Subscript (.Name n p1) ix pos'] e X.env = pure none := by rfl)
    (h1 : (assignEach [.Subscript (.Name n p1) ix pos'] X.env).map (·.2) = [assign (.Subscript (.Name n p1) ix pos') X.env] := by rfl) :
    J1 X W Kx (Stt I0 H0 ctx mem) (.Assign [.Subscript (.Name n p1) ix pos'] e pos) (m.bind fun y => mi.bind fun k => putM xs k y) (fun zs => Stt I0 H0 ctx (mem.set j (MF.lst l r zs))) := fun I H σ D g p => by
  refine PS.w (ps_asg pe_W (pg_sub pe_W pe_W set_list ha) hs hw h1) (je I H σ _ g ?_)
  cases m with
  | ok y =>
    intro I1 H1 v f1 r1
    have g1 := g.step f1
    obtain ⟨u, eu, hu⟩ := g1.sl i _ hc
    cases (show u = V.ref l from hu)
    refine w_var i (ji I1 H1 σ _ g1 ?_) eu hN hv hd hcd
    cases mi with
    | ok k =>
      intro I2 H2 vk f2 r2
      cases (show vk = V.int k from r2)
      have g2 := g1.step f2
      obtain ⟨_, _, o, zH, vs, eo, pr⟩ := g2.lstAt hj
      subst eo
      have p' : PostB X W Kx I (putM xs k y) _ D := p
      unfold putM at p'
      cases ek : ixN xs.length k with
      | none => rw [ek] at p'; exact p'.elim
      | some q =>
        rw [ek] at p'
        refine ⟨l, vs, k, q, rfl, rfl, zH, by rw [Paired.length pr]; exact ek, ?_⟩
        exact p' I2 _ σ (f1.i.trans f2.i) (g2.relst j hj (paired_set (mo.up f2.i r1) q pr))
    | err e => exact fun I' H' c d f x => p I' H' σ c d (hx _ _ _ _ (g1.step f) (x.1.back g1.fm.h)) x.2
    | stuck => exact p.elim
  | err e => exact fun I' H' c d f x => p I' H' σ c d (hx _ _ _ _ (g.step f) (x.1.back g.fm.h)) x.2
  | stuck => exact p.elim
end
end L2.Tr

namespace L2.Tr
open PySem PySem.Spec PyProof.Rows
/-! ### list comprehensions -/
def lcM {α β : Type} (f : β → Res α) : List β → Res (List α)
  | [] => .ok []
  | x :: xs => match f x with
    | .ok y => (lcM f xs).bind fun ys => .ok (y :: ys)
    | _ => .stuck
/-- with a test -/
def lcI {α β : Type} (t : β → Res Bool) (f : β → Res α) : List β → Res (List α)
  | [] => .ok []
  | x :: xs => match t x with
    | .ok true => (match f x with
      | .ok y => (lcI t f xs).bind fun ys => .ok (y :: ys)
      | _ => .stuck)
    | .ok false => lcI t f xs
    | _ => .stuck
abbrev W0 : WX := fun _ _ _ _ => False
theorem takes0 {X : Cx} : Takes X W0 := fun u s' ⟨_, _, _, _, _, _, _, _, _, _, _, _, _, _, _, _, w⟩ => w.elim
section
variable {α β γ δ S L : Type} {X : Cx} {I0 H0 I H : Hp} {W : WX} {Kx : KnowsX} {ctx : List (Option SF)} {mem : List MF} {e a b c o elt iter : Expr} {pos pos' p2 : Pos} {n : Str} {σ : St} {r : Rp α} {rb : Rp β}
theorem Stt.wipe1 (s : Stt I0 H0 ctx mem I H σ) (j : Nat) : Stt I0 H0 (ctx.set j none) mem I H (σ.set j none) := by
  refine ⟨s.fm, by rw [List.length_set, List.length_set]; exact s.len, fun k sf e => ?_, s.me⟩
  by_cases hk : k = j
  · subst hk
    rw [List.getElem?_set] at e
    by_cases hl : k < ctx.length
    · simp only [hl, if_true] at e; cases e
    · simp only [hl, if_true, if_false] at e; cases e
  · rw [List.getElem?_set_ne (Ne.symm hk)] at e
    obtain ⟨w, e1, q⟩ := s.sl k sf e
    exact ⟨w, by rw [List.getElem?_set_ne (Ne.symm hk)]; exact e1, q⟩
def wEb (X : Cx) (scope : Scope) (elt : Expr) : TE := fun σ H Q => ∀ (s : Shared) (H' : Hp) (C : Addr) (cl : List (Str × Addr)) (fp : List Addr), wE (X.blk s H' scope (compEnvC scope cl C X.env) fp) elt σ H Q
theorem pe_Wb (s : Shared) (H' : Hp) (C : Addr) (cl : List (Str × Addr)) (fp : List Addr) {scope : Scope} : PE (X.blk s H' scope (compEnvC scope cl C X.env) fp) elt (wEb X scope elt) := ⟨fun pins s1 _ _ _ I h => h s H' C cl fp pins s1 I⟩
theorem Fm.updNew {I1 H1 : Hp} {D : Addr} {o : HO} (f : Fm I H I1 H1) (hD : H D = none) (hI : I1 D = none) : Fm I H I1 (upd H1 D o) :=
  ⟨f.i, fun b u e => by rw [upd_ne (ne_of_none e hD)]; exact f.h _ _ e, fun b u e => by rw [upd_ne (ne_of_none e hI)]; exact f.ih _ _ e, f.mu⟩
def lcR (f : β → Res α) (xs : List β) : Res (List α) := Res.guard (xs.length ≤ sizeLine) (lcM f xs)
theorem lcM_drop {f : β → Res α} {xs : List β} {i : Nat} {x : β} (h : xs[i]? = some x) : lcM f (xs.drop i) = (match f x with
    | .ok y => (lcM f (xs.drop (i + 1))).bind fun ys => .ok (y :: ys)
    | _ => .stuck) := by
  have hi := (List.getElem?_eq_some_iff.mp h).1
  rw [List.drop_eq_getElem_cons hi]
  have : xs[i] = x := (List.getElem?_eq_some_iff.mp h).2
  rw [this]
  rfl
def PostM (X : Cx) (W : WX) (σ : St) (I H : Hp) (m : Res (List α)) (r : Rp α) (Q : VK) : Prop := match m with
  | .ok xs => ∀ I1 H1 l vs, Fm I H I1 H1 → H l = none → I1 l = none → H1 l = some (.lst vs) → Paired (r I1) vs xs → Q (.ref l) H1
  | .err e => ∀ I' H' cls d, Fm I H I' H' → Fr H d ∧ ExR X.K I' H' e cls d → W cls d σ H'
  | .stuck => False
theorem lc_post (j : Nat) [mo : Mo r] [mb : Mo rb] {m : Res (List β)} {f : β → Res α} {scope : Scope} (ji : JI X I0 H0 W ctx mem (.Name n pos') iter m rb)
    (je : ∀ (s : Shared) (H : Hp) (C : Addr) (cl : List (Str × Addr)) (fp : List Addr) (D : Addr) (acc : List α) (x : β), JE (X.blk s H scope (compEnvC scope cl C X.env) fp) I0 H0 W0 (ctx.set j (some ⟨rb, x⟩)) (MF.lst D r acc :: mem) elt (f x) (rp r))
    (I H : Hp) (σ : St) (Q : VK) (st : Stt I0 H0 ctx mem I H σ) (p : PostM X W σ I H (m.bind fun xs => lcR f xs) r Q) : tLc (wI X (.Name n pos') iter) (gName j) tYes (wEb X scope elt) [j] σ H Q := by
  refine ji I H σ _ st ?_
  cases m with
  | ok xs =>
    intro I1 H1 J vs okp f1 itr stay pr D hD
    have hlen := Paired.length pr
    by_cases hz : xs.length ≤ sizeLine
    · have e0 : ((Res.ok xs).bind fun xs => lcR f xs) = lcM f xs := Res.guard_pos hz _
      rw [e0] at p
      have hD0 : H D = none := f1.h.free hD
      cases et : lcM f xs with
      | ok tot =>
        rw [et] at p
        refine ⟨fun i k H' => k + i = vs.length ∧ ∃ I' acc ys, Same I1 I' ∧ Fm I H I' H' ∧ Stt I0 H0 ctx (MF.lst D r acc :: mem) I' H' σ ∧ acc.length ≤ i ∧ lcM f (xs.drop i) = .ok ys ∧ tot = acc ++ ys, ⟨vs.length, rfl, I1, [], tot, Same.refl _, f1.trans (Fm.newM f1.ih hD), (st.step f1).push hD .nil, Nat.le_refl _, et, rfl⟩, ?_⟩
        rintro i k H' ⟨hk, I', acc, ys, si, fm, g', ha, el, eq⟩
        have hok := stay I' H' si g'.same g'.fm.h
        by_cases hi : i < vs.length
        · obtain ⟨go, yl⟩ := (itr i H' hok).1 hi
          refine .inr ⟨go, fun H2 => ∃ I2 acc2 ys2, Same I1 I2 ∧ Fm I H I2 H2 ∧ Stt I0 H0 ctx (MF.lst D r acc2 :: mem) I2 H2 σ ∧ acc2.length ≤ i + 1 ∧ lcM f (xs.drop (i + 1)) = .ok ys2 ∧ tot = acc2 ++ ys2, fun H2 h => ⟨k - 1, by omega, by omega, h⟩, fun v H2 hy => ?_⟩
          obtain ⟨rfl, ev⟩ := yl v H2 hy
          obtain ⟨x, ex, hr⟩ := paired_drop pr i ev
          rw [lcM_drop ex] at el
          show (fun σ2 H2 => wipe σ2 [j] = wipe σ [j] ∧ _) (((σ.set j none)).set j (some v)) H2
          refine ⟨?_, ?_⟩
          · show ((σ.set j none).set j (some v)).set j none = σ.set j none
            rw [List.set_set, List.set_set]
          · show wEb X scope elt ((σ.set j none).set j (some v)) H2 _
            rw [List.set_set]
            intro s3 H3 C cl fp
            refine je s3 H3 C cl fp D acc x I' H2 (σ.set j (some v)) _ (g'.set j (mb.up si hr)) ?_
            revert el
            generalize f x = z
            intro el
            cases z with
            | ok y =>
              cases el2 : lcM f (xs.drop (i + 1)) with
              | ok ys2 =>
                dsimp only at el
                rw [el2] at el
                cases el
                intro I4 H4 vy f4 r4
                have g4 := g'.step f4
                obtain ⟨z0, zI, oo, zH, vacc, eo, pacc⟩ := g4.lstAt (j := 0) rfl
                subst eo
                have hla := Paired.length pacc
                have hlt := (List.getElem?_eq_some_iff.mp ex).1
                refine ⟨vacc, zH, by omega, I4, acc ++ [y], ys2, si.trans f4.i, (fm.trans f4).updNew hD0 zI, g4.relst 0 rfl (paired_app pacc (.cons r4 .nil)), by rw [List.length_append, List.length_singleton]; omega, rfl, by rw [eq, List.append_assoc]; rfl⟩
              | err e => dsimp only at el; rw [el2] at el; cases el
              | stuck => dsimp only at el; rw [el2] at el; cases el
            | err e => cases el
            | stuck => cases el
        · refine .inl ⟨(itr i H' hok).2 (by omega), ?_⟩
          have e1 : xs.drop i = [] := List.drop_eq_nil_of_le (by omega)
          rw [e1] at el
          cases el
          rw [List.append_nil] at eq
          subst eq
          obtain ⟨z0, zI, oo, zH, vacc, eo, pacc⟩ := g'.lstAt (j := 0) rfl
          subst eo
          exact p I' H' D vacc fm hD0 zI zH pacc
      | err e =>
        exfalso
        have : ∀ l : List β, lcM f l ≠ .err e := fun l => by
          induction l with
          | nil => intro h; cases h
          | cons x l ih =>
            intro h
            unfold lcM at h
            cases q : f x with
            | ok y =>
              rw [q] at h
              dsimp only at h
              cases q2 : lcM f l with
              | ok ys => rw [q2] at h; cases h
              | err e2 => rw [q2] at h ih; cases h; exact ih rfl
              | stuck => rw [q2] at h; cases h
            | err e2 => rw [q] at h; cases h
            | stuck => rw [q] at h; cases h
        exact this xs et
      | stuck => rw [et] at p; exact p.elim
    · have e0 : ((Res.ok xs).bind fun xs => lcR f xs) = .stuck := if_neg hz
      rw [e0] at p
      exact p.elim
  | err e => exact p
  | stuck => exact p
theorem JM.lc (j : Nat) [mo : Mo r] [mb : Mo rb] {m : Res (List β)} {f : β → Res α} {scope : Scope} (ji : JI X I0 H0 W ctx mem (.Name n pos') iter m rb)
    (je : ∀ (s : Shared) (H : Hp) (C : Addr) (cl : List (Str × Addr)) (fp : List Addr) (D : Addr) (acc : List α) (x : β), JE (X.blk s H scope (compEnvC scope cl C X.env) fp) I0 H0 W0 (ctx.set j (some ⟨rb, x⟩)) (MF.lst D r acc :: mem) elt (f x) (rp r))
    (hN : X.N.Nodup) (ok : BlkOk X.N X.env.scope scope [(n, j)]) (hj : X.N[j]? = some n := by rfl) (hc : X.calm = true := by rfl) (hsc : Loc (relabel scope X.env) n := by first | exact Or.inl rfl | exact Or.inr rfl) (hfn : (scope.names.lookup n == some .cell) = true ∨ (relabel scope X.env).names.lookup n = some .local := by first | exact .inr rfl | exact .inl rfl) (hs : ∀ x, foldedSetIterable iter X.env x = pure x := by intro _; rfl) :
    JM X I0 H0 W ctx mem (.ListComp elt [⟨.Name n pos', iter, [], 0⟩] scope pos) (m.bind fun xs => lcR f xs) r := fun I H σ Q st p =>
  PE.w (pe_lc (own := [(n, j)]) hc hN pi_W ok (fun s H C cl fp => pg_name (i := j) hN hj hsc hfn) (fun s H C cl fp => pts_nil) (fun s H C cl fp => pe_Wb s H C cl fp) hs) (lc_post j ji je I H σ Q st p)
/-- y = [.. for ..] on one line -/
theorem J1.setLc (i j : Nat) {y : Str} {py spos : Pos} [mo : Mo r] [mb : Mo rb] {m : Res (List β)} {f : β → Res α} {scope : Scope} (ji : JI X I0 H0 W ctx mem (.Name n pos') iter m rb)
    (je : ∀ (s : Shared) (H : Hp) (C : Addr) (cl : List (Str × Addr)) (fp : List Addr) (D : Addr) (acc : List α) (x : β), JE (X.blk s H scope (compEnvC scope cl C X.env) fp) I0 H0 W0 (ctx.set j (some ⟨rb, x⟩)) (MF.lst D r acc :: mem) elt (f x) (rp r))
    (hx : ∀ I H σ d, Stt I0 H0 ctx mem I H σ → Fr H0 d → Kx I H σ d) (hN : X.N.Nodup) (ok : BlkOk X.N X.env.scope scope [(n, j)]) (hi : X.N[i]? = some y := by rfl) (hyl : X.env.scope.names.lookup y = some .local := by rfl)
    (hsw : swapsWith (.ListComp elt [⟨.Name n pos', iter, [], 0⟩] scope pos) (some (.Name y py)) spos.line X.env = pure true := by rfl) (hj : X.N[j]? = some n := by rfl) (hc : X.calm = true := by rfl) (hsc : Loc (relabel scope X.env) n := by first | exact Or.inl rfl | exact Or.inr rfl) (hfn : (scope.names.lookup n == some .cell) = true ∨ (relabel scope X.env).names.lookup n = some .local := by first | exact .inr rfl | exact .inl rfl) (hs : ∀ x, foldedSetIterable iter X.env x = pure x := by intro _; rfl) :
    J1 X W Kx (Stt I0 H0 ctx mem) (.Assign [.Name y py] (.ListComp elt [⟨.Name n pos', iter, [], 0⟩] scope pos) spos) (m.bind fun xs => lcR f xs) (fun xs I H σ => ∃ l, Stt I0 H0 (ctx.set i (some ⟨rRef l, ()⟩)) (MF.lst l r xs :: mem) I H σ) := fun I H σ D g p => by
  refine PS.w (ps_setLc (own := [(n, j)]) hc hN hi hyl hsw pi_W ok (fun s H C cl fp => pg_name (i := j) hN hj hsc hfn) (fun s H C cl fp => pts_nil) (fun s H C cl fp => pe_Wb s H C cl fp) hs) (lc_post j ji je I H σ (fun x H1 => gName i x σ H1 D.nx) g ?_)
  revert p
  generalize (m.bind fun xs => lcR f xs) = z
  intro p
  cases z with
  | ok xs => exact fun I1 H1 l vs f hl hI h1 pr => p I1 _ _ f.i ⟨l, (g.adopt f hl hI h1 pr).set i rfl⟩
  | err e => exact fun I' H' c d f x => p I' H' σ c d (hx _ _ _ _ (g.step f) (x.1.back g.fm.h)) x.2
  | stuck => exact p
end
end L2.Tr

namespace L2.Tr
open PySem PySem.Spec PyProof.Rows
/-! ### contexts and cells written out -/
section
variable {α γ S L : Type} {X : Cx} {I0 H0 I H : Hp} {W : WX} {Kx : KnowsX} {G : Knows} {st : Stmt} {ss : List Stmt} {ctx ctx' : List (Option SF)} {mem mem' : List MF} {rr : Ra γ} {σ : St}
theorem Stt.forget {c : MF} (s : Stt I0 H0 ctx (c :: mem) I H σ) : Stt I0 H0 ctx mem I H σ :=
  s.forgetAt 0 rfl
theorem J1.cm {m : Res S} {c c' : S → List (Option SF)} {me me' : S → List MF} (j : J1 X W Kx G st m (fun s => Stt I0 H0 (c s) (me s))) (h : ∀ s, c s = c' s := by intro _; rfl) (h2 : ∀ s, me s = me' s := by intro _; rfl) : J1 X W Kx G st m (fun s => Stt I0 H0 (c' s) (me' s)) := by
  have e : c = c' := funext h
  have e2 : me = me' := funext h2
  rw [← e, ← e2]; exact j
/-- a new cell: its address is named -/
theorem J1.cn {ι : Type} {m : Res S} {c c' : S → ι → List (Option SF)} {me me' : S → ι → List MF} (j : J1 X W Kx G st m (fun s I H σ => ∃ l, Stt I0 H0 (c s l) (me s l) I H σ)) (h : ∀ s l, c s l = c' s l := by intro _ _; rfl) (h2 : ∀ s l, me s l = me' s l := by intro _ _; rfl) : J1 X W Kx G st m (fun s I H σ => ∃ l, Stt I0 H0 (c' s l) (me' s l) I H σ) := by
  have e : c = c' := funext fun s => funext fun l => h s l
  have e2 : me = me' := funext fun s => funext fun l => h2 s l
  rw [← e, ← e2]; exact j
variable (i j : Nat) {r : Rp α} [mo : Mo r] {l : Addr} {xs : List α}
theorem JN.fz {m : Res S} {G' : S → Knows} (k : JN X W Kx (Stt I0 H0 ctx' mem') ss m G') (hj : mem[j]? = some (MF.lst l r xs) := by rfl) (hc : ctx[i]? = some (some (SF.mk (rRef l) ())) := by rfl) (h1 : ctx.set i (some ⟨rL r, xs⟩) = ctx' := by rfl) (h2 : mem.eraseIdx j = mem' := by rfl) : JN X W Kx (Stt I0 H0 ctx mem) ss m G' :=
  JN.frz i j (by rw [h1, h2]; exact k) hj hc
theorem JR.fz {m : Res γ} (k : JR X I0 H0 W Kx (Stt I0 H0 ctx' mem') ss m rr) (hj : mem[j]? = some (MF.lst l r xs) := by rfl) (hc : ctx[i]? = some (some (SF.mk (rRef l) ())) := by rfl) (h1 : ctx.set i (some ⟨rL r, xs⟩) = ctx' := by rfl) (h2 : mem.eraseIdx j = mem' := by rfl) : JR X I0 H0 W Kx (Stt I0 H0 ctx mem) ss m rr :=
  JR.frz i j (by rw [h1, h2]; exact k) hj hc
theorem JG.fz {m : Res (Fl S L γ)} {G' : S → Knows} {GL : L → Knows} (k : JG X I0 H0 W Kx (Stt I0 H0 ctx' mem') ss m G' GL rr) (hj : mem[j]? = some (MF.lst l r xs) := by rfl) (hc : ctx[i]? = some (some (SF.mk (rRef l) ())) := by rfl) (h1 : ctx.set i (some ⟨rL r, xs⟩) = ctx' := by rfl) (h2 : mem.eraseIdx j = mem' := by rfl) : JG X I0 H0 W Kx (Stt I0 H0 ctx mem) ss m G' GL rr :=
  JG.frz i j (by rw [h1, h2]; exact k) hj hc
end
end L2.Tr

namespace L2.Tr
open PySem PySem.Spec PyProof.Rows
section
variable {α β γ δ S L : Type} {X : Cx} {I0 H0 I H : Hp} {W : WX} {Kx : KnowsX} {ctx : List (Option SF)} {mem : List MF} {e a b c o : Expr} {pos pos' p2 : Pos} {n : Str} {σ : St} {r : Rp α} {ra : Ra α}
theorem JE.at {m : Res α} {c c' : List (Option SF)} (j : JE X I0 H0 W c' mem e m ra) (h : c = c' := by rfl) : JE X I0 H0 W c mem e m ra := by rw [h]; exact j
/-! ### tuples of one kind -/
theorem JE.ixT {m : Res (List α)} {mi : Res Int} [mo : Mo r] (ja : JE X I0 H0 W ctx mem a m (rp (rT r))) (jb : JE X I0 H0 W ctx mem b mi (rp rInt)) (hs : PlainIx b := by exact fun _ _ => rfl) :
    JE X I0 H0 W ctx mem (.Subscript a b pos) (m.bind fun xs => mi.bind fun i => atM xs i) (rp r) := fun I H σ Q st p => by
  refine PE.w (pe_ix ix_tup pe_W pe_W hs) (ja I H σ _ st ?_)
  cases m with
  | ok xs =>
    intro I1 H1 u f1 r1
    refine jb I1 H1 σ _ (st.step f1) ?_
    have p1 := PostE.up p f1
    cases mi with
    | ok i =>
      intro I2 H2 v f2 r2
      obtain ⟨l, vs, rfl, hl, pr⟩ := Mo.up (r := rT r) f2.i r1
      have p2 : PostE X.K (atM xs i) (rp r) I2 H2 _ Q := PostE.up p1 f2
      unfold atM at p2
      cases e : atI xs i with
      | none => rw [e] at p2; exact p2.elim
      | some x =>
        rw [e] at p2
        obtain ⟨w, ew, hw⟩ := atI_pair pr e
        exact ⟨l, vs, i, w, rfl, r2, SqT.of (f2.ih _ _ hl), ew, p2 I2 H2 w (Fm.refl f2.ih) hw⟩
    | err e => exact p1
    | stuck => exact p1
  | err e => exact p
  | stuck => exact p
theorem cj_lenT : CallJ X W (.builtin "len") (R1 (rp (rT r))) (fun d => .ok (d.1.length : Int)) (rp rInt) := fun I H σ Q vs x s a p => by
  obtain ⟨v, ws, rfl, ⟨l, vs, rfl, hl, pr⟩, rfl⟩ := a
  exact CallR.w call_len_seq ⟨l, vs, rfl, .inr (SqT.of (s _ _ hl)), by rw [Paired.length pr]; exact p I H _ (Fm.refl s) rfl⟩
/-- tuple(x) of a list -/
theorem cj_tupL [mo : Mo r] : CallJ X W (.type "tuple") (R1 (rdL X.K (rp r))) (fun d => .ok d.1) (rp (rT r)) := fun I H σ Q vs x s a p => by
  obtain ⟨v, ws, rfl, ⟨l, vs, rfl, hl, pr⟩, rfl⟩ := a
  refine CallR.w call_tuple_of ⟨l, vs, rfl, .inl ⟨hl, fun q hq => ?_⟩⟩
  exact p (upd I q (.tup vs)) (upd H q (.tup vs)) _ (Fm.new s hq) ⟨q, vs, rfl, upd_same, Paired.mapP pr fun _ _ z => mo.up (Fm.new (o := .tup vs) s hq).i z⟩
/-- isinstance(x, list) of a frozen list -/
theorem unused2_ : True := trivial
end
end L2.Tr

namespace PySem.W
open PySem PySem.Spec PySem.Calls PyProof.Rows
section
variable {prog : Program} {w : World} {A : Around} {E : Value → Shared → Prop} {s : Shared} {K : Frag} {x C f : Addr} {ox : Obj} {od : Option Obj}
theorem tr_len {Q : Value → Shared → Prop} (X : K.In s.heap) (I : InstAt s.heap x ox C od) (hs : findIn K (.ref C) "__len__" = some (some (.ref f))) (hf : isFn K (.ref f) = true)
    (h : wpAny (model prog w) A.in1 (call (.ref f) [.ref x]) (fun r s' => ∃ n u, r = .int n u ∧ 0 ≤ n ∧ n < 2 ^ 63 ∧ Q (.int n s'.toks) { s' with toks := s'.toks + 1 }) E s) : wpAny (model prog w) A (call (.builtin "len") [.ref x]) Q E s := by
  refine call_function_entry kind_len plain_len entry_len (args_len1 _) ?_
  unfold Builtin.«len»
  refine wpAny_bind (m := oneArg "len" _) (wpAny_pure ?_)
  refine wpAny_bind (m := callSpecial? (.ref x) (Str.ofString "__len__")) (special_fn X I hs (beq_iff_eq.mp hf) (wpAny_mono h (fun r s' hr => ?_) fun _ _ y => y))
  obtain ⟨n, u, rfl, h0, h1, hq⟩ := hr
  refine wpAny_bind (wpAny_holding (wpAny_pure ?_))
  refine wpAny_bind (wpAny_letGo ?_)
  show wpAny _ _ (if n < 0 then _ else _) _ _ _
  rw [if_neg (by omega)]
  show wpAny _ _ (if n ≥ 2 ^ 63 then _ else _) _ _ _
  rw [if_neg (by omega)]
  exact wpAny_bind (wpAny_mkInt (wpAny_pure ⟨_, rfl, hq⟩))
theorem tr_sub {value slice : Expr} {i : Value} {Q : Value → Shared → Prop} (X : K.In s.heap) (I : InstAt s.heap x ox C od) (hs : findIn K (.ref C) "__getitem__" = some (some (.ref f))) (hf : fnIn K f = true) (hfn : isFn K (.ref f) = true)
    (h : wpAny (model prog w) A.in1 (call (.ref f) [.ref x, i]) Q E s) (hsl : subscripted slice true (.ref x) i = runValue (.builtin "lifetime.subscript" ⟨[.ref x, i], []⟩)) : wpAny (model prog w) A (subscriptTail value slice (.ref x) i) Q E s := by
  unfold fnIn at hf
  split at hf
  · rename_i e
    unfold subscriptTail getitemInPython
    refine wpAny_bind (wpAny_bind (wpAny_bind (I.type.here ((looks_findIn X hs).here ?_))))
    dsimp only
    refine wpAny_bind (wpAny_load (X _ _ e) (wpAny_pure ?_))
    dsimp only
    rw [hsl]
    refine wpAny_bind (wpAny_runValue (codeAny_builtin entry_sub ?_))
    unfold Builtin.«lifetime.subscript»
    refine wpAny_bind (special_fn X I hs (beq_iff_eq.mp hfn) (wpAny_mono h (fun v s' z => ?_) fun _ _ z => z))
    refine wpAny_pure ?_
    show wpAny (model prog w) A (letTemporaryGo value (.ref x) v >>= fun _ => pure v) Q E s'
    exact wpAny_bind (wpAny_letTemporaryGo (wpAny_pure z))
  · cases hf
theorem tr_callWith {env : Env} {pos : Pos} {M : Model} {e : Expr} {rest : List Expr} {Q : Value → Shared → Prop} (hd : ox.data = .plain) (h : wpAny M A (spliced (backTo pos (starEach (e :: rest) env))) (fun vs s₁ => s₁.heap.get? x = some ox ∧ wpAny M A (call (.ref x) vs) Q E s₁) E s)
    (he : starEach (e :: rest) env = (false, eval e env) :: starEach rest env) (hplain : (backTo pos (starEach rest env)).any (·.1) = false) : wpAny M A (callWith pos (.ref x) [] (backTo pos (starEach (e :: rest) env)) []) Q E s := by
  rw [he] at h ⊢
  unfold callWith
  have h' : wpAny M A (evalArgs (.ref x) true (backTo pos ((false, eval e env) :: starEach rest env)) []) (fun a s₁ => s₁.heap.get? x = some ox ∧ wpAny M A (call (.ref x) ([] ++ a.pos) a.kw) Q E s₁) E s := evalArgs_plain h
  refine wpAny_bind (wpAny_holding (wpAny_mono h' (fun a s₁ h₁ => wpAny_bind (wpAny_standAt ?_)) fun _ _ y => y))
  have L : Looks M s₁.heap (keeperOf (.ref x)) .caller := by
    refine (Looks.ld (part := none) h₁.1).andThen ?_
    simp only [hd]
    exact .now
  have hp : ((backTo pos ((false, eval e env) :: starEach rest env)).any (·.1) || ([] : List (Option Str × Sem Value)).any (·.1.isNone)) = false := by
    show ((false || (backTo pos (starEach rest env)).any (·.1)) || false) = false
    rw [hplain]; rfl
  simp only [hp]
  refine wpAny_bind (L.here ?_)
  have tail : ∀ {t : Sem Value}, wpAny M A t Q E s₁ → wpAny M A (t >>= fun r => holding [r] point >>= fun _ => pure r) Q E s₁ :=
    fun ht => wpAny_bind (wpAny_mono ht (fun r s₂ hr => wpAny_bind (wpAny_holding (wpAny_point (wpAny_pure hr)))) fun _ _ y => y)
  exact tail (wpAny_operateT h₁.2)
end
end PySem.W
namespace L2.Tr
open PySem PySem.Spec PyProof.Rows He
/-! ### objects of own classes, frozen -/
section
variable {α β γ δ S L : Type} {X : Cx} {I0 H0 I H : Hp} {W : WX} {Kx : KnowsX} {ctx : List (Option SF)} {mem : List MF} {e a b c o : Expr} {es : List Expr} {pos pos' p2 : Pos} {n : Str} {σ : St} {Q : VK} {r : Rp α} {ra : Ra α} {rb : Ra β} {rc : Ra γ} {ma : Res α} {mb : Res β} {md : Res δ}
def rIns (C : Addr) (gs : α → List (Str × SF)) : Rp α := fun I v x => ∃ a dx fs, v = .ref a ∧ I a = some (.ins C dx fs) ∧ FldR I fs (gs x)
instance {C : Addr} {gs : α → List (Str × SF)} : Mo (rIns C gs) := ⟨fun s ⟨a, dx, fs, e, h, f⟩ => ⟨a, dx, fs, e, s _ _ h, FldR.up s f⟩⟩
theorem insI {C : Addr} {gs : α → List (Str × SF)} : InsR C (rp (rIns C gs)) := fun I H v x s ⟨a, dx, fs, e, h, _⟩ => ⟨a, dx, fs, e, s _ _ h⟩
theorem FldR.look {I : Hp} {f : Str} : ∀ {fs : List (Str × V)} {gs : List (Str × SF)} {sf : SF}, FldR I fs gs → gs.lookup f = some sf → ∃ v, fs.lookup f = some v ∧ sf.r I v sf.x
  | [], [], _, _, e => by simp at e
  | (k, v) :: fs, (k', q) :: gs, sf, ⟨h1, h2, h3⟩, e => by
    cases (show k = k' from h1)
    rw [List.lookup_cons] at e ⊢
    by_cases hk : (f == k) = true
    · rw [hk] at e ⊢
      cases e
      exact ⟨v, rfl, h2⟩
    · rw [Bool.not_eq_true] at hk
      rw [hk] at e ⊢
      exact FldR.look h3 e
  | [], _ :: _, _, h, _ => h.elim
  | _ :: _, [], _, h, _ => h.elim
theorem FldR.none {I : Hp} {f : Str} : ∀ {fs : List (Str × V)} {gs : List (Str × SF)}, FldR I fs gs → gs.lookup f = none → fs.lookup f = none
  | [], [], _, _ => rfl
  | (k, v) :: fs, (k', q) :: gs, ⟨h1, h2, h3⟩, e => by
    cases (show k = k' from h1)
    rw [List.lookup_cons] at e ⊢
    by_cases hk : (f == k) = true
    · rw [hk] at e; cases e
    · rw [Bool.not_eq_true] at hk
      rw [hk] at e ⊢
      exact FldR.none h3 e
  | [], _ :: _, h, _ => h.elim
  | _ :: _, [], h, _ => h.elim
theorem insOfI {C : Addr} {gs : α → List (Str × SF)} {m : Str} (h : ∀ x, (gs x).lookup m = none) : InsOf C (rp (rIns C gs)) m := fun I H v x s ⟨a, dx, fs, e, hi, f⟩ => ⟨a, dx, fs, e, s _ _ hi, f.none (h x)⟩
theorem fldI {K : PySem.W.Frag} {C : Addr} {gs : α → List (Str × SF)} {f : Str} {r : Rp β} {mo : Mo r} {get : α → β} (h : ∀ x, (gs x).lookup f = some (SF.mk r (get x))) : FldOf K C (rp (rIns C gs)) f get (rp r) := fun I H v x s ⟨a, dx, fs, e, hi, q⟩ => by
  obtain ⟨w, h1, h2⟩ := q.look (h x)
  exact ⟨a, dx, fs, w, e, s _ _ hi, h1, h2⟩
/-! ### len, x[k], x(..) of own objects; properties -/
def lenG (n : Int) : Res Int := Res.guard (0 ≤ n ∧ n < 2 ^ 63) (.ok n)
theorem cj_lenO {k : Nat} {C f : Addr} {g : α × Unit → Res Int} (hm : OMet X.K C "__len__" f) (ia : InsR C ra) (hr : Room (k + 1) X.A) (tk : Takes X W) (F : FnR X.prog X.w X.K X.mg X.base (L2.CX X.prog X.w) k f (spF X.K (R1 ra) g (rp rInt))) : CallJ X W (.builtin "len") (R1 ra) (fun d => (g d).bind lenG) (rp rInt) := fun I H σ Q vs x s h p pins sh us Iv r => by
  obtain ⟨v, ws, rfl, h1, rfl⟩ := h
  obtain ⟨au, dx, fs, rfl, hu⟩ := ia I H v x.1 s h1
  obtain rfl := Vals.ref1 r
  obtain ⟨od, J⟩ := insAt Iv hu
  refine PySem.W.tr_len Iv.kIn J hm.at_ hm.fn (thn (run_W1 (vs := [.ref au]) (Q := fun z H' => ∃ n : Int, z = .int n ∧ 0 ≤ n ∧ n < 2 ^ 63 ∧ Q (.int n) H') F hr tk ⟨I, x, s, ⟨_, _, rfl, h1, rfl⟩, ?_⟩ Iv r) fun w s' ⟨z, H', I', rz, n, ez, h0, h9, q⟩ => ?_)
  · have p0 : PostE X.K ((g x).bind lenG) (rp rInt) I H (fun cls d H' => W cls d σ H') Q := p
    clear p
    revert p0
    generalize g x = z
    intro p
    cases z with
    | ok y =>
      intro I' H' v f r
      have p1 : PostE X.K (lenG y) (rp rInt) I H (fun cls d H' => W cls d σ H') Q := p
      obtain ⟨⟨q0, q9⟩, p2⟩ := post_guard p1
      exact ⟨y, r, q0, q9, p2 I' H' _ f rfl⟩
    | err e => exact p
    | stuck => exact p
  · subst ez
    obtain ⟨t, rfl⟩ := rz
    exact ⟨n, t, rfl, h0, h9, .int n, H', I'.tok _, ⟨_, rfl⟩, q⟩
theorem w_sub (h : wE X a σ H fun x H1 => wE X b σ H1 fun y H2 => ∀ (pins : List (Addr × Obj)) (sh : Shared) (v u : Value), Inv X pins σ H2 sh → RelV x v → RelV y u → wpAny (model X.prog X.w) X.A (subscriptTail a b v u) (EP X pins σ Q) X.xe sh) : wE X (.Subscript a b pos) σ H Q := fun pins s I =>
  Subscript_ (thn (h pins s I) fun v s1 ⟨x, H1, I1, r1, q1⟩ => thn (q1 pins s1 I1) fun u s2 ⟨y, H2, I2, r2, q2⟩ => q2 pins s2 v u I2 r1 r2)
theorem JE.ixO {k : Nat} {C f : Addr} {g : α × β × Unit → Res γ} [MoA ra] (hm : OMet X.K C "__getitem__" f) (hfn : PySem.W.fnIn X.K f = true) (ia : InsR C ra) (hr : Room (k + 1) X.A) (tk : Takes X W) (F : FnR X.prog X.w X.K X.mg X.base (L2.CX X.prog X.w) k f (spF X.K (R2' ra rb) g rc))
    (ja : JE X I0 H0 W ctx mem a ma ra) (jb : JE X I0 H0 W ctx mem b mb rb) (hsl : ∀ o i, subscripted b true o i = runValue (.builtin "lifetime.subscript" ⟨[o, i], []⟩) := by intro _ _; with_unfolding_all rfl) :
    JE X I0 H0 W ctx mem (.Subscript a b pos) (ma.bind fun x => mb.bind fun y => g (x, y, ())) rc := fun I H σ Q st p => by
  refine w_sub (ja I H σ _ st ?_)
  cases ma with
  | ok x =>
    intro I1 H1 u f1 r1
    refine jb I1 H1 σ _ (st.step f1) ?_
    have p1 := PostE.up p f1
    cases mb with
    | ok y =>
      intro I2 H2 v f2 r2 pins sh uu vv Iv ru rv
      have r1' := MoA.up (r := ra) f2.i f2.h r1
      obtain ⟨au, dx, fs, rfl, hu⟩ := ia I2 H2 u x f2.ih r1'
      obtain rfl : uu = Value.ref au := ru
      obtain ⟨od, J⟩ := insAt Iv hu
      exact PySem.W.tr_sub Iv.kIn J hm.at_ hfn hm.fn (run_W1 (vs := [.ref au, v]) F hr tk ⟨I2, (x, y, ()), f2.ih, ⟨_, _, rfl, r1', _, _, rfl, r2, rfl⟩, PostE.up p1 f2⟩ Iv (.cons rfl (.cons rv .nil))) (hsl _ _)
    | err e => exact p1
    | stuck => exact p1
  | err e => exact p
  | stuck => exact p
def codeW (X : Cx) (f : Value) (σ : St) (xs : List V) (H : Hp) (Q : VK) : Prop := ∀ (pins : List (Addr × Obj)) (s : Shared) (us : List Value), Inv X pins σ H s → Vals xs us → codeAny (model X.prog X.w) X.A (.call f ⟨us, []⟩) (fun r s' => match r with
  | .ok (.ret v) => EP X pins σ Q v s'
  | .ok _ => False
  | .error e => X.xe e s') s
theorem run_C {k : Nat} {f : Addr} {sp : Sp} {vs : List V} (F : FnR X.prog X.w X.K X.mg X.base (L2.CX X.prog X.w) k f sp) (hr : Room k X.A) (tk : Takes X W) (h : sp vs H Q fun cls d H' => W cls d σ H') : codeW X (.ref f) σ vs H Q := fun pins s us I r => by
  refine codeAny_mono (F X.A X.stack s H us vs Q _ hr I.env0 r h) fun r s' hq => ?_
  cases r with
  | error e => exact passAt tk σ pins H s e s' I hq
  | ok fl =>
    cases fl with
    | ret u => exact I.after hq
    | next => exact hq.elim
    | brk => exact hq.elim
    | cont => exact hq.elim
/-- x(e, ..), x a name that holds an own object -/
theorem JE.callO {k : Nat} {C f : Addr} {po : Pos} {g : α × δ → Res γ} {R : Hp → Hp → List V → δ → Prop} [MoA ra] (hm : OMet X.K C "__call__" f) (hfn : PySem.W.fnIn X.K f = true) (ia : InsR C ra) (hr : Room k X.A) (tk : Takes X W) (F : FnR X.prog X.w X.K X.mg X.base (L2.CX X.prog X.w) k f (spF X.K (aCons ra R) g rc))
    (j : JE X I0 H0 W ctx mem (.Name n pos') ma ra) (ja : JA X I0 H0 W ctx mem (e :: es) md R) (he : starEach (e :: es) X.env = (false, eval e X.env) :: starEach es X.env := by rfl) (hpl : (backTo po (starEach es X.env)).any (·.1) = false := by rfl) :
    JE X I0 H0 W ctx mem (.Call (.Name n pos') (e :: es) [] po) (ma.bind fun x => md.bind fun y => g (x, y)) rc := fun I H σ Q st p => by
  have h : wE X (.Name n pos') σ H fun v H1 => ∃ (au dx : Addr) (fs : List (Str × V)), v = .ref au ∧ H1 au = some (.ins C dx fs) ∧ wA X (e :: es) σ H1 fun vs H2 => H2 au = some (.ins C dx fs) ∧ codeW X (.ref f) σ (.ref au :: vs) H2 Q := by
    refine j I H σ _ st ?_
    cases ma with
    | ok x =>
      intro I1 H1 u f1 r1
      obtain ⟨au, dx, fs, rfl, hu⟩ := ia I1 H1 u x f1.ih r1
      refine ⟨au, dx, fs, rfl, hu, ja I1 H1 σ _ (st.step f1) ?_⟩
      have p1 := PostE.up p f1
      cases md with
      | ok y =>
        intro I2 H2 vs f2 r2
        exact ⟨f2.h _ _ hu, run_C F hr tk ⟨I2, (x, y), f2.ih, ⟨_, _, rfl, MoA.up f2.i f2.h r1, r2⟩, PostE.up p1 f2⟩⟩
      | err e => exact p1
      | stuck => exact p1
    | err e => exact p
    | stuck => exact p
  intro pins s Iv
  refine wpAny_Call_Name_kw (thn (h pins s Iv) fun u s1 ⟨v, H1, I1, rv, au, dx, fs, ev, hu, q⟩ => ?_)
  subst ev
  obtain rfl : u = Value.ref au := rv
  obtain ⟨od, J⟩ := insAt I1 hu
  refine PySem.W.tr_callWith (ox := PySem.W.instObj C dx) rfl (thn (q po pins s1 I1) fun us s2 ⟨vs, H2, I2, r2, hu2, cw⟩ => ?_) he hpl
  obtain ⟨od2, J2⟩ := insAt I2 hu2
  refine ⟨J2.at_, wpAny_call (PySem.W.kco_code I2.kIn J2 rfl hm.at_ hm.fn hfn ?_)⟩
  exact cw pins s2 (.ref au :: us) I2 (.cons rfl r2)
/-! ### properties -/
structure PropP (K : PySem.W.Frag) (C : Addr) (f : Str) (p g : Addr) : Prop where
  po : PropOf K C f p g
theorem w_prop {k : Nat} {C p g : Addr} {f : Str} {sp : Sp} (c : Cls X.K C) (hp : PropOf X.K C f p g) (F : FnR X.prog X.w X.K X.mg X.base (L2.CX X.prog X.w) k g sp) (hr : Room (k + 1) X.A) (tk : Takes X W)
    (h : wE X o σ H fun x H1 => ∃ a dx fs, x = .ref a ∧ H1 a = some (.ins C dx fs) ∧ sp [.ref a] H1 Q fun _ _ _ => False) (hab : attributeBase o f X.env (eval o X.env) = eval o X.env := by rfl) : wE X (.Attribute o f pos) σ H Q := fun pins s I => by
  refine attr_of hab (thn (h pins s I) fun u s1 ⟨x, H1, I1, rx, a, dx, fs, ex, ea, q⟩ => ?_)
  subst ex
  obtain rfl : u = Value.ref a := rx
  obtain ⟨mA, O, _, _, _, _⟩ := ins_get I1.hok ea
  obtain ⟨od, J, _⟩ := O.look
  obtain ⟨rest, hrec⟩ := hp.rec_
  have I2 := I1.tok (s1.toks + 1)
  have hc : (PySem.W.clsIn X.K C).isSome = true := by
    obtain ⟨cd, hc, _⟩ := PySem.W.any_some c.hd
    rw [hc]; rfl
  refine PySem.W.get_bind I1.kIn J (PySem.W.plainGet_of (c.get f)).1 (PySem.W.findObj_data hc hp.at_ hp.get hp.tak) (PySem.W.plainGet_of (c.get f)).2 (wpAny_call (PySem.W.prop_get (s := { s1 with toks := s1.toks + 1 }) I1.kIn hrec ?_))
  refine codeAny_mono (F X.A.in1 X.stack { s1 with toks := s1.toks + 1 } H1 [.ref a] [.ref a] Q _ hr.in1 I2.env0.in1 (.cons rfl .nil) q) fun r s' hq => ?_
  cases r with
  | error er => exact (cx_false hq).elim
  | ok fl =>
    cases fl with
    | ret u =>
      obtain ⟨v, H', I3, rv, q3⟩ := I2.after hq
      show wpAny _ _ (handedOut u) _ _ _
      rw [PySem.W.handedOut_of (handed_of rv)]
      exact wpAny_pure ⟨v, H', I3, rv, q3⟩
    | next => exact hq.elim
    | brk => exact hq.elim
    | cont => exact hq.elim
/-- o.f, a property; an error in it is not covered -/
def noErr (m : Res α) : Res α := match m with
  | .err _ => .stuck
  | m => m
theorem JE.prop {k : Nat} {C p g : Addr} {f : Str} {m : α × Unit → Res γ} (j : JE X I0 H0 W ctx mem o ma ra) (ia : InsR C ra) (c : Cls X.K C) (hp : PropOf X.K C f p g) (F : FnR X.prog X.w X.K X.mg X.base (L2.CX X.prog X.w) k g (spF X.K (R1 ra) m rc)) (hr : Room (k + 1) X.A) (tk : Takes X W)
    (hab : attributeBase o f X.env (eval o X.env) = eval o X.env := by rfl) : JE X I0 H0 W ctx mem (.Attribute o f pos) (ma.bind fun x => noErr (m (x, ()))) rc := fun I H σ Q st p => by
  refine w_prop c hp F hr tk (j I H σ _ st ?_) hab
  cases ma with
  | ok x =>
    intro I1 H1 u f1 r1
    obtain ⟨a, dx, fs, rfl, hu⟩ := ia I1 H1 u x f1.ih r1
    refine ⟨a, dx, fs, rfl, hu, I1, (x, ()), f1.ih, ⟨_, _, rfl, r1, rfl⟩, ?_⟩
    have p1 : PostE X.K (noErr (m (x, ()))) rc I1 H1 _ Q := PostE.up p f1
    revert p1
    generalize m (x, ()) = z
    intro p1
    cases z with
    | ok y => exact p1
    | err e => exact p1.elim
    | stuck => exact p1
  | err e => exact p
  | stuck => exact p
/-! ### C.m(..), a staticmethod -/
structure SMet (K : PySem.W.Frag) (C : Addr) (mc : Value) (m : Str) (p g : Addr) : Prop where
  rd : PySem.W.readsIn K C mc = true
  ga : PySem.W.specialIn K (.ref C) "__getattribute__" = some (some (.builtin "type.__getattribute__"))
  at_ : PySem.W.findCls K (.ref C) mc m = some (.get (.builtin "staticmethod.__get__") (.ref p) .none (.ref C))
  rc : ∃ rest, PySem.W.recIn K p "staticmethod" = some (.ref g :: rest)
  kp : PySem.W.keepIn K (.ref g) = true
theorem JE.static {pl : Sem Bool} {C p g : Addr} {mc : Value} {m : Str} {apos po : Pos} {g' : δ → Res γ} {R : Hp → Hp → List V → δ → Prop} (hm : X.mg n = some (.ref C)) (sm : SMet X.K C mc m p g) (k : JA X I0 H0 W ctx mem (e :: es) md R) (cj : CallJ X W (.ref g) R g' rc)
    (hg : Gl X n := by rfl) (hdb : (n == ("__debug__" : Str)) = false := by decide) (hst : starEach (e :: es) X.env = (false, eval e X.env) :: starEach es X.env := by rfl) (hpl : (backTo po (starEach es X.env)).any (·.1) = false := by rfl)
    (ht : eval (.Call (.Attribute (.Name n pos') m apos) (e :: es) [] po) X.env = (do
      let ov ← eval (.Name n pos') X.env
      standAt apos.atName
      let (f, first) ← holding [ov] (getMethod ov m pl)
      callWith po f first (backTo po (starEach (e :: es) X.env)) (backToKw po (keywordEach [] X.env))) := by rfl) :
    JE X I0 H0 W ctx mem (.Call (.Attribute (.Name n pos') m apos) (e :: es) [] po) (md.bind g') rc := fun I H σ Q st p pins s Iv => by
  have q := k.call cj st p
  refine PySem.W.methodCall_KW (pl := pl) (ld_glob Iv hg hm ?_ hdb) ht
  obtain ⟨rest, hp⟩ := sm.rc
  have I1 := Iv.tok (s.toks + 1)
  refine PySem.W.method_cls Iv.kIn sm.ga (PySem.W.cls_bind Iv.kIn sm.rd sm.at_ (wpAny_call (PySem.W.sm_get (s := { s with toks := s.toks + 1 }) Iv.kIn hp (PySem.W.handed_on rfl ?_))))
  exact PySem.W.callWith_K (first := []) (h₀ := X.base) Iv.ok.mod.kin sm.kp (thn (q po pins _ I1) fun us s2 ⟨vs, H2, I2, r, q2⟩ => ⟨I2.kIn, q2 pins s2 us I2 r⟩) hst hpl
/-! ### sequences: a list or a tuple -/
def rSq (K : PySem.W.Frag) (r : Ra α) : Ra (List α) := fun I H v xs => ∃ l vs, v = .ref l ∧ (SqL K H l vs ∨ SqT K H l vs) ∧ Paired (r I H) vs xs
theorem Same.seqT {K : PySem.W.Frag} {H H' : Hp} {a : Addr} {xs : List V} (s : Same H H') (h : SqT K H a xs) : SqT K H' a xs := by
  rcases h with h | h
  · rcases h with h | ⟨h1, h2⟩
    · exact .inl (.inl (s _ _ h))
    · exact .inl (.inr ⟨h1, s _ _ h2⟩)
  · exact .inr h
instance {K : PySem.W.Frag} {r : Ra α} [m : MoA r] : MoA (rSq K r) := ⟨fun s t ⟨l, vs, e, h, p⟩ => ⟨l, vs, e, h.imp (fun h => t.seq h) (fun h => Same.seqT t h), Paired.mapP p fun _ _ q => m.up s t q⟩⟩
theorem JE.sqL {m : Res (List α)} (j : JE X I0 H0 W ctx mem e m (rdL X.K ra)) : JE X I0 H0 W ctx mem e m (rSq X.K ra) := j.co fun _ _ _ _ _ ⟨l, vs, e, h, p⟩ => ⟨l, vs, e, .inl h, p⟩
theorem JE.sqT {m : Res (List α)} (j : JE X I0 H0 W ctx mem e m (rp (rT r))) : JE X I0 H0 W ctx mem e m (rSq X.K (rp r)) := j.co fun _ _ _ _ s ⟨l, vs, e, h, p⟩ => ⟨l, vs, e, .inr (SqT.of (s _ _ h)), p⟩
theorem cj_lenS : CallJ X W (.builtin "len") (R1 (rSq X.K ra)) (fun d => .ok (d.1.length : Int)) (rp rInt) := fun I H σ Q vs x s a p => by
  obtain ⟨v, ws, rfl, ⟨l, vs, rfl, hl, pr⟩, rfl⟩ := a
  exact CallR.w call_len_seq ⟨l, vs, rfl, hl, by rw [Paired.length pr]; exact p I H _ (Fm.refl s) rfl⟩
theorem JE.ixS {m : Res (List α)} {mi : Res Int} [MoA ra] (ja : JE X I0 H0 W ctx mem a m (rSq X.K ra)) (jb : JE X I0 H0 W ctx mem b mi (rp rInt)) (hs : PlainIx b := by exact fun _ _ => rfl) :
    JE X I0 H0 W ctx mem (.Subscript a b pos) (m.bind fun xs => mi.bind fun i => atM xs i) ra := fun I H σ Q st p => by
  refine PE.w (pe_ix (IxR.or ix_list ix_tup) pe_W pe_W hs) (ja I H σ _ st ?_)
  cases m with
  | ok xs =>
    intro I1 H1 u f1 r1
    refine jb I1 H1 σ _ (st.step f1) ?_
    have p1 := PostE.up p f1
    cases mi with
    | ok i =>
      intro I2 H2 v f2 r2
      obtain ⟨l, vs, rfl, hl, pr⟩ := MoA.up (r := rSq X.K ra) f2.i f2.h r1
      have p2 : PostE X.K (atM xs i) ra I2 H2 _ Q := PostE.up p1 f2
      unfold atM at p2
      cases e : atI xs i with
      | none => rw [e] at p2; exact p2.elim
      | some x =>
        rw [e] at p2
        obtain ⟨w, ew, hw⟩ := atI_pair pr e
        rcases hl with hl | hl
        · exact .inl ⟨l, vs, i, w, rfl, r2, hl, ew, p2 I2 H2 w (Fm.refl f2.ih) hw⟩
        · exact .inr ⟨l, vs, i, w, rfl, r2, hl, ew, p2 I2 H2 w (Fm.refl f2.ih) hw⟩
    | err e => exact p1
    | stuck => exact p1
  | err e => exact p
  | stuck => exact p
/-- what is walked is a parameter: a list or a tuple -/
theorem JI.parS {tg : Expr} (i : Nat) {mo : Mo (fun I v x => rSq X.K (rp r) I H0 v x)} {x : List α} [m : Mo r] (hc : ctx[i]? = some (some (@SF.mk (List α) (fun I v x => rSq X.K (rp r) I H0 v x) mo x)) := by rfl) (hN : X.N[i]? = some n := by rfl) (hv : Vis X.env.scope n := by first | exact Or.inl rfl | exact Or.inr (Or.inl rfl) | exact Or.inr (Or.inr rfl)) (hd : (n == ("__debug__" : Str)) = false := by decide)
    (hcd : (n == ("__classdict__" : Str)) = false := by decide) : JI X I0 H0 W ctx mem tg (.Name n pos) (.ok x) r := fun I H σ R st p => by
  obtain ⟨v, e, l, vs, ev, hl, pr⟩ := st.sl i _ hc
  subst ev
  rcases hl with hl | hl
  · refine PI.w (pi_list pe_W) (w_var i ⟨l, rfl, ⟨vs, st.fm.h.seq hl⟩, ?_⟩ e hN hv hd hcd)
    exact p I H _ vs _ (Fm.refl st.same) itr_list (fun I2 H2 s1 s2 s3 => s3.seq hl) pr
  · refine PI.w (pi_tup pe_W) (w_var i ⟨l, rfl, ⟨vs, Same.seqT st.fm.h hl⟩, ?_⟩ e hN hv hd hcd)
    exact p I H _ vs _ (Fm.refl st.same) itr_tup (fun I2 H2 s1 s2 s3 => Same.seqT s3 hl) pr
theorem JM.listS [mo : Mo r] {m : Res (List α)} (ja : JE X I0 H0 W ctx mem a m (rSq X.K (rp r))) (hm : X.mg "list" = none) (hg : Gl X "list" := by rfl) (hs : starEach [a] X.env = (false, eval a X.env) :: starEach [] X.env := by rfl) (hpl : (backTo pos (starEach [] X.env)).any (·.1) = false := by rfl) :
    JM X I0 H0 W ctx mem (.Call (.Name "list" pos') [a] [] pos) (m.bind fun xs => .ok xs) r := fun I H σ Q st p => by
  refine w_callTy (T := "list") (Tr.w_cons (ja I H σ _ st ?_) hs) hm (by decide +kernel) hg (by decide) (by decide) hs hpl
  cases m with
  | ok xs =>
    rintro I1 H1 u f1 ⟨l, vs, rfl, hs, pr⟩
    exact w_nil (CallR.w call_list_of ⟨l, vs, rfl, hs, fun q hq => mpost p f1 hq pr⟩)
  | err e => exact p
  | stuck => exact p
/-! ### coercions of items -/
theorem paired_map {F : β → α → Prop} {G : β → γ → Prop} {f : α → γ} (h : ∀ v x, F v x → G v (f x)) : ∀ {vs : List β} {xs : List α}, Paired F vs xs → Paired G vs (xs.map f)
  | _, _, .nil => .nil
  | _, _, .cons a t => .cons (h _ _ a) (paired_map h t)
theorem JE.sqMap {m : Res (List α)} {rb : Ra β} {f : α → β} (j : JE X I0 H0 W ctx mem e m (rSq X.K ra)) (h : ∀ I H v x, ra I H v x → rb I H v (f x)) : JE X I0 H0 W ctx mem e (m.bind fun xs => .ok (xs.map f)) (rSq X.K rb) := j.map fun _ _ _ _ _ ⟨l, vs, e, hl, p⟩ => ⟨l, vs, e, hl, paired_map (h _ _) p⟩
theorem JE.rdMap {m : Res (List α)} {rb : Ra β} {f : α → β} (j : JE X I0 H0 W ctx mem e m (rdL X.K ra)) (h : ∀ I H v x, ra I H v x → rb I H v (f x)) : JE X I0 H0 W ctx mem e (m.bind fun xs => .ok (xs.map f)) (rdL X.K rb) := j.map fun _ _ _ _ _ ⟨l, vs, e, hl, p⟩ => ⟨l, vs, e, hl, paired_map (h _ _) p⟩
theorem co_iN {K : PySem.W.Frag} : ∀ (I H : Hp) (v : V) (x : Int), rp rInt I H v x → rp (rNum K) I H v (Num.i x) := fun _ _ _ _ h => h
theorem co_qN {K : PySem.W.Frag} : ∀ (I H : Hp) (v : V) (x : Rat), rp (rFrac K) I H v x → rp (rNum K) I H v (Num.q x) := fun _ _ _ _ h => h
theorem JM.map {m : Res (List α)} {rb : Rp β} {f : α → β} (j : JM X I0 H0 W ctx mem e m r) (h : ∀ I H v x, rp r I H v x → rp rb I H v (f x)) : JM X I0 H0 W ctx mem e (m.bind fun xs => .ok (xs.map f)) rb := fun I H σ Q st p => j I H σ Q st (by
  cases m with
  | ok xs => exact fun I1 H1 l vs f1 a b c pr => p I1 H1 l vs f1 a b c (paired_map (h I1 H1) pr)
  | err e => exact p
  | stuck => exact p)
/-! ### all, any, sum -/
theorem paired_bl {I H : Hp} : ∀ {vs : List V} {xs : List Bool}, Paired (rp rBl I H) vs xs → vs = xs.map V.bl
  | _, _, .nil => rfl
  | _, _, .cons h t => by rw [List.map_cons, ← paired_bl t, show _ = _ from h]
theorem paired_in {I H : Hp} : ∀ {vs : List V} {xs : List Int}, Paired (rp rInt I H) vs xs → vs = xs.map V.int
  | _, _, .nil => rfl
  | _, _, .cons h t => by rw [List.map_cons, ← paired_in t, show _ = _ from h]
theorem cj_all (hc : X.calm = true) : CallJ X W (.builtin "all") (R1 (rdL X.K (rp rBl))) (fun d => .ok (d.1.all id)) (rp rBl) := fun I H σ Q vs x s a p => by
  obtain ⟨v, ws, rfl, ⟨l, vs, rfl, hl, pr⟩, rfl⟩ := a
  exact CallR.w (cr_all hc) ⟨l, x.1, rfl, by rw [← paired_bl pr]; exact hl, p I H _ (Fm.refl s) rfl⟩
theorem cj_any (hc : X.calm = true) : CallJ X W (.builtin "any") (R1 (rdL X.K (rp rBl))) (fun d => .ok (d.1.any id)) (rp rBl) := fun I H σ Q vs x s a p => by
  obtain ⟨v, ws, rfl, ⟨l, vs, rfl, hl, pr⟩, rfl⟩ := a
  exact CallR.w (cr_any hc) ⟨l, x.1, rfl, by rw [← paired_bl pr]; exact hl, p I H _ (Fm.refl s) rfl⟩
theorem cj_sum (hc : X.calm = true) : CallJ X W (.builtin "sum") (R1 (rdL X.K (rp rInt))) (fun d => .ok d.1.sum) (rp rInt) := fun I H σ Q vs x s a p => by
  obtain ⟨v, ws, rfl, ⟨l, vs, rfl, hl, pr⟩, rfl⟩ := a
  exact CallR.w (cr_sum hc) ⟨l, x.1, rfl, by rw [← paired_in pr]; exact hl, p I H _ (Fm.refl s) rfl⟩
end
end L2.Tr

namespace L2.Tr
open PySem PySem.Spec PyProof.Rows He
section
variable {α β γ δ S L : Type} {X : Cx} {I0 H0 I H : Hp} {W : WX} {Kx : KnowsX} {G : Knows} {ctx : List (Option SF)} {mem : List MF} {e a b c o : Expr} {es : List Expr} {ss : List Stmt} {pos pos' p2 : Pos} {n : Str} {σ : St} {Q : VK} {r : Rp α} {ra : Ra α} {rb : Ra β} {rc : Ra γ} {ma : Res α} {mb : Res β} {md : Res δ} {R : Hp → Hp → List V → δ → Prop}
/-! ### defs that hand back a new list -/
def rNew (H0 : Hp) (r : Rp α) : Ra (List α) := fun I H v xs => ∃ l vs, v = .ref l ∧ H0 l = none ∧ I l = none ∧ H l = some (.lst vs) ∧ Paired (r I) vs xs
def spN (K : PySem.W.Frag) (R : Hp → Hp → List V → δ → Prop) (m : δ → Res (List α)) (r : Rp α) : Sp := fun vs H Q E => ∃ I d, Same I H ∧ R I H vs d ∧ PostE K (m d) (rNew H r) I H E Q
def CallN (X : Cx) (W : WX) (f : Value) (R : Hp → Hp → List V → δ → Prop) (g : δ → Res (List α)) (r : Rp α) : Prop :=
  ∀ (I H : Hp) (σ : St) (Q : VK) (vs : List V) (x : δ), Same I H → R I H vs x → PostM X W σ I H (g x) r Q → callW X f σ vs H Q
theorem post_new {m : Res (List α)} (p : PostM X W σ I H m r Q) : PostE X.K m (rNew H r) I H (fun cls d H' => W cls d σ H') Q := by
  cases m with
  | ok xs => exact fun I' H' v f ⟨l, vs, e, h1, h2, h3, pr⟩ => by subst e; exact p I' H' l vs f h1 h2 h3 pr
  | err e => exact p
  | stuck => exact p
theorem PostM.up {m : Res (List α)} {I1 H1 : Hp} (p : PostM X W σ I H m r Q) (f : Fm I H I1 H1) : PostM X W σ I1 H1 m r Q := by
  cases m with
  | ok xs => exact fun I' H' l vs f2 h1 h2 h3 pr => p I' H' l vs (f.trans f2) (f.h.free h1) h2 h3 pr
  | err e => exact fun I' H' c d g x => p I' H' c d (f.trans g) ⟨x.1.back f.h, x.2⟩
  | stuck => exact p
theorem cn_of {k : Nat} {f : Addr} {m : δ → Res (List α)} (F : FnR X.prog X.w X.K X.mg X.base (L2.CX X.prog X.w) k f (spN X.K R m r)) (hr : Room k X.A) (tk : Takes X W) : CallN X W (.ref f) R m r := fun I H σ Q vs d s h p => run_W F hr tk ⟨I, d, s, h, post_new p⟩
theorem FnN.nice {P : Program} {w : World} {K : PySem.W.Frag} {mg : Str → Option Value} {base : Heap} {k : Nat} {f : Addr} {m m' : δ → Res (List α)} (F : FnR P w K mg base (L2.CX P w) k f (spN K R m r)) (h : ∀ d, m' d = .stuck ∨ m' d = m d) : FnR P w K mg base (L2.CX P w) k f (spN K R m' r) := F.imp fun vs H Q E ⟨I, d, s, r, p⟩ => ⟨I, d, s, r, by
  rcases h d with e | e
  · rw [show m' d = _ from e] at p; exact p.elim
  · rw [← e]; exact p⟩
theorem FnOk.frN0 {P : Program} {w : World} {K : PySem.W.Frag} {mg : Str → Option Value} {base : Heap} {k : Nat} {f : Addr} {fd : FuncData} {ps : List Str} {m : δ → Res (List α)} (F : FnOk P w K mg base (L2.CX P w) k f fd ps (spN K R m r)) (hb : Binds K fd ps []) :
    FnR P w K mg base (L2.CX P w) k f (spN K R m r) := (FnOk.raw F hb .nil).imp fun vs H Q E h => by rw [List.append_nil]; exact h
theorem JA.callM {g : δ → Res (List α)} (k : JA X I0 H0 W ctx mem es md R) {f : Value} (cn : CallN X W f R g r) (st : Stt I0 H0 ctx mem I H σ) (p : PostM X W σ I H (md.bind g) r Q) : wA X es σ H fun vs H1 => callW X f σ vs H1 Q := by
  refine k I H σ _ st ?_
  cases md with
  | ok x => exact fun I1 H1 vs f1 r1 => cn I1 H1 σ Q vs x f1.ih r1 (PostM.up (m := g x) p f1)
  | err e => exact p
  | stuck => exact p
theorem JM.call {f : Addr} {g : δ → Res (List α)} (k : JA X I0 H0 W ctx mem (e :: es) md R) (cn : CallN X W (.ref f) R g r) (hm : X.mg n = some (.ref f)) (hk : PySem.W.keepIn X.K (.ref f) = true) (hg : Gl X n := by rfl) (hdb : (n == ("__debug__" : Str)) = false := by decide)
    (he : starEach (e :: es) X.env = (false, eval e X.env) :: starEach es X.env := by rfl) (hpl : (backTo pos (starEach es X.env)).any (·.1) = false := by rfl) : JM X I0 H0 W ctx mem (.Call (.Name n pos') (e :: es) [] pos) (md.bind g) r := fun I H σ Q st p =>
  w_call (k.callM cn st p) hm hk hg hdb he hpl
theorem JM.meth {pl : Sem Bool} {m : Str} {C f : Addr} {apos : Pos} {g : β × δ → Res (List α)} [MoA rb] (j : JE X I0 H0 W ctx mem o mb rb) (hi : InsOf C rb m) (k : JA X I0 H0 W ctx mem (e :: es) md R) (cn : CallN X W (.ref f) (aCons rb R) g r) (c : Cls X.K C) (hm : Meth X.K C m f)
    (hst : starEach (e :: es) X.env = (false, eval e X.env) :: starEach es X.env := by rfl) (hpl : (backTo pos (starEach es X.env)).any (·.1) = false := by rfl)
    (ht : eval (.Call (.Attribute o m apos) (e :: es) [] pos) X.env = (do
      let ov ← eval o X.env
      standAt apos.atName
      let (f, first) ← holding [ov] (getMethod ov m pl)
      callWith pos f first (backTo pos (starEach (e :: es) X.env)) (backToKw pos (keywordEach [] X.env))) := by rfl) : JM X I0 H0 W ctx mem (.Call (.Attribute o m apos) (e :: es) [] pos) (mb.bind fun x => md.bind fun y => g (x, y)) r := fun I H σ Q st p => by
  refine w_meth (j I H σ _ st ?_) c hm hst hpl ht
  cases mb with
  | ok x =>
    intro I1 H1 v f1 r1
    obtain ⟨a, dx, fs, ev, ha, hl⟩ := hi I1 H1 v x f1.ih r1
    refine ⟨a, dx, fs, ev, ha, hl, k I1 H1 σ _ (st.step f1) ?_⟩
    cases md with
    | ok y => exact fun I2 H2 vs f2 r2 => cn I2 H2 σ Q (v :: vs) (x, y) f2.ih ⟨v, vs, rfl, MoA.up f2.i f2.h r1, r2⟩ (PostM.up (m := g (x, y)) p (f1.trans f2))
    | err e => exact fun I' H' c d f x => p I' H' c d (f1.trans f) ⟨x.1.back f1.h, x.2⟩
    | stuck => exact p
  | err e => exact p
  | stuck => exact p
theorem JM.meth0 {pl : Sem Bool} {m : Str} {C f : Addr} {apos : Pos} {g : β × Unit → Res (List α)} (j : JE X I0 H0 W ctx mem o mb rb) (hi : InsOf C rb m) (cn : CallN X W (.ref f) (aCons rb aNil) g r) (c : Cls X.K C) (hm : Meth X.K C m f)
    (ht : eval (.Call (.Attribute o m apos) [] [] pos) X.env = (do
      let ov ← eval o X.env
      standAt apos.atName
      let (f, first) ← holding [ov] (getMethod ov m pl)
      callWith pos f first (backTo pos (starEach [] X.env)) (backToKw pos (keywordEach [] X.env))) := by rfl) : JM X I0 H0 W ctx mem (.Call (.Attribute o m apos) [] [] pos) (mb.bind fun x => g (x, ())) r := fun I H σ Q st p => by
  refine w_meth0 (j I H σ _ st ?_) c hm ht
  cases mb with
  | ok x =>
    intro I1 H1 v f1 r1
    obtain ⟨a, dx, fs, ev, ha, hl⟩ := hi I1 H1 v x f1.ih r1
    exact ⟨a, dx, fs, ev, ha, hl, cn I1 H1 σ Q [v] (x, ()) f1.ih ⟨v, [], rfl, r1, rfl⟩ (PostM.up (m := g (x, ())) p f1)⟩
  | err e => exact p
  | stuck => exact p
/-- return e, a new list -/
theorem JR.retM {m : Res (List α)} (j : JM X I0 H0 W ctx mem e m r) (hx : ∀ I H σ d, Stt I0 H0 ctx mem I H σ → Fr H0 d → Kx I H σ d) : JR X I0 H0 W Kx (Stt I0 H0 ctx mem) (.Return (some e) pos :: ss) m (rNew H0 r) := fun I H σ D g p => by
  refine b_cons (s_ret (j I H σ _ g ?_))
  cases m with
  | ok xs => exact fun I1 H1 l vs f h1 h2 h3 pr => p I1 H1 _ (g.fm.trans f) ⟨l, vs, rfl, g.fm.h.free h1, h2, h3, pr⟩
  | err e => exact fun I' H' c d f x => p I' H' σ c d (hx _ _ _ _ (g.step f) (x.1.back g.fm.h)) x.2
  | stuck => exact p
/-- return x, x a list of the call's own -/
theorem JR.retC (i j : Nat) [mo : Mo r] {l : Addr} {xs : List α} (hj : mem[j]? = some (MF.lst l r xs) := by rfl) (hc : ctx[i]? = some (some (SF.mk (rRef l) ())) := by rfl) (hN : X.N[i]? = some n := by rfl) (hv : Vis X.env.scope n := by first | exact Or.inl rfl | exact Or.inr (Or.inl rfl) | exact Or.inr (Or.inr rfl)) (hd : (n == ("__debug__" : Str)) = false := by decide)
    (hcd : (n == ("__classdict__" : Str)) = false := by decide) : JR X I0 H0 W Kx (Stt I0 H0 ctx mem) (.Return (some (.Name n pos')) pos :: ss) (.ok xs) (rNew H0 r) := fun I H σ D g p => by
  obtain ⟨u, eu, hu⟩ := g.sl i _ hc
  cases (show u = V.ref l from hu)
  obtain ⟨z1, z2, oo, zH, vs, eo, pr⟩ := g.lstAt hj
  subst eo
  exact b_cons (s_ret (w_var i (p I H _ g.fm ⟨l, vs, rfl, z1, z2, zH, pr⟩) eu hN hv hd hcd))
theorem FunD.fnN {P : Program} {w : World} {K : PySem.W.Frag} {mg : Str → Option Value} {base : Heap} {x qual : Str} {params : Arguments} {body : List Stmt} {scope : Scope} {dvs : List V} {kws : List (Str × V)} {f : Addr} {fd : FuncData} {N ps : List Str} {k : Nat} {m : δ → Res (List α)} (F : FunD K x qual params body scope dvs kws f fd) (Sc : FnScope N ps scope) (len : ∀ I H vs d, R I H vs d → vs.length = ps.length)
    (hb : ∀ (cdv : Value) (A : Around) (outer : List Env) (s : Shared) (I0 H0 : Hp) (E : XK) (vs : List V) (d : δ), Room k (A.deeper (envOfC qual scope s.heap.objs.size f cdv)) → Same I0 H0 → R I0 H0 vs d →
      ∃ G : Knows, G I0 H0 (start N vs) ∧ JR (bx P w K mg base N qual scope f cdv A outer s H0 E) I0 H0 (bW E) (bK I0 H0) G body (m d) (rNew H0 r)) : FnOk P w K mg base (L2.CX P w) (k + 1) f fd ps (spN K R m r) := by
  refine F.ok Sc (fun vs H Q E ⟨I, d, _, h, _⟩ => len I H vs d h) fun cdv A outer s H vs Q E hr ⟨I, d, sm, h, p⟩ => ⟨_, pss_W, ?_⟩
  obtain ⟨G, g, j⟩ := hb cdv A outer s I H E vs d hr sm h
  refine j I H _ _ g ?_
  revert p
  show PostE K (m d) (rNew H r) I H E Q → PostR _ _ _ _ _ (m d) _ _
  generalize m d = z
  intro p
  cases z with
  | ok y => exact p
  | err e => exact fun I' H' _ c d f x => p I' H' c d f.1 ⟨f.2, x⟩
  | stuck => exact p
/-! ### __init__ -/
/-- self.f within __init__ -/
theorem JE.fldS (i j : Nat) {x C dx : Addr} {f sn : Str} {p1 : Pos} {gs : List (Str × SF)} {mo : Mo r} {z : α} (cl : Cls X.K C) (hn : NoAttr X.K C f) (hj : mem[j]? = some (MF.ins x C dx gs) := by rfl) (hg : gs.lookup f = some (SF.mk r z) := by rfl)
    (hc : ctx[i]? = some (some (SF.mk (rRef x) ())) := by rfl) (hN : X.N[i]? = some sn := by rfl) (hv : Vis X.env.scope sn := by first | exact Or.inl rfl | exact Or.inr (Or.inl rfl) | exact Or.inr (Or.inr rfl)) (hd : (sn == ("__debug__" : Str)) = false := by decide)
    (hcd : (sn == ("__classdict__" : Str)) = false := by decide) (hb : attributeBase (.Name sn p1) f X.env (eval (.Name sn p1) X.env) = eval (.Name sn p1) X.env := by rfl) : JE X I0 H0 W ctx mem (.Attribute (.Name sn p1) f pos) (.ok z) (rp r) := fun I H σ Q st p => by
  obtain ⟨u, eu, hu⟩ := st.sl i _ hc
  cases (show u = V.ref x from hu)
  obtain ⟨_, _, oo, zH, fs, eo, hf⟩ := st.insAt hj
  subst eo
  obtain ⟨w, h1, h2⟩ := hf.look hg
  exact w_fld (w_var i ⟨x, C, dx, fs, w, rfl, zH, cl, hn, h1, p I H _ (Fm.refl st.same) h2⟩ eu hN hv hd hcd) hb
/-- self.f = e within __init__ -/
theorem J1.sfldJ (i j : Nat) {x C dx : Addr} {f sn : Str} {p1 : Pos} {gs : List (Str × SF)} [mo : Mo r] {m : Res α} (je : JE X I0 H0 W ctx mem e m (rp r)) (cl : Cls X.K C) (hn : NoAttr X.K C f) (hg : gs.length < 1000) (hx : ∀ I H σ d, Stt I0 H0 ctx mem I H σ → Fr H0 d → Kx I H σ d) (hj : mem[j]? = some (MF.ins x C dx gs) := by rfl)
    (hc : ctx[i]? = some (some (SF.mk (rRef x) ())) := by rfl) (hN : X.N[i]? = some sn := by rfl) (hv : Vis X.env.scope sn := by first | exact Or.inl rfl | exact Or.inr (Or.inl rfl) | exact Or.inr (Or.inr rfl)) (hd : (sn == ("__debug__" : Str)) = false := by decide)
    (hcd : (sn == ("__classdict__" : Str)) = false := by decide) (hs : swapsWith e (some (.Attribute (.Name sn p1) f pos')) pos.line X.env = pure false := by rfl) :
    J1 X W Kx (Stt I0 H0 ctx mem) (.Assign [.Attribute (.Name sn p1) f pos'] e pos) m (fun y => Stt I0 H0 ctx (mem.set j (.ins x C dx (putG f ⟨r, y⟩ gs)))) := fun I H σ D g p => by
  refine s_fld (je I H σ _ g ?_) hs
  cases m with
  | ok y =>
    intro I1 H1 v f1 h1
    have g1 := g.step f1
    obtain ⟨u, eu, hu⟩ := g1.sl i _ hc
    cases (show u = V.ref x from hu)
    obtain ⟨_, _, oo, zH, fs, eo, hf⟩ := g1.insAt (l := x) hj
    subst eo
    refine w_var i ⟨x, C, dx, fs, rfl, zH, cl, hn, ?_, ?_⟩ eu hN hv hd hcd
    · rw [hf.length]; exact hg
    · exact p I1 _ σ f1.i (g1.cellAt (l := x) (c' := .ins x C dx (putG f ⟨r, y⟩ gs)) j hj (fun q => q.1) ⟨rfl, _, upd_same, _, rfl, hf.put h1⟩)
  | err e => exact fun I' H' c d f x => p I' H' σ c d (hx _ _ _ _ (g.step f) (x.1.back g.fm.h)) x.2
  | stuck => exact p
/-- an __init__ that makes its object whole, with the fields gs -/
theorem FunD.initI {P : Program} {w : World} {K : PySem.W.Frag} {mg : Str → Option Value} {base : Heap} {x qual : Str} {params : Arguments} {body : List Stmt} {scope : Scope} {dvs : List V} {kws : List (Str × V)} {f C : Addr} {fd : FuncData} {N ps : List Str} {k : Nat} {m : δ → Res α} {gs : α → List (Str × SF)} (F : FunD K x qual params body scope dvs kws f fd) (Sc : FnScope N ps scope) (len : ∀ I H vs d, R I H vs d → vs.length + 1 = ps.length)
    (hb : ∀ (cdv : Value) (A : Around) (outer : List Env) (s : Shared) (I0 H0 H1 : Hp) (E : XK) (vs : List V) (d : δ) (y dx : Addr), Room k (A.deeper (envOfC qual scope s.heap.objs.size f cdv)) → Same I0 H0 → R I0 H0 vs d → H1 = upd (upd H0 dx (.own y)) y (.ins C dx []) →
      ∃ ctx : List (Option SF), ctx.length = N.length ∧ vs.length + 1 ≤ N.length ∧ IniR I0 (.ref y :: vs) ctx ∧ JN (bx P w K mg base N qual scope f cdv A outer s H1 E) (bW E) (bK I0 H0) (Stt I0 H0 ctx [.ins y C dx []]) body (m d) (fun s I H σ => ∃ ctx, Stt I0 H0 ctx [.ins y C dx (gs s)] I H σ)) : FnOk P w K mg base (L2.CX P w) (k + 1) f fd ps (spI K C R m (rp (rIns C gs))) := by
  refine FunD.init (S := α) F Sc len fun cdv A outer s I0 H0 H1 E vs d y dx hr sm h n1 n2 n3 eH => ?_
  obtain ⟨ctx, l1, l2, ini, j⟩ := hb cdv A outer s I0 H0 H1 E vs d y dx hr sm h eH
  refine ⟨_, α, m d, _, ?_, j, ?_⟩
  · subst eH
    have hl : (L2.start N (.ref y :: vs)).length = ctx.length := by
      rw [l1]; show (List.map some (V.ref y :: vs) ++ List.replicate (N.length - (V.ref y :: vs).length) none).length = _
      rw [List.length_append, List.length_map, List.length_replicate, List.length_cons]; omega
    exact Stt.fresh sm n1 n2 n3 hl fun i sf e => ini.get i sf e
  · generalize m d = z
    cases z with
    | err e => rfl
    | stuck => rfl
    | ok q =>
      refine ⟨q, rfl, fun I' H' σ' ⟨ctx, g⟩ => ?_⟩
      obtain ⟨fs, I2, e1, hf, g2, sm2, e2⟩ := g.freeze
      exact ⟨I2, g2.fm, y, dx, fs, rfl, e2, FldR.up sm2 hf⟩
/-! ### tuples of kinds -/
def rTu (R : Hp → Hp → List V → δ → Prop) : Rp δ := fun I v x => ∃ l vs, v = .ref l ∧ I l = some (.tup vs) ∧ R I I vs x
instance [m : MoR R] : Mo (rTu R) := ⟨fun s ⟨l, vs, e, h, p⟩ => ⟨l, vs, e, s _ _ h, m.up s s p⟩⟩
/-- arguments that lean on the frozen heap alone -/
class Ice (R : Hp → Hp → List V → δ → Prop) : Prop where
  ice : ∀ {I H H' : Hp} {vs : List V} {x : δ}, R I H vs x → R I H' vs x
instance : Ice aNil := ⟨fun h => h⟩
instance [m : Ice R] : Ice (aCons (rp r) R) := ⟨fun ⟨v, ws, e, h, h'⟩ => ⟨v, ws, e, h, m.ice h'⟩⟩
theorem JE.tupD {k : Nat} {x1} [m : MoR R] [ic : Ice R] (j : JA X I0 H0 W ctx mem es md R) (hk : ∀ I H vs x, R I H vs x → vs.length = k) (hz : k ≤ sizeLine := by decide) : JE X I0 H0 W ctx mem (.Tuple es x1 pos) md (rp (rTu R)) := fun I H σ Q st p => by
  refine w_tup (j I H σ _ st ?_)
  cases md with
  | ok x =>
    intro I1 H1 vs f1 r1
    refine ⟨by rw [hk _ _ _ _ r1]; exact hz, fun q hq => ?_⟩
    have fn := Fm.new (o := .tup vs) f1.ih hq
    exact p _ _ _ (f1.trans fn) ⟨q, vs, rfl, upd_same, m.up fn.i fn.i (ic.ice r1)⟩
  | err e => exact p
  | stuck => exact p
/-- the k-th item -/
def AtR (R : Hp → Hp → List V → δ → Prop) (k : Nat) (r : Rp α) (get : δ → α) : Prop := ∀ I vs x, R I I vs x → ∃ w, vs[k]? = some w ∧ r I w (get x)
theorem AtR.zero : AtR (aCons (rp r) R) 0 r (fun x => x.1) := fun I vs x ⟨v, ws, e, h, _⟩ => ⟨v, by rw [e]; rfl, h⟩
theorem AtR.succ {k : Nat} {get : δ → α} (h : AtR R k r get) : AtR (aCons rb R) (k + 1) r (fun x => get x.2) := fun I vs x ⟨v, ws, e, _, h'⟩ => by
  obtain ⟨w, h1, h2⟩ := h I ws x.2 h'
  exact ⟨w, by rw [e]; exact h1, h2⟩
theorem atI_nat {xs : List V} {k : Nat} {w : V} (h : xs[k]? = some w) : atI xs (k : Int) = some w := by
  have hl := (List.getElem?_eq_some_iff.mp h).1
  unfold atI ixN
  rw [if_pos (by omega), if_pos (by omega), Option.bind_some, Int.toNat_natCast]
  exact h
theorem JE.ixD (k : Nat) {j : Nat} {i : Int} {get : δ → α} [mo : Mo r] (ja : JE X I0 H0 W ctx mem a md (rp (rTu R))) (hat : AtR R k r get) (hi : i = (k : Int) := by rfl) (hs : PlainIx (.Constant (.int i) j p2) := by exact fun _ _ => rfl) :
    JE X I0 H0 W ctx mem (.Subscript a (.Constant (.int i) j p2) pos) (md.bind fun x => .ok (get x)) (rp r) := fun I H σ Q st p => by
  refine PE.w (pe_ix ix_tup pe_W pe_W hs) (ja I H σ _ st ?_)
  cases md with
  | ok x =>
    rintro I1 H1 u f1 ⟨l, vs, rfl, hl, pr⟩
    obtain ⟨w, h1, h2⟩ := hat I1 vs x pr
    exact w_int ⟨l, vs, i, w, rfl, rfl, SqT.of (f1.ih _ _ hl), by rw [hi]; exact atI_nat h1, p I1 H1 w f1 h2⟩
  | err e => exact p
  | stuck => exact p
/-- x, y = e -/
theorem J1.unp2 (i j : Nat) {x y : Str} {r1 : Rp α} {r2 : Rp β} [Mo r1] [Mo r2] {px py pt : Pos} {kt} {m : Res (α × β × Unit)} (je : JE X I0 H0 W ctx mem e m (rp (rTu (aCons (rp r1) (aCons (rp r2) aNil))))) (hx : ∀ I H σ d, Stt I0 H0 ctx mem I H σ → Fr H0 d → Kx I H σ d) (hN : X.N.Nodup) (hc : X.calm = true := by rfl)
    (hi : X.N[i]? = some x := by rfl) (hj : X.N[j]? = some y := by rfl) (hlx : Loc X.env.scope x := by first | exact Or.inl rfl | exact Or.inr rfl) (hly : Loc X.env.scope y := by first | exact Or.inl rfl | exact Or.inr rfl) (hfx : X.fn x = true ∨ X.env.scope.names.lookup x = some .local := by first | exact .inl rfl | exact .inr rfl)
    (hfy : X.fn y = true ∨ X.env.scope.names.lookup y = some .local := by first | exact .inl rfl | exact .inr rfl) (hs : swapsWithSole [.Tuple [.Name x px, .Name y py] kt pt] e pos.line X.env = pure false := by rfl) (hw : swappedStores [.Tuple [.Name x px, .Name y py] kt pt] e X.env = pure none := by rfl)
    (h1 : (assignEach [.Tuple [.Name x px, .Name y py] kt pt] X.env).map (·.2) = [assign (.Tuple [.Name x px, .Name y py] kt pt) X.env] := by rfl) (hn : (assignEach [Expr.Name x px, .Name y py] X.env).length = 2 := by rfl) (hst : (assignEach [Expr.Name x px, .Name y py] X.env).findIdx? (·.1) = none := by rfl) :
    J1 X W Kx (Stt I0 H0 ctx mem) (.Assign [.Tuple [.Name x px, .Name y py] kt pt] e pos) m (fun s => Stt I0 H0 ((ctx.set i (some ⟨r1, s.1⟩)).set j (some ⟨r2, s.2.1⟩)) mem) := fun I H σ D g p => by
  refine PS.w (ps_asg pe_W (pg_tup hc (pgs_cons (pg_name (i := i) hN hi hlx hfx) (pgs_cons (pg_name (i := j) hN hj hly hfy) pgs_nil)) hn hst) hs hw h1) (je I H σ _ g ?_)
  cases m with
  | ok s =>
    rintro I1 H1 u f1 ⟨l, vs, rfl, hl, v1, ws, rfl, h1, v2, ws2, rfl, h2, rfl⟩
    refine ⟨l, [v1, v2], rfl, SqT.of (f1.ih _ _ hl), rfl, v1, [v2], rfl, v2, [], rfl, rfl, ?_⟩
    exact p I1 H1 _ f1.i (((g.step f1).set i (r := r1) h1).set j (r := r2) h2)
  | err e => exact fun I' H' c d f x => p I' H' σ c d (hx _ _ _ _ (g.step f) (x.1.back g.fm.h)) x.2
  | stuck => exact p
end
/-! ### defs by any address: properties, static methods -/
def wa (K : PySem.W.Frag) (kind : String) (C : Addr) (m : Str) : Addr := match PySem.W.recIn K (ma K C m) kind with
  | some (.ref g :: _) => g
  | _ => 0
def fnX (K : PySem.W.Frag) (a : Addr) : FnW := match K.lookup a with
  | some ⟨_, _, .func fd, _⟩ => some (fd.name, fd.qualname, fd.params, fd.body, fd.scope, fd.globals, fd.closure, fd.builtins)
  | _ => none
structure DX where
  at_ : PySem.W.Frag → Addr
  name : Str
  qual : Str
  params : Arguments
  body : List Stmt
  scope : Scope
  dfl : List Dv
  kwd : List (Str × Dv)
def DX.val (d : DX) : FnW := some (d.name, d.qual, d.params, .stmts d.body, d.scope, mainGlobals, [], builtinsNs)
def DX.ok (d : DX) (K : PySem.W.Frag) : Bool := PySem.W.keepIn K (.ref (d.at_ K)) && (match K.lookup (d.at_ K) with
  | some ⟨_, _, .func fd, _⟩ => PySem.W.codeIn K fd.code d.qual && (dflB K fd.defaults (d.dfl.map (Dv.v K)) && kwdB K fd.kwdefaults (d.kwd.map fun q => (q.1, q.2.v K)))
  | _ => false)
theorem DX.funD {K : PySem.W.Frag} {d : DX} (e : fnX K (d.at_ K) = d.val) (c : d.ok K = true) : ∃ fd, FunD K d.name d.qual d.params d.body d.scope (d.dfl.map (Dv.v K)) (d.kwd.map fun q => (q.1, q.2.v K)) (d.at_ K) fd := by
  obtain ⟨kp, c2⟩ := ba c
  unfold fnX at e
  generalize ha : d.at_ K = ad at *
  cases q : K.lookup ad with
  | none => rw [q] at c2; cases c2
  | some ob =>
    obtain ⟨oc, od, dt, osl⟩ := ob
    rw [q] at c2 e
    cases dt with
    | func fd =>
      obtain ⟨n1, n2, n3, n4, n5, n6, n7, n8, n9, n10, n11, n12, n13, n14, n15⟩ := fd
      have e2 : (some (n1, n2, n3, n4, n5, n6, n7, n15) : FnW) = some (d.name, d.qual, d.params, .stmts d.body, d.scope, mainGlobals, [], builtinsNs) := e
      simp only [Option.some.injEq, Prod.mk.injEq] at e2
      obtain ⟨h1, h2, h3, h4, h5, h6, h7, h8⟩ := e2
      subst h1 h2 h3 h4 h5 h6 h7 h8
      have c3 : (PySem.W.codeIn K n13 d.qual && (dflB K n8 (d.dfl.map (Dv.v K)) && kwdB K n9 (d.kwd.map fun q => (q.1, q.2.v K)))) = true := c2
      obtain ⟨k1, k2⟩ := ba c3
      obtain ⟨k3, k4⟩ := ba k2
      exact ⟨_, ⟨oc, od, n8, n9, n10, n11, n12, n13, n14, osl, rfl, q, k1, dflB_ok k3, kwdB_ok k4⟩, kp⟩
    | _ => cases c2
def obsY (fs : List FB) (fn : List DX) (K : PySem.W.Frag) : AlX := ((fs.all fun f => f K) && fn.all fun d => d.ok K, fn.map fun d => fnX K (d.at_ K))
def valY (fn : List DX) : AlX := (true, fn.map DX.val)
def SaysY (fs : List FB) (fn : List DX) (K : PySem.W.Frag) : Prop := obsY fs fn K = valY fn
def obsYG (n : Nat) (fs : List FB) (fn : List DX) (g : Addr → Option Obj) : AlX := obsY fs fn (frG g (cStatics :: asD g n))
def hookY (n : Nat) (fs : List FB) (fn : List DX) : PySem.W.Hook where
  α := AlX
  obs := fun s => obsYG n fs fn s.heap.get?
  val := fun _ => valY fn
  says := fun _ h => ∃ K : PySem.W.Frag, K.In h ∧ SaysY fs fn K
  of := fun _ _ e => ⟨_, frG_in, e⟩
  keeps := fun _ _ _ ⟨K, hK, c⟩ k => ⟨K, PySem.W.Frag.In.keeps hK k, c⟩
theorem obsYG_eq {n : Nat} {fs : List FB} {fn : List DX} {g : Addr → Option Obj} {s : Shared} (h : ∀ a, g a = s.heap.get? a) : obsYG n fs fn g = (hookY n fs fn).obs s := by
  have e : g = s.heap.get? := funext h
  rw [e] <;> rfl
theorem SaysY.fact {fs : List FB} {fn : List DX} {K : PySem.W.Frag} (c : SaysY fs fn K) (i : Nat) {f : FB} (h : fs[i]? = some f := by rfl) : f K = true := by
  have c1 := (ba (show ((fs.all fun f => f K) && fn.all fun d => d.ok K) = true from congrArg (fun z : AlX => z.1) c)).1
  exact List.all_eq_true.mp c1 f (List.mem_of_getElem? h)
theorem SaysY.def_ {fs : List FB} {fn : List DX} {K : PySem.W.Frag} (c : SaysY fs fn K) (i : Nat) {d : DX} (h : fn[i]? = some d := by rfl) : ∃ fd, FunD K d.name d.qual d.params d.body d.scope (d.dfl.map (Dv.v K)) (d.kwd.map fun q => (q.1, q.2.v K)) (d.at_ K) fd := by
  have c2 := (ba (show ((fs.all fun f => f K) && fn.all fun d => d.ok K) = true from congrArg (fun z : AlX => z.1) c)).2
  have e : fn.map (fun d => fnX K (d.at_ K)) = fn.map DX.val := congrArg (fun z : AlX => z.2) c
  have e2 : (fn.map fun d => fnX K (d.at_ K))[i]? = (fn.map DX.val)[i]? := by rw [e]
  rw [List.getElem?_map, List.getElem?_map, h] at e2
  exact DX.funD (Option.some.inj e2) (List.all_eq_true.mp c2 d (List.mem_of_getElem? h))
/-! ### facts -/
def fFnIn (x m : Str) : FB := fun K => PySem.W.fnIn K (ma K (ga K x) m)
theorem fnIn_of {K : PySem.W.Frag} {x m : Str} (c : fFnIn x m K = true) : PySem.W.fnIn K (ma K (ga K x) m) = true := c
def isRec (K : PySem.W.Frag) (p : Addr) (kind : String) (g : Addr) : Bool := match PySem.W.recIn K p kind with
  | some (.ref g' :: _) => decide (g' = g)
  | _ => false
theorem isRec_ok {K : PySem.W.Frag} {p : Addr} {kind : String} {g : Addr} (h : isRec K p kind g = true) : ∃ rest, PySem.W.recIn K p kind = some (.ref g :: rest) := by
  unfold isRec at h
  cases q : PySem.W.recIn K p kind with
  | none => rw [q] at h; cases h
  | some l =>
    rw [q] at h
    cases l with
    | nil => cases h
    | cons u rest =>
      cases u with
      | ref g' =>
        have e : g' = g := of_decide_eq_true h
        rw [e]; exact ⟨rest, rfl⟩
      | _ => cases h
def fProp (x f : Str) : FB := fun K => eqO (PySem.W.findIn K (.ref (ga K x)) f) (some (some (.ref (ma K (ga K x) f)))) && (eqO (PySem.W.specialIn K (.ref (ma K (ga K x) f)) "__get__") (some (some (.builtin "property.__get__"))) && (decide (PySem.W.takesIn K (.ref (ma K (ga K x) f)) = some true) && isRec K (ma K (ga K x) f) "property" (wa K "property" (ga K x) f)))
theorem prop_of {K : PySem.W.Frag} {x f : Str} (c : fProp x f K = true) : PropOf K (ga K x) f (ma K (ga K x) f) (wa K "property" (ga K x) f) := by
  obtain ⟨c1, c⟩ := ba c
  obtain ⟨c2, c⟩ := ba c
  obtain ⟨c3, c4⟩ := ba c
  exact ⟨eqO_ok c1, eqO_ok c2, of_decide_eq_true c3, isRec_ok c4⟩
def isGet (K : PySem.W.Frag) (C : Addr) (m : Str) (id : String) (p : Addr) : Bool := match PySem.W.findCls K (.ref C) (.type "type") m with
  | some (.get (.builtin id') (.ref p') .none (.ref C')) => decide (id' = id) && (decide (p' = p) && decide (C' = C))
  | _ => false
theorem isGet_ok {K : PySem.W.Frag} {C : Addr} {m : Str} {id : String} {p : Addr} (h : isGet K C m id p = true) : PySem.W.findCls K (.ref C) (.type "type") m = some (.get (.builtin id) (.ref p) .none (.ref C)) := by
  unfold isGet at h
  split at h
  · rename_i id' p' C' e
    obtain ⟨h1, h⟩ := ba h
    obtain ⟨h2, h3⟩ := ba h
    rw [e, of_decide_eq_true h1, of_decide_eq_true h2, of_decide_eq_true h3]
  · cases h
def fStat (x m : Str) : FB := fun K => PySem.W.readsIn K (ga K x) (.type "type") && (eqO (PySem.W.specialIn K (.ref (ga K x)) "__getattribute__") (some (some (.builtin "type.__getattribute__"))) && (isGet K (ga K x) m "staticmethod.__get__" (ma K (ga K x) m) && (isRec K (ma K (ga K x) m) "staticmethod" (wa K "staticmethod" (ga K x) m) && PySem.W.keepIn K (.ref (wa K "staticmethod" (ga K x) m)))))
theorem stat_of {K : PySem.W.Frag} {x m : Str} (c : fStat x m K = true) : SMet K (ga K x) (.type "type") m (ma K (ga K x) m) (wa K "staticmethod" (ga K x) m) := by
  obtain ⟨c1, c⟩ := ba c
  obtain ⟨c2, c⟩ := ba c
  obtain ⟨c3, c⟩ := ba c
  obtain ⟨c4, c5⟩ := ba c
  exact ⟨c1, eqO_ok c2, isGet_ok c3, isRec_ok c4, c5⟩
end L2.Tr

namespace L2.Tr
open PySem PySem.Spec PyProof.Rows He
section
variable {α β γ δ S L : Type} {X : Cx} {I0 H0 I H : Hp} {W : WX} {Kx : KnowsX} {G : Knows} {ctx : List (Option SF)} {mem : List MF} {e a b c o : Expr} {es : List Expr} {st : Stmt} {ss s1 : List Stmt} {pos pos' p2 : Pos} {n : Str} {σ : St} {Q : VK} {r : Rp α} {ra : Ra α} {rb : Ra β} {rc : Ra γ} {rr : Ra γ} {ma : Res α} {mb : Res β} {mc : Res Bool} {md : Res δ} {R : Hp → Hp → List V → δ → Prop} {K : PySem.W.Frag}
theorem JE.hMap {m : Res (List α)} {rb : Rp β} {f : α → β} (j : JE X I0 H0 W ctx mem e m (rH r)) (h : ∀ I H v x, rp r I H v x → rp rb I H v (f x)) : JE X I0 H0 W ctx mem e (m.bind fun xs => .ok (xs.map f)) (rH rb) := j.map fun I H _ _ _ ⟨l, vs, e, hl, p⟩ => ⟨l, vs, e, hl, paired_map (h I H) p⟩
theorem tyr_list {t : String} {g : Bool} (h : kitB "list" t = some g) : TyR K (rp (rL r)) (.type t) (fun _ => g) := fun I H v x s ⟨l, vs, e, hl, _⟩ => ⟨.type "list", by rw [e]; exact .base (.lst (s _ _ hl)), kit_ty h⟩
theorem tyr_tup {t : String} {g : Bool} (h : kitB "tuple" t = some g) : TyR K (rp (rT r)) (.type t) (fun _ => g) := fun I H v x s ⟨l, vs, e, hl, _⟩ => ⟨.type "tuple", by rw [e]; exact .base (.tup (s _ _ hl)), kit_ty h⟩
theorem tyr_tupD {t : String} {g : Bool} (h : kitB "tuple" t = some g) : TyR K (rp (rTu R)) (.type t) (fun _ => g) := fun I H v x s ⟨l, vs, e, hl, _⟩ => ⟨.type "tuple", by rw [e]; exact .base (.tup (s _ _ hl)), kit_ty h⟩
theorem JN.raiseP {x m : Str} {j : Nat} {p1 p2 p3 : Pos} {G' : S → Knows} (hc : X.calm = true) (tk : Takes X W) (ep : ExcP X.K X.mg x) (hx : ∀ I H σ d, Stt I0 H0 ctx mem I H σ → Fr H0 d → Kx I H σ d) (hg : Gl X x := by rfl) (hdb : (x == ("__debug__" : Str)) = false := by decide) :
    JN X W Kx (Stt I0 H0 ctx mem) (.Raise (some (.Call (.Name x p1) [.Constant (.str m) j p2] [] p3)) none pos :: ss) (.err ⟨x, []⟩ : Res S) G' := fun I H σ D g p =>
  b_cons (J1.raiseP (S := S) (G' := G') hc tk ep hx hg hdb I H σ _ g p)
theorem JN.ifT {m1 m2 : Res S} {G' : S → Knows} (j : JT X I0 H0 W ctx mem c mc) (k1 : JN X W Kx (Stt I0 H0 ctx mem) s1 m1 (fun _ _ _ _ => False)) (k2 : JN X W Kx (Stt I0 H0 ctx mem) ss m2 G') (hx : ∀ I H σ d, Stt I0 H0 ctx mem I H σ → Fr H0 d → Kx I H σ d) :
    JN X W Kx (Stt I0 H0 ctx mem) (.If c s1 [] pos :: ss) (mc.bind fun x => if x = true then m1 else m2) G' := fun I H σ D g p => by
  refine b_cons (s_if (j I H σ _ g ?_))
  cases mc with
  | ok x =>
    intro I1 H1 v f r y hy
    cases r; cases hy
    cases x with
    | true =>
      refine iteT (b_mono (k1 I1 H1 σ { D with nx := fun _ _ => False } (g.step f) ?_) (fun _ _ z => z.elim) (fun _ _ z => z) (fun _ _ z => z) (fun _ _ z => z))
      have p1 : PostB X W Kx I1 m1 _ _ := PostB.up p f.i
      cases m1 with
      | ok a => exact fun _ _ _ _ z => z
      | err e => exact p1
      | stuck => exact p1
    | false => exact iteF (b_nil (k2 I1 H1 σ D (g.step f) (PostB.up p f.i)))
  | err e => exact fun I' H' c d f x => p I' H' σ c d (hx _ _ _ _ (g.step f) (x.1.back g.fm.h)) x.2
  | stuck => exact p
theorem J1.pass : J1 X W Kx G (.Pass pos) (.ok ()) (fun _ => G) := fun I H σ D g p => s_pass (p I H σ (Same.refl _) g)
/-! ### num == num -/
def nnEq (f : Rat × Num × Unit → Res Bool) (x y : Num) : Res Bool := match x, y with
  | .i a, .i b => .ok (decide (a = b))
  | .i a, .q b => f (b, .i a, ())
  | .q a, y => f (a, y, ())
theorem opj_nn {f : Rat × Num × Unit → Res Bool} {F : Value → Value → Sem Value} (h1 : OpJ X W F (rp rInt) (rp rInt) (fun x y => .ok (decide (x = y))) (rp rBl)) (h2 : OpJ X W F (rp rInt) (rp (rFrac X.K)) (fun x y => f (y, .i x, ())) (rp rBl)) (h3 : OpJ X W F (rp (rFrac X.K)) (rp (rNum X.K)) (fun x y => f (x, y, ())) (rp rBl)) :
    OpJ X W F (rp (rNum X.K)) (rp (rNum X.K)) (nnEq f) (rp rBl) := fun I H σ Q u v x y s a b p => by
  cases x with
  | i n =>
    cases y with
    | i m => exact h1 I H σ Q u v n m s a b p
    | q m => exact h2 I H σ Q u v n m s a b p
  | q n => exact h3 I H σ Q u v n y s a b p
/-! ### operators, once more: mirrors by arguments -/
theorem unj_own1 {C f : Addr} {g : α → Res γ} (hm : OMet X.K C "__neg__" f) (ia : InsR C ra) (cj : CallJ X W (.ref f) (R1 ra) (fun d => g d.1) rc) : UnJ X W (unaryOp .USub) ra g rc := unj_own (g := fun d => g d.1) hm ia cj
theorem opj_own2 {op : Operator} {C f : Addr} {g : α → β → Res γ} (hc : OCls X.K C) (hm : OMet X.K C (PySem.dunder op.info.2) f) (ia : InsR C ra) (ib : InsR C rb) (cj : CallJ X W (.ref f) (R2' ra rb) (fun d => g d.1 d.2.1) rc) : OpJ X W (binaryOp op) ra rb g rc := opj_own (g := fun d => g d.1 d.2.1) hc hm ia ib cj
theorem opj_cmp2 {op : CmpOp} {C f : Addr} {g : α → β → Res γ} (hop : ∀ a b, compareOp op a b = richCompare op a b) (hc : OCls X.K C) (hm : OMet X.K C (cmpInfo op).2.1 f) (hu : X.A.units < cLine) (hn : PySem.W.notFirst X.K C (.ref C) = true) (ia : InsR C ra) (ib : InsR C rb) (cj : CallJ X W (.ref f) (R2' ra rb) (fun d => g d.1 d.2.1) rc) :
    OpJ X W (compareOp op) ra rb g rc := opj_cmp (g := fun d => g d.1 d.2.1) hop hc hm hu hn ia ib cj
theorem opj_neO2 {k : Nat} {C f : Addr} {g : α → β → Res Bool} (hc : OCls X.K C) (hm : OMet X.K C "__eq__" f) (hr : Room (k + 1) X.A) (tk : Takes X W) (hn : PySem.W.notFirst X.K C (.ref C) = true) (ia : InsR C ra) (ib : InsR C rb) (F : FnR X.prog X.w X.K X.mg X.base (L2.CX X.prog X.w) k f (spF X.K (R2' ra rb) (fun d => g d.1 d.2.1) (rp rBl))) :
    OpJ X W (compareOp .NotEq) ra rb (fun x y => (g x y).bind fun z => .ok (!z)) (rp rBl) := opj_neO (g := fun d => g d.1 d.2.1) hc hm hr tk hn ia ib F
theorem JE.ixO2 {k : Nat} {C f : Addr} {g : α → β → Res γ} [MoA ra] (hm : OMet X.K C "__getitem__" f) (hfn : PySem.W.fnIn X.K f = true) (ia : InsR C ra) (hr : Room (k + 1) X.A) (tk : Takes X W) (F : FnR X.prog X.w X.K X.mg X.base (L2.CX X.prog X.w) k f (spF X.K (R2' ra rb) (fun d => g d.1 d.2.1) rc))
    (ja : JE X I0 H0 W ctx mem a ma ra) (jb : JE X I0 H0 W ctx mem b mb rb) (hsl : ∀ o i, subscripted b true o i = runValue (.builtin "lifetime.subscript" ⟨[o, i], []⟩) := by intro _ _; with_unfolding_all rfl) :
    JE X I0 H0 W ctx mem (.Subscript a b pos) (ma.bind fun x => mb.bind fun y => g x y) rc := JE.ixO (g := fun d => g d.1 d.2.1) hm hfn ia hr tk F ja jb hsl
theorem JE.prop1 {k : Nat} {C p g : Addr} {f : Str} {m : α → Res γ} (j : JE X I0 H0 W ctx mem o ma ra) (ia : InsR C ra) (c : Cls X.K C) (hp : PropOf X.K C f p g) (F : FnR X.prog X.w X.K X.mg X.base (L2.CX X.prog X.w) k g (spF X.K (R1 ra) (fun d => m d.1) rc)) (hr : Room (k + 1) X.A) (tk : Takes X W)
    (hab : attributeBase o f X.env (eval o X.env) = eval o X.env := by rfl) : JE X I0 H0 W ctx mem (.Attribute o f pos) (ma.bind fun x => noErr (m x)) rc := JE.prop (m := fun d => m d.1) j ia c hp F hr tk hab
/-! ### comprehensions: what may be raised within is handed on -/
theorem JM.lcT {iter elt : Expr} {rb : Rp β} (j : Nat) [mo : Mo r] [mb : Mo rb] {m : Res (List β)} {f : β → Res α} {scope : Scope} (ji : JI X I0 H0 W ctx mem (.Name n pos') iter m rb)
    (je : ∀ (s : Shared) (H : Hp) (C : Addr) (cl : List (Str × Addr)) (fp : List Addr) (D : Addr) (acc : List α) (x : β), Takes (X.blk s H scope (compEnvC scope cl C X.env) fp) W0 → JE (X.blk s H scope (compEnvC scope cl C X.env) fp) I0 H0 W0 (ctx.set j (some ⟨rb, x⟩)) (MF.lst D r acc :: mem) elt (f x) (rp r))
    (hN : X.N.Nodup) (ok : BlkOk X.N X.env.scope scope [(n, j)]) (hj : X.N[j]? = some n := by rfl) (hc : X.calm = true := by rfl) (hsc : Loc (relabel scope X.env) n := by first | exact Or.inl rfl | exact Or.inr rfl) (hfn : (scope.names.lookup n == some .cell) = true ∨ (relabel scope X.env).names.lookup n = some .local := by first | exact .inr rfl | exact .inl rfl) (hs : ∀ x, foldedSetIterable iter X.env x = pure x := by intro _; rfl) :
    JM X I0 H0 W ctx mem (.ListComp elt [⟨.Name n pos', iter, [], 0⟩] scope pos) (m.bind fun xs => lcR f xs) r := JM.lc j ji (fun s H C cl fp D acc x => je s H C cl fp D acc x takes0) hN ok hj hc hsc hfn hs
theorem J1.setLcT {iter elt : Expr} {rb : Rp β} (i j : Nat) {y : Str} {py spos : Pos} [mo : Mo r] [mb : Mo rb] {m : Res (List β)} {f : β → Res α} {scope : Scope} (ji : JI X I0 H0 W ctx mem (.Name n pos') iter m rb)
    (je : ∀ (s : Shared) (H : Hp) (C : Addr) (cl : List (Str × Addr)) (fp : List Addr) (D : Addr) (acc : List α) (x : β), Takes (X.blk s H scope (compEnvC scope cl C X.env) fp) W0 → JE (X.blk s H scope (compEnvC scope cl C X.env) fp) I0 H0 W0 (ctx.set j (some ⟨rb, x⟩)) (MF.lst D r acc :: mem) elt (f x) (rp r))
    (hx : ∀ I H σ d, Stt I0 H0 ctx mem I H σ → Fr H0 d → Kx I H σ d) (hN : X.N.Nodup) (ok : BlkOk X.N X.env.scope scope [(n, j)]) (hi : X.N[i]? = some y := by rfl) (hyl : X.env.scope.names.lookup y = some .local := by rfl)
    (hsw : swapsWith (.ListComp elt [⟨.Name n pos', iter, [], 0⟩] scope pos) (some (.Name y py)) spos.line X.env = pure true := by rfl) (hj : X.N[j]? = some n := by rfl) (hc : X.calm = true := by rfl) (hsc : Loc (relabel scope X.env) n := by first | exact Or.inl rfl | exact Or.inr rfl) (hfn : (scope.names.lookup n == some .cell) = true ∨ (relabel scope X.env).names.lookup n = some .local := by first | exact .inr rfl | exact .inl rfl) (hs : ∀ x, foldedSetIterable iter X.env x = pure x := by intro _; rfl) :
    J1 X W Kx (Stt I0 H0 ctx mem) (.Assign [.Name y py] (.ListComp elt [⟨.Name n pos', iter, [], 0⟩] scope pos) spos) (m.bind fun xs => lcR f xs) (fun xs I H σ => ∃ l, Stt I0 H0 (ctx.set i (some ⟨rRef l, ()⟩)) (MF.lst l r xs :: mem) I H σ) :=
  J1.setLc i j ji (fun s H C cl fp D acc x => je s H C cl fp D acc x takes0) hx hN ok hi hyl hsw hj hc hsc hfn hs
/-! ### range(a, b, -1) -/
def rangeD (lo hi : Int) : Res (List Int) := Res.guard (-(2 ^ 62) ≤ lo ∧ lo < 2 ^ 62 ∧ -(2 ^ 62) ≤ hi ∧ hi < 2 ^ 62) (.ok (rngCI lo (-1) (lo - hi).toNat))
end
/-! ### an empty tuple of the top -/
def fTup0 (p : PySem.W.Frag → Addr) : FB := fun K => match K.lookup (p K) with
  | some ⟨.type c, _, .seq its _, _⟩ => decide (c = "tuple") && decide (its.size = 0)
  | _ => false
theorem tup0_of {K : PySem.W.Frag} {p : PySem.W.Frag → Addr} (h : fTup0 p K = true) : ∀ H, SqT K H (p K) [] := fun H => by
  unfold fTup0 at h
  split at h
  · rename_i c d its n sl e
    obtain ⟨h1, h2⟩ := ba h
    have h3 := of_decide_eq_true h2
    refine .inr ⟨_, its, n, e, by rw [of_decide_eq_true h1], rfl, by rw [h3]; exact Nat.zero_le _, ?_⟩
    have : its.toList = [] := by
      have : its.toList.length = 0 := by rw [Array.length_toList]; exact h3
      exact List.eq_nil_of_length_eq_zero this
    rw [this]; exact .nil
  · cases h
/-! ### a comprehension's names -/
def blkB (N : List Str) (sc scope : Scope) (own : List (Str × Nat)) : Bool := decide (scope.kind = .function) && ((scope.names.all fun y => decide (scope.names.lookup y.1 = some y.2)) && ((own.all fun p => decide (N[p.2]? = some p.1)) &&
  ((scope.names.all fun y => !decide (y.2 = .free) || (decide (sc.names.lookup y.1 = some .cell) || decide (sc.names.lookup y.1 = some .free))) && (scope.names.all fun y => !(decide (y.2 = .local) || decide (y.2 = .cell)) || ((own.map (·.1)).contains y.1 || !N.contains y.1)))))
theorem blkok_of {N : List Str} {sc scope : Scope} {own : List (Str × Nat)} (h : blkB N sc scope own = true) : BlkOk N sc scope own := by
  obtain ⟨h1, h⟩ := ba h
  obtain ⟨h2, h⟩ := ba h
  obtain ⟨h3, h⟩ := ba h
  obtain ⟨h4, h5⟩ := ba h
  refine ⟨of_decide_eq_true h1, fun y hy => of_decide_eq_true (List.all_eq_true.mp h2 y hy), fun p hp => of_decide_eq_true (List.all_eq_true.mp h3 p hp), fun y hy e => ?_, fun y hy e => ?_⟩
  · have z := List.all_eq_true.mp h4 y hy
    rw [decide_eq_true e, Bool.not_true, Bool.false_or, Bool.or_eq_true] at z
    exact z.imp of_decide_eq_true of_decide_eq_true
  · have z := List.all_eq_true.mp h5 y hy
    have e2 : (decide (y.2 = .local) || decide (y.2 = .cell)) = true := by
      rcases e with e | e
      · rw [decide_eq_true e, Bool.true_or]
      · rw [decide_eq_true e, Bool.or_true]
    rw [e2, Bool.not_true, Bool.false_or, Bool.or_eq_true] at z
    rcases z with z | z
    · exact .inl (by simpa using z)
    · exact .inr (by simpa using z)
end L2.Tr

namespace L2.Tr
open PySem PySem.Spec PyProof.Rows
/-! ### plain Lean: mirrors that end well -/
theorem Res.okb {α β : Type} (a : α) (f : α → Res β) : (Res.ok a).bind f = f a := by
  have h : ∀ m : Res α, m = .ok a → m.bind f = f a := fun m e => by subst e; rfl
  exact h _ rfl
theorem Fl.okb_nx {S T L γ : Type} (f : S → Res (Fl T L γ)) (s : S) : Fl.then f (.nx s) = f s := by
  have h : ∀ m : Fl S L γ, m = .nx s → Fl.then f m = f s := fun m e => by subst e; rfl
  exact h _ rfl
theorem Fl.okb_out {S L γ : Type} (f : S → Res γ) (s : S) : Fl.out (L := L) f (.nx s) = f s := by
  have h : ∀ m : Fl S L γ, m = .nx s → Fl.out f m = f s := fun m e => by subst e; rfl
  exact h _ rfl
section
variable {α β γ S L : Type} {m : Res α} {P P' : α → Prop} {f : α → Res β} {Q : β → Prop}
def Ok (m : Res α) (P : α → Prop) : Prop := ∃ a, m = .ok a ∧ P a
theorem Ok.ok {a : α} (h : P a) : Ok (.ok a) P := ⟨a, rfl, h⟩
theorem Ok.bind (h : Ok m P) (k : ∀ a, P a → Ok (f a) Q) : Ok (m.bind f) Q := by
  obtain ⟨a, e, p⟩ := h
  rw [e]; exact k a p
theorem Ok.mono (h : Ok m P) (k : ∀ a, P a → P' a) : Ok m P' := by
  obtain ⟨a, e, p⟩ := h
  exact ⟨a, e, k a p⟩
theorem Ok.of {a : α} (e : m = .ok a) (h : P a) : Ok m P := ⟨a, e, h⟩
theorem Ok.eq {a : α} (h : Ok m (fun x => x = a)) : m = .ok a := by
  obtain ⟨b, e, p⟩ := h
  rw [e, p]
theorem Ok.bindE {a : α} (e : m = .ok a) (k : Ok (f a) Q) : Ok (m.bind f) Q := by rw [e]; exact k
theorem Ok.ite {c : Prop} [Decidable c] {m1 m2 : Res α} (h1 : c → Ok m1 P) (h2 : ¬ c → Ok m2 P) : Ok (if c then m1 else m2) P := by
  by_cases h : c
  · rw [if_pos h]; exact h1 h
  · rw [if_neg h]; exact h2 h
theorem Ok.guard {p : Prop} [Decidable p] (hp : p) (h : Ok m P) : Ok (Res.guard p m) P := by rw [Res.guard_pos hp]; exact h
/-- a loop -/
theorem forS_ok {f : β → S → Res S} (Inv : Nat → S → Prop) : ∀ {xs : List β} {k : Nat} {s : S}, Inv k s → (∀ i x s, xs[i]? = some x → Inv (k + i) s → Ok (f x s) (Inv (k + i + 1))) → Ok (forS f xs s) (Inv (k + xs.length))
  | [], k, s, h, _ => .ok h
  | x :: xs, k, s, h, hf => by
    refine Ok.bind (hf 0 x s rfl h) fun s' h' => ?_
    have := forS_ok (f := f) Inv (xs := xs) (k := k + 1) (s := s') h' fun i y t e ht => by
      have := hf (i + 1) y t (by simpa using e) (by rw [show k + (i + 1) = k + 1 + i by omega]; exact ht)
      rw [show k + 1 + i + 1 = k + (i + 1) + 1 by omega]; exact this
    rw [List.length_cons, show k + (xs.length + 1) = k + 1 + xs.length by omega]
    exact this
theorem Ok.forS {f : β → S → Res S} {xs : List β} {s : S} (Inv : Nat → S → Prop) (h0 : Inv 0 s) (hf : ∀ i x s, xs[i]? = some x → Inv i s → Ok (f x s) (Inv (i + 1))) : Ok (Tr.forS f xs s) (Inv xs.length) := by
  have := forS_ok (f := f) Inv (xs := xs) (k := 0) h0 fun i x t e ht => by rw [Nat.zero_add] at ht ⊢; exact hf i x t e ht
  rwa [Nat.zero_add] at this
/-- what a turn of a loop with early ends hands on -/
def FlP (N : S → Prop) (B : S → Prop) (R : γ → Prop) : Fl S S γ → Prop
  | .nx s => N s
  | .ct s => N s
  | .bk s => B s
  | .rt y => R y
def FlQ (N : S → Prop) (R : γ → Prop) : Fl S L γ → Prop
  | .nx s => N s
  | .rt y => R y
  | _ => False
theorem forG_ok {L : Type} {f : β → S → Res (Fl S S γ)} (Inv : Nat → S → Prop) (B : S → Prop) (R : γ → Prop) : ∀ {xs : List β} {k : Nat} {s : S}, Inv k s → (∀ i x s, xs[i]? = some x → Inv (k + i) s → Ok (f x s) (FlP (Inv (k + i + 1)) B R)) → Ok (forG f xs s : Res (Fl S L γ)) (FlQ (fun s => Inv (k + xs.length) s ∨ B s) R)
  | [], k, s, h, _ => .ok (.inl h)
  | x :: xs, k, s, h, hf => by
    refine Ok.bind (hf 0 x s rfl h) fun r hr => ?_
    have next : ∀ s', Inv (k + 1) s' → Ok (forG f xs s' : Res (Fl S L γ)) (FlQ (fun s => Inv (k + (x :: xs).length) s ∨ B s) R) := fun s' h' => by
      have : Ok (forG f xs s' : Res (Fl S L γ)) _ := forG_ok (f := f) Inv B R (xs := xs) (k := k + 1) (s := s') h' fun i y t e ht => by
        have := hf (i + 1) y t (by simpa using e) (by rw [show k + (i + 1) = k + 1 + i by omega]; exact ht)
        rw [show k + 1 + i + 1 = k + (i + 1) + 1 by omega]; exact this
      rw [List.length_cons, show k + (xs.length + 1) = k + 1 + xs.length by omega]
      exact this
    cases r with
    | nx s' => exact next s' hr
    | ct s' => exact next s' hr
    | bk s' => exact .ok (.inr hr)
    | rt y => exact .ok hr
theorem Ok.forG {f : β → S → Res (Fl S S γ)} {xs : List β} {s : S} (Inv : Nat → S → Prop) (B : S → Prop) (R : γ → Prop) (h0 : Inv 0 s) (hf : ∀ i x s, xs[i]? = some x → Inv i s → Ok (f x s) (FlP (Inv (i + 1)) B R)) : Ok (Tr.forG f xs s : Res (Fl S L γ)) (FlQ (fun s => Inv xs.length s ∨ B s) R) := by
  have := forG_ok (L := L) (f := f) Inv B R (xs := xs) (k := 0) h0 fun i x t e ht => by rw [Nat.zero_add] at ht ⊢; exact hf i x t e ht
  rwa [Nat.zero_add] at this
/-- a loop that only tests: no early end -/
theorem forG_all {f : β → Unit → Res (Fl Unit Unit γ)} {xs : List β} (hf : ∀ x, x ∈ xs → f x () = .ok (.nx ())) : (Tr.forG f xs () : Res (Fl Unit L γ)) = .ok (.nx ()) := by
  induction xs with
  | nil => rfl
  | cons x xs ih =>
    show (f x ()).bind _ = _
    rw [hf x (List.mem_cons_self)]
    exact ih fun y hy => hf y (List.mem_cons_of_mem _ hy)
theorem Ok.whileM {c : S → Res Bool} {f : S → Res S} (Inv : S → Prop) (E : S → Prop) (μ : S → Nat) (hc : ∀ s, Inv s → Ok (c s) fun b => (b = true → Ok (f s) fun s' => Inv s' ∧ μ s' < μ s) ∧ (b = false → E s)) : ∀ {n : Nat} {s : S}, Inv s → μ s < n → Ok (Tr.whileM c f n s) E
  | 0, _, _, h => absurd h (Nat.not_lt_zero _)
  | n + 1, s, hi, hm => by
    refine Ok.bind (hc s hi) fun b hb => ?_
    cases b with
    | true =>
      rw [if_pos rfl]
      exact Ok.bind (hb.1 rfl) fun s' h' => Ok.whileM Inv E μ hc h'.1 (by omega)
    | false => rw [if_neg (by decide)]; exact .ok (hb.2 rfl)
/-! comprehensions -/
theorem lcM_eq {f : β → Res α} {g : β → α} : ∀ {xs : List β}, (∀ x, x ∈ xs → f x = .ok (g x)) → lcM f xs = .ok (xs.map g)
  | [], _ => rfl
  | x :: xs, h => by
    unfold lcM
    rw [h x (List.mem_cons_self), lcM_eq (xs := xs) fun y hy => h y (List.mem_cons_of_mem _ hy)]
    rfl
theorem lcR_eq {f : β → Res α} {g : β → α} {xs : List β} (hl : xs.length ≤ sizeLine) (h : ∀ x, x ∈ xs → f x = .ok (g x)) : lcR f xs = .ok (xs.map g) := by
  unfold lcR
  rw [Res.guard_pos hl, lcM_eq h]
theorem lcM_ok {f : β → Res α} {P : β → α → Prop} : ∀ {xs : List β}, (∀ x, x ∈ xs → Ok (f x) (P x)) → Ok (lcM f xs) fun ys => ys.length = xs.length ∧ ∀ (i : Nat) x y, xs[i]? = some x → ys[i]? = some y → P x y
  | [], _ => .ok ⟨rfl, fun i x y e => by simp at e⟩
  | x :: xs, h => by
    unfold lcM
    obtain ⟨y, e, p⟩ := h x (List.mem_cons_self)
    rw [e]
    refine Ok.bind (lcM_ok (xs := xs) fun z hz => h z (List.mem_cons_of_mem _ hz)) fun ys ⟨h1, h2⟩ => .ok ⟨by rw [List.length_cons, List.length_cons, h1], fun i a b ea eb => ?_⟩
    cases i with
    | zero => simp at ea eb; rw [← ea, ← eb]; exact p
    | succ i => exact h2 i a b (by simpa using ea) (by simpa using eb)
theorem Ok.lcR {f : β → Res α} {P : β → α → Prop} {xs : List β} (hl : xs.length ≤ sizeLine) (h : ∀ x, x ∈ xs → Ok (f x) (P x)) : Ok (Tr.lcR f xs) fun ys => ys.length = xs.length ∧ ∀ (i : Nat) x y, xs[i]? = some x → ys[i]? = some y → P x y := .guard hl (lcM_ok h)
/-! ranges, indices -/
theorem rngI_len (lo : Int) (n : Nat) : (rngI lo n).length = n := by simp [rngI]
theorem rngI_get {lo : Int} {n i : Nat} {x : Int} (h : (rngI lo n)[i]? = some x) : x = lo + (i : Int) ∧ i < n := by
  have hl := (List.getElem?_eq_some_iff.mp h).1
  rw [rngI_len] at hl
  refine ⟨?_, hl⟩
  unfold rngI at h
  rw [List.getElem?_map, List.getElem?_range hl] at h
  simpa using h.symm
theorem rngI_mem {lo : Int} {n : Nat} {x : Int} (h : x ∈ rngI lo n) : lo ≤ x ∧ x < lo + (n : Int) := by
  obtain ⟨i, e⟩ := List.getElem?_of_mem h
  obtain ⟨e1, e2⟩ := rngI_get e
  omega
theorem rangeM1_ok {hi : Int} (h : -(2 ^ 62) ≤ hi ∧ hi < 2 ^ 62) : rangeM1 hi = .ok (rngI 0 hi.toNat) := Res.guard_pos h _
theorem rangeM_ok {lo hi : Int} (h : -(2 ^ 62) ≤ lo ∧ lo < 2 ^ 62 ∧ -(2 ^ 62) ≤ hi ∧ hi < 2 ^ 62) : rangeM lo hi = .ok (rngI lo (hi - lo).toNat) := Res.guard_pos h _
theorem rngI_eq (n : Nat) : rngI 0 n = (List.range n).map fun (i : Nat) => (i : Int) := by simp [rngI]
theorem atM_get {xs : List α} {i : Int} {x : α} (h0 : 0 ≤ i) (h : xs[i.toNat]? = some x) : atM xs i = .ok x := by
  have e := atM_nat h
  rwa [Int.toNat_of_nonneg h0] at e
theorem atM_lt {xs : List α} {i : Int} (h0 : 0 ≤ i) (h : i.toNat < xs.length) : atM xs i = .ok xs[i.toNat] := atM_get h0 (List.getElem?_eq_getElem h)
theorem atM_last {xs : List α} (h : 0 < xs.length) : atM xs (-1) = .ok (xs[xs.length - 1]'(by omega)) := by
  unfold atM atI ixN
  rw [if_neg (by omega), if_pos (by omega), Option.bind_some]
  have : (-1 + (xs.length : Int)).toNat = xs.length - 1 := by omega
  rw [this, List.getElem?_eq_getElem (by omega)]
end
/-! ### whole numbers by sizes -/
theorem mulI_le {a b : Int} {s t : Nat} (ha : a.natAbs ≤ 2 ^ s) (hb : b.natAbs ≤ 2 ^ t) (hs : s + t < 1000000) : mulI a b = .ok (a * b) := mulI_ok (by
  have h1 := log2_mono ha
  have h2 := log2_mono hb
  rw [Nat.log2_two_pow] at h1 h2
  omega)
theorem powI_le {x : Int} {y s : Nat} (h : x.natAbs ≤ 2 ^ s) (hs : (s + 1) * y ≤ 2 ^ 27) : powI x (y : Int) = .ok (x ^ y) := by
  have h1 := log2_mono h
  rw [Nat.log2_two_pow] at h1
  unfold powI
  rw [Res.guard_pos ⟨by omega, .inr (by rw [Int.toNat_natCast]; exact Nat.le_trans (Nat.mul_le_mul_right y (by omega)) hs)⟩]
  rfl
theorem fdivI_pos {x y : Int} (h : 0 < y) (hl : y < 2 ^ 4000) : fdivI x y = .ok (x / y) := by
  have e : y.natAbs ≤ 2 ^ 4000 := by omega
  have h1 := log2_mono e
  rw [Nat.log2_two_pow] at h1
  rw [fdivI_ok (by omega) (by omega), Int.fdiv_eq_ediv_of_nonneg _ (by omega)]
theorem modI_pos {x y : Int} (h : 0 < y) : modI x y = .ok (x % y) := by
  rw [modI_ok (by omega), Int.fmod_eq_emod_of_nonneg _ (by omega)]
/-! ### fractions z / D with a whole z of at most B -/
def DB (D B : Nat) (q : Rat) : Prop := 0 < D ∧ ∃ z : Int, q = Rat.divInt z (D : Int) ∧ z.natAbs ≤ B
theorem DB.fits {D B : Nat} {q : Rat} (h : DB D B q) (hD : D ≤ 2 ^ 4000) (hB : B ≤ 2 ^ 4000) : fits q := by
  obtain ⟨h0, z, e, hz⟩ := h
  rw [e]
  exact Sz.fits (sz_divInt (s := 4000) (by omega) (by rw [Int.natAbs_natCast]; exact hD))
theorem DB.mono {D B C : Nat} {q : Rat} (h : DB D B q) (hB : B ≤ C) : DB D C q := let ⟨h0, z, e, hz⟩ := h; ⟨h0, z, e, Nat.le_trans hz hB⟩
theorem DB.up {D B k : Nat} {q : Rat} (h : DB D B q) (hk : 0 < k) : DB (D * k) (B * k) q := by
  obtain ⟨h0, z, e, hz⟩ := h
  refine ⟨Nat.mul_pos h0 hk, z * (k : Int), ?_, ?_⟩
  · rw [e, Int.natCast_mul, Rat.divInt_mul_right (by omega)]
  · rw [Int.natAbs_mul, Int.natAbs_natCast]; exact Nat.mul_le_mul_right k hz
theorem DB.dvd {D E B : Nat} {q : Rat} (h : DB D B q) (hd : D ∣ E) (hE : 0 < E) : DB E (B * (E / D)) q := by
  obtain ⟨k, e⟩ := hd
  have h0 := h.1
  have hk : 0 < k := by
    rcases Nat.eq_zero_or_pos k with z | z
    · subst z; omega
    · exact z
  rw [e, Nat.mul_div_cancel_left k h0]
  exact h.up hk
theorem DB.add {D B C : Nat} {x y : Rat} (h : DB D B x) (k : DB D C y) : DB D (B + C) (x + y) := by
  obtain ⟨h0, z, e, hz⟩ := h
  obtain ⟨_, u, e', hu⟩ := k
  refine ⟨h0, z + u, ?_, ?_⟩
  · rw [e, e', Rat.divInt_add_divInt _ _ (by omega) (by omega), ← Int.add_mul, Rat.divInt_mul_right (by omega)]
  · have := Int.natAbs_add_le z u; omega
theorem DB.neg {D B : Nat} {x : Rat} (h : DB D B x) : DB D B (-x) := by
  obtain ⟨h0, z, e, hz⟩ := h
  exact ⟨h0, -z, by rw [e, Rat.neg_divInt], by rw [Int.natAbs_neg]; exact hz⟩
theorem DB.sub {D B C : Nat} {x y : Rat} (h : DB D B x) (k : DB D C y) : DB D (B + C) (x - y) := by rw [Rat.sub_eq_add_neg]; exact h.add k.neg
theorem DB.mul {D E B C : Nat} {x y : Rat} (h : DB D B x) (k : DB E C y) : DB (D * E) (B * C) (x * y) := by
  obtain ⟨h0, z, e, hz⟩ := h
  obtain ⟨h1, u, e', hu⟩ := k
  refine ⟨Nat.mul_pos h0 h1, z * u, ?_, ?_⟩
  · rw [e, e', Rat.divInt_mul_divInt, Int.natCast_mul]
  · rw [Int.natAbs_mul]; exact Nat.mul_le_mul hz hu
theorem DB.int (n : Int) : DB 1 n.natAbs (n : Rat) := ⟨by decide, n, (Rat.num_divInt_den (n : Rat)).symm, Nat.le_refl _⟩
theorem DB.zero {D : Nat} (h : 0 < D) (B : Nat) : DB D B 0 := ⟨h, 0, by rw [Rat.zero_divInt], by simp⟩
theorem DB.one : DB 1 1 1 := DB.int 1
theorem DB.mk {t b : Int} (h : 0 < b) : DB b.toNat t.natAbs (Rat.divInt t b) := ⟨by omega, t, by rw [Int.toNat_of_nonneg (by omega)], Nat.le_refl _⟩
theorem DB.self (q : Rat) : DB q.den q.num.natAbs q := ⟨q.den_pos, q.num, (Rat.num_divInt_den q).symm, Nat.le_refl _⟩
end L2.Tr
namespace L2.Tr
open PySem PySem.Spec PyProof.Rows
theorem size_le {n : Nat} (h : n ≤ 1000000) : n ≤ sizeLine := by rw [sizeLine_eq]; omega
theorem appM_ok {α : Type} {xs : List α} {y : α} (h : xs.length < 1000000) : appM xs y = .ok (xs ++ [y]) := Res.guard_pos (by rw [sizeLine_eq]; omega) _
theorem catM_ok {α : Type} {xs ys : List α} (h : xs.length + ys.length ≤ 1000000) : catM xs ys = .ok (xs ++ ys) := Res.guard_pos (size_le h) _
theorem repM_one {α : Type} {x : α} {k : Int} (h0 : 0 ≤ k) (h : k ≤ 1000000) : repM [x] k = .ok (List.replicate k.toNat x) := by
  unfold repM
  rw [Res.guard_pos ⟨by omega, by omega, by rw [sizeLine_eq]; simp; omega⟩]
  congr 1
  generalize k.toNat = n
  induction n with
  | zero => rfl
  | succ n ih => rw [List.replicate_succ, List.flatten_cons, ih]; rfl
theorem popM_ok {α : Type} {xs : List α} (h : 0 < xs.length) : popM xs = .ok xs.dropLast := Res.guard_pos h _
theorem putM_ok {α : Type} {xs : List α} {k : Int} {y : α} (h0 : 0 ≤ k) (h : k.toNat < xs.length) : putM xs k y = .ok (xs.set k.toNat y) := by
  unfold putM ixN
  rw [if_pos h0, if_pos (by omega)]
theorem cutL_to {α : Type} {xs : List α} {k : Int} (h0 : 0 ≤ k) (h : k.toNat ≤ xs.length) : cutL xs none (some k) = xs.take k.toNat := by
  unfold cutL
  rw [HT.sIx_none, List.drop_zero, Nat.sub_zero, show (some k : Option Int) = some ((k.toNat : Nat) : Int) from by rw [Int.toNat_of_nonneg h0], HT.sIx_nat, Nat.min_eq_left h]
/-! ### what is left behind the last index without z -/
def trimN (z : Nat → Bool) : Nat → Nat
  | 0 => 0
  | k + 1 => if z k = true then trimN z k else k + 1
theorem trimN_le (z : Nat → Bool) : ∀ k, trimN z k ≤ k
  | 0 => Nat.le_refl _
  | k + 1 => by
    unfold trimN
    split
    · exact Nat.le_succ_of_le (trimN_le z k)
    · exact Nat.le_refl _
theorem trimN_congr {z z' : Nat → Bool} : ∀ {k : Nat}, (∀ i, i < k → z i = z' i) → trimN z k = trimN z' k
  | 0, _ => rfl
  | k + 1, h => by
    unfold trimN
    rw [h k (Nat.lt_succ_self k), trimN_congr (k := k) fun i hi => h i (by omega)]
theorem trimN_last {z : Nat → Bool} : ∀ {k : Nat}, 0 < trimN z k → z (trimN z k - 1) = false
  | 0, h => absurd h (Nat.lt_irrefl _)
  | k + 1, h => by
    unfold trimN at h ⊢
    by_cases hz : z k = true
    · rw [if_pos hz] at h ⊢; exact trimN_last h
    · rw [if_neg hz]; simpa using hz
theorem trimN_full {z : Nat → Bool} {k : Nat} (h : ∀ j, k = j + 1 → z j = false) : trimN z k = k := by
  cases k with
  | zero => rfl
  | succ j => unfold trimN; rw [h j rfl]; rfl
/-- without the zeros at the end -/
def trimQ (xs : List Rat) : List Rat := xs.take (trimN (fun i => decide (xs.getD i 0 = 0)) xs.length)
theorem trimQ_len (xs : List Rat) : (trimQ xs).length ≤ xs.length := by unfold trimQ; rw [List.length_take]; omega
theorem trimQ_id {xs : List Rat} (h : ∀ x, xs.getLast? = some x → x ≠ 0) : trimQ xs = xs := by
  unfold trimQ
  rw [trimN_full, List.take_length]
  intro j hj
  rw [decide_eq_false_iff_not]
  refine h _ ?_
  rw [List.getLast?_eq_getElem?, hj, Nat.add_sub_cancel, List.getD_eq_getElem?_getD, List.getElem?_eq_getElem (by omega)]
  rfl
theorem lenG_ok {n : Nat} (h : n ≤ 1000000) : lenG (n : Int) = .ok (n : Int) := by
  unfold lenG Res.guard
  have h1 : (0 : Int) ≤ (n : Int) := Int.natCast_nonneg n
  have h2 : (n : Int) < 2 ^ 63 := by omega
  rw [if_pos (And.intro h1 h2)]
/-- a fraction handed over as two whole numbers -/
abbrev Pr := Int × Int × Unit
def pv (p : Pr) : Rat := Rat.divInt p.1 p.2.1
/-- of at most 2 ^ s -/
def PB (s : Nat) (p : Pr) : Prop := p.1.natAbs ≤ 2 ^ s ∧ 0 < p.2.1 ∧ p.2.1.natAbs ≤ 2 ^ s
theorem PB.sz {s : Nat} {p : Pr} (h : PB s p) : Sz s (pv p) := sz_divInt h.1 h.2.2
theorem PB.mono {s t : Nat} {p : Pr} (h : PB s p) (k : s ≤ t) : PB t p := ⟨Nat.le_trans h.1 (Nat.pow_le_pow_right (by decide) k), h.2.1, Nat.le_trans h.2.2 (Nat.pow_le_pow_right (by decide) k)⟩
theorem pv_cross {p : Pr} (h : 0 < p.2.1) : (pv p).num * p.2.1 = p.1 * ((pv p).den : Int) := by
  have e := Rat.num_divInt_den (pv p)
  exact (Rat.divInt_eq_divInt_iff (den_nz _) (by omega)).mp e
theorem pv_zero {p : Pr} (h : 0 < p.2.1) : pv p = 0 ↔ p.1 = 0 := by
  unfold pv
  rw [← Rat.zero_divInt p.2.1, Rat.divInt_eq_divInt_iff (by omega) (by omega)]
  constructor
  · intro e
    have : p.1 * p.2.1 = 0 := by rw [e]; simp
    rcases Int.mul_eq_zero.mp this with z | z
    · exact z
    · omega
  · intro e; rw [e]
end L2.Tr

namespace L2.Tr
open PySem PySem.Spec PyProof.Rows He
section
variable {α β γ δ ζ S L : Type} {X : Cx} {I0 H0 I H : Hp} {W : WX} {Kx : KnowsX} {G : Knows} {ctx : List (Option SF)} {mem : List MF} {e a b c o ix : Expr} {es : List Expr} {st : Stmt} {ss s1 : List Stmt} {pos pos' p2 : Pos} {n : Str} {σ : St} {Q : VK} {r : Rp α} {ra : Ra α} {rb : Ra β} {rc : Ra γ} {rr : Ra γ} {ma : Res α} {mb : Res β} {mc : Res Bool} {md : Res δ} {R : Hp → Hp → List V → δ → Prop} {K : PySem.W.Frag}
/-- a cell comes to the front -/
theorem Stt.front {c : MF} (s : Stt I0 H0 ctx mem I H σ) (j : Nat) (hj : mem[j]? = some c) : Stt I0 H0 ctx (c :: mem.eraseIdx j) I H σ := by
  obtain ⟨fps, rg, nd, k⟩ := s.me
  obtain ⟨M1, M2, A, fp, B, e1, e2, e3, r1, q, r2⟩ := rg.split hj
  subst e1; subst e2
  rw [erase_mid e3]
  have hp : List.Perm (A ++ fp :: B).flatten (fp :: (A ++ B)).flatten := by
    rw [flat_mid, List.flatten_cons, List.flatten_append]
    exact (List.perm_append_comm_assoc A.flatten fp B.flatten)
  exact ⟨s.fm, s.len, s.sl, fp :: (A ++ B), ⟨q, Regs.join r1 r2⟩, hp.nodup_iff.mp nd, fun a ha => k a (hp.mem_iff.mpr ha)⟩
/-! ### x[k] op= e -/
theorem get_listP : PGet X (rIxL X.K) := by
  intro pins s σ H x y v u Q Iv hxv hyu w0
  obtain ⟨p, vs, k, z, rfl, rfl, sq, at_, qz⟩ := w0
  cases hxv
  obtain ⟨tok, rfl⟩ := hyu
  obtain ⟨us, vals, pl, _⟩ := Iv.list sq
  obtain ⟨d, e1, e2, e3, e4, e5⟩ := atI_get at_
  obtain ⟨w, ew, rw'⟩ := vals.get e2
  have hl := vals.length
  have hn := line63
  have fin : EP X pins σ Q w s := ⟨z, H, Iv, rw', qz⟩
  by_cases k0 : 0 ≤ k
  · have hd : k.toNat = d := by rw [seqIndex_of k0 e5] at e1; exact Option.some.inj e1
    exact wpAny_getItem_list pl.isList k0 (by omega) (by rw [hd]; simpa using ew) fin
  · have hd : (k + (us.toArray.size : Int)).toNat = d := by
      rw [seqIndex_neg (by omega) e4] at e1
      rw [List.size_toArray, ← hl]; exact Option.some.inj e1
    exact wpAny_getItem_list_neg pl.isList (by omega) (by rw [List.size_toArray] <;> omega) (by omega) (by rw [hd]; simpa using ew) fin
theorem J1.augIx (i j : Nat) {op : Operator} {r2 : Rp β} [mo : Mo r] {h : α → β → Res α} {xs : List α} {m : Res β} {mi : Res Int} {l : Addr} {p1 tpos : Pos} (ji : JE X I0 H0 W ctx mem ix mi (rp rInt)) (je : JE X I0 H0 W ctx mem e m (rp r2)) (op_ : OpJ X W (inplaceOp op) (rp r) (rp r2) h (rp r)) (hx : ∀ I H σ d, Stt I0 H0 ctx mem I H σ → Fr H0 d → Kx I H σ d)
    (hj : mem[j]? = some (MF.lst l r xs) := by rfl) (hc : ctx[i]? = some (some (SF.mk (rRef l) ())) := by rfl) (hN : X.N[i]? = some n := by rfl) (hv : Vis X.env.scope n := by first | exact Or.inl rfl | exact Or.inr (Or.inl rfl) | exact Or.inr (Or.inr rfl)) (hd : (n == ("__debug__" : Str)) = false := by decide)
    (hcd : (n == ("__classdict__" : Str)) = false := by decide) (ha : ∀ ov iv new, augStore ix ov iv new = (do holding [new, ov, iv] (setItem ov iv new); release [new, ov, iv] []; pure .next) := by intros; rfl) :
    J1 X W Kx (Stt I0 H0 ctx mem) (.AugAssign (.Subscript (.Name n p1) ix tpos) op e pos) (mi.bind fun k => (atM xs k).bind fun old => m.bind fun y => (noErr (h old y)).bind fun z => putM xs k z) (fun zs => Stt I0 H0 ctx (mem.set j (MF.lst l r zs))) := fun I H σ D g p => by
  obtain ⟨u, eu, hu⟩ := g.sl i _ hc
  cases (show u = V.ref l from hu)
  refine PS.w (ps_augS (tip := fun u v H Q => ∀ σ, opW X (inplaceOp op) σ u v H Q) pe_W pe_W get_listP pe_W (fun pins s σ H x y v u Q Iv rx ry t => t σ pins s v u Iv rx ry) set_list ha) (w_var i (ji I H σ _ g ?_) eu hN hv hd hcd)
  cases mi with
  | ok k =>
    intro I1 H1 vk f1 r1
    cases (show vk = V.int k from r1)
    have g1 := g.step f1
    obtain ⟨_, _, oo, zH, vs, eo, pr⟩ := g1.lstAt hj
    subst eo
    have p1 : PostB X W Kx I ((atM xs k).bind fun old => m.bind fun y => (noErr (h old y)).bind fun z => putM xs k z) (fun zs => Stt I0 H0 ctx (mem.set j (MF.lst l r zs))) D := p
    unfold atM at p1
    cases ea : atI xs k with
    | none => rw [ea] at p1; exact p1.elim
    | some old =>
      rw [ea] at p1
      obtain ⟨wo, ew, ho⟩ := atI_pair pr ea
      refine ⟨l, vs, k, wo, rfl, rfl, SqL.of zH, ew, je I1 H1 σ _ g1 ?_⟩
      cases m with
      | ok y =>
        intro I2 H2 vy f2 r2 σ2
        have g2 := g1.step f2
        have p2 : PostB X W Kx I ((noErr (h old y)).bind fun z => putM xs k z) (fun zs => Stt I0 H0 ctx (mem.set j (MF.lst l r zs))) D := p1
        refine op_ I2 H2 σ2 _ wo vy old y f2.ih (mo.up f2.i ho) r2 ?_
        revert p2
        generalize h old y = zz
        intro p2
        cases zz with
        | ok z =>
          intro I3 H3 vz f3 r3
          have g3 := g2.step f3
          obtain ⟨_, _, o3, zH3, vs3, eo3, pr3⟩ := g3.lstAt hj
          subst eo3
          have p3 : PostB X W Kx I (putM xs k z) (fun zs => Stt I0 H0 ctx (mem.set j (MF.lst l r zs))) D := p2
          unfold putM at p3
          cases ek : ixN xs.length k with
          | none => rw [ek] at p3; exact p3.elim
          | some q =>
            rw [ek] at p3
            exact ⟨l, vs3, k, q, rfl, rfl, zH3, by rw [Paired.length pr3]; exact ek, p3 I3 _ σ (f1.i.trans (f2.i.trans f3.i)) (g3.relst j hj (paired_set r3 q pr3))⟩
        | err e => exact p2.elim
        | stuck => exact p2.elim
      | err e => exact fun I' H' c d f x => p1 I' H' σ c d (hx _ _ _ _ (g1.step f) (x.1.back g1.fm.h)) x.2
      | stuck => exact p1.elim
  | err e => exact fun I' H' c d f x => p I' H' σ c d (hx _ _ _ _ (g.step f) (x.1.back g.fm.h)) x.2
  | stuck => exact p.elim
/-! ### k in xs, whole numbers -/
theorem paired_inS {I H : Hp} : ∀ {vs : List V} {xs : List Int}, Paired (rp rInt I H) vs xs → vs = xs.map V.int := paired_in
theorem inV_int (k : Int) : ∀ xs : List Int, inV (.int k) (xs.map V.int) = xs.contains k
  | [] => rfl
  | x :: xs => by
    have ih := inV_int k xs
    unfold inV at ih ⊢
    rw [List.map_cons, List.any_cons, ih, List.contains_cons]
    congr 1
    show eqV (.int x) (.int k) = (k == x)
    by_cases h : k = x
    · subst h; simp [eqV]
    · have h2 : x ≠ k := fun z => h z.symm
      show (x == k) = (k == x)
      rw [beq_eq_false_iff_ne.mpr h2, beq_eq_false_iff_ne.mpr h]
theorem flat_ints : ∀ xs : List Int, (xs.map V.int).all flatV = true
  | [] => rfl
  | x :: xs => by rw [List.map_cons, List.all_cons, flat_ints xs]; rfl
theorem opj_in : OpJ X W (compareOp .In) (rp rInt) (rSq X.K (rp rInt)) (fun x ys => .ok (ys.contains x)) (rp rBl) := fun I H σ Q u v x y s hu hv p => by
  obtain ⟨l, vs, rfl, hl, pr⟩ := hv
  cases (show u = V.int x from hu)
  obtain rfl := paired_in pr
  refine OpR.w op_in_seq ⟨l, _, rfl, hl, rfl, flat_ints y, ?_⟩
  rw [if_neg (by decide), inV_int]
  exact p I H _ (Fm.refl s) rfl
/-! ### [.. for x in xs for y in ..] -/
def lcM2 (g : β → Res (List ζ)) (f : β → ζ → Res α) : List β → Res (List α)
  | [] => .ok []
  | x :: xs => match g x with
    | .ok zs => (match lcM (f x) zs with
      | .ok a => (match lcM2 g f xs with
        | .ok b => .ok (a ++ b)
        | _ => .stuck)
      | _ => .stuck)
    | _ => .stuck
def lcR2 (g : β → Res (List ζ)) (f : β → ζ → Res α) (xs : List β) : Res (List α) := match lcM2 g f xs with
  | .ok r => Res.guard (r.length ≤ sizeLine) (.ok r)
  | _ => .stuck
theorem lcM2_drop {g : β → Res (List ζ)} {f : β → ζ → Res α} {xs : List β} {i : Nat} {x : β} (h : xs[i]? = some x) : lcM2 g f (xs.drop i) = (match g x with
    | .ok zs => (match lcM (f x) zs with
      | .ok a => (match lcM2 g f (xs.drop (i + 1)) with
        | .ok b => .ok (a ++ b)
        | _ => .stuck)
      | _ => .stuck)
    | _ => .stuck) := by
  have hi := (List.getElem?_eq_some_iff.mp h).1
  rw [List.drop_eq_getElem_cons hi]
  have : xs[i] = x := (List.getElem?_eq_some_iff.mp h).2
  rw [this]
  rfl
def wIb (X : Cx) (scope : Scope) (tg iter : Expr) : TI := fun σ H R => ∀ (s : Shared) (H' : Hp) (C : Addr) (cl : List (Str × Addr)) (fp : List Addr), wI (X.blk s H' scope (compEnvC scope cl C X.env) fp) tg iter σ H R
theorem pi_Wb {tg iter : Expr} (s : Shared) (H' : Hp) (C : Addr) (cl : List (Str × Addr)) (fp : List Addr) {scope : Scope} : PI (X.blk s H' scope (compEnvC scope cl C X.env) fp) tg iter (wIb X scope tg iter) := ⟨fun pins s1 _ _ _ I h => h s H' C cl fp pins s1 I⟩
theorem JM.lc2T {iter iter1 elt : Expr} {n1 : Str} {q1 : Pos} {rb : Rp β} {rz : Rp ζ} (j j1 : Nat) [mo : Mo r] [mb : Mo rb] [mz : Mo rz] {m : Res (List β)} {g : β → Res (List ζ)} {f : β → ζ → Res α} {scope : Scope} (ji : JI X I0 H0 W ctx mem (.Name n pos') iter m rb)
    (ji1 : ∀ (s : Shared) (H : Hp) (C : Addr) (cl : List (Str × Addr)) (fp : List Addr) (D : Addr) (acc : List α) (x : β), Takes (X.blk s H scope (compEnvC scope cl C X.env) fp) W0 → JI (X.blk s H scope (compEnvC scope cl C X.env) fp) I0 H0 W0 ((ctx.set j (some ⟨rb, x⟩)).set j1 none) (MF.lst D r acc :: mem) (.Name n1 q1) iter1 (g x) rz)
    (je : ∀ (s : Shared) (H : Hp) (C : Addr) (cl : List (Str × Addr)) (fp : List Addr) (D : Addr) (acc : List α) (x : β) (z : ζ), Takes (X.blk s H scope (compEnvC scope cl C X.env) fp) W0 → JE (X.blk s H scope (compEnvC scope cl C X.env) fp) I0 H0 W0 ((ctx.set j (some ⟨rb, x⟩)).set j1 (some ⟨rz, z⟩)) (MF.lst D r acc :: mem) elt (f x z) (rp r))
    (hN : X.N.Nodup) (ok : BlkOk X.N X.env.scope scope [(n, j), (n1, j1)]) (hne : j ≠ j1 := by decide) (hj : X.N[j]? = some n := by rfl) (hj1 : X.N[j1]? = some n1 := by rfl) (hc : X.calm = true := by rfl) (hsc : Loc (relabel scope X.env) n := by first | exact Or.inl rfl | exact Or.inr rfl) (hfn : (scope.names.lookup n == some .cell) = true ∨ (relabel scope X.env).names.lookup n = some .local := by first | exact .inr rfl | exact .inl rfl) (hsc1 : Loc (relabel scope X.env) n1 := by first | exact Or.inl rfl | exact Or.inr rfl) (hfn1 : (scope.names.lookup n1 == some .cell) = true ∨ (relabel scope X.env).names.lookup n1 = some .local := by first | exact .inr rfl | exact .inl rfl)
    (hs : ∀ x, foldedSetIterable iter X.env x = pure x := by intro _; rfl) (hs1 : ∀ env x, foldedSetIterable iter1 env x = pure x := by intro _ _; rfl) :
    JM X I0 H0 W ctx mem (.ListComp elt [⟨.Name n pos', iter, [], 0⟩, ⟨.Name n1 q1, iter1, [], 0⟩] scope pos) (m.bind fun xs => lcR2 g f xs) r := fun I H σ Q st p => by
  refine PE.w (pe_lc2 (own := [(n, j), (n1, j1)]) (vs1 := [j1]) hc hN pi_W ok (by simp) (fun s H C cl fp => pg_name (i := j) hN hj hsc hfn) (fun s H C cl fp => pts_nil) (fun s H C cl fp => pi_Wb s H C cl fp) (fun s H C cl fp => pg_name (i := j1) hN hj1 hsc1 hfn1) (fun s H C cl fp => pts_nil) (fun s H C cl fp => pe_Wb s H C cl fp) hs hs1) ?_
  refine ji I H σ _ st ?_
  cases m with
  | ok xs =>
    intro I1 H1 J vs okp f1 itr stay pr D hD
    have hlen := Paired.length pr
    have hD0 : H D = none := f1.h.free hD
    have p0 : PostM X W σ I H (lcR2 g f xs) r Q := p
    unfold lcR2 at p0
    cases et : lcM2 g f xs with
    | err e => rw [et] at p0; exact p0.elim
    | stuck => rw [et] at p0; exact p0.elim
    | ok tot =>
      rw [et] at p0
      by_cases hz : tot.length ≤ sizeLine
      · have e0 : Res.guard (tot.length ≤ sizeLine) (Res.ok tot) = .ok tot := Res.guard_pos hz _
        have p1 : PostM X W σ I H (.ok tot) r Q := by rw [← e0]; exact p0
        refine ⟨fun i k H' => k + i = vs.length ∧ ∃ I' acc ys, Same I1 I' ∧ Fm I H I' H' ∧ Stt I0 H0 ctx (MF.lst D r acc :: mem) I' H' σ ∧ lcM2 g f (xs.drop i) = .ok ys ∧ tot = acc ++ ys, ⟨vs.length, rfl, I1, [], tot, Same.refl _, f1.trans (Fm.newM f1.ih hD), (st.step f1).push hD .nil, et, rfl⟩, ?_⟩
        rintro i k H' ⟨hk, I', acc, ys, si, fm, g', el, eq⟩
        have hok := stay I' H' si g'.same g'.fm.h
        by_cases hi : i < vs.length
        · obtain ⟨go, yl⟩ := (itr i H' hok).1 hi
          refine .inr ⟨go, fun H2 => ∃ I2 acc2 ys2, Same I1 I2 ∧ Fm I H I2 H2 ∧ Stt I0 H0 ctx (MF.lst D r acc2 :: mem) I2 H2 σ ∧ lcM2 g f (xs.drop (i + 1)) = .ok ys2 ∧ tot = acc2 ++ ys2, fun H2 h => ⟨k - 1, by omega, by omega, h⟩, fun v H2 hy => ?_⟩
          obtain ⟨rfl, ev⟩ := yl v H2 hy
          obtain ⟨x, ex, hr⟩ := paired_drop pr i ev
          rw [lcM2_drop ex] at el
          have wp : wipe σ [j, j1] = (σ.set j1 none).set j none := rfl
          show (fun σ2 H2 => wipe σ2 [j, j1] = wipe σ [j, j1] ∧ _) ((wipe σ [j, j1]).set j (some v)) H2
          refine ⟨?_, ?_⟩
          · show ((((σ.set j1 none).set j none).set j (some v)).set j1 none).set j none = (σ.set j1 none).set j none
            rw [List.set_set, List.set_comm _ _ hne, List.set_set, List.set_set]
          show tYes ((wipe σ [j, j1]).set j (some v)) H2 _
          have hτ : (wipe σ [j, j1]).set j (some v) = (σ.set j (some v)).set j1 none := by rw [wp, List.set_set, List.set_comm _ _ (Ne.symm hne)]
          show (fun (τ : St) => tYes τ H2 fun b H3 => if b = true then wIb X scope (.Name n1 q1) iter1 τ H3 fun J1 H4 => ∃ W1 : Nat → Nat → Hp → Prop, (∃ m, W1 0 m H4) ∧ ∀ jj kk H, W1 jj kk H → (J1.stop jj H ∧ (fun H2 => ∃ I2 acc2 ys2, Same I1 I2 ∧ Fm I _ I2 H2 ∧ Stt I0 H0 ctx (MF.lst D r acc2 :: mem) I2 H2 σ ∧ lcM2 g f (xs.drop (i + 1)) = .ok ys2 ∧ tot = acc2 ++ ys2) H) ∨ (J1.go jj H ∧ ∃ Nx1 : Hp → Prop, (∀ H', Nx1 H' → ∃ k', k' < kk ∧ W1 (jj + 1) k' H') ∧ ∀ x H', J1.yld jj H x H' → gName j1 x (wipe τ [j1]) H' fun σ3 H5 => wipe σ3 [j1] = wipe τ [j1] ∧ tYes σ3 H5 fun b H6 => if b = true then wEb X scope elt σ3 H6 fun y H7 => ∃ acc, H7 D = some (.lst acc) ∧ acc.length < sizeLine ∧ Nx1 (upd H7 D (.lst (acc ++ [y]))) else Nx1 H6) else _) ((wipe σ [j, j1]).set j (some v))
          rw [hτ]
          show wIb X scope (.Name n1 q1) iter1 ((σ.set j (some v)).set j1 none) H2 _
          intro s3 H3 C cl fp
          have gx : Stt I0 H0 ((ctx.set j (some ⟨rb, x⟩)).set j1 none) (MF.lst D r acc :: mem) I' H2 ((σ.set j (some v)).set j1 none) := (g'.set j (mb.up si hr)).wipe1 j1
          refine ji1 s3 H3 C cl fp D acc x takes0 I' H2 _ _ gx ?_
          cases eg : g x with
          | err e => rw [eg] at el; cases el
          | stuck => rw [eg] at el; cases el
          | ok zs =>
            rw [eg] at el
            cases ef : lcM (f x) zs with
            | err e => dsimp only at el; rw [ef] at el; cases el
            | stuck => dsimp only at el; rw [ef] at el; cases el
            | ok as_ =>
              cases er : lcM2 g f (xs.drop (i + 1)) with
              | err e => dsimp only at el; rw [ef, er] at el; cases el
              | stuck => dsimp only at el; rw [ef, er] at el; cases el
              | ok rest =>
                dsimp only at el
                rw [ef, er] at el
                cases el
                intro I4 H4 J1 ws okp1 f4 itr1 stay1 pr1
                have hlen1 := Paired.length pr1
                have g4 := g'.step f4
                refine ⟨fun jj kk H5 => kk + jj = ws.length ∧ ∃ I5 acc5 ys5, Same I1 I5 ∧ Same I4 I5 ∧ Fm I H I5 H5 ∧ Stt I0 H0 ctx (MF.lst D r acc5 :: mem) I5 H5 σ ∧ lcM (f x) (zs.drop jj) = .ok ys5 ∧ tot = acc5 ++ (ys5 ++ rest), ⟨ws.length, rfl, I4, acc, as_, si.trans f4.i, Same.refl _, fm.trans f4, g4, ef, eq⟩, ?_⟩
                rintro jj kk H5 ⟨hkk, I5, acc5, ys5, s15, s45, fm5, g5, el5, eq5⟩
                have hok1 := stay1 I5 H5 s45 g5.same g5.fm.h
                by_cases hjj : jj < ws.length
                · obtain ⟨go1, yl1⟩ := (itr1 jj H5 hok1).1 hjj
                  refine .inr ⟨go1, fun H6 => ∃ I6 acc6 ys6, Same I1 I6 ∧ Same I4 I6 ∧ Fm I H I6 H6 ∧ Stt I0 H0 ctx (MF.lst D r acc6 :: mem) I6 H6 σ ∧ lcM (f x) (zs.drop (jj + 1)) = .ok ys6 ∧ tot = acc6 ++ (ys6 ++ rest), fun H6 h => ⟨kk - 1, by omega, by omega, h⟩, fun vz H6 hyz => ?_⟩
                  obtain ⟨rfl, evz⟩ := yl1 vz H6 hyz
                  obtain ⟨z, ez, hrz⟩ := paired_drop pr1 jj evz
                  rw [lcM_drop ez] at el5
                  have w1 : wipe ((σ.set j (some v)).set j1 none) [j1] = (σ.set j (some v)).set j1 none := by show ((σ.set j (some v)).set j1 none).set j1 none = _; rw [List.set_set]
                  show (fun σ3 H5 => wipe σ3 [j1] = wipe ((σ.set j (some v)).set j1 none) [j1] ∧ _) ((wipe ((σ.set j (some v)).set j1 none) [j1]).set j1 (some vz)) H6
                  refine ⟨by rw [w1]; show ((((σ.set j (some v)).set j1 none).set j1 (some vz)).set j1 none) = _; rw [List.set_set, List.set_set], ?_⟩
                  show wEb X scope elt ((wipe ((σ.set j (some v)).set j1 none) [j1]).set j1 (some vz)) H6 _
                  rw [w1, List.set_set]
                  intro s7 H7 C7 cl7 fp7
                  refine je s7 H7 C7 cl7 fp7 D acc5 x z takes0 I5 H6 _ _ ((g5.set j (mb.up s15 hr)).set j1 (mz.up s45 hrz)) ?_
                  revert el5
                  generalize f x z = zz
                  intro el5
                  cases zz with
                  | err e => cases el5
                  | stuck => cases el5
                  | ok y =>
                    cases el6 : lcM (f x) (zs.drop (jj + 1)) with
                    | err e => dsimp only at el5; rw [el6] at el5; cases el5
                    | stuck => dsimp only at el5; rw [el6] at el5; cases el5
                    | ok ys6 =>
                      dsimp only at el5
                      rw [el6] at el5
                      cases el5
                      intro I8 H8 vy f8 r8
                      have g8 := g5.step f8
                      obtain ⟨z0, zI, oo, zH, vacc, eo, pacc⟩ := g8.lstAt (j := 0) rfl
                      subst eo
                      have hla := Paired.length pacc
                      have hll : tot.length = acc5.length + ((y :: ys6).length + rest.length) := by rw [eq5, List.length_append, List.length_append]
                      rw [List.length_cons] at hll
                      exact ⟨vacc, zH, by omega, I8, acc5 ++ [y], ys6, s15.trans f8.i, s45.trans f8.i, (fm5.trans f8).updNew hD0 zI, g8.relst 0 rfl (paired_app pacc (.cons r8 .nil)), rfl, by rw [eq5, List.append_assoc]; rfl⟩
                · have e5 : zs.drop jj = [] := List.drop_eq_nil_of_le (by omega)
                  rw [e5] at el5
                  cases el5
                  exact .inl ⟨(itr1 jj H5 hok1).2 (by omega), I5, acc5, rest, s15, fm5, g5, rfl, eq5⟩
        · refine .inl ⟨(itr i H' hok).2 (by omega), ?_⟩
          have e1 : xs.drop i = [] := List.drop_eq_nil_of_le (by omega)
          rw [e1] at el
          cases el
          rw [List.append_nil] at eq
          subst eq
          obtain ⟨z0, zI, oo, zH, vacc, eo, pacc⟩ := g'.lstAt (j := 0) rfl
          subst eo
          exact p1 I' H' D vacc fm hD0 zI zH pacc
      · have e0 : Res.guard (tot.length ≤ sizeLine) (Res.ok tot) = .stuck := if_neg hz
        rw [show PostM X W σ I H (match Res.ok tot with | .ok r => Res.guard (r.length ≤ sizeLine) (.ok r) | _ => .stuck) r Q = PostM X W σ I H (Res.guard (tot.length ≤ sizeLine) (Res.ok tot)) r Q from rfl, e0] at p0
        exact p0.elim
  | err e => exact p
  | stuck => exact p
end
end L2.Tr

namespace L2.Tr
open PySem PySem.Spec PyProof.Rows He
section
variable {α β γ δ ε ζ S L : Type} {X : Cx} {I0 H0 I H : Hp} {W : WX} {Kx : KnowsX} {G : Knows} {ctx : List (Option SF)} {mem : List MF} {e a b c o ix : Expr} {es : List Expr} {st : Stmt} {ss s1 : List Stmt} {pos pos' p2 : Pos} {n : Str} {σ : St} {Q : VK} {r : Rp α} {ra : Ra α} {rb : Ra β} {rc : Ra γ} {rr : Ra γ} {ma : Res α} {mb : Res β} {mc : Res Bool} {md : Res δ} {me : Res ε} {R : Hp → Hp → List V → δ → Prop} {R' : Hp → Hp → List V → ε → Prop} {kws : List Keyword} {ks : List Str}
/-- o.m(e, .., k = v, ..) -/
theorem JE.methK {pl : Sem Bool} {m : Str} {C f : Addr} {apos : Pos} {g : α × δ → ε → Res γ} [MoA ra] [MoR R] (j : JE X I0 H0 W ctx mem o ma ra) (hi : InsOf C ra m) (ja : JA X I0 H0 W ctx mem (e :: es) md R) (jk : JK X I0 H0 W ctx mem kws me R') (cj : CallKJ X W (.ref f) ks (aCons ra R) R' g rc) (c : Cls X.K C) (hm : Meth X.K C m f)
    (hall : (backToKw pos (keywordEach kws X.env)).all (·.1.isSome) = true := by rfl) (hks : (backToKw pos (keywordEach kws X.env)).filterMap (·.1) = ks := by rfl) (he : starEach (e :: es) X.env = (false, eval e X.env) :: starEach es X.env := by rfl)
    (hpl : ((backTo pos (starEach (e :: es) X.env)).any (·.1) || (backToKw pos (keywordEach kws X.env)).any (·.1.isNone)) = false := by rfl)
    (ht : eval (.Call (.Attribute o m apos) (e :: es) kws pos) X.env = (do
      let ov ← eval o X.env
      standAt apos.atName
      let (f, first) ← holding [ov] (getMethod ov m pl)
      callWith pos f first (backTo pos (starEach (e :: es) X.env)) (backToKw pos (keywordEach kws X.env))) := by rfl) : JE X I0 H0 W ctx mem (.Call (.Attribute o m apos) (e :: es) kws pos) (ma.bind fun x => md.bind fun y => me.bind fun z => g (x, y) z) rc := fun I H σ Q st p pins s Iv => by
  refine PySem.W.methodCall_KW (pl := pl) (thn (j I H σ (fun v H1 => ∃ a dx fs, v = .ref a ∧ H1 a = some (.ins C dx fs) ∧ fs.lookup m = none ∧ wA X (e :: es) σ H1 fun vs H2 => ∀ pins s1 us, Inv X pins σ H2 s1 → Vals vs us → wpAny (model X.prog X.w) X.A (evalAll ((backToKw pos (keywordEach kws X.env)).map (·.2))) (fun ws s2 => X.K.In s2.heap ∧ wpAny (model X.prog X.w) X.A (PySem.call (.ref f) ([.ref a] ++ us) (ks.zip ws)) (EP X pins σ Q) X.xe s2) X.xe s1) st ?_ pins s Iv) fun u s1 ⟨v, H1, I1, rx, a, dx, fs, ex, ea, l, q⟩ => ?_) ht
  · cases ma with
    | ok x =>
      intro I1 H1 v f1 r1
      obtain ⟨a, dx, fs, ev, ha, hl⟩ := hi I1 H1 v x f1.ih r1
      have p1 := PostE.up p f1
      refine ⟨a, dx, fs, ev, ha, hl, ja I1 H1 σ _ (st.step f1) ?_⟩
      cases md with
      | ok y =>
        intro I2 H2 vs f2 r2 pins s1 us Iv1 ru
        have p2 := PostE.up p1 f2
        refine thn (jk pos I2 H2 σ (fun zs H3 => callKW X (.ref f) ks σ (v :: vs) zs H3 Q) ((st.step f1).step f2) ?_ pins s1 Iv1) fun ws s2 ⟨zs, H3, I3, r3, q3⟩ => ⟨I3.kIn, q3 pins s2 (.ref a :: us) ws I3 (by rw [ev]; exact .cons rfl ru) r3⟩
        cases me with
        | ok z => exact fun I3 H3 zs f3 r3 => cj I3 H3 σ Q (v :: vs) zs (x, y) z f3.ih ⟨v, vs, rfl, MoA.up (f2.trans f3).i (f2.trans f3).h r1, MoR.up f3.i f3.h r2⟩ r3 (PostE.up p2 f3)
        | err e => exact p2
        | stuck => exact p2
      | err e => exact p1
      | stuck => exact p1
    | err e => exact p
    | stuck => exact p
  · subst ex
    obtain rfl : u = Value.ref a := rx
    refine getmeth_ok I1 ea c hm l ?_
    refine PySem.W.callWith_KW (h₀ := X.base) (first := [.ref a]) I1.ok.mod.kin hm.kp hall ?_ hpl he
    rw [hks]
    exact thn (q pos pins s1 I1) fun us s2 ⟨vs, H2, I2, rv, q2⟩ => q2 pins s2 us I2 rv
/-- n(e, ..), n a name that holds a class or a def of the top -/
theorem JE.callL {f : Addr} {g : δ → Res γ} (j : JE X I0 H0 W ctx mem (.Name n pos') (.ok ()) (rp (rRef f))) (k : JA X I0 H0 W ctx mem (e :: es) md R) (cj : CallJ X W (.ref f) R g rc) (hk : PySem.W.keepIn X.K (.ref f) = true)
    (he : starEach (e :: es) X.env = (false, eval e X.env) :: starEach es X.env := by rfl) (hpl : (backTo pos (starEach es X.env)).any (·.1) = false := by rfl) : JE X I0 H0 W ctx mem (.Call (.Name n pos') (e :: es) [] pos) (md.bind g) rc := fun I H σ Q st p pins s Iv => by
  refine wpAny_Call_Name_kw (thn (j I H σ (fun v H1 => v = .ref f ∧ wA X (e :: es) σ H1 fun vs H2 => callW X (.ref f) σ vs H2 Q) st ?_ pins s Iv) fun u s1 ⟨v, H1, I1, rv, ev, q⟩ => ?_)
  · intro I1 H1 v f1 r1
    exact ⟨r1, k.call cj (st.step f1) (PostE.up p f1)⟩
  · subst ev
    obtain rfl : u = Value.ref f := rv
    exact PySem.W.callWith_K (first := []) (h₀ := X.base) I1.ok.mod.kin hk (thn (q pos pins s1 I1) fun us s2 ⟨vs, H2, I2, r, q2⟩ => ⟨I2.kIn, q2 pins s2 us I2 r⟩) he hpl
/-- C.m(e, ..), a classmethod -/
theorem JE.cmeth {pl : Sem Bool} {k : Nat} {C p g : Addr} {mc : Value} {m : Str} {apos po : Pos} {g' : Unit × δ → Res γ} (hm : X.mg n = some (.ref C)) (cr : ClX.CRead X.K C mc) (cm : ClX.CMet X.K C mc m p g) (ja : JA X I0 H0 W ctx mem (e :: es) md R) (F : FnR X.prog X.w X.K X.mg X.base (L2.CX X.prog X.w) k g (spF X.K (aCons (rp (rRef C)) R) g' rc)) (hr : Room k X.A) (tk : Takes X W)
    (hg : Gl X n := by rfl) (hdb : (n == ("__debug__" : Str)) = false := by decide) (hst : starEach (e :: es) X.env = (false, eval e X.env) :: starEach es X.env := by rfl) (hpl : (backTo po (starEach es X.env)).any (·.1) = false := by rfl)
    (ht : eval (.Call (.Attribute (.Name n pos') m apos) (e :: es) [] po) X.env = (do
      let ov ← eval (.Name n pos') X.env
      standAt apos.atName
      let (f, first) ← holding [ov] (getMethod ov m pl)
      callWith po f first (backTo po (starEach (e :: es) X.env)) (backToKw po (keywordEach [] X.env))) := by rfl) :
    JE X I0 H0 W ctx mem (.Call (.Attribute (.Name n pos') m apos) (e :: es) [] po) (md.bind fun y => g' ((), y)) rc := fun I H σ Q st pp pins s Iv => by
  have q : wA X (e :: es) σ H fun vs H1 => codeW X (.ref g) σ (.ref C :: vs) H1 Q := by
    refine ja I H σ _ st ?_
    cases md with
    | ok y => exact fun I1 H1 vs f1 r1 => run_C F hr tk ⟨I1, ((), y), f1.ih, ⟨_, vs, rfl, rfl, r1⟩, PostE.up pp f1⟩
    | err e => exact pp
    | stuck => exact pp
  refine PySem.W.methodCall_KW (pl := pl) (ld_glob Iv hg hm ?_ hdb) ht
  refine ClX.getmethcm_ok Iv cr cm fun s2 I2 => ?_
  refine ClX.callwith_cm I2 (ClX.base_none Iv (Nat.le_refl _)) cm.fi (thn (q po _ s2 I2) fun us s3 ⟨vs, H2, I3, rv, q2⟩ => ⟨⟨ClX.pin_at I3, I3.kIn⟩, ?_⟩) hst hpl
  exact thn (wpAny_call (PySem.W.method_call (ClX.pin_at I3) (q2 _ s3 (.ref C :: us) I3 (.cons rfl rv)))) fun _ _ y => ClX.unpinE y
end
section
variable {K : PySem.W.Frag} {x qual : Str} {params : Arguments} {body : List Stmt} {scope : Scope} {kws : List (Str × V)} {f : Addr} {fd : FuncData} {ps : List Str}
/-- keywords at a def with keyword-only defaults, of which ms lack -/
theorem kbindsK (F : FunD K x qual params body scope [] kws f fd) (n : Nat) (ks : List Str) (ms : List (Str × V)) (g : {α : Type} → List α → List α → List α → List α) (hk : kws ≠ []) (hms : ∀ q ∈ ms, q ∈ kws)
    (hrel : ∀ {vs mz zs : List V} {us mv ws : List Value}, Vals vs us → Vals mz mv → Vals zs ws → Vals (g vs mz zs) (g us mv ws))
    (h : ∀ (D : Addr) (doc pm : Value) (an : Option Addr) (cdv ct : Value) (us mv ws : List Value), us.length = n → mv.length = ms.length → ws.length = ks.length → KwChain D ((ms.map (·.1)).zip mv) (bindArgs (PySem.W.fnOf x qual params body scope .none (.ref D) doc pm an cdv ct) ⟨us, ks.zip ws⟩) (ps.zip (g us mv ws))) :
    ∃ mv : List Value, KBn K fd ps n ks (fun us ws => g us mv ws) (fun vs zs => g vs (ms.map (·.2)) zs) := by
  obtain ⟨oc, od, dV, kV, doc, pm, an, cdv, ct, osl, rfl, _, _, dfl, kwd⟩ := F.ex
  rcases dfl with ⟨_, rfl⟩ | ⟨ne, _⟩
  · rcases kwd with e | ⟨D, rfl, hq⟩
    · exact absurd e hk
    · obtain ⟨mv, l0, rk, nk⟩ := kwd_vals (ms := ms) fun q hm => hq q (hms q hm)
      exact ⟨mv, ⟨fun s us ws X l1 l2 => BindsTo.of_looks fun M => KwChain.looks X nk (h D doc pm an cdv ct us mv ws l1 l0 l2), fun r1 r2 => hrel r1 rk r2⟩⟩
  · exact absurd rfl ne
end
/-- a keyword-only default that is an object -/
def kwAt (a : PySem.W.Frag → Addr) (x : Str) (K : PySem.W.Frag) : Addr := match K.lookup (a K) with
  | some ⟨_, _, .func fd, _⟩ => (match fd.kwdefaults with
    | .ref D => (match PySem.W.nsIn K D x with
      | some (some (.ref b)) => b
      | _ => 0)
    | _ => 0)
  | _ => 0
def fCmet (x m : Str) : FB := fun K => PySem.W.readsIn K (ga K x) (.type "type") && (eqO (PySem.W.specialIn K (.ref (ga K x)) "__getattribute__") (some (some (.builtin "type.__getattribute__"))) && (isGet K (ga K x) m "classmethod.__get__" (ma K (ga K x) m) && (isRec K (ma K (ga K x) m) "classmethod" (wa K "classmethod" (ga K x) m) && PySem.W.fnIn K (wa K "classmethod" (ga K x) m))))
theorem cmet_of {K : PySem.W.Frag} {x m : Str} (c : fCmet x m K = true) : ClX.CRead K (ga K x) (.type "type") ∧ ClX.CMet K (ga K x) (.type "type") m (ma K (ga K x) m) (wa K "classmethod" (ga K x) m) := by
  obtain ⟨c1, c⟩ := ba c
  obtain ⟨c2, c⟩ := ba c
  obtain ⟨c3, c⟩ := ba c
  obtain ⟨c4, c5⟩ := ba c
  exact ⟨⟨c1, eqO_ok c2⟩, ⟨isGet_ok c3, isRec_ok c4, c5⟩⟩
theorem J1.dead {S : Type} {X : Cx} {W : WX} {Kx : KnowsX} {G : Knows} {st : Stmt} {G' : S → Knows} : J1 X W Kx G st (.stuck : Res S) G' := fun _ _ _ _ _ p => p.elim
theorem JI.at {β : Type} {X : Cx} {I0 H0 : Hp} {W : WX} {mem : List MF} {tg iter : Expr} {m : Res (List β)} {r : Rp β} {c c' : List (Option SF)} (j : JI X I0 H0 W c' mem tg iter m r) (h : c = c' := by rfl) : JI X I0 H0 W c mem tg iter m r := by rw [h]; exact j
end L2.Tr

namespace L2.Tr
open PySem PySem.Spec PyProof.Rows
/-! ### lists by their entries -/
section
variable {α β : Type} {n : Nat} {f g : Nat → α}
def vec (n : Nat) (f : Nat → α) : List α := (List.range n).map f
@[simp] theorem vec_len : (vec n f).length = n := by simp [vec]
theorem vec_get {i : Nat} (h : i < n) : (vec n f)[i]? = some (f i) := by unfold vec; rw [List.getElem?_map, List.getElem?_range h]; rfl
theorem vec_none {i : Nat} (h : n ≤ i) : (vec n f)[i]? = none := List.getElem?_eq_none (by rw [vec_len]; exact h)
theorem vec_at {i : Int} (h0 : 0 ≤ i) (h : i.toNat < n) : atM (vec n f) i = .ok (f i.toNat) := atM_get h0 (vec_get h)
theorem vec_atN {i : Nat} (h : i < n) : atM (vec n f) (i : Int) = .ok (f i) := vec_at (Int.natCast_nonneg i) (by rw [Int.toNat_natCast]; exact h)
theorem vec_ext (h : ∀ i, i < n → f i = g i) : vec n f = vec n g := by
  unfold vec
  exact List.map_congr_left fun i hi => h i (List.mem_range.mp hi)
theorem vec_of (xs : List α) (d : α) : xs = vec xs.length (fun i => xs.getD i d) := by
  refine List.ext_getElem? fun i => ?_
  by_cases h : i < xs.length
  · rw [vec_get h, List.getD_eq_getElem?_getD, List.getElem?_eq_getElem h]; rfl
  · rw [vec_none (by omega), List.getElem?_eq_none (by omega)]
theorem vec_mem {x : α} (h : x ∈ vec n f) : ∃ i, i < n ∧ x = f i := by
  obtain ⟨i, h1, h2⟩ := List.mem_map.mp h
  exact ⟨i, List.mem_range.mp h1, h2.symm⟩
theorem mem_vec {i : Nat} (h : i < n) : f i ∈ vec n f := List.mem_map.mpr ⟨i, List.mem_range.mpr h, rfl⟩
theorem vec_put {i : Int} {y : α} (h0 : 0 ≤ i) (h : i.toNat < n) : putM (vec n f) i y = .ok (vec n fun k => if k = i.toNat then y else f k) := by
  rw [putM_ok h0 (by rw [vec_len]; exact h)]
  congr 1
  refine List.ext_getElem? fun k => ?_
  by_cases hk : k < n
  · rw [vec_get hk, List.getElem?_set]
    by_cases e : i.toNat = k
    · subst e; rw [if_pos rfl, if_pos (by rw [vec_len]; exact hk), if_pos rfl]
    · rw [if_neg e, vec_get hk, if_neg (fun z => e z.symm)]
  · rw [vec_none (by omega), List.getElem?_set]
    by_cases e : i.toNat = k
    · omega
    · rw [if_neg e, vec_none (by omega)]
theorem vec_succ : vec (n + 1) f = vec n f ++ [f n] := by unfold vec; rw [List.range_succ, List.map_append]; rfl
theorem vec_map (h : α → β) : (vec n f).map h = vec n (fun i => h (f i)) := by unfold vec; rw [List.map_map]; rfl
theorem vec_app {x : α} (h : n < 1000000) : appM (vec n f) x = .ok (vec (n + 1) fun i => if i = n then x else f i) := by
  rw [appM_ok (by rw [vec_len]; exact h), vec_succ, if_pos rfl]
  congr 2
  exact vec_ext fun i hi => (if_neg (by omega)).symm
theorem rep_vec {x : α} {k : Int} (h0 : 0 ≤ k) (h : k ≤ 1000000) : repM [x] k = .ok (vec k.toNat fun _ => x) := by
  rw [repM_one h0 h]
  congr 1
  refine List.ext_getElem? fun i => ?_
  by_cases hi : i < k.toNat
  · rw [vec_get hi, List.getElem?_replicate, if_pos hi]
  · rw [vec_none (by omega), List.getElem?_replicate, if_neg hi]
theorem lcR_rng {F : Int → Res α} {hi : Int} (h0 : 0 ≤ hi) (h : hi ≤ 1000000) (hF : ∀ i : Nat, i < hi.toNat → F (i : Int) = .ok (f i)) : lcR F (rngI 0 hi.toNat) = .ok (vec hi.toNat f) := by
  rw [lcR_eq (g := fun x => f x.toNat) (size_le (by rw [rngI_len]; omega)) fun x hx => ?_]
  · unfold vec; rw [rngI_eq, List.map_map]; rfl
  · obtain ⟨x1, x2⟩ := rngI_mem hx
    have e := hF x.toNat (by omega)
    rwa [Int.toNat_of_nonneg x1] at e
theorem lcR_vec {F : α → Res β} {h : Nat → β} (hn : n ≤ 1000000) (hF : ∀ i, i < n → F (f i) = .ok (h i)) : lcR F (vec n f) = .ok (vec n h) := by
  have e : ∀ (m : Nat), m ≤ n → lcM F (vec m f) = .ok (vec m h) := fun m hm => by
    have : ∀ xs : List Nat, (∀ i ∈ xs, i < n) → lcM F (xs.map f) = .ok (xs.map h) := fun xs => by
      induction xs with
      | nil => exact fun _ => rfl
      | cons x xs ih =>
        intro hx
        rw [List.map_cons, List.map_cons]
        unfold lcM
        rw [hF x (hx x (List.mem_cons_self)), ih fun i hi => hx i (List.mem_cons_of_mem _ hi)]
        rfl
    exact this (List.range m) fun i hi => by have := List.mem_range.mp hi; omega
  unfold lcR
  rw [Res.guard_pos (size_le (by rw [vec_len]; exact hn)), e n (Nat.le_refl _)]
/-- a loop over range that builds a state -/
theorem for_rng {S : Type} {F : Int → S → Res S} {hi : Int} {s0 : S} (st : Nat → S) (h0 : st 0 = s0) (hF : ∀ i : Nat, i < hi.toNat → F (i : Int) (st i) = .ok (st (i + 1))) : forS F (rngI 0 hi.toNat) s0 = .ok (st hi.toNat) := by
  refine Ok.eq ((Ok.forS (fun i s => s = st i) h0.symm fun i x s e hs => ?_).mono fun s hs => by rw [hs, rngI_len])
  obtain ⟨e1, e2⟩ := rngI_get e
  rw [hs, show x = (i : Int) by omega]
  exact .of (hF i e2) rfl
end
/-! ### sums of Int -/
def sm (f : Nat → Int) : Nat → Int
  | 0 => 0
  | n + 1 => sm f n + f n
section
variable {f g : Nat → Int} {n m : Nat} {c : Int}
@[simp] theorem sm_zero : sm f 0 = 0 := rfl
theorem sm_succ : sm f (n + 1) = sm f n + f n := rfl
theorem sm_congr (h : ∀ i, i < n → f i = g i) : sm f n = sm g n := by
  induction n with
  | zero => rfl
  | succ n ih => rw [sm_succ, sm_succ, ih fun i hi => h i (by omega), h n (by omega)]
theorem sm_add : sm (fun i => f i + g i) n = sm f n + sm g n := by
  induction n with
  | zero => show (0 : Int) = 0 + 0; grind
  | succ n ih => rw [sm_succ, sm_succ, sm_succ, ih]; grind
theorem sm_sub : sm (fun i => f i - g i) n = sm f n - sm g n := by
  induction n with
  | zero => show (0 : Int) = 0 - 0; grind
  | succ n ih => rw [sm_succ, sm_succ, sm_succ, ih]; grind
theorem sm_mul : sm (fun i => c * f i) n = c * sm f n := by
  induction n with
  | zero => show (0 : Int) = c * 0; grind
  | succ n ih => rw [sm_succ, sm_succ, ih]; grind
theorem sm_mulr : sm (fun i => f i * c) n = sm f n * c := by
  rw [show (fun i => f i * c) = fun i => c * f i from funext fun i => by grind, sm_mul]; grind
theorem sm_null (h : ∀ i, i < n → f i = 0) : sm f n = 0 := by
  rw [sm_congr (g := fun _ => 0) h]
  clear h
  induction n with
  | zero => rfl
  | succ n ih => rw [sm_succ, ih]; grind
theorem sm_comm {h : Nat → Nat → Int} : sm (fun i => sm (fun j => h i j) m) n = sm (fun j => sm (fun i => h i j) n) m := by
  induction n with
  | zero => exact (sm_null fun j _ => rfl).symm
  | succ n ih => rw [sm_succ, ih, ← sm_add]; rfl
theorem sm_nonneg (h : ∀ i, i < n → 0 ≤ f i) : 0 ≤ sm f n := by
  induction n with
  | zero => exact (show (0 : Int) ≤ 0 by grind)
  | succ n ih =>
    rw [sm_succ]
    have := ih fun i hi => h i (by omega)
    have := h n (by omega)
    grind
theorem sm_le (h : ∀ i, i < n → f i ≤ g i) : sm f n ≤ sm g n := by
  induction n with
  | zero => exact (show (0 : Int) ≤ 0 by grind)
  | succ n ih =>
    rw [sm_succ, sm_succ]
    have := ih fun i hi => h i (by omega)
    have := h n (by omega)
    grind
/-- the one term -/
theorem sm_one {k : Nat} (hk : k < n) (h : ∀ i, i < n → i ≠ k → f i = 0) : sm f n = f k := by
  induction n with
  | zero => omega
  | succ n ih =>
    rw [sm_succ]
    by_cases e : k = n
    · subst e
      rw [sm_null fun i hi => h i (by omega) (by omega)]; grind
    · rw [ih (by omega) fun i hi => h i (by omega), h n (by omega) (fun z => e z.symm)]; grind
theorem sm_ge {k : Nat} (hk : k < n) (h : ∀ i, i < n → 0 ≤ f i) : f k ≤ sm f n := by
  induction n with
  | zero => omega
  | succ n ih =>
    rw [sm_succ]
    have h1 := sm_nonneg (f := f) (n := n) fun i hi => h i (by omega)
    have h2 := h n (by omega)
    by_cases e : k = n
    · subst e; grind
    · have := ih (by omega) fun i hi => h i (by omega)
      grind
end
/-! ### sums of Rat -/
def smQ (f : Nat → Rat) : Nat → Rat
  | 0 => 0
  | n + 1 => smQ f n + f n
section
variable {f g : Nat → Rat} {n m : Nat} {c : Rat}
@[simp] theorem smQ_zero : smQ f 0 = 0 := rfl
theorem smQ_succ : smQ f (n + 1) = smQ f n + f n := rfl
theorem smQ_congr (h : ∀ i, i < n → f i = g i) : smQ f n = smQ g n := by
  induction n with
  | zero => rfl
  | succ n ih => rw [smQ_succ, smQ_succ, ih fun i hi => h i (by omega), h n (by omega)]
theorem smQ_add : smQ (fun i => f i + g i) n = smQ f n + smQ g n := by
  induction n with
  | zero => show (0 : Rat) = 0 + 0; grind
  | succ n ih => rw [smQ_succ, smQ_succ, smQ_succ, ih]; grind
theorem smQ_sub : smQ (fun i => f i - g i) n = smQ f n - smQ g n := by
  induction n with
  | zero => show (0 : Rat) = 0 - 0; grind
  | succ n ih => rw [smQ_succ, smQ_succ, smQ_succ, ih]; grind
theorem smQ_mul : smQ (fun i => c * f i) n = c * smQ f n := by
  induction n with
  | zero => show (0 : Rat) = c * 0; grind
  | succ n ih => rw [smQ_succ, smQ_succ, ih]; grind
theorem smQ_mulr : smQ (fun i => f i * c) n = smQ f n * c := by
  rw [show (fun i => f i * c) = fun i => c * f i from funext fun i => by grind, smQ_mul]; grind
theorem smQ_null (h : ∀ i, i < n → f i = 0) : smQ f n = 0 := by
  rw [smQ_congr (g := fun _ => 0) h]
  clear h
  induction n with
  | zero => rfl
  | succ n ih => rw [smQ_succ, ih]; grind
theorem smQ_comm {h : Nat → Nat → Rat} : smQ (fun i => smQ (fun j => h i j) m) n = smQ (fun j => smQ (fun i => h i j) n) m := by
  induction n with
  | zero => exact (smQ_null fun j _ => rfl).symm
  | succ n ih => rw [smQ_succ, ih, ← smQ_add]; rfl
theorem smQ_nonneg (h : ∀ i, i < n → 0 ≤ f i) : 0 ≤ smQ f n := by
  induction n with
  | zero => exact (show (0 : Rat) ≤ 0 by grind)
  | succ n ih =>
    rw [smQ_succ]
    have := ih fun i hi => h i (by omega)
    have := h n (by omega)
    grind
theorem smQ_le (h : ∀ i, i < n → f i ≤ g i) : smQ f n ≤ smQ g n := by
  induction n with
  | zero => exact (show (0 : Rat) ≤ 0 by grind)
  | succ n ih =>
    rw [smQ_succ, smQ_succ]
    have := ih fun i hi => h i (by omega)
    have := h n (by omega)
    grind
/-- the one term -/
theorem smQ_one {k : Nat} (hk : k < n) (h : ∀ i, i < n → i ≠ k → f i = 0) : smQ f n = f k := by
  induction n with
  | zero => omega
  | succ n ih =>
    rw [smQ_succ]
    by_cases e : k = n
    · subst e
      rw [smQ_null fun i hi => h i (by omega) (by omega)]; grind
    · rw [ih (by omega) fun i hi => h i (by omega), h n (by omega) (fun z => e z.symm)]; grind
theorem smQ_ge {k : Nat} (hk : k < n) (h : ∀ i, i < n → 0 ≤ f i) : f k ≤ smQ f n := by
  induction n with
  | zero => omega
  | succ n ih =>
    rw [smQ_succ]
    have h1 := smQ_nonneg (f := f) (n := n) fun i hi => h i (by omega)
    have h2 := h n (by omega)
    by_cases e : k = n
    · subst e; grind
    · have := ih (by omega) fun i hi => h i (by omega)
      grind
end
theorem sum_app (xs ys : List Int) : (xs ++ ys).sum = xs.sum + ys.sum := by
  induction xs with
  | nil => simp
  | cons x xs ih => rw [List.cons_append, List.sum_cons, List.sum_cons, ih]; omega
theorem sum_vec (f : Nat → Int) : ∀ n, (vec n f).sum = sm f n
  | 0 => rfl
  | n + 1 => by rw [vec_succ, sum_app, sum_vec f n, sm_succ]; simp
theorem sm_cast {f : Nat → Int} : ∀ n, ((sm f n : Int) : Rat) = smQ (fun i => ((f i : Int) : Rat)) n
  | 0 => rfl
  | n + 1 => by rw [sm_succ, smQ_succ, Rat.intCast_add, sm_cast n]
theorem sm_abs {f : Nat → Int} {B : Nat} : ∀ {n : Nat}, (∀ i, i < n → (f i).natAbs ≤ B) → (sm f n).natAbs ≤ n * B
  | 0, _ => by simp
  | n + 1, h => by
    rw [sm_succ]
    have h1 := sm_abs (n := n) fun i hi => h i (by omega)
    have h2 := h n (by omega)
    have h3 := Int.natAbs_add_le (sm f n) (f n)
    rw [Nat.succ_mul]; omega
end L2.Tr
namespace L2.Tr
open PySem PySem.Spec PyProof.Rows
/-- every entry is raised by one loop -/
theorem acc_loop {n : Nat} (f d : Nat → Int) (F : Int → List Int → Res (List Int)) {hi : Int} (hn : hi.toNat = n) (hF : ∀ (c : Nat) (g : Nat → Int), c < n → F (c : Int) (vec n g) = .ok (vec n fun k => if k = c then g k + d k else g k)) : forS F (rngI 0 hi.toNat) (vec n f) = .ok (vec n fun k => f k + d k) := by
  rw [for_rng (fun c => vec n fun k => if k < c then f k + d k else f k) (vec_ext fun i _ => if_neg (by omega)) fun c hc => ?_]
  · rw [hn]
    congr 1
    exact vec_ext fun i hi => if_pos hi
  · rw [hF c _ (by omega)]
    congr 1
    refine vec_ext fun k _ => ?_
    by_cases e : k = c
    · subst e; rw [if_pos rfl, if_neg (by omega), if_pos (by omega)]
    · rw [if_neg e]
      by_cases e2 : k < c
      · rw [if_pos e2, if_pos (by omega)]
      · rw [if_neg e2, if_neg (by omega)]
end L2.Tr

/-! ### for, in a generator's body -/
namespace L2
open PySem PySem.Spec PyProof.Rows GenW
section
variable {M : Model} {A : Around} {R : GenEnd} {Y : Protocol} {n : Nat} {s₀ : Shared} {c : Code} {fs : List Frame} {s : Shared} {env : Env} {K : Flow → Sem PySem.Fin} {J : Value → Sem PySem.Fin} {gd : Bool → Bool} {lv : List Value → List Value}
theorem seg_For {tg iter : Expr} {body : List Stmt} {pos : Pos} (hs : ∀ x, foldedSetIterable iter env x = pure x)
    (h : wpAny M (A.over c fs) (eval iter env) (fun v s1 => wpAny M (A.over c fs) (pyIter v) (fun it s2 => ∀ p, Seg M A R Y n s₀ (.forLoop tg it body [] env) (M.den (.forLoop tg it body [] env))
      (.ret (fun r => ((match r with | .ok f => (.pure f : Sem Flow) | .error e => .raise e).onRaise (cameBack env)).wrap K J gd lv) none (gd false) (lv []) c p [] :: fs) s2)
      (fun x s' => Seg M A R Y n s₀ c (J x) fs s') s1) (fun x s' => Seg M A R Y n s₀ c (J x) fs s') s) :
    Seg M A R Y n s₀ c ((exec (.For tg iter body [] pos) env).wrap K J gd lv) fs s := by
  rw [exec_For]
  refine seg_bind_wrap (wpAny_standAt (seg_bind_wrap (wpAny_mono h (fun v s1 h1 => ?_) fun _ _ x => x)))
  refine seg_bind_wrap (wpAny_of_eq (hs v) (seg_bind_wrap (wpAny_standAt (seg_bind_wrap (wpAny_holding (wpAny_mono h1 (fun it s2 h2 => ?_) fun _ _ x => x))))))
  exact seg_call h2
end
section
variable {prog : Program} {w : World} {A : Around} {R : GenEnd} {Y : Protocol} {n : Nat} {s₀ : Shared} {fs : List Frame} {s : Shared} {env : Env}
theorem seg_forLoop {tg : Expr} {it : Value} {body : List Stmt}
    (h : wpAny (model prog w) (A.over (.forLoop tg it body [] env) fs) (pyNext it) (fun r s1 => match r with
        | none => Seg (model prog w) A R Y n s₀ (.block [] env) (.pure (.done .next)) fs s1
        | some v => wpAny (model prog w) (A.over (.forLoop tg it body [] env) fs) (letOwnedTupleGo tg it v) (fun _ s2 => wpAny (model prog w) (A.over (.forLoop tg it body [] env) fs) (assign tg env v) (fun _ s3 =>
          Seg (model prog w) A R Y n s₀ (.forLoop tg it body [] env) ((execs body env).wrap (fun f => match f with
            | .next | .cont => .pure (.again (.forLoop tg it body [] env))
            | .brk => .pure (.done .next)
            | .ret v => .pure (.done (.ret v))) (fun e => (do noteFrame e env; theTreesLotGoes e : Sem Unit).wrap (fun _ => .raise e) .raise id id) id id) fs s3)
          (fun x s' => Seg (model prog w) A R Y n s₀ (.forLoop tg it body [] env) ((do noteFrame x env; theTreesLotGoes x : Sem Unit).wrap (fun _ => .raise x) .raise id id) fs s') s2)
          (fun x s' => Seg (model prog w) A R Y n s₀ (.forLoop tg it body [] env) ((do noteFrame x env; theTreesLotGoes x : Sem Unit).wrap (fun _ => .raise x) .raise id id) fs s') s1)
      (fun x s' => Seg (model prog w) A R Y n s₀ (.forLoop tg it body [] env) ((do noteFrame x env; theTreesLotGoes x : Sem Unit).wrap (fun _ => .raise x) .raise id id) fs s') s) :
    Seg (model prog w) A R Y n s₀ (.forLoop tg it body [] env) ((model prog w).den (.forLoop tg it body [] env)) fs s := by
  show Seg _ A R Y n s₀ _ ((forTurn tg it body [] env).onRaise (fun x => do noteFrame x env; theTreesLotGoes x)) fs s
  have fix : ∀ x : Value, ((do noteFrame x env; theTreesLotGoes x : Sem Unit).bind fun _ => (.raise x : Sem PySem.Fin)) = (do noteFrame x env; theTreesLotGoes x : Sem Unit).wrap (fun _ => .raise x) .raise id id := fun x => Sem.bind_eq_wrap _ _
  unfold forTurn
  rw [Sem.onRaise_eq_wrap]
  refine seg_bind_wrap (wpAny_standAt (seg_bind_wrap (wpAny_onRaise (wpAny_mono h (fun r s1 h1 => ?_) fun x s' hx => wpAny_standAt ?_))))
  · cases r with
    | none =>
      refine seg_again rfl ?_
      exact h1
    | some v =>
      refine seg_bind_wrap (wpAny_mono h1 (fun _ s2 h2 => ?_) fun x s' hx => by rw [fix]; exact hx)
      refine seg_bind_wrap (wpAny_mono h2 (fun _ s3 h3 => ?_) fun x s' hx => by rw [fix]; exact hx)
      rw [Sem.bind_eq_wrap', Sem.wrap_wrap]
      rw [Sem.wrap_congr (execs body env) _ _ (K' := fun f => match f with
            | .next | .cont => .pure (.again (.forLoop tg it body [] env))
            | .brk => .pure (.done .next)
            | .ret v => .pure (.done (.ret v))) (H' := (fun e => (do noteFrame e env; theTreesLotGoes e : Sem Unit).wrap (fun _ => .raise e) .raise id id))
        (fun f => by cases f <;> rfl) (fun e => by first | exact Sem.bind_eq_wrap _ _ | (show (do noteFrame e env; theTreesLotGoes e : Sem Unit).bind (fun _ => .raise e) = _; rw [Sem.bind_eq_wrap]))]
      exact h3
  · rw [fix]; exact hx
end

section
variable {X : Cx} {tg : Expr}
def tGFor (wi : TI) (g : TG) (tb : TGn) : TGn := fun D ys σ H => wi σ H fun J H1 => ∃ W : Nat → Nat → List V → St → Hp → Prop, (∃ m, W 0 m ys σ H1) ∧ ∀ i m ys σ H, W i m ys σ H →
  (J.stop i H ∧ D.nx ys σ H) ∨ (J.go i H ∧ ∃ N : List V → St → Hp → Prop, (∀ ys' σ' H', N ys' σ' H' → ∃ m', m' < m ∧ W (i + 1) m' ys' σ' H') ∧ ∀ x H', J.yld i H x H' → g x σ H' fun σ2 H2 => tb { D with nx := N, ct := N, bk := D.nx } ys σ2 H2)
theorem gs_for {iter : Expr} {body : List Stmt} {wi : TI} {g : TG} {tb : TGn} {pos : Pos} (hp : PassesOwn (model X.prog X.w) X.A X.env X.xe) (hc : X.calm = true) (hi : PI X tg iter wi) (hg : PG X tg g) (hb : GSs X body tb)
    (hs : ∀ x, foldedSetIterable iter X.env x = pure x := by intro _; rfl) : GS X (.For tg iter body [] pos) (tGFor wi g tb) := by
  refine ⟨fun A S ip R n ys s₀ c fs K J gd lv s σ H D gc hn k hI ht => ?_⟩
  obtain ⟨acc, cc, r, I⟩ := hI
  refine seg_For hs ?_
  rw [gc.over]
  refine wpAny_mono (hi.run _ s σ H _ I ht) (fun v s1 h1 => ?_) fun x s' hx => k.exc n s₀ x s' hx
  refine wpAny_mono h1 (fun itv s2 h2 p => ?_) fun x s' hx => k.exc n s₀ x s' hx
  obtain ⟨it, fp, tn, JJ, H2, e, I2, T, st2, f2, W, ⟨m0, w0⟩, turn⟩ := h2
  subst e
  have gl := fun (kk : Result → Sem PySem.Fin) => gc_loop (k := kk) (c' := .forLoop tg (.ref it) body [] X.env) (l := lv []) (kp := []) (p := p) gc rfl rfl
  have fst : ∀ b ∈ fp, b ≠ X.env.locals ∧ b ∉ X.fs ∧ (b ∈ X.ex ∨ X.s_0.heap.objs.size ≤ b) ∧ (∀ x c, X.env.cells.lookup x = some c → c ≠ b) ∧ b ≠ S ∧ ∀ p ∈ X.pn ++ ip, p.1 ≠ b := fun b hb => by
    obtain ⟨_, q1, q2, q3, q4, q5⟩ := f2 b hb
    refine ⟨q1, q2, q3, q4, fun z => q5 (S, lstObj acc cc) (List.mem_append_right _ List.mem_cons_self) z.symm, fun p hp => ?_⟩
    rcases List.mem_append.mp hp with z | z
    · exact q5 p (List.mem_append_left _ z)
    · exact q5 p (List.mem_append_right _ (List.mem_cons_of_mem _ z))
  have stat : ∀ {H' : Hp} {acc : Array Value} {cc : Nat}, (∀ b ∈ fp, H' b = none) → ∀ b ∈ fp, FpOk X ((S, lstObj acc cc) :: ip) H' b := fun {H' acc cc} hn b hb => by
    obtain ⟨q1, q2, q3, q4, q5, q6⟩ := fst b hb
    refine ⟨hn b hb, q1, q2, q3, q4, fun p hp => ?_⟩
    rcases List.mem_append.mp hp with z | z
    · exact q6 p (List.mem_append_left _ z)
    · rcases List.mem_cons.mp z with z | z
      · rw [z]; exact Ne.symm q5
      · exact q6 p (List.mem_append_right _ z)
  have loop : ∀ (m n i : Nat) (ys : List V) (s₀ s : Shared) (σ : St) (H : Hp), n + ys.length = sizeLine → W i m ys σ H → GI X S ip ys σ H s → tn i s.heap → (∀ b ∈ fp, H b = none) →
      Seg (model X.prog X.w) A R (GY X S) n s₀ (.forLoop tg (.ref it) body [] X.env) ((model X.prog X.w).den (.forLoop tg (.ref it) body [] X.env))
        (.ret (fun r => ((match r with | .ok f => (.pure f : Sem Flow) | .error e => .raise e).onRaise (cameBack X.env)).wrap K J gd lv) none (gd false) (lv []) c p [] :: fs) s := by
    intro m
    induction m using Nat.strongRecOn with
    | ind m ih =>
      intro n i ys s₀ s σ H hn w hI st fr
      have ee : ∀ (n : Nat) (s₀ : Shared) (x : Value) (s' : Shared), X.xe x s' → Seg (model X.prog X.w) A R (GY X S) n s₀ (.forLoop tg (.ref it) body [] X.env)
          ((do noteFrame x X.env; theTreesLotGoes x : Sem Unit).wrap (fun _ => .raise x) .raise id id)
          (.ret (fun r => ((match r with | .ok f => (.pure f : Sem Flow) | .error e => .raise e).onRaise (cameBack X.env)).wrap K J gd lv) none (gd false) (lv []) c p [] :: fs) s' := fun n s₀ x s' hx => by
        refine seg_wrap ?_
        rw [(gl _).over]
        refine wpAny_bind (wpAny_mono (hp x s' hx) (fun _ s'' hcb => wpAny_theTreesLotGoes ?_) fun y s'' hcb => ?_)
        · exact seg_leaf (.error x) (seg_cameBack gc k hcb)
        · exact seg_leaf (.error y) (seg_cameBack gc k hcb)
      refine seg_forLoop ?_
      rw [(gl _).over]
      obtain ⟨acc, cc, r, I⟩ := hI
      rcases turn i m ys σ H w with ⟨stop, qn⟩ | ⟨go, N, hN, step⟩
      · refine wpAny_mono (T.done X rfl rfl rfl hc i _ s σ H X.xe I (stat fr) st stop) (fun r s4 ⟨hr, I4⟩ => ?_) fun x s' hx => ee n s₀ x s' hx
        subst hr
        exact seg_leaf (.ok .next) (k.ok n ys s₀ s4 .next hn ⟨σ, H, ⟨acc, cc, ‹_›, I4⟩, qn⟩)
      · refine wpAny_mono (T.item X rfl rfl rfl hc i _ s σ H X.xe I (stat fr) st go) (fun rr s4 ⟨u, hr, h4⟩ => ?_) fun x s' hx => ee n s₀ x s' hx
        subst hr
        refine wpAny_mono h4 (fun _ s5 ⟨x, H5, I5, r5, y5, st5, fr5⟩ => ?_) fun x s' hx => ee n s₀ x s' hx
        have I5' := I5.pinned (stat fr5) (T.obj _ _ st5)
        refine wpAny_mono (hg.run _ s5 σ H5 x u _ I5' r5 (step x H5 y5)) (fun _ s6 ⟨σ6, H6, I6, q6⟩ => ?_) fun x s' hx => ee n s₀ x s' hx
        have gc' : GC X S (ip ++ pinsAt fp s5.heap) A (.forLoop tg (.ref it) body [] X.env) (.ret (fun r => ((match r with | .ok f => (.pure f : Sem Flow) | .error e => .raise e).onRaise (cameBack X.env)).wrap K J gd lv) none (gd false) (lv []) c p [] :: fs) id :=
          ⟨(gl fun _ => .raise .none).pn, fun q hq => (List.mem_append.mp hq).elim (fun z => gc.ip q z) fun z => (fst q.1 (of_pinsAt z).1).2.2.2.2.1, gc.apart, (gl _).over, (gl _).split, (gl _).guard, rfl⟩
        have un : ∀ {ys' : List V} {σ7 : St} {H7 : Hp} {s7 : Shared}, GI X S (ip ++ pinsAt fp s5.heap) ys' σ7 H7 s7 → GI X S ip ys' σ7 H7 s7 ∧ tn (i + 1) s7.heap ∧ ∀ b ∈ fp, H7 b = none := fun {ys' σ7 H7 s7} h7 => by
          obtain ⟨acc7, c7, r7, I7⟩ := h7
          have I8 : Inv X (((S, lstObj acc7 c7) :: ip) ++ pinsAt fp s5.heap) σ7 H7 s7 := I7
          refine ⟨⟨acc7, c7, r7, I8.unpinned⟩, T.keep _ _ _ st5 fun b hb o e => (I8.pin (b, o) (List.mem_append_right _ (List.mem_append_right _ (mem_pinsAt hb e)))).1, fun b hb => ?_⟩
          obtain ⟨o, e, d⟩ := T.obj _ _ st5 b hb
          exact (I8.pin (b, o) (List.mem_append_right _ (List.mem_append_right _ (mem_pinsAt hb e)))).2.1
        refine hb.run A S (ip ++ pinsAt fp s5.heap) R n ys s₀ _ _ _ _ id id s6 σ6 H6 { D with nx := N, ct := N, bk := D.nx } gc' hn ⟨fun n' ys' s₀' s7 f hn' hs => ?_, fun n' s₀' x s3 hx => ee n' s₀' x s3 hx⟩ ⟨acc, cc, ‹_›, I6⟩ q6
        cases f with
        | next =>
          obtain ⟨σ7, H7, I7, n7⟩ := hs
          obtain ⟨m', hm, w7⟩ := hN ys' σ7 H7 n7
          obtain ⟨u1, u2, u3⟩ := un I7
          exact seg_again rfl (ih m' hm n' (i + 1) ys' s₀' s7 σ7 H7 hn' w7 u1 u2 u3)
        | cont =>
          obtain ⟨σ7, H7, I7, n7⟩ := hs
          obtain ⟨m', hm, w7⟩ := hN ys' σ7 H7 n7
          obtain ⟨u1, u2, u3⟩ := un I7
          exact seg_again rfl (ih m' hm n' (i + 1) ys' s₀' s7 σ7 H7 hn' w7 u1 u2 u3)
        | brk =>
          obtain ⟨σ7, H7, I7, q7⟩ := hs
          exact seg_leaf (.ok .next) (k.ok n' ys' s₀' s7 .next hn' ⟨σ7, H7, (un I7).1, q7⟩)
        | ret v =>
          obtain ⟨x7, σ7, H7, I7, r7, q7⟩ := hs
          exact seg_leaf (.ok (.ret v)) (k.ok n' ys' s₀' s7 (.ret v) hn' ⟨x7, σ7, H7, (un I7).1, r7, q7⟩)
  exact loop m0 n 0 ys s₀ s2 σ H2 hn w0 ⟨acc, cc, r, I2⟩ st2 fun b hb => (f2 b hb).1
end
end L2

/-! ### generators: judgements -/
namespace L2.Tr
open PySem PySem.Spec PyProof.Rows
section
variable {α β γ δ S T : Type}
def wGs (X : Cx) (st : Stmt) : TGn := fun D ys σ H => ∃ t, GS X st t ∧ t D ys σ H
def wGb (X : Cx) (ss : List Stmt) : TGn := fun D ys σ H => ∃ t, GSs X ss t ∧ t D ys σ H
theorem gss_W {X : Cx} {ss : List Stmt} : GSs X ss (wGb X ss) := ⟨fun A S ip R n ys s₀ c fs K J gd lv s σ H D g hn k hI ⟨t, p, q⟩ => p.run A S ip R n ys s₀ c fs K J gd lv s σ H D g hn k hI q⟩
theorem gs_W {X : Cx} {st : Stmt} : GS X st (wGs X st) := ⟨fun A S ip R n ys s₀ c fs K J gd lv s σ H D g hn k hI ⟨t, p, q⟩ => p.run A S ip R n ys s₀ c fs K J gd lv s σ H D g hn k hI q⟩
theorem pairedUp {r : Rp β} [mo : Mo r] {I I' : Hp} (s : Same I I') : ∀ {ys : List V} {xs : List β}, Paired (r I) ys xs → Paired (r I') ys xs
  | _, _, .nil => .nil
  | _, _, .cons h t => .cons (mo.up s h) (pairedUp s t)
def PostY (X : Cx) (W : WX) (Kx : KnowsX) (r : Rp β) (I : Hp) (m : Res (List β × S)) (G : S → Knows) (D : GEnds) : Prop := match m with
  | .ok z => ∀ I' H' σ' ys', Same I I' → G z.2 I' H' σ' → Paired (r I') ys' z.1 → D.nx ys' σ' H'
  | .err e => ∀ I' H' σ' cls d, Kx I' H' σ' d → ExR X.K I' H' e cls d → W cls d σ' H'
  | .stuck => False
def PostYE (X : Cx) (I0 H0 : Hp) (W : WX) (Kx : KnowsX) (r : Rp β) (m : Res (List β)) (D : GEnds) : Prop := match m with
  | .ok z => ∀ I' H' σ' ys', Fm I0 H0 I' H' → Paired (r I') ys' z → D.nx ys' σ' H'
  | .err e => ∀ I' H' σ' cls d, Kx I' H' σ' d → ExR X.K I' H' e cls d → W cls d σ' H'
  | .stuck => False
theorem PostY.up {X : Cx} {W : WX} {Kx : KnowsX} {r : Rp β} {I I1 : Hp} {m : Res (List β × S)} {G : S → Knows} {D : GEnds} (h : PostY X W Kx r I m G D) (s : Same I I1) : PostY X W Kx r I1 m G D := by
  cases m with
  | ok z => exact fun I' H' σ' ys' q => h I' H' σ' ys' (s.trans q)
  | err e => exact h
  | stuck => exact h
/-- a statement of a generator -/
def Y1 (X : Cx) (W : WX) (Kx : KnowsX) (r : Rp β) (G : Knows) (out : List β) (st : Stmt) (m : Res (List β × S)) (G' : S → Knows) : Prop :=
  ∀ (I H : Hp) (σ : St) (D : GEnds) (ys : List V), G I H σ → Paired (r I) ys out → PostY X W Kx r I m G' D → wGs X st D ys σ H
def YN (X : Cx) (W : WX) (Kx : KnowsX) (r : Rp β) (G : Knows) (out : List β) (ss : List Stmt) (m : Res (List β × S)) (G' : S → Knows) : Prop :=
  ∀ (I H : Hp) (σ : St) (D : GEnds) (ys : List V), G I H σ → Paired (r I) ys out → PostY X W Kx r I m G' D → wGb X ss D ys σ H
/-- a block that ends the generator -/
def YE (X : Cx) (I0 H0 : Hp) (W : WX) (Kx : KnowsX) (r : Rp β) (G : Knows) (out : List β) (ss : List Stmt) (m : Res (List β)) : Prop :=
  ∀ (I H : Hp) (σ : St) (D : GEnds) (ys : List V), G I H σ → Paired (r I) ys out → PostYE X I0 H0 W Kx r m D → wGb X ss D ys σ H
variable {X : Cx} {I0 H0 : Hp} {W : WX} {Kx : KnowsX} {G : Knows} {ctx : List (Option SF)} {mem : List MF} {e a b c o iter : Expr} {es : List Expr} {st : Stmt} {ss body : List Stmt} {pos pos' pos2 : Pos} {n : Str} {r : Rp β} {out : List β}
/-- a statement that hands out nothing -/
theorem Y1.of [mo : Mo r] {m : Res S} {G' : S → Knows} (j : J1 X W Kx G st m G') : Y1 X W Kx r G out st (m.bind fun s => .ok (out, s)) G' := fun I H σ D ys g pr p => by
  refine ⟨_, gs_ps ps_W, j I H σ (D.at ys) g ?_⟩
  cases m with
  | ok s => exact fun I' H' σ' si g' => p I' H' σ' ys si g' (pairedUp si pr)
  | err e => exact p
  | stuck => exact p
theorem Y1.yield [mo : Mo r] {m : Res β} (j : JE X I0 H0 W ctx mem e m (rp r)) (hx : ∀ I H σ d, Stt I0 H0 ctx mem I H σ → Fr H0 d → Kx I H σ d) (hco : X.env.scope.isCoroutine = false := by rfl) (hi : interactive X.env = false := by rfl) :
    Y1 X W Kx r (Stt I0 H0 ctx mem) out (.Expr (.Yield (some e) pos') pos) (Res.guard (out.length < sizeLine) (m.bind fun x => .ok (out ++ [x], ()))) (fun _ => Stt I0 H0 ctx mem) := fun I H σ D ys g pr p => by
  by_cases hl : out.length < sizeLine
  · rw [Res.guard_pos hl] at p
    refine ⟨_, gs_yield pe_W hco hi, by rw [Paired.length pr]; exact hl, j I H σ _ g ?_⟩
    cases m with
    | ok x => exact fun I' H' v f h => p I' H' σ _ f.i (g.step f) (paired_app (pairedUp f.i pr) (.cons h .nil))
    | err e => exact fun I' H' c d f x => p I' H' σ c d (hx _ _ _ _ (g.step f) (x.1.back g.fm.h)) x.2
    | stuck => exact p
  · have e : Res.guard (out.length < sizeLine) (m.bind fun x => .ok (out ++ [x], ())) = .stuck := if_neg hl
    rw [e] at p
    exact p.elim
theorem YN.nil [mo : Mo r] {s : S} {G' : S → Knows} (h : ∀ I H σ, G I H σ → G' s I H σ) : YN X W Kx r G out [] (.ok (out, s)) G' := fun I H σ D ys g pr p => ⟨_, gss_nil, p I H σ ys (Same.refl _) (h _ _ _ g) pr⟩
theorem YN.seq [mo : Mo r] {m : Res (List β × S)} {G1 : S → Knows} {f : List β × S → Res (List β × T)} {G2 : T → Knows} (j : Y1 X W Kx r G out st m G1) (k : ∀ z, YN X W Kx r (G1 z.2) z.1 ss (f z) G2) : YN X W Kx r G out (st :: ss) (m.bind f) G2 := fun I H σ D ys g pr p => by
  refine ⟨_, gss_cons gs_W gss_W, j I H σ _ ys g pr ?_⟩
  cases m with
  | ok z => exact fun I' H' σ' ys' si g' pr' => k z I' H' σ' D ys' g' pr' (PostY.up p si)
  | err e => exact p
  | stuck => exact p
theorem YE.nil [mo : Mo r] (h : ∀ I H σ, G I H σ → Fm I0 H0 I H) : YE X I0 H0 W Kx r G out [] (.ok out) := fun I H σ D ys g pr p => ⟨_, gss_nil, p I H σ ys (h _ _ _ g) pr⟩
theorem YE.seq [mo : Mo r] {m : Res (List β × S)} {G1 : S → Knows} {f : List β × S → Res (List β)} (j : Y1 X W Kx r G out st m G1) (k : ∀ z, YE X I0 H0 W Kx r (G1 z.2) z.1 ss (f z)) : YE X I0 H0 W Kx r G out (st :: ss) (m.bind f) := fun I H σ D ys g pr p => by
  refine ⟨_, gss_cons gs_W gss_W, j I H σ _ ys g pr ?_⟩
  cases m with
  | ok z => exact fun I' H' σ' ys' si g' pr' => k z I' H' σ' D ys' g' pr' p
  | err e => exact p
  | stuck => exact p
theorem YE.ex {ι : Type} {G : ι → Knows} {m : Res (List β)} (h : ∀ i, YE X I0 H0 W Kx r (G i) out ss m) : YE X I0 H0 W Kx r (fun I H σ => ∃ i, G i I H σ) out ss m := fun I H σ D ys ⟨i, g⟩ pr p => h i I H σ D ys g pr p
theorem YN.ex {ι : Type} {G : ι → Knows} {m : Res (List β × S)} {G' : S → Knows} (h : ∀ i, YN X W Kx r (G i) out ss m G') : YN X W Kx r (fun I H σ => ∃ i, G i I H σ) out ss m G' := fun I H σ D ys ⟨i, g⟩ pr p => h i I H σ D ys g pr p
theorem YE.pre {G G2 : Knows} {m : Res (List β)} (h : YE X I0 H0 W Kx r G2 out ss m) (w : ∀ I H σ, G I H σ → G2 I H σ) : YE X I0 H0 W Kx r G out ss m := fun I H σ D ys g pr p => h I H σ D ys (w _ _ _ g) pr p
theorem YN.pre {G G2 : Knows} {m : Res (List β × S)} {G' : S → Knows} (h : YN X W Kx r G2 out ss m G') (w : ∀ I H σ, G I H σ → G2 I H σ) : YN X W Kx r G out ss m G' := fun I H σ D ys g pr p => h I H σ D ys (w _ _ _ g) pr p
theorem Y1.for [mr : Mo r] (j : Nat) {rb : Rp γ} [mo : Mo rb] {m : Res (List γ)} {cx : S → List (Option SF)} {me : S → List MF} {f : γ → List β × S → Res (List β × S)} {s0 : S} (hp : PassesOwn (model X.prog X.w) X.A X.env X.xe) (ji : JI X I0 H0 W ctx (me s0) (.Name n pos') iter m rb)
    (jb : ∀ x z, YN X W Kx r (Stt I0 H0 ((cx z.2).set j (some ⟨rb, x⟩)) (me z.2)) z.1 body (f x z) fun s' => Stt I0 H0 (cx s') (me s')) (hx : ∀ I H σ d, Stt I0 H0 ctx (me s0) I H σ → Fr H0 d → Kx I H σ d) (hw : weakC ctx (cx s0)) (hN : X.N.Nodup) (hc : X.calm = true := by rfl)
    (hj : X.N[j]? = some n := by rfl) (hl : Loc X.env.scope n := by first | exact Or.inl rfl | exact Or.inr rfl) (hf : X.fn n = true ∨ X.env.scope.names.lookup n = some .local := by first | exact .inl rfl | exact .inr rfl | assumption) (hs : ∀ x, foldedSetIterable iter X.env x = pure x := by intro _; rfl) :
    Y1 X W Kx r (Stt I0 H0 ctx (me s0)) out (.For (.Name n pos') iter body [] pos) (m.bind fun xs => forS f xs (out, s0)) (fun s => Stt I0 H0 (cx s) (me s)) := fun I H σ D ys g pr0 p => by
  refine ⟨_, gs_for hp hc pi_W (pg_name (i := j) hN hj hl hf) gss_W hs, ji I H σ _ g ?_⟩
  cases m with
  | ok xs =>
    intro I1 H1 J vs okp f1 itr stay pr
    have p0 : PostY X W Kx r I1 (forS f xs (out, s0)) (fun s => Stt I0 H0 (cx s) (me s)) D := PostY.up p f1.i
    have hlen := Paired.length pr
    refine ⟨fun i k ys' σ' H' => k + i = vs.length ∧ ∃ I' z, Same I1 I' ∧ Stt I0 H0 (cx z.2) (me z.2) I' H' σ' ∧ Paired (r I') ys' z.1 ∧ PostY X W Kx r I' (forS f (xs.drop i) z) (fun s => Stt I0 H0 (cx s) (me s)) D, ⟨vs.length, rfl, I1, (out, s0), Same.refl _, (g.step f1).weak hw, pairedUp f1.i pr0, p0⟩, ?_⟩
    rintro i k ys' σ' H' ⟨hk, I', z, si, g', py, p'⟩
    have hok := stay I' H' si g'.same g'.fm.h
    by_cases hi : i < vs.length
    · obtain ⟨go, yl⟩ := (itr i H' hok).1 hi
      refine .inr ⟨go, fun ys2 σ2 H2 => ∃ I2 z2, Same I1 I2 ∧ Stt I0 H0 (cx z2.2) (me z2.2) I2 H2 σ2 ∧ Paired (r I2) ys2 z2.1 ∧ PostY X W Kx r I2 (forS f (xs.drop (i + 1)) z2) (fun s => Stt I0 H0 (cx s) (me s)) D, fun ys2 σ2 H2 h => ⟨k - 1, by omega, by omega, h⟩, fun v H2 hy => ?_⟩
      obtain ⟨rfl, ev⟩ := yl v H2 hy
      obtain ⟨x, ex, hr⟩ := paired_drop pr i ev
      rw [forS_drop ex] at p'
      refine jb x z I' H2 (σ'.set j (some v)) _ ys' (g'.set j (mo.up si hr)) py ?_
      revert p'
      generalize f x z = q
      intro p'
      cases q with
      | ok s2 => exact fun I2 H2 σ2 ys2 q1 q2 q3 => ⟨I2, s2, si.trans q1, q2, q3, PostY.up p' q1⟩
      | err e => exact p'
      | stuck => exact p'.elim
    · refine .inl ⟨(itr i H' hok).2 (by omega), ?_⟩
      have : xs.drop i = [] := List.drop_eq_nil_of_le (by omega)
      rw [this] at p'
      exact p' I' H' σ' ys' (Same.refl _) g' py
  | err e => exact fun I' H' c d f x => p I' H' σ c d (hx _ _ _ _ (g.step f) (x.1.back g.fm.h)) x.2
  | stuck => exact p.elim
theorem YE.seqP [mo : Mo r] {m : Res S} {G1 : S → Knows} {f : S → Res (List β)} (j : J1 X W Kx G st m G1) (k : ∀ z, YE X I0 H0 W Kx r (G1 z) out ss (f z)) : YE X I0 H0 W Kx r G out (st :: ss) (m.bind f) := fun I H σ D ys g pr p => by
  refine ⟨_, gss_cons gs_W gss_W, Y1.of j I H σ _ ys g pr ?_⟩
  cases m with
  | ok z => exact fun I' H' σ' ys' si g' pr' => k z I' H' σ' D ys' g' pr' p
  | err e => exact p
  | stuck => exact p
theorem YN.seqP [mo : Mo r] {m : Res S} {G1 : S → Knows} {f : S → Res (List β × T)} {G2 : T → Knows} (j : J1 X W Kx G st m G1) (k : ∀ z, YN X W Kx r (G1 z) out ss (f z) G2) : YN X W Kx r G out (st :: ss) (m.bind f) G2 := fun I H σ D ys g pr p => by
  refine ⟨_, gss_cons gs_W gss_W, Y1.of j I H σ _ ys g pr ?_⟩
  cases m with
  | ok z => exact fun I' H' σ' ys' si g' pr' => k z I' H' σ' D ys' g' pr' (PostY.up p si)
  | err e => exact p
  | stuck => exact p
theorem YE.yield [mo : Mo r] {m : Res β} {f : β → Res (List β)} (j : JE X I0 H0 W ctx mem e m (rp r)) (hx : ∀ I H σ d, Stt I0 H0 ctx mem I H σ → Fr H0 d → Kx I H σ d) (k : ∀ x, YE X I0 H0 W Kx r (Stt I0 H0 ctx mem) (out ++ [x]) ss (f x)) (hco : X.env.scope.isCoroutine = false := by rfl) (hi : interactive X.env = false := by rfl) :
    YE X I0 H0 W Kx r (Stt I0 H0 ctx mem) out (.Expr (.Yield (some e) pos') pos :: ss) (Res.guard (out.length < sizeLine) (m.bind f)) := fun I H σ D ys g pr p => by
  refine ⟨_, gss_cons gs_W gss_W, Y1.yield j hx hco hi I H σ _ ys g pr ?_⟩
  by_cases hl : out.length < sizeLine
  · rw [Res.guard_pos hl] at p ⊢
    cases m with
    | ok z => exact fun I' H' σ' ys' si g' pr' => k z I' H' σ' D ys' g' pr' p
    | err e => exact p
    | stuck => exact p
  · have e : Res.guard (out.length < sizeLine) (m.bind f) = .stuck := if_neg hl
    rw [e] at p
    exact p.elim
theorem YN.yield [mo : Mo r] {m : Res β} {f : β → Res (List β × T)} {G2 : T → Knows} (j : JE X I0 H0 W ctx mem e m (rp r)) (hx : ∀ I H σ d, Stt I0 H0 ctx mem I H σ → Fr H0 d → Kx I H σ d) (k : ∀ x, YN X W Kx r (Stt I0 H0 ctx mem) (out ++ [x]) ss (f x) G2) (hco : X.env.scope.isCoroutine = false := by rfl) (hi : interactive X.env = false := by rfl) :
    YN X W Kx r (Stt I0 H0 ctx mem) out (.Expr (.Yield (some e) pos') pos :: ss) (Res.guard (out.length < sizeLine) (m.bind f)) G2 := fun I H σ D ys g pr p => by
  refine ⟨_, gss_cons gs_W gss_W, Y1.yield j hx hco hi I H σ _ ys g pr ?_⟩
  by_cases hl : out.length < sizeLine
  · rw [Res.guard_pos hl] at p ⊢
    cases m with
    | ok z => exact fun I' H' σ' ys' si g' pr' => k z I' H' σ' D ys' g' pr' (PostY.up p si)
    | err e => exact p
    | stuck => exact p
  · have e : Res.guard (out.length < sizeLine) (m.bind f) = .stuck := if_neg hl
    rw [e] at p
    exact p.elim
theorem YN.at {c' : List (Option SF)} {m : Res (List β × S)} {G' : S → Knows} (h : YN X W Kx r (Stt I0 H0 c' mem) out ss m G') (e : ctx = c' := by rfl) : YN X W Kx r (Stt I0 H0 ctx mem) out ss m G' := by subst e; exact h
/-! ### the promise -/
def PostGn (K : PySem.W.Frag) (m : Res (List β)) (r : Rp β) (I H : Hp) (E : XK) (Q : List V → Hp → Prop) : Prop := match m with
  | .ok out => ∀ I' H' ys, Fm I H I' H' → Paired (r I') ys out → Q ys H'
  | .err e => ∀ I' H' cls d', Fm I H I' H' → Fr H d' ∧ ExR K I' H' e cls d' → E cls d' H'
  | .stuck => False
def spGn (K : PySem.W.Frag) (R : Hp → Hp → List V → δ → Prop) (m : δ → Res (List β)) (r : Rp β) : SpG := fun vs H Q E => ∃ I d, Same I H ∧ R I H vs d ∧ PostGn K (m d) r I H E Q
def GnR (P : Program) (w : World) (K : PySem.W.Frag) (mg : Str → Option Value) (base : Heap) (k : Nat) (f : Addr) (sp : SpG) : Prop := ∃ fd ps, GFn P w K mg base k f fd ps sp ∧ Binds K fd ps []
abbrev gx (P : Program) (w : World) (K : PySem.W.Frag) (mg : Str → Option Value) (base : Heap) (N : List Str) (qual : Str) (scope : Scope) (f : Addr) (cdv : Value) (A : Around) (outer : List Env) (s : Shared) (H : Hp) (E : XK) (pn : List (Addr × Obj)) : Cx := gcxOf P w K mg base N qual scope f cdv A outer s H E pn
theorem FunD.gen {P : Program} {w : World} {K : PySem.W.Frag} {mg : Str → Option Value} {base : Heap} {x qual : Str} {params : Arguments} {body : List Stmt} {scope : Scope} {kws : List (Str × V)} {f : Addr} {fd : FuncData} {N ps : List Str} {k : Nat} {R : Hp → Hp → List V → δ → Prop} {m : δ → Res (List β)} (F : FunD K x qual params body scope [] kws f fd) (Sc : GScope N ps scope) (len : ∀ I H vs d, R I H vs d → vs.length = ps.length)
    (hb : ∀ (cdv : Value) (A : Around) (outer : List Env) (s : Shared) (I0 H0 : Hp) (E : XK) (pn : List (Addr × Obj)) (vs : List V) (d : δ), Room k (A.deeper (envOfC qual scope s.heap.objs.size f cdv)) → Same I0 H0 → R I0 H0 vs d →
      ∃ G : Knows, G I0 H0 (start N vs) ∧ YE (gx P w K mg base N qual scope f cdv A outer s H0 E pn) I0 H0 (bW E) (bK I0 H0) r G [] body (m d)) : GFn P w K mg base (k + 1) f fd ps (spGn K R m r) := by
  obtain ⟨oc, od, dV, kV, doc, pm, an, cdv, ct, osl, rfl, lk, hcd, _, _⟩ := F.ex
  refine gfn_of lk hcd Sc (fun vs H Q E ⟨I, d, _, h, _⟩ => len I H vs d h) fun A outer s H vs Q E pn hr ⟨I, d, sm, h, p⟩ => ⟨_, gss_W, ?_⟩
  obtain ⟨G, g, j⟩ := hb cdv A outer s I H E pn vs d hr sm h
  refine j I H _ _ [] g .nil ?_
  revert p
  generalize m d = z
  intro p
  cases z with
  | ok y => exact fun I' H' _ ys f q => p I' H' ys f q
  | err e => exact fun I' H' _ c d f x => p I' H' c d f.1 ⟨f.2, x⟩
  | stuck => exact p
/-! ### list(o.m(..)) -/
theorem JM.listG [mo : Mo r] {k : Nat} {pl : Sem Bool} {m : Str} {C f : Addr} {apos : Pos} {rb : Ra α} {mb : Res α} {md : Res δ} {R : Hp → Hp → List V → δ → Prop} {g : α × δ → Res (List β)} [MoA rb] (j : JE X I0 H0 W ctx mem o mb rb) (hi : InsOf C rb m) (ka : JA X I0 H0 W ctx mem (e :: es) md R) (F : GnR X.prog X.w X.K X.mg X.base k f (spGn X.K (aCons rb R) g r)) (c : Cls X.K C) (hm : Meth X.K C m f)
    (hr : Room (k + 3) X.A) (hmg : X.mg "list" = none) (hg : Gl X "list" := by rfl) (hst : starEach (e :: es) X.env = (false, eval e X.env) :: starEach es X.env := by rfl) (hpl : (backTo pos (starEach es X.env)).any (·.1) = false := by rfl)
    (ht : eval (.Call (.Attribute o m apos) (e :: es) [] pos) X.env = (do
      let ov ← eval o X.env
      standAt apos.atName
      let (f, first) ← holding [ov] (getMethod ov m pl)
      callWith pos f first (backTo pos (starEach (e :: es) X.env)) (backToKw pos (keywordEach [] X.env))) := by rfl)
    (hs2 : starEach [(.Call (.Attribute o m apos) (e :: es) [] pos)] X.env = (false, eval (.Call (.Attribute o m apos) (e :: es) [] pos) X.env) :: starEach [] X.env := by rfl) :
    JM X I0 H0 W ctx mem (.Call (.Name "list" pos') [.Call (.Attribute o m apos) (e :: es) [] pos] [] pos2) (mb.bind fun x => md.bind fun y => noErr (g (x, y))) r := fun I H σ Q st p => by
  obtain ⟨fd, ps, GF, hb⟩ := F
  refine PE.w (pe_listG (E := fun _ _ _ => False) (pgen_meth pe_W c hm GF (hr.mono (by omega)) hb .nil pa_W hst hpl ht) (fun _ _ _ _ _ _ _ z => ?_) (fun _ _ _ z => z.elim) hr hg hmg (by decide +kernel) (by decide) (by decide) hs2) (j I H σ _ st ?_)
  · obtain ⟨_, _, _, _, _, _, _, _, _, _, _, _, hW⟩ := z
    exact hW.elim
  cases mb with
  | ok x =>
    intro I1 H1 v f1 r1
    obtain ⟨a, dx, fs, ev, ha, hl⟩ := hi I1 H1 v x f1.ih r1
    refine ⟨a, dx, fs, ev, ha, hl, ka I1 H1 σ _ (st.step f1) ?_⟩
    cases md with
    | ok y =>
      intro I2 H2 vs f2 r2
      refine ⟨I2, (x, y), f2.ih, by rw [List.append_nil]; exact ⟨v, vs, rfl, MoA.up f2.i f2.h r1, r2⟩, ?_⟩
      have p : PostM X W σ I H (noErr (g (x, y))) r Q := p
      revert p
      generalize g (x, y) = z
      intro p
      cases z with
      | ok out => exact fun I3 H3 ys f3 pr q hq => mpost p ((f1.trans f2).trans f3) hq pr
      | err e => exact p.elim
      | stuck => exact p.elim
    | err e => exact fun I' H' c d f2 x => p I' H' c d (f1.trans f2) ⟨x.1.back f1.h, x.2⟩
    | stuck => exact p.elim
  | err e => exact p
  | stuck => exact p.elim
end
end L2.Tr

namespace L2.Tr
open PySem PySem.Spec PyProof.Rows
/-! ### None or a value -/
section
variable {α β γ δ S L : Type} {X : Cx} {I0 H0 : Hp} {W : WX} {Kx : KnowsX} {ctx : List (Option SF)} {mem : List MF} {e a : Expr} {ss : List Stmt} {pos : Pos} {rr : Ra γ} {r : Rp α}
def rOp (r : Rp α) : Rp (Option α) := fun I v x => match x with
  | none => v = .non
  | some y => r I v y
instance {r : Rp α} [m : Mo r] : Mo (rOp r) := ⟨fun {I I' v x} s h => by
  cases x with
  | none => exact h
  | some y => exact m.up s h⟩
def optM {β : Type} (x : Option α) (f1 : β) (f2 : α → β) : β := match x with
  | none => f1
  | some y => f2 y
theorem optM_none {β : Type} {f1 : β} {f2 : α → β} : optM none f1 f2 = f1 := rfl
theorem optM_some {β : Type} {y : α} {f1 : β} {f2 : α → β} : optM (some y) f1 f2 = f2 y := rfl
class NoN (r : Rp α) : Prop where
  ne : ∀ I v x, r I v x → v ≠ .non
instance : NoN rInt := ⟨fun _ _ _ h z => by rw [show _ = V.int _ from h] at z; cases z⟩
instance : NoN rBl := ⟨fun _ _ _ h z => by rw [show _ = V.bl _ from h] at z; cases z⟩
instance : NoN rStr := ⟨fun _ _ _ h z => by rw [show _ = V.str _ from h] at z; cases z⟩
instance {K : PySem.W.Frag} : NoN (rFrac K) := ⟨fun _ _ _ ⟨_, _, e, _⟩ z => by rw [e] at z; cases z⟩
instance {K : PySem.W.Frag} : NoN (rNum K) := ⟨fun I v x h => by
  cases x with
  | i n => exact NoN.ne (r := rInt) I v n h
  | q q => exact NoN.ne (r := rFrac K) I v q h⟩
instance {r : Rp α} : NoN (rL r) := ⟨fun _ _ _ ⟨_, _, e, _⟩ z => by rw [e] at z; cases z⟩
instance {r : Rp α} : NoN (rT r) := ⟨fun _ _ _ ⟨_, _, e, _⟩ z => by rw [e] at z; cases z⟩
instance {R : Hp → Hp → List V → δ → Prop} : NoN (rTu R) := ⟨fun _ _ _ ⟨_, _, e, _⟩ z => by rw [e] at z; cases z⟩
instance {C : Addr} {gs : α → List (Str × SF)} : NoN (rIns C gs) := ⟨fun _ _ _ ⟨_, _, _, e, _⟩ z => by rw [e] at z; cases z⟩
theorem JE.opN {m : Res Unit} (j : JE X I0 H0 W ctx mem e m (rp rNon)) : JE X I0 H0 W ctx mem e (m.bind fun _ => .ok (none : Option α)) (rp (rOp r)) := j.map fun _ _ _ _ _ h => h
theorem JE.opS {m : Res α} (j : JE X I0 H0 W ctx mem e m (rp r)) : JE X I0 H0 W ctx mem e (m.bind fun x => .ok (some x)) (rp (rOp r)) := j.map fun _ _ _ _ _ h => h
theorem opj_isU : OpJ X W (compareOp .Is) (rp rNon) (rp rNon) (fun _ _ => .ok true) (rp rBl) := fun I H σ Q u v x y sm h1 h2 p => by
  have e1 : u = .non := h1
  have e2 : v = .non := h2
  subst e1; subst e2
  exact OpR.w op_isN ⟨rfl, p I H _ (Fm.refl sm) rfl⟩
theorem opj_isX [n : NoN r] : OpJ X W (compareOp .Is) (rp r) (rp rNon) (fun _ _ => .ok false) (rp rBl) := fun I H σ Q u v x y sm h1 h2 p => by
  have e2 : v = .non := h2
  subst e2
  have := n.ne I u x h1
  refine OpR.w op_isN ⟨rfl, ?_⟩
  rw [decide_eq_false this]
  exact p I H _ (Fm.refl sm) rfl
theorem opj_notU : OpJ X W (compareOp .IsNot) (rp rNon) (rp rNon) (fun _ _ => .ok false) (rp rBl) := fun I H σ Q u v x y sm h1 h2 p => by
  have e1 : u = .non := h1
  have e2 : v = .non := h2
  subst e1; subst e2
  exact OpR.w op_notN ⟨rfl, p I H _ (Fm.refl sm) rfl⟩
theorem opj_notX [n : NoN r] : OpJ X W (compareOp .IsNot) (rp r) (rp rNon) (fun _ _ => .ok true) (rp rBl) := fun I H σ Q u v x y sm h1 h2 p => by
  have e2 : v = .non := h2
  subst e2
  have := n.ne I u x h1
  refine OpR.w op_notN ⟨rfl, ?_⟩
  rw [decide_eq_false this]
  exact p I H _ (Fm.refl sm) rfl
theorem opj_isO [n : NoN r] : OpJ X W (compareOp .Is) (rp (rOp r)) (rp rNon) (fun x _ => .ok x.isNone) (rp rBl) := fun I H σ Q u v x y sm h1 h2 p => by
  cases x with
  | none => exact opj_isU I H σ Q u v () y sm h1 h2 p
  | some z => exact opj_isX (r := r) I H σ Q u v z y sm h1 h2 p
theorem opj_notO [n : NoN r] : OpJ X W (compareOp .IsNot) (rp (rOp r)) (rp rNon) (fun x _ => .ok x.isSome) (rp rBl) := fun I H σ Q u v x y sm h1 h2 p => by
  cases x with
  | none => exact opj_notU I H σ Q u v () y sm h1 h2 p
  | some z => exact opj_notX (r := r) I H σ Q u v z y sm h1 h2 p
theorem JT.dead : JT X I0 H0 W ctx mem e (.stuck : Res Bool) := fun _ _ _ _ _ p => p.elim
theorem JW.dead : JW X I0 H0 W ctx mem e (.stuck : Res Bool) := fun _ _ _ _ _ p => p.elim
theorem JE.dead {r : Ra α} : JE X I0 H0 W ctx mem e (.stuck : Res α) r := fun _ _ _ _ _ p => p.elim
theorem JG.dead {G : Knows} {G' : S → Knows} {GL : L → Knows} : JG X I0 H0 W Kx G ss (.stuck : Res (Fl S L γ)) G' GL rr := fun _ _ _ _ _ p => p.elim
theorem Stt.unN {I H : Hp} {σ : L2.St} (s : Stt I0 H0 ctx mem I H σ) (i : Nat) {r : Rp α} {mo : Mo r} {x : Option α} (e : x = none) (hc : ctx[i]? = some (some ⟨rNon, ()⟩) := by rfl) : Stt I0 H0 (ctx.set i (some ⟨rOp r, x⟩)) mem I H σ := by
  subst e; exact s.recast i (b := ⟨rOp r, none⟩) hc fun v h => h
theorem Stt.unS {I H : Hp} {σ : L2.St} (s : Stt I0 H0 ctx mem I H σ) (i : Nat) {r : Rp α} {mo : Mo r} {x : Option α} {y : α} (e : x = some y) (hc : ctx[i]? = some (some ⟨r, y⟩) := by rfl) : Stt I0 H0 (ctx.set i (some ⟨rOp r, x⟩)) mem I H σ := by
  subst e; exact s.recast i (b := ⟨rOp r, some y⟩) hc fun v h => h
theorem JR.opt (i : Nat) {r : Rp α} {mo : Mo r} {x : Option α} {f1 : Res γ} {f2 : α → Res γ} (k1 : x = none → JR X I0 H0 W Kx (Stt I0 H0 (ctx.set i (some ⟨rNon, ()⟩)) mem) ss f1 rr) (k2 : ∀ y, x = some y → JR X I0 H0 W Kx (Stt I0 H0 (ctx.set i (some ⟨r, y⟩)) mem) ss (f2 y) rr)
    (hc : ctx[i]? = some (some ⟨rOp r, x⟩) := by rfl) : JR X I0 H0 W Kx (Stt I0 H0 ctx mem) ss (optM x f1 f2) rr := fun I H σ D g p => by
  cases x with
  | none => exact k1 rfl I H σ D (g.recast i (b := ⟨rNon, ()⟩) hc fun v h => h) p
  | some y => exact k2 y rfl I H σ D (g.recast i (b := ⟨r, y⟩) hc fun v h => h) p
theorem JN.opt (i : Nat) {r : Rp α} {mo : Mo r} {x : Option α} {f1 : Res S} {f2 : α → Res S} {G' : S → Knows} (k1 : x = none → JN X W Kx (Stt I0 H0 (ctx.set i (some ⟨rNon, ()⟩)) mem) ss f1 G') (k2 : ∀ y, x = some y → JN X W Kx (Stt I0 H0 (ctx.set i (some ⟨r, y⟩)) mem) ss (f2 y) G')
    (hc : ctx[i]? = some (some ⟨rOp r, x⟩) := by rfl) : JN X W Kx (Stt I0 H0 ctx mem) ss (optM x f1 f2) G' := fun I H σ D g p => by
  cases x with
  | none => exact k1 rfl I H σ D (g.recast i (b := ⟨rNon, ()⟩) hc fun v h => h) p
  | some y => exact k2 y rfl I H σ D (g.recast i (b := ⟨r, y⟩) hc fun v h => h) p
theorem JG.opt (i : Nat) {r : Rp α} {mo : Mo r} {x : Option α} {f1 : Res (Fl S L γ)} {f2 : α → Res (Fl S L γ)} {G' : S → Knows} {GL : L → Knows} (k1 : x = none → JG X I0 H0 W Kx (Stt I0 H0 (ctx.set i (some ⟨rNon, ()⟩)) mem) ss f1 G' GL rr) (k2 : ∀ y, x = some y → JG X I0 H0 W Kx (Stt I0 H0 (ctx.set i (some ⟨r, y⟩)) mem) ss (f2 y) G' GL rr)
    (hc : ctx[i]? = some (some ⟨rOp r, x⟩) := by rfl) : JG X I0 H0 W Kx (Stt I0 H0 ctx mem) ss (optM x f1 f2) G' GL rr := fun I H σ D g p => by
  cases x with
  | none => exact k1 rfl I H σ D (g.recast i (b := ⟨rNon, ()⟩) hc fun v h => h) p
  | some y => exact k2 y rfl I H σ D (g.recast i (b := ⟨r, y⟩) hc fun v h => h) p
end
end L2.Tr

namespace L2.Tr
open PySem PySem.Spec PyProof.Rows He
/-! ### own errors with values -/
structure ExcV (K : PySem.W.Frag) (mg : Str → Option Value) (x : Str) (fs : List Str) : Prop where
  oex : OexC K (ga K x)
  ini : PySem.W.findIn K (.ref (ga K x)) "__init__" = some (some (.ref (ma K (ga K x) "__init__")))
  tyI : PySem.W.typeIn K (.ref (ma K (ga K x) "__init__")) = some (.type "function")
  no : ∀ f, f ∈ fs → PySem.W.findIn K (.ref (ga K x)) f = some none
  gl : mg x = some (.ref (ga K x))
  xf : XfC K (ga K x)
def isOex (K : PySem.W.Frag) (C : Addr) : Bool := match List.lookup C K with
  | some ⟨.type "type", _, .cls cd, sl⟩ => (match cd.mro, sl.toList with
    | .ref C' :: bm, [_, _, _, _, some (.builtin n), _] => C' == C && (n == "ValueError.__new__" && (cd.hasDict && (!cd.hasDel && HandSPX.refsVE bm)))
    | _, _ => false)
  | _ => false
theorem isOex_ok {K : PySem.W.Frag} {C : Addr} (h : isOex K C = true) : ∃ nm q N bs bm sn sub ab col dd k0 k1 k2 k3 k5, List.lookup C K = some (excClassObj nm q C N bs bm true sn sub ab col dd k0 k1 k2 k3 k5 "ValueError.__new__") ∧ HandSPX.refsVE bm = true := by
  unfold isOex at h
  split at h
  · rename_i dd cd sl e
    split at h
    · rename_i C' bm k0 k1 k2 k3 n k5 e1 e2
      simp only [Bool.and_eq_true, beq_iff_eq, Bool.not_eq_true'] at h
      obtain ⟨h1, h2, h3, h4, h5⟩ := h
      obtain ⟨nm, bs, mro, N, q, hd, sn, sub, ab, col, del⟩ := cd
      dsimp only at e1 h3 h4
      subst h1; subst h2; subst h3; subst h4; subst e1
      refine ⟨nm, q, N, bs, bm, sn, sub, ab, col, dd, k0, k1, k2, k3, k5, ?_, h5⟩
      rw [e]
      congr 2
      exact Array.toList_inj.mp e2
    · cases h
  · cases h
def fExcV (x : Str) (fs : List Str) : FB := fun K => isOex K (ga K x) && (eqO (PySem.W.findIn K (.ref (ga K x)) "__setattr__") (some (some (.builtin "object.__setattr__"))) && (decide (PySem.W.subIn K (.ref (ga K x)) (.type "BaseException") = some true) && (decide (PySem.W.typeIn K (.ref (ga K x)) = some (.type "type")) && (PySem.W.keepIn K (.ref (ga K x)) &&
  (eqO (PySem.W.findIn K (.ref (ga K x)) "__init__") (some (some (.ref (ma K (ga K x) "__init__")))) && (decide (PySem.W.typeIn K (.ref (ma K (ga K x) "__init__")) = some (.type "function")) && (fs.all (fun f => eqO (PySem.W.findIn K (.ref (ga K x)) f) (some none)) && ((Fa.glo x).ok K &&
  (eqO (PySem.W.findIn K (.ref (ga K x)) "__getattribute__") (some (some (.builtin "BaseException.__getattribute__"))) && (eqO (PySem.W.findIn K (.ref (ga K x)) "__getattr__") (some none) && PySem.W.hasDictIn K (ga K x)))))))))))
theorem excV_of {K : PySem.W.Frag} {mg : Str → Option Value} {h : Heap} (X : K.In h) (G : h.Ns mainGlobals mg) {x : Str} {fs : List Str} (c : fExcV x fs K = true) : ExcV K mg x fs := by
  obtain ⟨c1, c⟩ := ba c
  obtain ⟨c2, c⟩ := ba c
  obtain ⟨c3, c⟩ := ba c
  obtain ⟨c4, c⟩ := ba c
  obtain ⟨c5, c⟩ := ba c
  obtain ⟨c6, c⟩ := ba c
  obtain ⟨c7, c⟩ := ba c
  obtain ⟨c8, c⟩ := ba c
  obtain ⟨c9, c⟩ := ba c
  obtain ⟨c10, c⟩ := ba c
  obtain ⟨c11, c12⟩ := ba c
  exact ⟨⟨isOex_ok c1, of_decide_eq_true c2, of_decide_eq_true c3, of_decide_eq_true c4, c5⟩, of_decide_eq_true c6, of_decide_eq_true c7, fun f hf => of_decide_eq_true (List.all_eq_true.mp c8 f hf), glo_ok X G c9, ⟨of_decide_eq_true c10, of_decide_eq_true c11, of_decide_eq_true c3, c12⟩⟩
section
variable {P : Program} {w : World} {K : PySem.W.Frag} {mg : Str → Option Value} {base : Heap}
def sp1 (C : Addr) (f : Str) : Sp := fun vs H Q _ => ∃ a v, vs = [.ref a, v] ∧ H a = some (exo a C none) ∧ ∀ dx, H dx = none → dx ≠ a → Q .non (upd (upd H dx (exd dx [(f, v)])) a (exo a C (some dx)))
def sp2 (C : Addr) (f g : Str) : Sp := fun vs H Q _ => ∃ a v u, vs = [.ref a, v, u] ∧ H a = some (exo a C none) ∧ ∀ dx, H dx = none → dx ≠ a → Q .non (upd (upd (upd H dx (exd dx [(f, v)])) a (exo a C (some dx))) dx (exd dx [(g, u), (f, v)]))
theorem init1 {x qual : Str} {params : Arguments} {body : List Stmt} {scope : Scope} {fl : Addr} {fd : FuncData} {p f : Str} {p1 p2 p3 pos : Pos} {C : Addr} (F : FunD K x qual params body scope [] [] fl fd) (S : FnScope ["self", p] ["self", p] scope) (hb : body = [.Assign [.Attribute (.Name "self" p1) f p2] (.Name p p3) pos]) (T : OexC K C) (hno : PySem.W.findIn K (.ref C) f = some none)
    (hv0 : Vis scope "self") (hv1 : Vis scope p) (hd : (p == ("__debug__" : Str)) = false) (hcd : (p == ("__classdict__" : Str)) = false) : FnOk P w K mg base (L2.CX P w) 1 fl fd ["self", p] (sp1 C f) := by
  refine F.ok (k := 0) S (fun vs H Q E ⟨a, v, e, _⟩ => by rw [e]; rfl) fun cdv A outer s H vs Q E hr ⟨a, v, e, ha, h⟩ => ⟨_, pss_W, ?_⟩
  subst e; subst hb
  refine b_cons (PS.w (ps_ost pe_W pe_W) (w_var 1 (v := v) (w_var 0 (v := .ref a) ?_ rfl rfl hv0 (by decide) (by decide)) rfl rfl hv1 hd hcd))
  refine ⟨a, C, rfl, T, hno, .inl ⟨ha, fun dx h1 h2 => ?_⟩⟩
  exact b_nil (h dx h1 h2)
theorem init2 {x qual : Str} {params : Arguments} {body : List Stmt} {scope : Scope} {fl : Addr} {fd : FuncData} {p q f g : Str} {p1 p2 p3 pos p4 p5 p6 pos2 : Pos} {C : Addr} (F : FunD K x qual params body scope [] [] fl fd) (S : FnScope ["self", p, q] ["self", p, q] scope) (hb : body = [.Assign [.Attribute (.Name "self" p1) f p2] (.Name p p3) pos, .Assign [.Attribute (.Name "self" p4) g p5] (.Name q p6) pos2]) (T : OexC K C) (hno : PySem.W.findIn K (.ref C) f = some none) (hno2 : PySem.W.findIn K (.ref C) g = some none)
    (hv0 : Vis scope "self") (hv1 : Vis scope p) (hv2 : Vis scope q) (hd : (p == ("__debug__" : Str)) = false) (hcd : (p == ("__classdict__" : Str)) = false) (hd2 : (q == ("__debug__" : Str)) = false) (hcd2 : (q == ("__classdict__" : Str)) = false) : FnOk P w K mg base (L2.CX P w) 1 fl fd ["self", p, q] (sp2 C f g) := by
  refine F.ok (k := 0) S (fun vs H Q E ⟨a, v, u, e, _⟩ => by rw [e]; rfl) fun cdv A outer s H vs Q E hr ⟨a, v, u, e, ha, h⟩ => ⟨_, pss_W, ?_⟩
  subst e; subst hb
  refine b_cons (PS.w (ps_ost pe_W pe_W) (w_var 1 (v := v) (w_var 0 (v := .ref a) ?_ rfl rfl hv0 (by decide) (by decide)) rfl rfl hv1 hd hcd))
  refine ⟨a, C, rfl, T, hno, .inl ⟨ha, fun dx h1 h2 => ?_⟩⟩
  refine b_cons (PS.w (ps_ost pe_W pe_W) (w_var 2 (v := u) (w_var 0 (v := .ref a) ?_ rfl rfl hv0 (by decide) (by decide)) rfl rfl hv2 hd2 hcd2))
  refine ⟨a, C, rfl, T, hno2, .inr ⟨dx, [(f, v)], upd_same, by rw [upd_ne h2, upd_same], by simp, ?_⟩⟩
  exact b_nil (h dx h1 h2)
/-- the promise of an error's making -/
abbrev ErR1 (P : Program) (w : World) (K : PySem.W.Frag) (mg : Str → Option Value) (base : Heap) (x f : Str) : Prop := ExcV K mg x [f] ∧ ∃ fd ps, FnOk P w K mg base (L2.CX P w) 1 (ma K (ga K x) "__init__") fd ps (sp1 (ga K x) f) ∧ Binds K fd ps []
abbrev ErR2 (P : Program) (w : World) (K : PySem.W.Frag) (mg : Str → Option Value) (base : Heap) (x f g : Str) : Prop := ExcV K mg x [f, g] ∧ ∃ fd ps, FnOk P w K mg base (L2.CX P w) 1 (ma K (ga K x) "__init__") fd ps (sp2 (ga K x) f g) ∧ Binds K fd ps []
end
section
variable {α β γ δ S L : Type} {X : Cx} {I0 H0 : Hp} {W : WX} {Kx : KnowsX} {ctx cw : List (Option SF)} {mem : List MF} {e a b : Expr} {ss body suite : List Stmt} {b₀ : Stmt} {pos pos' np p1 p3 : Pos} {n x f g : Str} {rr : Ra γ} {r : Rp α} {r2 : Rp β} {G : Knows}
theorem passNo : Passes (L2.CX X.prog X.w) X (fun _ _ _ => False) := fun _ _ _ _ _ _ _ ⟨_, _, _, _, _, _, _, _, _, _, _, _, h⟩ => h.elim
def ErrP (X : Cx) (W : WX) (Kx : KnowsX) (e : Exn) : Prop := ∀ I' H' σ' cls d, Kx I' H' σ' d → ExR X.K I' H' e cls d → W cls d σ' H'
theorem err_last {fs : List (Str × V)} {ps : List (Str × Pay)} {I H : Hp} {σ : L2.St} {a dx : Addr} (st : Stt I0 H0 ctx mem I H σ) (hx : ∀ I H σ d, Stt I0 H0 ctx mem I H σ → Fr H0 d → Kx I H σ d) (p : ErrP X W Kx ⟨x, ps⟩) (hp : ps ≠ []) (pr : Paired (fun (p : Str × V) (q : Str × Pay) => p.1 = q.1 ∧ PayR X.K I p.2 q.2) fs ps) (ha : H a = none) (h1 : H dx = none) (h2 : dx ≠ a) {H2 : Hp} (hH2 : ∀ b, b ≠ a → b ≠ dx → H2 b = H b) : W (.ref (ga X.K x)) (some dx) σ (upd (del H2 a) dx (.xd fs)) := by
  have e : upd (del H2 a) dx (.xd fs) = upd H dx (.xd fs) := funext fun b => by
    by_cases hb : b = dx
    · subst hb; rw [upd_same, upd_same]
    · rw [upd_ne hb, upd_ne hb]
      by_cases hb2 : b = a
      · subst hb2
        rw [ha]
        simp [del]
      · have : del H2 a b = H2 b := by simp [del, hb2]
        rw [this, hH2 b hb2 hb]
  rw [e]
  have f1 : Fm I H I (upd H dx (.xd fs)) := Fm.newM st.same h1
  refine p I _ σ _ (some dx) (hx _ _ _ _ (st.step f1) fun q z => by cases z; exact st.fm.h.free h1) ⟨rfl, hp, fs, upd_same, st.same.free h1, pr⟩
theorem raise1_core {m : Res α} {pay : α → Pay} {D : Ends} {I H : Hp} {σ : L2.St} (hc : X.calm = true) (tk : Takes X W) (er : ErR1 X.prog X.w X.K X.mg X.base x f) (hr : Room 2 X.A) (je : JE X I0 H0 W ctx mem e m (rp r)) (pc : ∀ I v y, r I v y → PayR X.K I v (pay y)) (hx : ∀ I H σ d, Stt I0 H0 ctx mem I H σ → Fr H0 d → Kx I H σ d) (st : Stt I0 H0 ctx mem I H σ)
    (p : match m with | .ok y => ErrP X W Kx ⟨x, [(f, pay y)]⟩ | .err ee => ErrP X W Kx ee | .stuck => False) (hg : Gl X x := by rfl) (hdb : (x == ("__debug__" : Str)) = false := by decide) (hs : starEach [e] X.env = (false, eval e X.env) :: starEach [] X.env := by rfl) (hpl : (backTo p3 (starEach [] X.env)).any (·.1) = false := by rfl) :
    wS X (.Raise (some (.Call (.Name x p1) [e] [] p3)) none pos) D σ H := by
  obtain ⟨ev, fd, ps, F1, hb⟩ := er
  refine s_raise hc tk (pmk_oex ev.oex ev.ini ev.tyI F1 hr hb .nil passNo hg ev.gl pa_W hdb hs hpl) ?_
  refine Tr.w_cons (je I H σ _ st ?_) hs
  cases m with
  | ok y =>
    intro I1 H1 v f1 r1
    refine w_nil ⟨by simp, fun q hq => ⟨q, v, rfl, upd_same, fun dx h1 h2 => ⟨rfl, dx, [(f, v)], upd_same, by rw [upd_ne h2, upd_same], by rwa [upd_ne h2] at h1, ?_⟩⟩⟩
    refine err_last (st.step f1) hx p (by simp) (.cons ⟨rfl, pc I1 v y r1⟩ .nil) hq (by rwa [upd_ne h2] at h1) h2 fun b h3 h4 => ?_
    rw [upd_ne h3, upd_ne h4, upd_ne h3]
  | err ee => exact fun I' H' c d f y => p I' H' σ c d (hx _ _ _ _ (st.step f) (y.1.back st.fm.h)) y.2
  | stuck => exact p
theorem raise2_core {m : Res α} {m2 : Res β} {pay : α → Pay} {pay2 : β → Pay} {D : Ends} {I H : Hp} {σ : L2.St} [Mo r] (hc : X.calm = true) (tk : Takes X W) (er : ErR2 X.prog X.w X.K X.mg X.base x f g) (hr : Room 2 X.A) (je : JE X I0 H0 W ctx mem e m (rp r)) (jb : JE X I0 H0 W ctx mem b m2 (rp r2)) (pc : ∀ I v y, r I v y → PayR X.K I v (pay y)) (pc2 : ∀ I v y, r2 I v y → PayR X.K I v (pay2 y)) (hx : ∀ I H σ d, Stt I0 H0 ctx mem I H σ → Fr H0 d → Kx I H σ d) (st : Stt I0 H0 ctx mem I H σ)
    (p : match m with | .ok y => (match m2 with | .ok z => ErrP X W Kx ⟨x, [(g, pay2 z), (f, pay y)]⟩ | .err ee => ErrP X W Kx ee | .stuck => False) | .err ee => ErrP X W Kx ee | .stuck => False) (hg : Gl X x := by rfl) (hdb : (x == ("__debug__" : Str)) = false := by decide) (hs : starEach [e, b] X.env = (false, eval e X.env) :: starEach [b] X.env := by rfl) (hs2 : starEach [b] X.env = (false, eval b X.env) :: starEach [] X.env := by rfl) (hpl : (backTo p3 (starEach [b] X.env)).any (·.1) = false := by rfl) :
    wS X (.Raise (some (.Call (.Name x p1) [e, b] [] p3)) none pos) D σ H := by
  obtain ⟨ev, fd, ps, F1, hb⟩ := er
  refine s_raise hc tk (pmk_oex ev.oex ev.ini ev.tyI F1 hr hb .nil passNo hg ev.gl pa_W hdb hs hpl) ?_
  refine Tr.w_cons (je I H σ _ st ?_) hs
  cases m with
  | ok y =>
    intro I1 H1 v f1 r1
    refine Tr.w_cons (jb I1 H1 σ _ (st.step f1) ?_) hs2
    cases m2 with
    | ok z =>
      intro I2 H2 u f2 r3
      refine w_nil ⟨by simp, fun q hq => ⟨q, v, u, rfl, upd_same, fun dx h1 h2 => ⟨rfl, dx, [(g, u), (f, v)], by rw [upd_ne (Ne.symm h2), upd_same], upd_same, by rwa [upd_ne h2] at h1, ?_⟩⟩⟩
      refine err_last ((st.step f1).step f2) hx p (by simp) (.cons ⟨rfl, pc2 I2 u z r3⟩ (.cons ⟨rfl, pc I2 v y (Mo.up f2.i r1)⟩ .nil)) hq (by rwa [upd_ne h2] at h1) h2 fun b h3 h4 => ?_
      rw [upd_ne h4, upd_ne h3, upd_ne h4, upd_ne h3]
    | err ee => exact fun I' H' c d f y => p I' H' σ c d (hx _ _ _ _ ((st.step f1).step f) (y.1.back (st.step f1).fm.h)) y.2
    | stuck => exact p
  | err ee => exact fun I' H' c d f y => p I' H' σ c d (hx _ _ _ _ (st.step f) (y.1.back st.fm.h)) y.2
  | stuck => exact p
/-! the rules -/
theorem J1.raise1 {m : Res α} {pay : α → Pay} {G' : S → Knows} (hc : X.calm = true) (tk : Takes X W) (er : ErR1 X.prog X.w X.K X.mg X.base x f) (hr : Room 2 X.A) (je : JE X I0 H0 W ctx mem e m (rp r)) (pc : ∀ I v y, r I v y → PayR X.K I v (pay y)) (hx : ∀ I H σ d, Stt I0 H0 ctx mem I H σ → Fr H0 d → Kx I H σ d) (hg : Gl X x := by rfl) (hdb : (x == ("__debug__" : Str)) = false := by decide) (hs : starEach [e] X.env = (false, eval e X.env) :: starEach [] X.env := by rfl) (hpl : (backTo p3 (starEach [] X.env)).any (·.1) = false := by rfl) :
    J1 X W Kx (Stt I0 H0 ctx mem) (.Raise (some (.Call (.Name x p1) [e] [] p3)) none pos) (m.bind fun y => (.err ⟨x, [(f, pay y)]⟩ : Res S)) G' := fun I H σ D st p => by
  refine raise1_core hc tk er hr je pc hx st ?_ hg hdb hs hpl
  cases m with
  | ok y => exact p
  | err ee => exact p
  | stuck => exact p
theorem JN.raise1 {m : Res α} {pay : α → Pay} {G' : S → Knows} (hc : X.calm = true) (tk : Takes X W) (er : ErR1 X.prog X.w X.K X.mg X.base x f) (hr : Room 2 X.A) (je : JE X I0 H0 W ctx mem e m (rp r)) (pc : ∀ I v y, r I v y → PayR X.K I v (pay y)) (hx : ∀ I H σ d, Stt I0 H0 ctx mem I H σ → Fr H0 d → Kx I H σ d) (hg : Gl X x := by rfl) (hdb : (x == ("__debug__" : Str)) = false := by decide) (hs : starEach [e] X.env = (false, eval e X.env) :: starEach [] X.env := by rfl) (hpl : (backTo p3 (starEach [] X.env)).any (·.1) = false := by rfl) :
    JN X W Kx (Stt I0 H0 ctx mem) (.Raise (some (.Call (.Name x p1) [e] [] p3)) none pos :: ss) (m.bind fun y => (.err ⟨x, [(f, pay y)]⟩ : Res S)) G' := fun I H σ D st p => by
  refine b_cons (raise1_core hc tk er hr je pc hx st ?_ hg hdb hs hpl)
  cases m with
  | ok y => exact p
  | err ee => exact p
  | stuck => exact p
theorem JR.raise1 {m : Res α} {pay : α → Pay} (hc : X.calm = true) (tk : Takes X W) (er : ErR1 X.prog X.w X.K X.mg X.base x f) (hr : Room 2 X.A) (je : JE X I0 H0 W ctx mem e m (rp r)) (pc : ∀ I v y, r I v y → PayR X.K I v (pay y)) (hx : ∀ I H σ d, Stt I0 H0 ctx mem I H σ → Fr H0 d → Kx I H σ d) (hg : Gl X x := by rfl) (hdb : (x == ("__debug__" : Str)) = false := by decide) (hs : starEach [e] X.env = (false, eval e X.env) :: starEach [] X.env := by rfl) (hpl : (backTo p3 (starEach [] X.env)).any (·.1) = false := by rfl) :
    JR X I0 H0 W Kx (Stt I0 H0 ctx mem) (.Raise (some (.Call (.Name x p1) [e] [] p3)) none pos :: ss) (m.bind fun y => (.err ⟨x, [(f, pay y)]⟩ : Res γ)) rr := fun I H σ D st p => by
  refine b_cons (raise1_core hc tk er hr je pc hx st ?_ hg hdb hs hpl)
  cases m with
  | ok y => exact p
  | err ee => exact p
  | stuck => exact p
theorem J1.raise2 {m : Res α} {m2 : Res β} {pay : α → Pay} {pay2 : β → Pay} {G' : S → Knows} [Mo r] (hc : X.calm = true) (tk : Takes X W) (er : ErR2 X.prog X.w X.K X.mg X.base x f g) (hr : Room 2 X.A) (je : JE X I0 H0 W ctx mem e m (rp r)) (jb : JE X I0 H0 W ctx mem b m2 (rp r2)) (pc : ∀ I v y, r I v y → PayR X.K I v (pay y)) (pc2 : ∀ I v y, r2 I v y → PayR X.K I v (pay2 y)) (hx : ∀ I H σ d, Stt I0 H0 ctx mem I H σ → Fr H0 d → Kx I H σ d) (hg : Gl X x := by rfl) (hdb : (x == ("__debug__" : Str)) = false := by decide) (hs : starEach [e, b] X.env = (false, eval e X.env) :: starEach [b] X.env := by rfl) (hs2 : starEach [b] X.env = (false, eval b X.env) :: starEach [] X.env := by rfl) (hpl : (backTo p3 (starEach [b] X.env)).any (·.1) = false := by rfl) :
    J1 X W Kx (Stt I0 H0 ctx mem) (.Raise (some (.Call (.Name x p1) [e, b] [] p3)) none pos) (m.bind fun y => m2.bind fun z => (.err ⟨x, [(g, pay2 z), (f, pay y)]⟩ : Res S)) G' := fun I H σ D st p => by
  refine raise2_core hc tk er hr je jb pc pc2 hx st ?_ hg hdb hs hs2 hpl
  cases m with
  | ok y => cases m2 with
    | ok z => exact p
    | err ee => exact p
    | stuck => exact p
  | err ee => exact p
  | stuck => exact p
theorem JN.raise2 {m : Res α} {m2 : Res β} {pay : α → Pay} {pay2 : β → Pay} {G' : S → Knows} [Mo r] (hc : X.calm = true) (tk : Takes X W) (er : ErR2 X.prog X.w X.K X.mg X.base x f g) (hr : Room 2 X.A) (je : JE X I0 H0 W ctx mem e m (rp r)) (jb : JE X I0 H0 W ctx mem b m2 (rp r2)) (pc : ∀ I v y, r I v y → PayR X.K I v (pay y)) (pc2 : ∀ I v y, r2 I v y → PayR X.K I v (pay2 y)) (hx : ∀ I H σ d, Stt I0 H0 ctx mem I H σ → Fr H0 d → Kx I H σ d) (hg : Gl X x := by rfl) (hdb : (x == ("__debug__" : Str)) = false := by decide) (hs : starEach [e, b] X.env = (false, eval e X.env) :: starEach [b] X.env := by rfl) (hs2 : starEach [b] X.env = (false, eval b X.env) :: starEach [] X.env := by rfl) (hpl : (backTo p3 (starEach [b] X.env)).any (·.1) = false := by rfl) :
    JN X W Kx (Stt I0 H0 ctx mem) (.Raise (some (.Call (.Name x p1) [e, b] [] p3)) none pos :: ss) (m.bind fun y => m2.bind fun z => (.err ⟨x, [(g, pay2 z), (f, pay y)]⟩ : Res S)) G' := fun I H σ D st p => by
  refine b_cons (raise2_core hc tk er hr je jb pc pc2 hx st ?_ hg hdb hs hs2 hpl)
  cases m with
  | ok y => cases m2 with
    | ok z => exact p
    | err ee => exact p
    | stuck => exact p
  | err ee => exact p
  | stuck => exact p
theorem JR.raise2 {m : Res α} {m2 : Res β} {pay : α → Pay} {pay2 : β → Pay} [Mo r] (hc : X.calm = true) (tk : Takes X W) (er : ErR2 X.prog X.w X.K X.mg X.base x f g) (hr : Room 2 X.A) (je : JE X I0 H0 W ctx mem e m (rp r)) (jb : JE X I0 H0 W ctx mem b m2 (rp r2)) (pc : ∀ I v y, r I v y → PayR X.K I v (pay y)) (pc2 : ∀ I v y, r2 I v y → PayR X.K I v (pay2 y)) (hx : ∀ I H σ d, Stt I0 H0 ctx mem I H σ → Fr H0 d → Kx I H σ d) (hg : Gl X x := by rfl) (hdb : (x == ("__debug__" : Str)) = false := by decide) (hs : starEach [e, b] X.env = (false, eval e X.env) :: starEach [b] X.env := by rfl) (hs2 : starEach [b] X.env = (false, eval b X.env) :: starEach [] X.env := by rfl) (hpl : (backTo p3 (starEach [b] X.env)).any (·.1) = false := by rfl) :
    JR X I0 H0 W Kx (Stt I0 H0 ctx mem) (.Raise (some (.Call (.Name x p1) [e, b] [] p3)) none pos :: ss) (m.bind fun y => m2.bind fun z => (.err ⟨x, [(g, pay2 z), (f, pay y)]⟩ : Res γ)) rr := fun I H σ D st p => by
  refine b_cons (raise2_core hc tk er hr je jb pc pc2 hx st ?_ hg hdb hs hs2 hpl)
  cases m with
  | ok y => cases m2 with
    | ok z => exact p
    | err ee => exact p
    | stuck => exact p
  | err ee => exact p
  | stuck => exact p
theorem pay_int {K : PySem.W.Frag} : ∀ I v y, rInt I v y → PayR K I v (.int y) := fun _ _ _ h => h
theorem pay_str {K : PySem.W.Frag} : ∀ I v y, rStr I v y → PayR K I v (.str y) := fun _ _ _ h => h
theorem pay_frac {K : PySem.W.Frag} : ∀ I v y, rFrac K I v y → PayR K I v (.frac y) := fun _ _ _ h => h
def payN : Num → Pay
  | .i n => .int n
  | .q q => .frac q
theorem pay_num {K : PySem.W.Frag} : ∀ I v y, rNum K I v y → PayR K I v (payN y) := fun I v y h => by
  cases y with
  | i n => exact h
  | q q => exact h
/-! ### try, in any flow -/
def tryG (m : Res (Fl S L γ)) (Ls : List (Str × Bool)) (h : Exn → Res (Fl S L γ)) : Res (Fl S L γ) := match m with
  | .ok s => .ok s
  | .err e => (match Ls.lookup e.cls with
    | some true => (match h e with
      | .ok y => .ok y
      | _ => .stuck)
    | some false => .err e
    | none => .stuck)
  | .stuck => .stuck
/-- a region that holds nothing but the frozen heap's history -/
def MF.same (I1 : Hp) : MF := ⟨fun I _ fp => fp = [] ∧ Same I1 I, fun s ⟨e, h⟩ => ⟨e, h.trans s⟩, fun _ h => h⟩
theorem Regs.snoc {I H : Hp} {c : MF} : ∀ {mem : List MF} {fps : List (List Addr)} {fp : List Addr}, Regs I H mem fps → c.Q I H fp → Regs I H (mem ++ [c]) (fps ++ [fp])
  | [], [], _, _, h => ⟨h, True.intro⟩
  | _ :: _, _ :: _, _, ⟨a, b⟩, h => ⟨a, Regs.snoc b h⟩
  | [], _ :: _, _, h, _ => h.elim
  | _ :: _, [], _, h, _ => h.elim
theorem Regs.unsnoc {I H : Hp} {c : MF} : ∀ {mem : List MF} {fps : List (List Addr)}, Regs I H (mem ++ [c]) fps → ∃ fps0 fp, fps = fps0 ++ [fp] ∧ Regs I H mem fps0 ∧ c.Q I H fp
  | [], [fp], ⟨h, _⟩ => ⟨[], fp, rfl, True.intro, h⟩
  | [], [], h => h.elim
  | [], _ :: _ :: _, ⟨_, h⟩ => h.elim
  | _ :: _, q :: _, ⟨a, b⟩ => by
    obtain ⟨fps0, fp, e, r, h⟩ := Regs.unsnoc b
    exact ⟨q :: fps0, fp, by rw [e]; rfl, ⟨a, r⟩, h⟩
  | _ :: _, [], h => h.elim
theorem Stt.ghost {I H : Hp} {σ : L2.St} (s : Stt I0 H0 ctx mem I H σ) : Stt I0 H0 ctx (mem ++ [MF.same I]) I H σ := by
  obtain ⟨fps, rg, nd, k⟩ := s.me
  have e : (fps ++ [[]]).flatten = fps.flatten := by simp
  exact ⟨s.fm, s.len, s.sl, fps ++ [[]], rg.snoc ⟨rfl, Same.refl _⟩, by rw [e]; exact nd, fun a ha => k a (by rwa [e] at ha)⟩
theorem Stt.ungh {I1 I H : Hp} {σ : L2.St} (s : Stt I0 H0 ctx (mem ++ [MF.same I1]) I H σ) : Same I1 I ∧ Stt I0 H0 ctx mem I H σ := by
  obtain ⟨fps, rg, nd, k⟩ := s.me
  obtain ⟨fps0, fp, e, r, e2, h⟩ := rg.unsnoc
  subst e2; subst e
  have e : (fps0 ++ [[]]).flatten = fps0.flatten := by simp
  rw [e] at nd k
  exact ⟨h, s.fm, s.len, s.sl, fps0, r, nd, k⟩
theorem J1G.tryAs (i : Nat) {cv : Value} {Ls : List (Str × Bool)} {mb : Res (Fl S L γ)} {G' : S → Knows} {GL : L → Knows} {mh : Exn → Res (Fl S L γ)} {me' : Hp → List MF} (tk : Takes X W)
    (jb : ∀ (W' : WX) (pn : List (Addr × Obj)) (xe : Value → Shared → Prop) (I1 : Hp), Takes (X.tr pn xe) W' → PassesOwn (model X.prog X.w) X.A X.env xe → JG (X.tr pn xe) I0 H0 W' (fun I H σ d => Stt I0 H0 cw (me' I1) I H σ ∧ Fr H0 d) (Stt I0 H0 ctx (me' I1)) body mb G' GL rr)
    (js : ∀ (a : Addr) (oe : Obj) (ee : Exn) (d : Option Addr) (pn : List (Addr × Obj)), Zc (.ref (He.ga X.K ee.cls)) d oe → (∃ vs, oe.data = .fields vs) → (ee.cls, true) ∈ Ls → (d = none → ee.pay = []) → (∀ q, d = some q → ee.pay ≠ []) → JG (X.suite a ((a, oe) :: pn)) I0 H0 (fun _ _ _ _ => False) (fun _ _ _ _ => True) (Stt I0 H0 (cw.set i (some ⟨rExc a, ()⟩)) (exm X.K d ee ++ mem)) (b₀ :: suite) (mh ee) (fun s I H σ => G' s I H (σ.set i none)) (fun s I H σ => GL s I H (σ.set i none)) rr)
    (hL : ∀ y b, (y, b) ∈ Ls → PySem.W.exmOne X.K (.ref (He.ga X.K y)) cv = some b) (hc : Names X x cv) (hx : ∀ I H σ d, Stt I0 H0 cw mem I H σ → Fr H0 d → Kx I H σ d) (hN : X.N.Nodup) (hme : ∀ I1, me' I1 = mem ++ [MF.same I1] := by intro _; rfl)
    (hs : X.stack = X.env :: X.outer := by rfl) (hf : X.env.frame = some X.env.locals := by rfl) (hi : X.N[i]? = some n := by rfl) (hln : X.env.kindOf n = some .local := by rfl) (hmx : NoXd mem := by exact True.intro) :
    J1G X I0 H0 W Kx (Stt I0 H0 ctx mem) (.Try body [.ExceptHandler (some (.Name x np)) (some n) (b₀ :: suite) pos'] [] [] pos) (tryG mb Ls mh) G' GL rr := fun I H σ D g p => by
  refine PS.w (ps_try_as (i := i) (tb := fun W' D σ H => ∀ pn xe, Takes (X.tr pn xe) W' → PassesOwn (model X.prog X.w) X.A X.env xe → wB (X.tr pn xe) body D σ H) (ts := fun a cls d D σ H => ∀ oe pn, Zc cls d oe → (∃ vs, oe.data = .fields vs) → wB (X.suite a ((a, oe) :: pn)) (b₀ :: suite) D σ H) hs hf hN hi hln hc tk
    (fun W' pn xe t1 t2 => ⟨fun pins s σ H D Iv h => h pn xe t1 t2 pins s Iv⟩) (fun a oe cls d pn hz hf => ⟨fun pins s σ H D Iv h => h oe pn hz hf pins s Iv⟩)) ?_
  intro pn xe t1 t2
  refine jb _ pn xe I t1 t2 I H σ _ (by rw [hme]; exact g.ghost) ?_
  cases mb with
  | ok r =>
    cases r with
    | nx s => exact p
    | bk s => exact p
    | ct s => exact p
    | rt y => exact p
  | stuck => exact p.elim
  | err ee =>
    intro I' H' σ' cls d hk hxr
    obtain ⟨g0, fr⟩ := hk
    rw [hme] at g0
    obtain ⟨sm, g1⟩ := g0.ungh
    obtain ⟨ec, hxr2⟩ := id hxr
    have p1 : PostG X I0 H0 W Kx I (match Ls.lookup ee.cls with
      | some true => (match mh ee with
        | .ok y => .ok y
        | _ => .stuck)
      | some false => .err ee
      | none => .stuck) G' GL rr D := p
    cases hl : Ls.lookup ee.cls with
    | none => rw [hl] at p1; exact p1.elim
    | some bb =>
      rw [hl] at p1
      refine ⟨bb, by rw [ec]; exact hL _ _ (lookup_mem hl), fun hb a ha oe pn' hz hf' => ?_, fun hb => ?_⟩
      · subst hb
        rw [ec] at hz
        refine js a oe ee d pn' hz hf' (lookup_mem hl) (fun z => by subst z; exact hxr2) (fun q z => by subst z; exact hxr2.1) I' H' _ _ ((g1.set i (r := rExc a) (x := ()) rfl).exm fr hxr hmx) ?_
        have p2 : PostG X I0 H0 W Kx I (match mh ee with
          | .ok y => .ok y
          | _ => .stuck) G' GL rr D := p1
        revert p2
        generalize mh ee = z
        intro p2
        cases z with
        | ok y =>
          cases y with
          | nx s => exact fun I2 H2 σ2 s2 q => p2 I2 H2 _ (sm.trans s2) q
          | bk s => exact fun I2 H2 σ2 s2 q => p2 I2 H2 _ (sm.trans s2) q
          | ct s => exact fun I2 H2 σ2 s2 q => p2 I2 H2 _ (sm.trans s2) q
          | rt y => exact p2
        | err _ => exact p2.elim
        | stuck => exact p2.elim
      · subst hb
        exact p1 I' H' σ' cls d (hx _ _ _ _ g1 fr) hxr
theorem J1G.tryOnly {cv : Value} {Ls : List (Str × Bool)} {mb : Res (Fl S L γ)} {G' : S → Knows} {GL : L → Knows} {mh : Exn → Res (Fl S L γ)} {me' : Hp → List MF} (tk : Takes X W)
    (jb : ∀ (W' : WX) (pn : List (Addr × Obj)) (xe : Value → Shared → Prop) (I1 : Hp), Takes (X.tr pn xe) W' → PassesOwn (model X.prog X.w) X.A X.env xe → JG (X.tr pn xe) I0 H0 W' (fun I H σ d => Stt I0 H0 cw (me' I1) I H σ ∧ Fr H0 d) (Stt I0 H0 ctx (me' I1)) body mb G' GL rr)
    (js : ∀ (a : Addr) (oe : Obj) (ee : Exn) (d : Option Addr) (pn : List (Addr × Obj)), (ee.cls, true) ∈ Ls → JG (X.suite a ((a, oe) :: pn)) I0 H0 (fun _ _ _ _ => False) (fun _ _ _ _ => True) (Stt I0 H0 cw mem) (b₀ :: suite) (mh ee) G' GL rr)
    (hL : ∀ y b, (y, b) ∈ Ls → PySem.W.exmOne X.K (.ref (He.ga X.K y)) cv = some b) (hc : Names X x cv) (hx : ∀ I H σ d, Stt I0 H0 cw mem I H σ → Fr H0 d → Kx I H σ d) (hme : ∀ I1, me' I1 = mem ++ [MF.same I1] := by intro _; rfl)
    (hs : X.stack = X.env :: X.outer := by rfl) (hf : X.env.frame = some X.env.locals := by rfl) :
    J1G X I0 H0 W Kx (Stt I0 H0 ctx mem) (.Try body [.ExceptHandler (some (.Name x np)) none (b₀ :: suite) pos'] [] [] pos) (tryG mb Ls mh) G' GL rr := fun I H σ D g p => by
  refine PS.w (ps_try_only (tb := fun W' D σ H => ∀ pn xe, Takes (X.tr pn xe) W' → PassesOwn (model X.prog X.w) X.A X.env xe → wB (X.tr pn xe) body D σ H) (ts := fun a cls d D σ H => ∀ oe pn, Zc cls d oe → (∃ vs, oe.data = .fields vs) → wB (X.suite a ((a, oe) :: pn)) (b₀ :: suite) D σ H) hs hf hc tk
    (fun W' pn xe t1 t2 => ⟨fun pins s σ H D Iv h => h pn xe t1 t2 pins s Iv⟩) (fun a oe cls d pn hz hf => ⟨fun pins s σ H D Iv h => h oe pn hz hf pins s Iv⟩)) ?_
  intro pn xe t1 t2
  refine jb _ pn xe I t1 t2 I H σ _ (by rw [hme]; exact g.ghost) ?_
  cases mb with
  | ok r =>
    cases r with
    | nx s => exact p
    | bk s => exact p
    | ct s => exact p
    | rt y => exact p
  | stuck => exact p.elim
  | err ee =>
    intro I' H' σ' cls d hk hxr
    obtain ⟨g0, fr⟩ := hk
    rw [hme] at g0
    obtain ⟨sm, g1⟩ := g0.ungh
    obtain ⟨ec, hxr2⟩ := id hxr
    have p1 : PostG X I0 H0 W Kx I (match Ls.lookup ee.cls with
      | some true => (match mh ee with
        | .ok y => .ok y
        | _ => .stuck)
      | some false => .err ee
      | none => .stuck) G' GL rr D := p
    cases hl : Ls.lookup ee.cls with
    | none => rw [hl] at p1; exact p1.elim
    | some bb =>
      rw [hl] at p1
      refine ⟨bb, by rw [ec]; exact hL _ _ (lookup_mem hl), fun hb a ha oe pn' hz hf' => ?_, fun hb => ?_⟩
      · subst hb
        refine js a oe ee d pn' (lookup_mem hl) I' H' _ _ g1 ?_
        have p2 : PostG X I0 H0 W Kx I (match mh ee with
          | .ok y => .ok y
          | _ => .stuck) G' GL rr D := p1
        revert p2
        generalize mh ee = z
        intro p2
        cases z with
        | ok y =>
          cases y with
          | nx s => exact fun I2 H2 σ2 s2 q => p2 I2 H2 _ (sm.trans s2) q
          | bk s => exact fun I2 H2 σ2 s2 q => p2 I2 H2 _ (sm.trans s2) q
          | ct s => exact fun I2 H2 σ2 s2 q => p2 I2 H2 _ (sm.trans s2) q
          | rt y => exact p2
        | err _ => exact p2.elim
        | stuck => exact p2.elim
      · subst hb
        exact p1 I' H' σ' cls d (hx _ _ _ _ g1 fr) hxr
/-! with a payload of one field -/
def pay1 {δ : Type} (f : Str) (dp : Pay → Option α) (h : α → Res δ) (ps : List (Str × Pay)) : Res δ := match ps with
  | [(g, p)] => if g = f then (match dp p with
    | some y => h y
    | none => .stuck) else .stuck
  | _ => .stuck
def dInt : Pay → Option Int
  | .int n => some n
  | _ => none
def dStr : Pay → Option Str
  | .str n => some n
  | _ => none
def dFrac : Pay → Option Rat
  | .frac n => some n
  | _ => none
def dNum : Pay → Option Num
  | .int n => some (.i n)
  | .frac q => some (.q q)
  | _ => none
class PayD (K : PySem.W.Frag) (dp : Pay → Option α) (r : Rp α) : Prop where
  ok : ∀ I v p y, PayR K I v p → dp p = some y → r I v y
instance {K : PySem.W.Frag} : PayD K dInt rInt := ⟨fun I v p y h e => by cases p <;> first | (cases e; exact h) | cases e⟩
instance {K : PySem.W.Frag} : PayD K dStr rStr := ⟨fun I v p y h e => by cases p <;> first | (cases e; exact h) | cases e⟩
instance {K : PySem.W.Frag} : PayD K dFrac (rFrac K) := ⟨fun I v p y h e => by cases p <;> first | (cases e; exact h) | cases e⟩
instance {K : PySem.W.Frag} : PayD K dNum (rNum K) := ⟨fun I v p y h e => by cases p <;> first | (cases e; exact h) | cases e⟩
theorem J1G.tryAs1 (i : Nat) (f : Str) (dp : Pay → Option α) {c0 : Str} {cv : Value} {Ls : List (Str × Bool)} {mb : Res (Fl S L γ)} {G' : S → Knows} {GL : L → Knows} {mh : α → Res (Fl S L γ)} {me' : Hp → List MF} (tk : Takes X W)
    (jb : ∀ (W' : WX) (pn : List (Addr × Obj)) (xe : Value → Shared → Prop) (I1 : Hp), Takes (X.tr pn xe) W' → PassesOwn (model X.prog X.w) X.A X.env xe → JG (X.tr pn xe) I0 H0 W' (fun I H σ d => Stt I0 H0 cw (me' I1) I H σ ∧ Fr H0 d) (Stt I0 H0 ctx (me' I1)) body mb G' GL rr)
    (js : ∀ (a : Addr) (oe : Obj) (dd : Addr) (pn : List (Addr × Obj)) (p : Pay) (y : α), Zc (.ref (He.ga X.K c0)) (some dd) oe → (∃ vs, oe.data = .fields vs) → dp p = some y → JG (X.suite a ((a, oe) :: pn)) I0 H0 (fun _ _ _ _ => False) (fun _ _ _ _ => True) (Stt I0 H0 (cw.set i (some ⟨rExc a, ()⟩)) (MF.xd X.K dd [(f, p)] :: mem)) (b₀ :: suite) (mh y) (fun s I H σ => G' s I H (σ.set i none)) (fun s I H σ => GL s I H (σ.set i none)) rr)
    (hcl : ∀ c, (c, true) ∈ Ls → c = c0) (hL : ∀ y b, (y, b) ∈ Ls → PySem.W.exmOne X.K (.ref (He.ga X.K y)) cv = some b) (hc : Names X x cv) (hx : ∀ I H σ d, Stt I0 H0 cw mem I H σ → Fr H0 d → Kx I H σ d) (hN : X.N.Nodup) (hme : ∀ I1, me' I1 = mem ++ [MF.same I1] := by intro _; rfl)
    (hs : X.stack = X.env :: X.outer := by rfl) (hf : X.env.frame = some X.env.locals := by rfl) (hi : X.N[i]? = some n := by rfl) (hln : X.env.kindOf n = some .local := by rfl) (hmx : NoXd mem := by exact True.intro) :
    J1G X I0 H0 W Kx (Stt I0 H0 ctx mem) (.Try body [.ExceptHandler (some (.Name x np)) (some n) (b₀ :: suite) pos'] [] [] pos) (tryG mb Ls (fun ee => pay1 f dp mh ee.pay)) G' GL rr := by
  refine J1G.tryAs i tk jb (fun a oe ee d pn hz hf' hm h0 h1 => ?_) hL hc hx hN hme hs hf hi hln hmx
  rw [hcl _ hm] at hz
  obtain ⟨ec, ep⟩ := ee
  dsimp only at h0 h1 ⊢
  cases ep with
  | nil => exact JG.dead
  | cons q ep =>
    cases ep with
    | cons _ _ => exact JG.dead
    | nil =>
      obtain ⟨g, p⟩ := q
      unfold pay1
      dsimp only
      by_cases hg : g = f
      · rw [if_pos hg]
        subst hg
        cases hd : dp p with
        | none => exact JG.dead
        | some y =>
          cases d with
          | none => cases h0 rfl
          | some dd => exact js a oe dd pn p y hz hf' hd
      · rw [if_neg hg]; exact JG.dead
theorem J1G.tryAs0 (i : Nat) {c0 : Str} {cv : Value} {Ls : List (Str × Bool)} {mb : Res (Fl S L γ)} {G' : S → Knows} {GL : L → Knows} {mh : Res (Fl S L γ)} {me' : Hp → List MF} (tk : Takes X W)
    (jb : ∀ (W' : WX) (pn : List (Addr × Obj)) (xe : Value → Shared → Prop) (I1 : Hp), Takes (X.tr pn xe) W' → PassesOwn (model X.prog X.w) X.A X.env xe → JG (X.tr pn xe) I0 H0 W' (fun I H σ d => Stt I0 H0 cw (me' I1) I H σ ∧ Fr H0 d) (Stt I0 H0 ctx (me' I1)) body mb G' GL rr)
    (js : ∀ (a : Addr) (oe : Obj) (pn : List (Addr × Obj)), Zc (.ref (He.ga X.K c0)) none oe → (∃ vs, oe.data = .fields vs) → JG (X.suite a ((a, oe) :: pn)) I0 H0 (fun _ _ _ _ => False) (fun _ _ _ _ => True) (Stt I0 H0 (cw.set i (some ⟨rExc a, ()⟩)) mem) (b₀ :: suite) mh (fun s I H σ => G' s I H (σ.set i none)) (fun s I H σ => GL s I H (σ.set i none)) rr)
    (hcl : ∀ c, (c, true) ∈ Ls → c = c0) (hL : ∀ y b, (y, b) ∈ Ls → PySem.W.exmOne X.K (.ref (He.ga X.K y)) cv = some b) (hc : Names X x cv) (hx : ∀ I H σ d, Stt I0 H0 cw mem I H σ → Fr H0 d → Kx I H σ d) (hN : X.N.Nodup) (hme : ∀ I1, me' I1 = mem ++ [MF.same I1] := by intro _; rfl)
    (hs : X.stack = X.env :: X.outer := by rfl) (hf : X.env.frame = some X.env.locals := by rfl) (hi : X.N[i]? = some n := by rfl) (hln : X.env.kindOf n = some .local := by rfl) (hmx : NoXd mem := by exact True.intro) :
    J1G X I0 H0 W Kx (Stt I0 H0 ctx mem) (.Try body [.ExceptHandler (some (.Name x np)) (some n) (b₀ :: suite) pos'] [] [] pos) (tryG mb Ls (fun ee => if ee.pay.isEmpty = true then mh else .stuck)) G' GL rr := by
  refine J1G.tryAs i tk jb (fun a oe ee d pn hz hf' hm h0 h1 => ?_) hL hc hx hN hme hs hf hi hln hmx
  rw [hcl _ hm] at hz
  obtain ⟨ec, ep⟩ := ee
  dsimp only at h0 h1 ⊢
  cases ep with
  | cons _ _ => exact JG.dead
  | nil =>
    cases d with
    | some dd => exact absurd rfl (h1 dd rfl)
    | none => exact js a oe pn hz hf'
/-- a field of the error in hand -/
theorem JE.xfld (i j : Nat) {ad dd : Addr} {oe : Obj} {pn : List (Addr × Obj)} {c0 : Str} {ps : List (Str × Pay)} {p : Pay} {y : α} {dp : Pay → Option α} [pd : PayD X.K dp r] (hz : Zc (.ref (He.ga X.K c0)) (some dd) oe) (hf : ∃ vs, oe.data = .fields vs) (ev : XfC X.K (He.ga X.K c0)) (hno : PySem.W.findIn X.K (.ref (He.ga X.K c0)) f = some none) (hd : dp p = some y) (hl : ps.lookup f = some p) (je : JE (X.suite ad ((ad, oe) :: pn)) I0 H0 W ctx mem a (.ok ()) (rp (rExc ad))) (hj : mem[j]? = some (MF.xd X.K dd ps) := by rfl) (hab : attributeBase a f X.env (eval a X.env) = eval a X.env := by rfl) :
    JE (X.suite ad ((ad, oe) :: pn)) I0 H0 W ctx mem (.Attribute a f pos) (.ok y) (rp r) := fun I H σ Q st q => by
  refine PE.w (pe_xf ev hno hz hf pe_W hab) (je I H σ _ st ?_)
  intro I1 H1 v f1 r1
  have ev1 : v = .ref ad := r1
  obtain ⟨_, _, o, h1, fs, e1, pr⟩ := (st.step f1).me1 (P := fun I o => ∃ fs, o = .xd fs ∧ Paired (fun (p : Str × V) (q : Str × Pay) => p.1 = q.1 ∧ PayR X.K I p.2 q.2) fs ps) hj fun q => q
  subst e1
  have look : ∀ {fs : List (Str × V)} {ps : List (Str × Pay)}, Paired (fun (p : Str × V) (q : Str × Pay) => p.1 = q.1 ∧ PayR X.K I1 p.2 q.2) fs ps → ps.lookup f = some p → ∃ v, fs.lookup f = some v ∧ PayR X.K I1 v p := by
    intro fs ps h
    induction h with
    | nil => intro h; cases h
    | @cons u w us ws hh ht ih =>
      intro hl
      obtain ⟨u1, u2⟩ := u
      obtain ⟨w1, w2⟩ := w
      obtain ⟨e, hp⟩ := hh
      dsimp only at e hp
      subst e
      have hl' : (match f == u1 with | true => some w2 | false => ws.lookup f) = some p := hl
      show ∃ v, (match f == u1 with | true => some u2 | false => us.lookup f) = some v ∧ _
      cases hb : f == u1 with
      | true => rw [hb] at hl'; cases hl'; exact ⟨u2, rfl, hp⟩
      | false => rw [hb] at hl'; exact ih hl'
  obtain ⟨z, hz1, hz2⟩ := look pr hl
  exact ⟨ev1, rfl, dd, fs, z, rfl, h1, hz1, q I1 H1 z f1 (pd.ok I1 z p y hz2 hd)⟩
theorem tyr_listH {K : PySem.W.Frag} {t : String} {g : Bool} (h : kitB "list" t = some g) : TyR K (rH r) (.type t) (fun _ => g) := fun I H v x s ⟨l, vs, e, hl, _⟩ => ⟨.type "list", by rw [e]; exact .base (.lst hl), kit_ty h⟩
theorem FnOk.froz {P : Program} {w : World} {K : PySem.W.Frag} {mg : Str → Option Value} {base : Heap} {CX : CXT} {k : Nat} {fl : Addr} {fd : FuncData} {ps : List Str} {R : Hp → Hp → List V → δ → Prop} {m : δ → Res (List α)} [mo : Mo r] (F : FnOk P w K mg base CX k fl fd ps (spN K R m r)) : FnOk P w K mg base CX k fl fd ps (spF K R m (rp (rL r))) := by
  have conv : ∀ {vs H Q E}, spF K R m (rp (rL r)) vs H Q E → spN K R m r vs H Q E := fun {vs H Q E} ⟨I, d, sm, h, p⟩ => ⟨I, d, sm, h, by
    revert p
    generalize m d = z
    intro p
    cases z with
    | ok xs =>
      intro I1 H1 v f hn
      obtain ⟨l, vs, e, hl, hI, h1, pr⟩ := hn
      obtain ⟨f2, sm⟩ := f.ice hl hI h1
      subst e
      exact p _ H1 _ f2 ⟨l, vs, rfl, upd_same, Paired.mapP pr fun _ _ z => mo.up sm z⟩
    | err e => exact p
    | stuck => exact p⟩
  exact ⟨fun vs H Q E h => F.len vs H Q E (conv h), fun A outer s H args us vs Q E hr e0 b v h => F.run A outer s H args us vs Q E hr e0 b v (conv h)⟩
end
end L2.Tr

namespace L2.Tr
open PySem PySem.Spec PyProof.Rows He
section
variable {α β γ δ S L : Type} {X : Cx} {I0 H0 I H : Hp} {W : WX} {Kx : KnowsX} {G : Knows} {ctx : List (Option SF)} {mem : List MF} {e a b c o : Expr} {es : List Expr} {st : Stmt} {ss s1 : List Stmt} {pos pos' p2 : Pos} {n : Str} {σ : St} {Q : VK} {r : Rp α} {ra : Ra α} {rb : Ra β} {rc : Ra γ} {rr : Ra γ} {ma : Res α} {mb : Res β} {mc : Res Bool} {md : Res δ} {R : Hp → Hp → List V → δ → Prop} {K : PySem.W.Frag}
/-! ### num != num -/
theorem opj_nnN {f : Rat × Num × Unit → Res Bool} {F : Value → Value → Sem Value} (h1 : OpJ X W F (rp rInt) (rp rInt) (fun x y => .ok (!decide (x = y))) (rp rBl)) (h2 : OpJ X W F (rp rInt) (rp (rFrac X.K)) (fun x y => (f (y, .i x, ())).bind fun z => .ok (!z)) (rp rBl)) (h3 : OpJ X W F (rp (rFrac X.K)) (rp (rFrac X.K)) (fun x y => (f (x, .q y, ())).bind fun z => .ok (!z)) (rp rBl)) (h4 : OpJ X W F (rp (rFrac X.K)) (rp rInt) (fun x y => (f (x, .i y, ())).bind fun z => .ok (!z)) (rp rBl)) :
    OpJ X W F (rp (rNum X.K)) (rp (rNum X.K)) (fun x y => (nnEq f x y).bind fun z => .ok (!z)) (rp rBl) := fun I H σ Q u v x y s a b p => by
  cases x with
  | i n =>
    cases y with
    | i m => exact h1 I H σ Q u v n m s a b p
    | q m => exact h2 I H σ Q u v n m s a b p
  | q n =>
    cases y with
    | i m => exact h4 I H σ Q u v n m s a b p
    | q m => exact h3 I H σ Q u v n m s a b p
/-! ### lists of pairs of ints: == and != -/
abbrev rPr : Rp (Int × Int × Unit) := rTu (aCons (rp rInt) (aCons (rp rInt) aNil))
def prD2 (p : Int × Int × Unit) : PyData := .tuple [.int p.1, .int p.2.1]
theorem dpAll_prs {I H : Hp} (sm : Same I H) : ∀ {vs : List V} {xs : List (Int × Int × Unit)}, Paired (rp rPr I H) vs xs → DpAll K H vs (xs.map prD2)
  | _, _, .nil => .nil
  | _, _, .cons h t => .cons (by
      obtain ⟨l, ws, rfl, hl, v1, w1, rfl, h1, v2, w2, rfl, h2, rfl⟩ := h
      cases (show v1 = V.int _ from h1)
      cases (show v2 = V.int _ from h2)
      exact .tup (SqT.of (sm _ _ hl)) (.cons (.int _) (.cons (.int _) .nil))) (dpAll_prs sm t)
theorem eqvAll_prs : ∀ xs ys : List (Int × Int × Unit), PyData.eqvAll (xs.map prD2) (ys.map prD2) = decide (xs = ys)
  | [], [] => rfl
  | [], _ :: _ => rfl
  | _ :: _, [] => rfl
  | x :: xs, y :: ys => by
    show (PyData.eqv (prD2 x) (prD2 y) && PyData.eqvAll (xs.map prD2) (ys.map prD2)) = _
    rw [eqvAll_prs xs ys]
    have e : PyData.eqv (prD2 x) (prD2 y) = ((x.1 == y.1) && ((x.2.1 == y.2.1) && true)) := by simp only [prD2, PyData.eqv, PyData.eqvAll]
    rw [e]
    obtain ⟨a, b, u⟩ := x
    obtain ⟨c, d, v⟩ := y
    cases u; cases v
    by_cases h1 : a = c <;> by_cases h2 : b = d <;> by_cases h' : xs = ys <;> simp [h1, h2, h']
theorem shaped_prs (xs : List (Int × Int × Unit)) : SeqAt.shaped (.list (xs.map prD2)) = true := by
  have h1 : ∀ xs : List (Int × Int × Unit), PyData.canLayAll0 (xs.map prD2) = true := fun xs => by
    induction xs with
    | nil => rfl
    | cons x xs ih => show (true && _) = true; rw [ih]; rfl
  have h2 : PyData.depth (.list (xs.map prD2)) ≤ 64 := by
    have : ∀ xs : List (Int × Int × Unit), PyData.depthAll (xs.map prD2) ≤ 5 := fun xs => by
      induction xs with
      | nil => exact Nat.zero_le _
      | cons x xs ih =>
        show max (PyData.depth (prD2 x)) (PyData.depthAll (xs.map prD2)) ≤ 5
        have : PyData.depth (prD2 x) ≤ 5 := by simp only [prD2, PyData.depth, PyData.depthAll]; omega
        omega
    have := this xs
    show PyData.depthAll _ + 1 ≤ 64
    omega
  unfold SeqAt.shaped
  rw [Bool.and_eq_true]
  exact ⟨h1 xs, decide_eq_true h2⟩
theorem opj_eqPL (hu : X.A.units + 64 < cLine) : OpJ X W (compareOp .Eq) (rdL X.K (rp rPr)) (rdL X.K (rp rPr)) (fun x y => .ok (decide (x = y))) (rp rBl) := fun I H σ Q u v x y s ⟨l, vs, e1, h1, p1⟩ ⟨l', vs', e2, h2, p2⟩ p => by
  subst e1; subst e2
  exact OpR.w (op_eqD hu) ⟨.list (x.map prD2), .list (y.map prD2), .lst h1 (dpAll_prs s p1), .lst h2 (dpAll_prs s p2), shaped_prs _, shaped_prs _, p I H _ (Fm.refl s) (by show V.bl (PyData.eqvAll _ _) = _; rw [eqvAll_prs])⟩
theorem opj_nePL (hu : X.A.units + 64 < cLine) : OpJ X W (compareOp .NotEq) (rdL X.K (rp rPr)) (rdL X.K (rp rPr)) (fun x y => .ok (!decide (x = y))) (rp rBl) := fun I H σ Q u v x y s ⟨l, vs, e1, h1, p1⟩ ⟨l', vs', e2, h2, p2⟩ p => by
  subst e1; subst e2
  exact OpR.w (op_neD hu) ⟨.list (x.map prD2), .list (y.map prD2), .lst h1 (dpAll_prs s p1), .lst h2 (dpAll_prs s p2), shaped_prs _, shaped_prs _, p I H _ (Fm.refl s) (by show V.bl (!PyData.eqvAll _ _) = _; rw [eqvAll_prs])⟩
theorem cj_lenD {n : Nat} (hk : ∀ I H vs x, R I H vs x → vs.length = n) : CallJ X W (.builtin "len") (R1 (rp (rTu R))) (fun _ => .ok (n : Int)) (rp rInt) := fun I H σ Q vs x s a p => by
  obtain ⟨v, ws, rfl, ⟨l, vs, rfl, hl, pr⟩, rfl⟩ := a
  exact CallR.w call_len_seq ⟨l, vs, rfl, .inr (SqT.of (s _ _ hl)), by rw [hk _ _ _ _ pr]; exact p I H _ (Fm.refl s) rfl⟩
/-! ### range(a, b, -1) -/
theorem JI.rngDown {tg : Expr} {m m' m'' : Res Int} (j : JE X I0 H0 W ctx mem a m (rp rInt)) (j' : JE X I0 H0 W ctx mem b m' (rp rInt)) (j'' : JE X I0 H0 W ctx mem c m'' (rp rInt)) (hm : X.mg "range" = none) (hc : m'' = .ok (-1) := by rfl) (hg : Gl X "range" := by rfl) (hs : starEach [a, b, c] X.env = (false, eval a X.env) :: starEach [b, c] X.env := by rfl) (hs2 : starEach [b, c] X.env = (false, eval b X.env) :: starEach [c] X.env := by rfl) (hs3 : starEach [c] X.env = (false, eval c X.env) :: starEach [] X.env := by rfl) (hpl : (backTo pos (starEach [b, c] X.env)).any (·.1) = false := by rfl) :
    JI X I0 H0 W ctx mem tg (.Call (.Name "range" pos') [a, b, c] [] pos) (m.bind fun x => m'.bind fun y => rangeD x y) rInt := fun I H σ R st p => by
  subst hc
  refine PI.w (pi_range3 hg hm (pa_cons pe_W (pa_cons pe_W (pa_cons pe_W pa_nil hs3) hs2) hs) hs hpl) (j I H σ _ st ?_)
  cases m with
  | ok x =>
    intro I1 H1 v f1 r1
    refine j' I1 H1 σ _ (st.step f1) ?_
    cases m' with
    | ok y =>
      intro I2 H2 v2 f2 r2
      refine j'' I2 H2 σ _ ((st.step f1).step f2) ?_
      intro I3 H3 v3 f3 r3
      cases (show v = V.int x from r1)
      cases (show v2 = V.int y from r2)
      cases (show v3 = V.int (-1) from r3)
      by_cases hh : -(2 ^ 62) ≤ x ∧ x < 2 ^ 62 ∧ -(2 ^ 62) ≤ y ∧ y < 2 ^ 62
      · have e : ((Res.ok x).bind fun x => (Res.ok y).bind fun y => rangeD x y) = .ok (rngCI x (-1) (x - y).toNat) := Res.guard_pos hh _
        rw [e] at p
        exact ⟨x, y, -1, _, rfl, RgC.neg hh.1 hh.2.1 hh.2.2.1 hh.2.2.2, p I3 H3 _ _ _ ((f1.trans f2).trans f3) itr_rngC (fun _ _ _ _ _ => True.intro) rngC_pair⟩
      · have e : ((Res.ok x).bind fun x => (Res.ok y).bind fun y => rangeD x y) = .stuck := if_neg hh
        rw [e] at p
        exact p.elim
    | err e => exact fun I2 H2 c d f2 x => p I2 H2 c d (f1.trans f2) ⟨x.1.back f1.h, x.2⟩
    | stuck => exact p
  | err e => exact p
  | stuck => exact p
end
end L2.Tr

/-! lists of numbers that are equal item by item: != tells False -/
namespace GQ
open PySem PySem.SeqAt
open AutoSeq1 (wpAny_loadPart')
open MeetsSeq MeetsSeq2 MeetsSeq3 SeqRoads2
section
variable {prog : Program} {w : World} {A : Around} {R : Result → Shared → Prop} {E : Value → Shared → Prop} {s : Shared}
theorem ne_run {p q : Addr} {N : Nat} {J : Nat → Shared → Prop} (hJ : ListI prog w A (fun e t => R (.error e) t) p q N J) (stop : ∀ t, J N t → R (.ok (.ret (.bool false))) t) :
    ∀ (k i : Nat), i + k = N → ∀ t, J i t → wpAny (model prog w) A.in1 (Builtin.«list.__eq__.loop» ⟨[.ref p, .ref q, rawInt i, rawInt 3], []⟩) (FinOf prog w A R) (fun e t => R (.error e) t) t
  | 0, i, ei, t, j => by
    obtain rfl : i = N := ei
    have done := stop t j
    obtain ⟨us, vs, c1, c2, gp, gq, z1, z2, _⟩ := hJ i t j
    have o1 : us[((i : Nat) : Int).toNat]? = none := by rw [Int.toNat_natCast]; exact Array.getElem?_eq_none (by omega)
    have o2 : vs[((i : Nat) : Int).toNat]? = none := by rw [Int.toNat_natCast]; exact Array.getElem?_eq_none (by omega)
    obtain ⟨t1, t2, t3, t4, t5⟩ := t
    wp_walk using wpAny_loadPart' gp, wpAny_loadPart' gq
    rw [o1, o2]
    wp_walk using wpAny_loadPart' gp, wpAny_loadPart' gq
    have ez : (us.size != vs.size) = false := by rw [z1, z2]; simp
    show R (.ok (.ret (.bool (us.size != vs.size)))) _
    rw [ez]
    exact done
  | k + 1, i, ei, t, j => by
    obtain ⟨us, vs, c1, c2, gp, gq, z1, z2, next⟩ := hJ i t j
    have a1 : i < us.size := by omega
    have a2 : i < vs.size := by omega
    have o1 : us[((i : Nat) : Int).toNat]? = some us[i] := by rw [Int.toNat_natCast]; exact Array.getElem?_eq_getElem a1
    have o2 : vs[((i : Nat) : Int).toNat]? = some vs[i] := by rw [Int.toNat_natCast]; exact Array.getElem?_eq_getElem a2
    have one := next a1 a2
    obtain ⟨t1, t2, t3, t4, t5⟩ := t
    wp_walk using wpAny_loadPart' gp, wpAny_loadPart' gq
    rw [o1, o2]
    refine wpAny_bind (wpAny_mono one (fun x t' hx => ?_) fun _ _ z => z)
    obtain ⟨rfl, j'⟩ := hx
    have rest := ne_run hJ stop k (i + 1) (by omega) t' j'
    obtain ⟨t1', t2', t3', t4', t5'⟩ := t'
    wp_walk
    rw [show ((i : Int) + 1) = ((i + 1 : Nat) : Int) from rfl]
    refine ⟨plainId_quiet plain_eq_loop _, codeAny_builtin entry_eq_loop ?_⟩
    rw [Around.under_plainId plain_eq_loop _]
    exact rest
theorem ne_lists {p q : Addr} {N : Nat} {Q : Value → Shared → Prop} (hu : A.units < cLine) {J : Nat → Shared → Prop} (hJ : ListI prog w A E p q N J) (stop : ∀ t, J N t → Q (.bool false) t) (j0 : J 0 s) : wpAny (model prog w) A (richCompare .NotEq (.ref p) (.ref q)) Q E s := by
  have go := ne_run (R := wants (fun v t => v ≠ .notImplemented ∧ Q v t) E) hJ (fun t j => ⟨(fun x => nomatch x), stop t j⟩) N 0 (Nat.zero_add N) s j0
  obtain ⟨us, vs, c1, c2, gp, gq, z1, z2, _⟩ := hJ 0 s j0
  have ez : ¬ (us.size != vs.size) = true := by rw [z1, z2]; simp
  refine wpAny_richCompare_same_room (op := .NotEq) ⟨_, gp, rfl⟩ ⟨_, gq, rfl⟩ F.slot_list_ne (call_here F.slot_list_ne ⟨_, gp, rfl⟩ F.entry_list_ne (F.args_list_ne_2 _ _) ?_) hu
  have sub := AutoSeq1.sub_list_list
  obtain ⟨t1, t2, t3, t4, t5⟩ := s
  wp_walk using wpAny_loadPart' gp, wpAny_loadPart' gq
  refine ⟨plainId_quiet plain_eq_loop _, codeAny_builtin entry_eq_loop ?_⟩
  rw [Around.under_plainId plain_eq_loop _]
  exact go
end
end GQ
namespace L2.Tr
open PySem PySem.Spec PyProof.Rows He
instance : DecidableEq Num := fun x y => match x, y with
  | .i a, .i b => if h : a = b then .isTrue (by rw [h]) else .isFalse fun e => h (by cases e; rfl)
  | .q a, .q b => if h : a = b then .isTrue (by rw [h]) else .isFalse fun e => h (by cases e; rfl)
  | .i _, .q _ => .isFalse fun e => nomatch e
  | .q _, .i _ => .isFalse fun e => nomatch e
section
variable {X : Cx} {W : WX} {n : Nat} {D : Eqv}
theorem ne_data (hD : Mon D) (h : EqG X n D) {A : Around} {pins : List (Addr × Obj)} {s : Shared} {σ : St} {H : Hp} {a b : Addr} {xs ys : List V} (sb : Sub X (n + 1) A) (I : Inv X pins σ H s) (ha : H a = some (.lst xs)) (hb : H b = some (.lst ys)) (p : Prs D xs ys H) :
    wpAny (model X.prog X.w) A (richCompare .NotEq (.ref a) (.ref b)) (fun r t => r = .bool false ∧ ∃ H', Inv X pins σ H' t ∧ Ext H H') X.xe s :=
  GQ.ne_lists (N := xs.length) (J := fun _ t => LoopI X pins σ H t) sb.room.units0 (fun i t q => by
    obtain ⟨H1, I1, x1⟩ := id q
    obtain ⟨_, us, k, r, e⟩ := I1.hok a _ (x1 _ _ ha)
    obtain ⟨_, vs, k2, r2, e2⟩ := I1.hok b _ (x1 _ _ hb)
    exact ⟨us.toArray, vs.toArray, k, k2, e, e2, by rw [List.size_toArray, ← r.length], by rw [List.size_toArray, ← r2.length, ← p.1], fun h1 h2 => turnG hD h sb p r r2 i h1 h2 t q⟩) (fun t q => ⟨rfl, q⟩) ⟨H, I, Ext.rfl'⟩
/-- two Fractions of one worth -/
def DFr (K : PySem.W.Frag) : Eqv := fun x y H => ∃ I q, Same I H ∧ rFrac K I x q ∧ rFrac K I y q
theorem rcG_fr {k : Nat} {f : Addr} {gb : Rat × Num × Unit → Res Bool} (hm : OMet X.K (He.ga X.K "Fraction") "__eq__" f) (F : FnR X.prog X.w X.K X.mg X.base (L2.CX X.prog X.w) k f (spF X.K (R2' (rp (rFrac X.K)) (rp (rNum X.K))) gb (rp rBl))) (tk : Takes X W) (hg : ∀ q, gb (q, .q q, ()) = .ok true) : RcG X k (DFr X.K) := by
  rintro A pins s σ H _ _ u v sb I rx ry ⟨Ig, q, sm, ⟨a, dx, rfl, ha⟩, ⟨b, dy, rfl, hb⟩⟩
  obtain rfl : u = Value.ref a := rx
  obtain rfl : v = Value.ref b := ry
  obtain ⟨od, J⟩ := insAt I (sm _ _ ha)
  obtain ⟨od', J'⟩ := insAt I (sm _ _ hb)
  obtain ⟨m, hF⟩ := I.fr
  refine PySem.W.cmp_K (op := .Eq) (tb := .ref (He.ga X.K "Fraction")) sb.room.units0 hF I.ok.mod.kin J J'.type (by simp [PySem.W.notFirst]) hm.at_ hm.fn ?_
  have env : Env0 X.prog X.w X.K X.mg X.base A X.stack s H := { I.env0 with frames := by rw [sb.fr]; exact I.env0.frames }
  have post : spF X.K (R2' (rp (rFrac X.K)) (rp (rNum X.K))) gb (rp rBl) [.ref a, .ref b] H (fun v H' => v = .bl true ∧ Ext H H') (fun cls d H' => W cls d σ H') :=
    ⟨Ig, (q, .q q, ()), sm, ⟨.ref a, [.ref b], rfl, ⟨a, dx, rfl, ha⟩, .ref b, [], rfl, ⟨b, dy, rfl, hb⟩, rfl⟩, by rw [hg q]; exact fun I' H' v f r => ⟨r, f.h⟩⟩
  refine wpAny_call (codeAny_mono (F A X.stack s H [.ref a, .ref b] [.ref a, .ref b] _ _ sb.room env (.cons rfl (.cons rfl .nil)) post) fun r t hq => ?_)
  cases r with
  | error e => exact passAt tk σ pins H s e t I hq
  | ok fl =>
    cases fl with
    | ret w =>
      obtain ⟨z, H', I', rz, rfl, ex⟩ := I.after hq
      cases rz
      exact ⟨rfl, H', I', ex⟩
    | next => exact False.elim hq
    | brk => exact False.elim hq
    | cont => exact False.elim hq
/-- two numbers, ints or Fractions alike -/
def DNm (K : PySem.W.Frag) : Eqv := fun x y H => ∃ I n, Same I H ∧ rNum K I x n ∧ rNum K I y n
theorem mon_nm {K : PySem.W.Frag} : Mon (DNm K) := fun x y H H' e ⟨I, n, s, a, b⟩ => ⟨I, n, fun p o h => e _ _ (s _ _ h), a, b⟩
theorem eqG_nm {k : Nat} {f : Addr} {gb : Rat × Num × Unit → Res Bool} (hm : OMet X.K (He.ga X.K "Fraction") "__eq__" f) (F : FnR X.prog X.w X.K X.mg X.base (L2.CX X.prog X.w) k f (spF X.K (R2' (rp (rFrac X.K)) (rp (rNum X.K))) gb (rp rBl))) (tk : Takes X W) (hg : ∀ q, gb (q, .q q, ()) = .ok true) : EqG X k (DNm X.K) := fun A pins s σ H x y u v sb I rx ry d => by
  obtain ⟨I0, n, sm, a, b⟩ := d
  cases n with
  | i n =>
    cases (show x = V.int n from a)
    cases (show y = V.int n from b)
    exact (eqG_flat (X := X)).mono (Nat.zero_le k) A pins s σ H _ _ u v sb I rx ry ⟨rfl, rfl, by simp [eqV]⟩
  | q q =>
    exact (rcG_fr hm F tk hg).eqG (fun x y H ⟨_, _, _, ⟨a, _, ea, _⟩, ⟨b, _, eb, _⟩⟩ => ⟨a, b, ea, eb⟩) A pins s σ H x y u v sb I rx ry ⟨I0, q, sm, a, b⟩
theorem prs_nm {K : PySem.W.Frag} {I H : Hp} (sm : Same I H) : ∀ {vs ws : List V} {xs : List Num}, Paired (rNum K I) vs xs → Paired (rNum K I) ws xs → Prs (DNm K) vs ws H
  | _, _, _, .nil, .nil => Prs.nil
  | _, _, _, .cons a t, .cons b t' => Prs.cons ⟨I, _, sm, a, b⟩ (prs_nm sm t t')
theorem opj_neNL {k : Nat} {f : Addr} {gb : Rat × Num × Unit → Res Bool} (hm : OMet X.K (He.ga X.K "Fraction") "__eq__" f) (F : FnR X.prog X.w X.K X.mg X.base (L2.CX X.prog X.w) k f (spF X.K (R2' (rp (rFrac X.K)) (rp (rNum X.K))) gb (rp rBl))) (tk : Takes X W) (hg : ∀ q, gb (q, .q q, ()) = .ok true) (hr : Room (k + 1) X.A) :
    OpJ X W (compareOp .NotEq) (rH (rNum X.K)) (rH (rNum X.K)) (fun xs ys => Res.guard (xs = ys) (.ok false)) (rp rBl) := fun I H σ Q u v x y s ⟨l, vs, e1, h1, p1⟩ ⟨l', vs', e2, h2, p2⟩ p pins sh uu vv Iv ru rv => by
  by_cases hxy : x = y
  · subst hxy
    subst e1; subst e2
    dsimp only at p
    rw [Res.guard_pos rfl] at p
    obtain rfl : uu = Value.ref l := ru
    obtain rfl : vv = Value.ref l' := rv
    show wpAny (model X.prog X.w) X.A (richCompare .NotEq _ _) (EP X pins σ Q) X.xe sh
    refine wpAny_mono (ne_data mon_nm (eqG_nm hm F tk hg) ⟨hr, rfl⟩ Iv h1 h2 (prs_nm s p1 p2)) (fun r s' z => ?_) fun _ _ x => x
    obtain ⟨rfl, H', I', e⟩ := z
    exact ⟨.bl false, H', I', rfl, p I H' _ ⟨Same.refl _, e, fun a o h => e _ _ (s _ _ h), fun _ e _ => e⟩ rfl⟩
  · have e : (Res.guard (x = y) (.ok false) : Res Bool) = .stuck := if_neg hxy
    dsimp only at p
    rw [e] at p
    exact p.elim
end
end L2.Tr

namespace L2.Tr
open PySem PySem.Spec PyProof.Rows He
section
variable {α β γ δ S L : Type} {X : Cx} {I0 H0 I H : Hp} {W : WX} {ctx : List (Option SF)} {mem : List MF} {e a b c o : Expr} {es : List Expr} {pos pos' p2 : Pos} {n : Str} {σ : St} {Q : VK} {K : PySem.W.Frag}
theorem qEq_refl (q : Rat) : qEq q (.q q) = .ok true := by
  unfold qEq
  rw [show (Num.q q).val = q from rfl, decide_eq_true rfl]
/-! ### isinstance(e, c), e an error in hand that has values -/
def rIsV (K : PySem.W.Frag) (D ad dd : Addr) : List V → Hp → VK → Prop := fun xs H Q => ∃ (c : V) (u : Value) (t : Bool), xs = [.ref ad, c] ∧ (∀ v, RelV c v → v = u) ∧ PySem.W.kitOne K (.ref D) u = some t ∧ (∃ fs, H dd = some (.xd fs)) ∧ Q (.bl t) H
theorem call_isV {ad D dd : Addr} {oe : Obj} {pn : List (Addr × Obj)} (C : ExcC X.K D) (hz : Zc (.ref D) (some dd) oe) (hf : ∃ vs, oe.data = .fields vs) : CallR (X.suite ad ((ad, oe) :: pn)) (.builtin "isinstance") (rIsV X.K D ad dd) := by
  rintro pins s σ H xs us Q I r ⟨c, u, t, rfl, hu, hk, ⟨fs, hd⟩, q⟩
  cases r with | cons rx rr =>
  cases rr with | cons rt rr =>
  cases rr
  cases rx
  obtain rfl := hu _ rt
  obtain ⟨at_, _⟩ := I.pin (ad, oe) (List.mem_append_left _ List.mem_cons_self)
  obtain ⟨vs, hv⟩ := hf
  obtain ⟨mA, hns, _⟩ := (show ObjOk X.prog X.w H s.heap dd (.xd fs) from I.hok dd _ hd)
  obtain ⟨od, ho, _⟩ := lookIn_ns hns
  have J : PySem.W.InstAt s.heap ad oe D (some od) := ⟨at_, hz.1, by unfold PySem.W.notCls; rw [hv] <;> rfl, by rw [hz.2]; exact ho⟩
  have hcl : (PySem.W.clsIn X.K D).isSome = true := by obtain ⟨cd, h1, _⟩ := PySem.W.any_some C.hd; rw [h1]; rfl
  exact PySem.W.kia_one (PySem.W.kitx_exc hcl C.hg C.hk C.hs C.ha C.hn C.ht C.hm) I.kIn J hk (fun z => nomatch z) fun tk => ⟨.bl t, H, I.kept (t' := tk) fun _ _ z => z, rfl, q⟩
theorem JE.isV (j : Nat) {ad dd : Addr} {oe : Obj} {pn : List (Addr × Obj)} {D : Addr} {u : Value} {cv : V} {bb : Bool} {ps : List (Str × Pay)} (hz : Zc (.ref D) (some dd) oe) (hf : ∃ vs, oe.data = .fields vs) (C : ExcC X.K D) (hk : PySem.W.kitOne X.K (.ref D) u = some bb) (je : JE (X.suite ad ((ad, oe) :: pn)) I0 H0 W ctx mem a (.ok ()) (rp (rExc ad))) (jc : ∀ σ H Q, Q cv H → wE (X.suite ad ((ad, oe) :: pn)) b σ H Q) (hc : ClsV cv u) (hm : X.mg "isinstance" = none) (hj : mem[j]? = some (MF.xd X.K dd ps) := by rfl) (hg : Gl (X.suite ad ((ad, oe) :: pn)) "isinstance" := by rfl)
    (hs : starEach [a, b] X.env = (false, eval a X.env) :: starEach [b] X.env := by rfl) (hs2 : starEach [b] X.env = (false, eval b X.env) :: starEach [] X.env := by rfl) (hpl : (backTo pos (starEach [b] X.env)).any (·.1) = false := by rfl) :
    JE (X.suite ad ((ad, oe) :: pn)) I0 H0 W ctx mem (.Call (.Name "isinstance" pos') [a, b] [] pos) (.ok bb) (rp rBl) := fun I H σ Q st p => by
  refine w_callB (id := "isinstance") (Tr.w_cons (je I H σ _ st ?_) hs) hm (by decide +kernel) hg (by decide) (by decide) hs hpl
  intro I1 H1 v f1 r1
  cases (show v = V.ref ad from r1)
  obtain ⟨_, _, o, h1, fs, e1, _⟩ := (st.step f1).me1 (P := fun I o => ∃ fs, o = .xd fs ∧ Paired (fun (p : Str × V) (q : Str × Pay) => p.1 = q.1 ∧ PayR X.K I p.2 q.2) fs ps) hj fun q => q
  subst e1
  refine Tr.w_cons (jc σ H1 _ (w_nil ?_)) hs2
  exact CallR.w (call_isV C hz hf) ⟨cv, u, bb, rfl, fun w hw => hc.eq hw, hk, ⟨fs, h1⟩, p I1 H1 _ f1 rfl⟩
/-! ### C.m(k = v, ..), m a classmethod -/
section
variable {ε : Type} {kws : List Keyword} {ks : List Str} {R : Hp → Hp → List V → δ → Prop} {R' : Hp → Hp → List V → ε → Prop} {rc : Ra γ} {me : Res ε}
def codeKW (X : Cx) (f : Value) (ks : List Str) (σ : St) (xs zs : List V) (H : Hp) (Q : VK) : Prop := ∀ (pins : List (Addr × Obj)) (s : Shared) (us ws : List Value), Inv X pins σ H s → Vals xs us → Vals zs ws → codeAny (model X.prog X.w) X.A (.call f ⟨us, ks.zip ws⟩) (fun r t => match r with
  | .ok (.ret v) => EP X pins σ Q v t
  | .ok _ => False
  | .error e => X.xe e t) s
def CodeKJ (X : Cx) (W : WX) (f : Value) (ks : List Str) (R : Hp → Hp → List V → δ → Prop) (R' : Hp → Hp → List V → ε → Prop) (g : δ → ε → Res γ) (rc : Ra γ) : Prop :=
  ∀ (I H : Hp) (σ : St) (Q : VK) (vs zs : List V) (x : δ) (y : ε), Same I H → R I H vs x → R' I H zs y → PostE X.K (g x y) rc I H (fun cls d H' => W cls d σ H') Q → codeKW X f ks σ vs zs H Q
def MkKC (P : Program) (w : World) (K : PySem.W.Frag) (mg : Str → Option Value) (base : Heap) (k : Nat) (f : Addr) (ks : List Str) (R : Hp → Hp → List V → δ → Prop) (R' : Hp → Hp → List V → ε → Prop) (g : δ → ε → Res γ) (r : Ra γ) : Prop :=
  ∀ (X : Cx) (W : WX), X.prog = P → X.w = w → X.K = K → X.mg = mg → X.base = base → Room k X.A → Takes X W → CodeKJ X W (.ref f) ks R R' g r
theorem cjk_code {k n : Nat} {f : Addr} {fd : FuncData} {ps : List Str} {gg : List Value → List Value → List Value} {gV : List V → List V → List V} {η : Type} {Ri : Hp → Hp → List V → η → Prop} {m : η → Res γ} {h : δ → ε → η} (F : FnOk X.prog X.w X.K X.mg X.base (L2.CX X.prog X.w) k f fd ps (spF X.K Ri m rc)) (hr : Room k X.A)
    (hb : KBn X.K fd ps n ks gg gV) (tk : Takes X W) (hR : ∀ I H vs zs x y, R I H vs x → R' I H zs y → vs.length = n ∧ zs.length = ks.length ∧ Ri I H (gV vs zs) (h x y)) : CodeKJ X W (.ref f) ks R R' (fun x y => m (h x y)) rc := fun I H σ Q vs zs x y sm r r' p pins s us ws Iv rv rz => by
  obtain ⟨l1, l2, hRi⟩ := hR I H vs zs x y r r'
  refine codeAny_mono (F.run X.A X.stack s H ⟨us, ks.zip ws⟩ (gg us ws) (gV vs zs) Q _ hr Iv.env0 (hb.to s us ws Iv.kIn (rv.length.symm.trans l1) (rz.length.symm.trans l2)) (hb.rel rv rz) ⟨I, h x y, sm, hRi, p⟩) fun r s' hq => ?_
  cases r with
  | error e => exact passAt tk σ pins H s e s' Iv hq
  | ok fl =>
    cases fl with
    | ret u => exact Iv.after hq
    | next => exact False.elim hq
    | brk => exact False.elim hq
    | cont => exact False.elim hq
theorem JE.cmethK0 {pl : Sem Bool} {C p g : Addr} {mc : Value} {m : Str} {apos po : Pos} {g' : Unit × Unit → ε → Res γ} (hm : X.mg n = some (.ref C)) (cr : ClX.CRead X.K C mc) (cm : ClX.CMet X.K C mc m p g) (jk : JK X I0 H0 W ctx mem kws me R') (cj : CodeKJ X W (.ref g) ks (aCons (rp (rRef C)) aNil) R' g' rc)
    (hg : Gl X n := by rfl) (hdb : (n == ("__debug__" : Str)) = false := by decide) (hall : (backToKw po (keywordEach kws X.env)).all (·.1.isSome) = true := by rfl) (hks : (backToKw po (keywordEach kws X.env)).filterMap (·.1) = ks := by rfl)
    (hpl : ((backTo po (starEach [] X.env)).any (·.1) || (backToKw po (keywordEach kws X.env)).any (·.1.isNone)) = false := by rfl)
    (ht : eval (.Call (.Attribute (.Name n pos') m apos) [] kws po) X.env = (do
      let ov ← eval (.Name n pos') X.env
      standAt apos.atName
      let (f, first) ← holding [ov] (getMethod ov m pl)
      callWith po f first (backTo po (starEach [] X.env)) (backToKw po (keywordEach kws X.env))) := by rfl) :
    JE X I0 H0 W ctx mem (.Call (.Attribute (.Name n pos') m apos) [] kws po) (me.bind fun y => g' ((), ()) y) rc := fun I H σ Q st pp pins s Iv => by
  refine PySem.W.methodCall_KW (pl := pl) (ld_glob Iv hg hm ?_ hdb) ht
  refine ClX.getmethcm_ok Iv cr cm fun s2 I2 => ?_
  have run := jk po I H σ (fun zs H1 => codeKW X (.ref g) ks σ [.ref C] zs H1 Q) st (by
    cases me with
    | ok y => exact fun I1 H1 zs f1 r1 => cj I1 H1 σ Q [.ref C] zs ((), ()) y f1.ih ⟨.ref C, [], rfl, rfl, rfl⟩ r1 (PostE.up pp f1)
    | err e => exact pp
    | stuck => exact pp) _ s2 I2
  refine PySem.W.callWith_of hpl (PySem.W.keeps_M cm.fi) (PyProof.Rows.evalArgs_kw2_nil hall (thn run fun ws s3 ⟨zs, H2, I3, rz, q2⟩ => ⟨⟨ClX.pin_at I3, I3.kIn⟩, ?_⟩))
  rw [hks]
  exact thn (wpAny_call (PySem.W.method_call (ClX.pin_at I3) (q2 _ s3 [.ref C] ws I3 (.cons rfl .nil) rz))) fun _ _ y => ClX.unpinE y
end
end
end L2.Tr

namespace L2.Tr
/-! quadratic forms of a row of readings -/
def qf (r : Nat → Rat) (n : Nat) (p : Nat → Rat) : Rat := smQ (fun i => smQ (fun j => p i * p j * r (i + j)) n) n
/-- the readings that weights cannot bar -/
structure HM (r : Nat → Rat) : Prop where
  h0 : ∀ n p, 0 ≤ qf r n p
  h1 : ∀ n p, 0 ≤ qf (fun k => r (k + 1)) n p
  h2 : ∀ n p, 0 ≤ qf (fun k => r k - r (k + 1)) n p
  h3 : ∀ n p, 0 ≤ qf (fun k => r (k + 1) - r (k + 2)) n p
theorem smQ_shift {f : Nat → Rat} : ∀ {n : Nat}, smQ f (n + 1) = f 0 + smQ (fun i => f (i + 1)) n
  | 0 => by rw [smQ_succ]; show 0 + f 0 = f 0 + 0; grind
  | n + 1 => by rw [smQ_succ, smQ_shift (n := n), smQ_succ]; grind
/-- times x -/
theorem qf_x (r : Nat → Rat) (n : Nat) (p : Nat → Rat) : qf (fun k => r (k + 2)) n p = qf r (n + 1) (fun i => if i = 0 then 0 else p (i - 1)) := by
  unfold qf
  rw [smQ_shift]
  have e0 : smQ (fun j => (if (0 : Nat) = 0 then (0 : Rat) else p (0 - 1)) * (if j = 0 then 0 else p (j - 1)) * r (0 + j)) (n + 1) = 0 := smQ_null fun i _ => by rw [if_pos rfl]; grind
  rw [e0, Rat.zero_add]
  refine smQ_congr fun i _ => ?_
  rw [smQ_shift]
  dsimp only
  rw [if_neg (by omega), if_pos rfl]
  have : p (i + 1 - 1) * 0 * r (i + 1 + 0) + smQ (fun j => p (i + 1 - 1) * (if j + 1 = 0 then 0 else p (j + 1 - 1)) * r (i + 1 + (j + 1))) n = smQ (fun j => p i * p j * r (i + j + 2)) n := by
    rw [Rat.mul_zero, Rat.zero_mul, Rat.zero_add]
    refine smQ_congr fun j _ => ?_
    rw [if_neg (by omega), show i + 1 + (j + 1) = i + j + 2 by omega, Nat.add_sub_cancel, Nat.add_sub_cancel]
  exact this.symm
/-- times 1 - x -/
theorem qf_rest (r : Nat → Rat) (n : Nat) (p : Nat → Rat) : qf (fun k => r k - 2 * r (k + 1) + r (k + 2)) n p = qf r (n + 1) (fun i => (if i < n then p i else 0) - (if i = 0 then 0 else p (i - 1))) := by
  have split : qf r (n + 1) (fun i => (if i < n then p i else 0) - (if i = 0 then 0 else p (i - 1))) = qf r n p - 2 * qf (fun k => r (k + 1)) n p + qf (fun k => r (k + 2)) n p := by
    rw [qf_x]
    have a1 : qf r n p = qf r (n + 1) (fun i => if i < n then p i else 0) := by
      unfold qf
      rw [smQ_succ]
      have z : smQ (fun j => (if n < n then p n else 0) * (if j < n then p j else 0) * r (n + j)) (n + 1) = 0 := smQ_null fun j _ => by rw [if_neg (Nat.lt_irrefl n)]; grind
      rw [z, Rat.add_zero]
      refine smQ_congr fun i hi => ?_
      rw [smQ_succ]
      dsimp only
      rw [if_neg (Nat.lt_irrefl n), if_pos hi]
      have : smQ (fun j => p i * (if j < n then p j else 0) * r (i + j)) n = smQ (fun j => p i * p j * r (i + j)) n := smQ_congr fun j hj => by rw [if_pos hj]
      rw [this]; grind
    have a2 : qf (fun k => r (k + 1)) n p = smQ (fun i => smQ (fun j => (if i < n then p i else 0) * (if j = 0 then 0 else p (j - 1)) * r (i + j)) (n + 1)) (n + 1) := by
      rw [smQ_succ]
      have z : smQ (fun j => (if n < n then p n else 0) * (if j = 0 then 0 else p (j - 1)) * r (n + j)) (n + 1) = 0 := smQ_null fun j _ => by rw [if_neg (Nat.lt_irrefl n)]; grind
      rw [z, Rat.add_zero]
      unfold qf
      refine smQ_congr fun i hi => ?_
      rw [smQ_shift]
      dsimp only
      rw [if_pos hi, if_pos rfl, Rat.mul_zero, Rat.zero_mul, Rat.zero_add]
      refine smQ_congr fun j hj => ?_
      rw [if_neg (by omega), Nat.add_sub_cancel, show i + (j + 1) = i + j + 1 by omega]
    have a3 : smQ (fun i => smQ (fun j => (if i = 0 then 0 else p (i - 1)) * (if j < n then p j else 0) * r (i + j)) (n + 1)) (n + 1) = qf (fun k => r (k + 1)) n p := by
      rw [a2, smQ_comm]
      refine smQ_congr fun i _ => smQ_congr fun j _ => ?_
      rw [Nat.add_comm i j]; grind
    rw [a1]
    have e : qf r (n + 1) (fun i => (if i < n then p i else 0) - (if i = 0 then 0 else p (i - 1))) =
      qf r (n + 1) (fun i => if i < n then p i else 0)
      - smQ (fun i => smQ (fun j => (if i < n then p i else 0) * (if j = 0 then 0 else p (j - 1)) * r (i + j)) (n + 1)) (n + 1)
      - smQ (fun i => smQ (fun j => (if i = 0 then 0 else p (i - 1)) * (if j < n then p j else 0) * r (i + j)) (n + 1)) (n + 1)
      + qf r (n + 1) (fun i => if i = 0 then 0 else p (i - 1)) := by
      unfold qf
      rw [← smQ_sub, ← smQ_sub, ← smQ_add]
      refine smQ_congr fun i _ => ?_
      rw [← smQ_sub, ← smQ_sub, ← smQ_add]
      refine smQ_congr fun j _ => ?_
      grind
    rw [e, a3, ← a2]; grind
  rw [split]
  unfold qf
  rw [← smQ_mul, ← smQ_sub, ← smQ_add]
  refine smQ_congr fun i _ => ?_
  rw [← smQ_mul, ← smQ_sub, ← smQ_add]
  refine smQ_congr fun j _ => ?_
  grind
theorem qf_congr {r s : Nat → Rat} (h : ∀ k, r k = s k) (n : Nat) (p : Nat → Rat) : qf r n p = qf s n p := by
  rw [show r = s from funext h]
theorem HM.shift {r : Nat → Rat} (h : HM r) : HM fun k => r (k + 1) where
  h0 := h.h1
  h1 n p := by
    have := qf_x r n p
    rw [qf_congr (s := fun k => r (k + 2)) fun k => rfl, this]; exact h.h0 _ _
  h2 := h.h3
  h3 n p := by
    have := qf_x (fun k => r k - r (k + 1)) n p
    rw [qf_congr (s := fun k => r (k + 2) - r (k + 2 + 1)) fun k => rfl, this]
    exact h.h2 _ _
theorem HM.diff {r : Nat → Rat} (h : HM r) : HM fun k => r k - r (k + 1) where
  h0 := h.h2
  h1 := h.h3
  h2 n p := by
    rw [qf_congr (s := fun k => r k - 2 * r (k + 1) + r (k + 2)) fun k => by grind, qf_rest]
    exact h.h0 _ _
  h3 n p := by
    have := qf_rest (fun k => r (k + 1)) n p
    rw [qf_congr (s := fun k => r (k + 1) - 2 * r (k + 1 + 1) + r (k + 2 + 1)) fun k => by grind, this]
    exact h.h1 _ _
theorem HM.pos0 {r : Nat → Rat} (h : HM r) : 0 ≤ r 0 := by
  have := h.h0 1 fun _ => 1
  unfold qf at this
  have e : smQ (fun i => smQ (fun j => (1 : Rat) * 1 * r (i + j)) 1) 1 = r 0 := by
    rw [smQ_succ, smQ_succ]
    show (0 : Rat) + (0 + 1 * 1 * r (0 + 0)) = r 0
    grind
  rw [e] at this
  exact this
theorem HM.pos {r : Nat → Rat} (h : HM r) (k : Nat) : 0 ≤ r k := by
  induction k generalizing r with
  | zero => exact h.pos0
  | succ k ih => exact ih h.shift
end L2.Tr

namespace L2.Tr
/-! amounts that go back and forth -/
def dn (n : Nat) (w : Nat → Nat → Rat) (U : Nat → Rat) (x : Nat → Rat) (c : Nat) : Rat := smQ (fun i => w i c * x i) n / U c
def ip (T : Nat → Rat) (n : Nat) (x y : Nat → Rat) : Rat := smQ (fun i => T i * x i * y i) n
def lin (p : Nat → Rat) (v : Nat → Nat → Rat) (n : Nat) (i : Nat) : Rat := smQ (fun k => p k * v k i) n
structure RW (R C : Nat) (w : Nat → Nat → Rat) (T U : Nat → Rat) : Prop where
  w0 : ∀ i c, i < R → c < C → 0 ≤ w i c
  T0 : ∀ i, i < R → 0 < T i
  U0 : ∀ c, c < C → 0 < U c
  hT : ∀ i, i < R → smQ (w i) C ≤ T i
  hU : ∀ c, c < C → smQ (fun i => w i c) R ≤ U c
def tr (w : Nat → Nat → Rat) : Nat → Nat → Rat := fun i c => w c i
theorem RW.flip {R C : Nat} {w : Nat → Nat → Rat} {T U : Nat → Rat} (g : RW R C w T U) : RW C R (tr w) U T := ⟨fun i c hi hc => g.w0 c i hc hi, g.U0, g.T0, g.hU, g.hT⟩
theorem sq_nonneg (x : Rat) : 0 ≤ x * x := by
  rcases (Rat.le_total : 0 ≤ x ∨ x ≤ 0) with h | h
  · exact Rat.mul_nonneg h h
  · have : 0 ≤ -x := by grind
    have := Rat.mul_nonneg this this
    grind
theorem ip_self {T : Nat → Rat} {n : Nat} {x : Nat → Rat} (h : ∀ i, i < n → 0 < T i) : 0 ≤ ip T n x x := smQ_nonneg fun i hi => by
  have h1 := Rat.mul_nonneg (Rat.le_of_lt (h i hi)) (sq_nonneg (x i))
  grind
section
variable {R C : Nat} {w : Nat → Nat → Rat} {T U : Nat → Rat}
theorem dn_mul {x : Nat → Rat} {c : Nat} (h : 0 < U c) : U c * dn R w U x c = smQ (fun i => w i c * x i) R := by
  unfold dn
  rw [Rat.mul_comm]
  exact Rat.div_mul_cancel (by grind)
theorem dn_one {x : Nat → Rat} {c : Nat} (w0 : ∀ i, i < R → 0 ≤ w i c) (h0 : 0 < U c) (hU : smQ (fun i => w i c) R ≤ U c) : U c * dn R w U x c * dn R w U x c ≤ smQ (fun i => w i c * x i * x i) R := by
  have e := dn_mul (R := R) (w := w) (x := x) h0
  generalize dn R w U x c = y at *
  have h1 : 0 ≤ smQ (fun i => w i c * ((x i - y) * (x i - y))) R := smQ_nonneg fun i hi => Rat.mul_nonneg (w0 i hi) (sq_nonneg _)
  have h2 : smQ (fun i => w i c * ((x i - y) * (x i - y))) R = smQ (fun i => w i c * x i * x i) R - 2 * y * smQ (fun i => w i c * x i) R + y * y * smQ (fun i => w i c) R := by
    rw [← smQ_mul, ← smQ_mul, ← smQ_sub, ← smQ_add]
    exact smQ_congr fun i _ => by grind
  have h3 : y * y * smQ (fun i => w i c) R ≤ y * y * U c := Rat.mul_le_mul_of_nonneg_left hU (sq_nonneg y)
  rw [h2, ← e] at h1
  grind
theorem RW.contr (g : RW R C w T U) (x : Nat → Rat) : ip U C (dn R w U x) (dn R w U x) ≤ ip T R x x := by
  have h1 : ip U C (dn R w U x) (dn R w U x) ≤ smQ (fun c => smQ (fun i => w i c * x i * x i) R) C := smQ_le fun c hc => dn_one (fun i hi => g.w0 i c hi hc) (g.U0 c hc) (g.hU c hc)
  rw [smQ_comm] at h1
  refine Rat.le_trans h1 (smQ_le fun i hi => ?_)
  have e : smQ (fun c => w i c * x i * x i) C = x i * x i * smQ (w i) C := by
    rw [← smQ_mul]; exact smQ_congr fun c _ => by grind
  rw [e]
  have := Rat.mul_le_mul_of_nonneg_left (g.hT i hi) (sq_nonneg (x i))
  grind
theorem RW.adj (g : RW R C w T U) (x y : Nat → Rat) : ip U C (dn R w U x) y = ip T R x (dn C (tr w) T y) := by
  unfold ip
  have e1 : smQ (fun c => U c * dn R w U x c * y c) C = smQ (fun c => smQ (fun i => w i c * x i * y c) R) C := smQ_congr fun c hc => by
    rw [dn_mul (g.U0 c hc), ← smQ_mulr]
  have e2 : smQ (fun i => T i * x i * dn C (tr w) T y i) R = smQ (fun i => smQ (fun c => w i c * x i * y c) C) R := smQ_congr fun i hi => by
    have := dn_mul (R := C) (w := tr w) (U := T) (x := y) (g.T0 i hi)
    have e : T i * x i * dn C (tr w) T y i = x i * (T i * dn C (tr w) T y i) := by grind
    rw [e, this, ← smQ_mul]
    exact smQ_congr fun c _ => by show x i * (w i c * y c) = _; grind
  rw [e1, e2, smQ_comm]
theorem ip_comm {n : Nat} {x y : Nat → Rat} : ip T n x y = ip T n y x := smQ_congr fun i _ => by grind
theorem dn_lin {p : Nat → Rat} {v : Nat → Nat → Rat} {n c : Nat} (h : 0 < U c) : dn R w U (lin p v n) c = lin p (fun k => dn R w U (v k)) n c := by
  unfold dn lin
  have e : smQ (fun i => w i c * smQ (fun k => p k * v k i) n) R = smQ (fun k => p k * smQ (fun i => w i c * v k i) R) n := by
    rw [smQ_congr fun i _ => by rw [← smQ_mul], smQ_comm]
    refine smQ_congr fun k _ => ?_
    rw [← smQ_mul]
    exact smQ_congr fun i _ => by grind
  rw [e, Rat.div_def, ← smQ_mulr]
  refine smQ_congr fun k _ => ?_
  dsimp only
  rw [Rat.div_def, Rat.mul_assoc]
theorem ip_lin {p : Nat → Rat} {u v : Nat → Nat → Rat} {n m : Nat} : ip T m (lin p u n) (lin p v n) = smQ (fun i => smQ (fun j => p i * p j * ip T m (u i) (v j)) n) n := by
  unfold ip lin
  have e : ∀ i, T i * smQ (fun k => p k * u k i) n * smQ (fun k => p k * v k i) n = smQ (fun k => smQ (fun l => p k * p l * (T i * u k i * v l i)) n) n := fun i => by
    rw [show T i * smQ (fun k => p k * u k i) n * smQ (fun k => p k * v k i) n = smQ (fun k => p k * u k i) n * (T i * smQ (fun k => p k * v k i) n) by grind, ← smQ_mulr]
    refine smQ_congr fun k _ => ?_
    rw [← Rat.mul_assoc, ← smQ_mul]
    exact smQ_congr fun l _ => by grind
  rw [smQ_congr fun i _ => e i, smQ_comm]
  refine smQ_congr fun k _ => ?_
  rw [smQ_comm]
  refine smQ_congr fun l _ => ?_
  exact smQ_mul
theorem ip_congr {n : Nat} {x x' y y' : Nat → Rat} (h : ∀ i, i < n → x i = x' i) (k : ∀ i, i < n → y i = y' i) : ip T n x y = ip T n x' y' := smQ_congr fun i hi => by rw [h i hi, k i hi]
/-- both half ticks -/
def both (R C : Nat) (w : Nat → Nat → Rat) (T U : Nat → Rat) (x : Nat → Rat) : Nat → Rat := dn C (tr w) T (dn R w U x)
def pw (R C : Nat) (w : Nat → Nat → Rat) (T U : Nat → Rat) (e : Nat → Rat) : Nat → Nat → Rat
  | 0 => e
  | k + 1 => both R C w T U (pw R C w T U e k)
theorem RW.self (g : RW R C w T U) (x y : Nat → Rat) : ip T R (both R C w T U x) y = ip T R x (both R C w T U y) := by
  unfold both
  rw [← g.adj, ip_comm, ← g.adj, ip_comm]
theorem RW.half (g : RW R C w T U) (x y : Nat → Rat) : ip T R (both R C w T U x) y = ip U C (dn R w U x) (dn R w U y) := by
  unfold both
  rw [ip_comm, ← g.adj, ip_comm]
theorem RW.mom (g : RW R C w T U) (e : Nat → Rat) : ∀ i j, ip T R (pw R C w T U e i) (pw R C w T U e j) = ip T R (pw R C w T U e (i + j)) e
  | i, 0 => rfl
  | i, j + 1 => by
    show ip T R _ (both R C w T U (pw R C w T U e j)) = _
    rw [← g.self]
    have := g.mom e (i + 1) j
    rw [show i + (j + 1) = i + 1 + j by omega]
    exact this
theorem RW.hm (g : RW R C w T U) (e : Nat → Rat) : HM fun k => ip T R (pw R C w T U e k) e := by
  have a0 : ∀ n p, qf (fun k => ip T R (pw R C w T U e k) e) n p = ip T R (lin p (pw R C w T U e) n) (lin p (pw R C w T U e) n) := fun n p => by
    rw [ip_lin]
    exact smQ_congr fun i _ => smQ_congr fun j _ => by rw [g.mom]
  have dl : ∀ n p c, c < C → dn R w U (lin p (pw R C w T U e) n) c = lin p (fun k => dn R w U (pw R C w T U e k)) n c := fun n p c hc => dn_lin (g.U0 c hc)
  have a1 : ∀ n p, qf (fun k => ip T R (pw R C w T U e (k + 1)) e) n p = ip U C (dn R w U (lin p (pw R C w T U e) n)) (dn R w U (lin p (pw R C w T U e) n)) := fun n p => by
    rw [ip_congr (dl n p) (dl n p), ip_lin]
    refine smQ_congr fun i _ => smQ_congr fun j _ => ?_
    dsimp only
    rw [← g.half, show i + j + 1 = i + 1 + j by omega, ← g.mom]
    rfl
  have ul : ∀ n p i, i < R → both R C w T U (lin p (pw R C w T U e) n) i = lin p (fun k => pw R C w T U e (k + 1)) n i := fun n p i hi => by
    unfold both
    have := dn_lin (R := C) (w := tr w) (U := T) (p := p) (v := fun k => dn R w U (pw R C w T U e k)) (n := n) (c := i) (g.T0 i hi)
    rw [show lin p (fun k => pw R C w T U e (k + 1)) n i = lin p (fun k => dn C (tr w) T (dn R w U (pw R C w T U e k))) n i from rfl, ← this]
    unfold dn
    congr 1
    refine smQ_congr fun c hc => ?_
    show _ * dn R w U (lin p (pw R C w T U e) n) c = _
    rw [dl n p c hc]
    rfl
  have a2 : ∀ n p, qf (fun k => ip T R (pw R C w T U e (k + 2)) e) n p = ip T R (both R C w T U (lin p (pw R C w T U e) n)) (both R C w T U (lin p (pw R C w T U e) n)) := fun n p => by
    rw [ip_congr (ul n p) (ul n p), ip_lin]
    refine smQ_congr fun i _ => smQ_congr fun j _ => ?_
    dsimp only
    rw [show i + j + 2 = i + 1 + (j + 1) by omega, ← g.mom]
  have sb : ∀ (r s : Nat → Rat) n p, qf (fun k => r k - s k) n p = qf r n p - qf s n p := fun r s n p => by
    unfold qf
    rw [← smQ_sub]
    refine smQ_congr fun i _ => ?_
    rw [← smQ_sub]
    exact smQ_congr fun j _ => by grind
  refine ⟨fun n p => ?_, fun n p => ?_, fun n p => ?_, fun n p => ?_⟩
  · rw [a0]; exact ip_self g.T0
  · rw [a1]; exact ip_self g.U0
  · rw [sb, a0, a1]
    have := g.contr (lin p (pw R C w T U e) n)
    grind
  · rw [sb, a1, a2]
    have := g.flip.contr (dn R w U (lin p (pw R C w T U e) n))
    have e : ip T R (both R C w T U (lin p (pw R C w T U e) n)) (both R C w T U (lin p (pw R C w T U e) n)) = ip T R (dn C (tr w) T (dn R w U (lin p (pw R C w T U e) n))) (dn C (tr w) T (dn R w U (lin p (pw R C w T U e) n))) := rfl
    rw [e]
    grind
end
theorem HM.scale {r : Nat → Rat} (h : HM r) {c : Rat} (hc : 0 ≤ c) : HM fun k => c * r k := by
  have e : ∀ (s : Nat → Rat) n p, qf (fun k => c * s k) n p = c * qf s n p := fun s n p => by
    unfold qf
    rw [← smQ_mul]
    refine smQ_congr fun i _ => ?_
    rw [← smQ_mul]
    exact smQ_congr fun j _ => by grind
  refine ⟨fun n p => ?_, fun n p => ?_, fun n p => ?_, fun n p => ?_⟩
  · rw [e]; exact Rat.mul_nonneg hc (h.h0 n p)
  · rw [e (fun k => r (k + 1))]; exact Rat.mul_nonneg hc (h.h1 n p)
  · rw [qf_congr (s := fun k => c * (r k - r (k + 1))) fun k => by grind, e (fun k => r k - r (k + 1))]; exact Rat.mul_nonneg hc (h.h2 n p)
  · rw [qf_congr (s := fun k => c * (r (k + 1) - r (k + 2))) fun k => by grind, e (fun k => r (k + 1) - r (k + 2))]; exact Rat.mul_nonneg hc (h.h3 n p)
theorem HM.congr {r s : Nat → Rat} (h : HM r) (e : ∀ k, s k = r k) : HM s := by
  rw [show s = r from funext e]; exact h
end L2.Tr

namespace L2.Tr
/-! ### lines: amounts at the nodes of a row -/
def hstep (s : Nat → Rat) (v : Nat → Rat) (k : Nat) : Rat := (if k = 0 then 0 else (1 - s (k - 1)) * v (k - 1)) + s (k + 1) * v (k + 1)
/-- amounts after h half ticks from node m -/
def fr (s : Nat → Rat) (m : Nat) : Nat → Nat → Rat
  | 0 => fun k => if k = m then 1 else 0
  | h + 1 => hstep s (fr s m h)
def rl (s : Nat → Rat) (t : Nat) : Rat := fr s 0 (2 * t) 0
section
variable {s : Nat → Rat}
theorem hstep_lin {a b : Rat} {u v : Nat → Rat} {k : Nat} : hstep s (fun i => a * u i + b * v i) k = a * hstep s u k + b * hstep s v k := by
  unfold hstep
  by_cases h : k = 0
  · rw [if_pos h, if_pos h, if_pos h]; grind
  · rw [if_neg h, if_neg h, if_neg h]; grind
/-- the first half tick -/
theorem fr_first (h0 : s 0 = 0) (m : Nat) : ∀ h k, fr s m (h + 1) k = s m * fr s (m - 1) h k + (1 - s m) * fr s (m + 1) h k
  | 0, k => by
    show hstep s (fr s m 0) k = s m * (if k = m - 1 then 1 else 0) + (1 - s m) * (if k = m + 1 then 1 else 0)
    unfold hstep
    show (if k = 0 then 0 else (1 - s (k - 1)) * (if k - 1 = m then 1 else 0)) + s (k + 1) * (if k + 1 = m then 1 else 0) = _
    by_cases e1 : k = m + 1
    · subst e1
      rw [if_neg (by omega), Nat.add_sub_cancel, if_pos rfl, if_neg (by omega), if_pos rfl, if_neg (by omega)]
      grind
    · by_cases e2 : k + 1 = m
      · subst e2
        rw [Nat.add_sub_cancel, if_neg (show ¬ k - 1 = k + 1 by omega), if_neg e1, if_pos (show k + 1 = k + 1 from rfl), if_pos (show k = k from rfl)]
        by_cases e3 : k = 0
        · rw [if_pos e3]; grind
        · rw [if_neg e3]; grind
      · rw [if_neg e2, if_neg e1]
        by_cases e3 : k = 0
        · rw [if_pos e3]
          by_cases e4 : k = m - 1
          · have : m = 0 := by omega
            rw [this, h0]; grind
          · rw [if_neg e4]; grind
        · rw [if_neg e3, if_neg (by omega)]
          by_cases e4 : k = m - 1
          · omega
          · rw [if_neg e4]; grind
  | h + 1, k => by
    have e : fr s m (h + 1) = fun k => s m * fr s (m - 1) h k + (1 - s m) * fr s (m + 1) h k := funext fun k => fr_first h0 m h k
    show hstep s (fr s m (h + 1)) k = s m * hstep s (fr s (m - 1) h) k + (1 - s m) * hstep s (fr s (m + 1) h) k
    rw [e, hstep_lin]
def pd (s : Nat → Rat) : Nat → Rat
  | 0 => 1
  | m + 1 => pd s m * s (m + 1)
def pc (s : Nat → Rat) : Nat → Rat
  | 0 => 1
  | m + 1 => pc s m * (1 - s m)
theorem fr_far (h0 : s 0 = 0) : ∀ h m, h < m → fr s m h 0 = 0
  | 0, m, hm => if_neg (by omega)
  | h + 1, m, hm => by rw [fr_first h0, fr_far h0 h (m - 1) (by omega), fr_far h0 h (m + 1) (by omega)]; grind
theorem fr_near (h0 : s 0 = 0) : ∀ m, fr s m m 0 = pd s m
  | 0 => by show (if (0 : Nat) = 0 then (1 : Rat) else 0) = 1; rw [if_pos rfl]
  | m + 1 => by rw [fr_first h0, Nat.add_sub_cancel, fr_near h0 m, fr_far h0 m (m + 2) (by omega)]; show _ = pd s m * s (m + 1); grind
theorem fr_shut (h0 : s 0 = 0) {n : Nat} (hn : 0 < n) (hs : s n = 0) : ∀ h m, n ≤ m → fr s m h 0 = 0
  | 0, m, hm => if_neg (by omega)
  | h + 1, m, hm => by
    rw [fr_first h0, fr_shut h0 hn hs h (m + 1) (by omega)]
    by_cases e : m = n
    · rw [e, hs]; grind
    · rw [fr_shut h0 hn hs h (m - 1) (by omega)]; grind
/-! the polynomials -/
def gf (s : Nat → Rat) (i : Nat) : Rat := (1 - s (i - 1)) * s i
mutual
def pE (s : Nat → Rat) : Nat → Nat → Rat
  | 0 => fun k => if k = 0 then 1 else 0
  | j + 1 => fun k => (if k = 0 then 0 else pO s j (k - 1)) - pE s j k * gf s (2 * j + 1)
def pO (s : Nat → Rat) : Nat → Nat → Rat
  | 0 => fun k => if k = 0 then 1 else 0
  | j + 1 => fun k => (if k = 0 then 0 else pO s j (k - 1)) - pE s j k * gf s (2 * j + 1) - pO s j k * gf s (2 * j + 2)
end
theorem pE_zero (k : Nat) : pE s 0 k = if k = 0 then 1 else 0 := by rw [pE]
theorem pO_zero (k : Nat) : pO s 0 k = if k = 0 then 1 else 0 := by rw [pO]
theorem pE_succ (j k : Nat) : pE s (j + 1) k = (if k = 0 then 0 else pO s j (k - 1)) - pE s j k * gf s (2 * j + 1) := by rw [pE]
theorem pO_succ (j k : Nat) : pO s (j + 1) k = pE s (j + 1) k - pO s j k * gf s (2 * j + 2) := by rw [pO, pE_succ]
theorem p_high : ∀ j k, j < k → pE s j k = 0 ∧ pO s j k = 0
  | 0, k, h => by rw [pE_zero, pO_zero, if_neg (by omega)]; exact ⟨rfl, rfl⟩
  | j + 1, k, h => by
    obtain ⟨a, b⟩ := p_high j k (by omega)
    obtain ⟨_, d⟩ := p_high j (k - 1) (by omega)
    have e : pE s (j + 1) k = 0 := by rw [pE_succ, a, if_neg (by omega), d]; grind
    exact ⟨e, by rw [pO_succ, e, b]; grind⟩
theorem p_top : ∀ j, pE s j j = 1 ∧ pO s j j = 1
  | 0 => by rw [pE_zero, pO_zero, if_pos rfl]; exact ⟨rfl, rfl⟩
  | j + 1 => by
    obtain ⟨a, b⟩ := p_high (s := s) j (j + 1) (by omega)
    have e : pE s (j + 1) (j + 1) = 1 := by rw [pE_succ, a, if_neg (by omega), Nat.add_sub_cancel, (p_top j).2]; grind
    exact ⟨e, by rw [pO_succ, e, b]; grind⟩
theorem p_act (h0 : s 0 = 0) : ∀ j, (∀ h k, smQ (fun i => pE s j i * fr s 0 (2 * i + h) k) (j + 1) = pc s (2 * j) * fr s (2 * j) h k) ∧ (∀ h k, smQ (fun i => pO s j i * fr s 0 (2 * i + 1 + h) k) (j + 1) = pc s (2 * j + 1) * fr s (2 * j + 1) h k)
  | 0 => by
    refine ⟨fun h k => ?_, fun h k => ?_⟩
    · rw [smQ_succ]
      show (0 : Rat) + pE s 0 0 * fr s 0 (2 * 0 + h) k = 1 * fr s 0 h k
      rw [pE_zero, if_pos rfl, show 2 * 0 + h = h by omega]; grind
    · rw [smQ_succ]
      show (0 : Rat) + pO s 0 0 * fr s 0 (2 * 0 + 1 + h) k = 1 * (1 - s 0) * fr s 1 h k
      rw [pO_zero, if_pos rfl, show 2 * 0 + 1 + h = h + 1 by omega, fr_first h0, h0]; grind
  | j + 1 => by
    obtain ⟨hE, hO⟩ := p_act h0 j
    have kE : ∀ h k, smQ (fun i => pE s (j + 1) i * fr s 0 (2 * i + h) k) (j + 2) = pc s (2 * (j + 1)) * fr s (2 * (j + 1)) h k := fun h k => by
      have e1 : smQ (fun i => pE s (j + 1) i * fr s 0 (2 * i + h) k) (j + 2) = smQ (fun i => (if i = 0 then 0 else pO s j (i - 1)) * fr s 0 (2 * i + h) k) (j + 2) - gf s (2 * j + 1) * smQ (fun i => pE s j i * fr s 0 (2 * i + h) k) (j + 2) := by
        rw [← smQ_mul, ← smQ_sub]
        exact smQ_congr fun i _ => by rw [pE_succ]; grind
      have e2 : smQ (fun i => (if i = 0 then 0 else pO s j (i - 1)) * fr s 0 (2 * i + h) k) (j + 2) = smQ (fun i => pO s j i * fr s 0 (2 * i + 1 + (h + 1)) k) (j + 1) := by
        rw [smQ_shift, if_pos rfl, Rat.zero_mul, Rat.zero_add]
        exact smQ_congr fun i _ => by rw [if_neg (by omega), Nat.add_sub_cancel, show 2 * (i + 1) + h = 2 * i + 1 + (h + 1) by omega]
      have e3 : smQ (fun i => pE s j i * fr s 0 (2 * i + h) k) (j + 2) = smQ (fun i => pE s j i * fr s 0 (2 * i + h) k) (j + 1) := by
        rw [smQ_succ, (p_high j (j + 1) (by omega)).1]; grind
      rw [e1, e2, e3, hE, hO, fr_first h0, Nat.add_sub_cancel]
      have c1 : pc s (2 * (j + 1)) = pc s (2 * j + 1) * (1 - s (2 * j + 1)) := rfl
      have c2 : pc s (2 * j + 1) = pc s (2 * j) * (1 - s (2 * j)) := rfl
      rw [c1, c2, show 2 * (j + 1) = 2 * j + 1 + 1 by omega]
      unfold gf
      rw [Nat.add_sub_cancel]; grind
    refine ⟨kE, fun h k => ?_⟩
    have e1 : smQ (fun i => pO s (j + 1) i * fr s 0 (2 * i + 1 + h) k) (j + 2) = smQ (fun i => pE s (j + 1) i * fr s 0 (2 * i + (h + 1)) k) (j + 2) - gf s (2 * j + 2) * smQ (fun i => pO s j i * fr s 0 (2 * i + 1 + h) k) (j + 2) := by
      rw [← smQ_mul, ← smQ_sub]
      exact smQ_congr fun i _ => by rw [pO_succ, show 2 * i + (h + 1) = 2 * i + 1 + h by omega]; grind
    have e3 : smQ (fun i => pO s j i * fr s 0 (2 * i + 1 + h) k) (j + 2) = smQ (fun i => pO s j i * fr s 0 (2 * i + 1 + h) k) (j + 1) := by
      rw [smQ_succ, (p_high j (j + 1) (by omega)).2]; grind
    show smQ (fun i => pO s (j + 1) i * fr s 0 (2 * i + 1 + h) k) (j + 2) = _
    rw [e1, e3, kE, hO, fr_first h0]
    have c1 : pc s (2 * (j + 1) + 1) = pc s (2 * (j + 1)) * (1 - s (2 * (j + 1))) := rfl
    have c2 : pc s (2 * (j + 1)) = pc s (2 * j + 1) * (1 - s (2 * j + 1)) := rfl
    rw [c1, c2, show 2 * (j + 1) = 2 * j + 2 by omega]
    unfold gf
    rw [show 2 * j + 2 - 1 = 2 * j + 1 by omega]
    grind
/-- sums over the readings -/
theorem pE_sum (h0 : s 0 = 0) (j u : Nat) : smQ (fun i => pE s j i * rl s (u + i)) (j + 1) = pc s (2 * j) * fr s (2 * j) (2 * u) 0 := by
  rw [← (p_act h0 j).1]
  exact smQ_congr fun i _ => by unfold rl; rw [show 2 * (u + i) = 2 * i + 2 * u by omega]
theorem pO_sum (h0 : s 0 = 0) (j u : Nat) : smQ (fun i => pO s j i * rl s (u + 1 + i)) (j + 1) = pc s (2 * j + 1) * fr s (2 * j + 1) (2 * u + 1) 0 := by
  rw [← (p_act h0 j).2]
  exact smQ_congr fun i _ => by unfold rl; rw [show 2 * (u + 1 + i) = 2 * i + 1 + (2 * u + 1) by omega]
end
end L2.Tr

namespace L2.Tr
/-! ### the readings of a line -/
structure LS (s : Nat → Rat) (n e : Nat) : Prop where
  h0 : s 0 = 0
  n0 : 0 < n
  mid : ∀ k, 0 < k → k < n → 0 < s k ∧ s k < 1
  en : (e = 0 ∧ s n = 0) ∨ (e = 1 ∧ s n = 1)
def gp (s : Nat → Rat) (t : Nat) : Rat := pc s t * pd s (t - 1)
section
variable {s : Nat → Rat} {n e : Nat}
theorem gp_one (h0 : s 0 = 0) : gp s 1 = 1 := by
  show 1 * (1 - s 0) * 1 = 1
  rw [h0]; grind
theorem gp_succ {t : Nat} (ht : 0 < t) : gp s (t + 1) = gp s t * s t * (1 - s t) := by
  obtain ⟨u, rfl⟩ : ∃ u, t = u + 1 := ⟨t - 1, by omega⟩
  show pc s (u + 1) * (1 - s (u + 1)) * (pd s u * s (u + 1)) = pc s (u + 1) * pd s u * s (u + 1) * (1 - s (u + 1))
  grind
theorem LS.gone (g : LS s n e) {m h : Nat} (hm : n < m) (hm2 : m = n + 1) : pc s m * fr s m h 0 = 0 := by
  rcases g.en with ⟨_, z⟩ | ⟨_, z⟩
  · rw [fr_shut g.h0 g.n0 z h m (by omega)]; grind
  · rw [hm2]
    show pc s n * (1 - s n) * _ = 0
    rw [z]; grind
/-- what is known of the reading at tick t -/
def add (s : Nat → Rat) (n t : Nat) : Rat := if t ≤ n then s t * gp s t else 0
theorem LS.stepE (g : LS s n e) {t j : Nat} (ht : 0 < t) (hj : min t (n + 1) = 2 * j) : smQ (fun i => pE s j i * rl s (t - j + i)) j + rl s t = add s n t := by
  have h := pE_sum g.h0 j (t - j)
  rw [smQ_succ, (p_top j).1, show t - j + j = t by omega, Rat.one_mul] at h
  rw [h]
  unfold add
  by_cases hn : t ≤ n
  · rw [if_pos hn, show 2 * (t - j) = 2 * j by omega, fr_near g.h0, show 2 * j = t by omega]
    obtain ⟨u, rfl⟩ : ∃ u, t = u + 1 := ⟨t - 1, by omega⟩
    show pc s (u + 1) * (pd s u * s (u + 1)) = s (u + 1) * (pc s (u + 1) * pd s u)
    grind
  · rw [if_neg hn]; exact g.gone (by omega) (by omega)
theorem LS.stepO (g : LS s n e) {t j : Nat} (hj : min t (n + 1) = 2 * j + 1) : smQ (fun i => pO s j i * rl s (t - j + i)) j + rl s t = add s n t := by
  have h := pO_sum g.h0 j (t - j - 1)
  rw [show t - j - 1 + 1 = t - j by omega, smQ_succ, (p_top j).2, show t - j + j = t by omega, Rat.one_mul] at h
  rw [h]
  unfold add
  by_cases hn : t ≤ n
  · rw [if_pos hn, show 2 * (t - j - 1) + 1 = 2 * j + 1 by omega, fr_near g.h0, show 2 * j + 1 = t by omega]
    obtain ⟨u, rfl⟩ : ∃ u, t = u + 1 := ⟨t - 1, by omega⟩
    show pc s (u + 1) * (pd s u * s (u + 1)) = s (u + 1) * (pc s (u + 1) * pd s u)
    grind
  · rw [if_neg hn]; exact g.gone (by omega) (by omega)
theorem rl_zero : rl s 0 = 1 := by
  show (if (0 : Nat) = 0 then (1 : Rat) else 0) = 1
  rw [if_pos rfl]
/-! as a web -/
def nT (s : Nat → Rat) : Nat → Rat
  | 0 => 1
  | k + 1 => nT s k * (1 - s k) / s (k + 1)
def nW (s : Nat → Rat) (i c : Nat) : Rat := (if c = i + 1 then nT s i * (1 - s i) else 0) + (if c + 1 = i then nT s c * (1 - s c) else 0)
theorem LS.lt (g : LS s n e) {k : Nat} (hk : k < n + e) : 0 ≤ s k ∧ s k ≤ 1 ∧ (0 < k → 0 < s k) := by
  by_cases h : k = 0
  · subst h; rw [g.h0]; exact ⟨by decide, by decide, fun h => absurd h (Nat.lt_irrefl _)⟩
  · by_cases hn : k < n
    · have := g.mid k (by omega) hn
      exact ⟨Rat.le_of_lt this.1, Rat.le_of_lt this.2, fun _ => this.1⟩
    · rcases g.en with ⟨e0, z⟩ | ⟨e1, z⟩
      · omega
      · rw [show k = n by omega, z]; exact ⟨by decide, by decide, fun _ => by decide⟩
theorem LS.lt1 (g : LS s n e) {k : Nat} (hk : k + 1 < n + e) : s k < 1 := by
  by_cases h : k = 0
  · subst h; rw [g.h0]; decide
  · rcases g.en with ⟨e0, z⟩ | ⟨e1, z⟩
    · exact (g.mid k (by omega) (by omega)).2
    · exact (g.mid k (by omega) (by omega)).2
theorem LS.T0 (g : LS s n e) : ∀ k, k < n + e → 0 < nT s k
  | 0, _ => by show (0 : Rat) < 1; decide
  | k + 1, hk => by
    have h1 := g.T0 k (by omega)
    have h2 := g.lt1 hk
    have h3 := (g.lt hk).2.2 (by omega)
    show 0 < nT s k * (1 - s k) / s (k + 1)
    rw [Rat.div_def]
    exact Rat.mul_pos (Rat.mul_pos h1 (by grind)) (Rat.inv_pos.mpr h3)
theorem LS.Ts (g : LS s n e) {k : Nat} (hk : k + 1 < n + e) : nT s (k + 1) * s (k + 1) = nT s k * (1 - s k) := by
  have h3 := (g.lt hk).2.2 (by omega)
  show nT s k * (1 - s k) / s (k + 1) * s (k + 1) = _
  exact Rat.div_mul_cancel (by grind)
theorem smQ_at {f : Nat → Rat} {k m : Nat} : smQ (fun c => if c = k then f c else 0) m = if k < m then f k else 0 := by
  by_cases h : k < m
  · rw [if_pos h, smQ_one (k := k) h fun i _ hi => if_neg hi, if_pos rfl]
  · rw [if_neg h]; exact smQ_null fun i hi => if_neg (by omega)
theorem smQ_be {f : Nat → Rat} {k m : Nat} (hk : k < m) : smQ (fun c => if c + 1 = k then f c else 0) m = if 0 < k then f (k - 1) else 0 := by
  by_cases h : 0 < k
  · rw [if_pos h, smQ_one (k := k - 1) (by omega) fun i _ hi => if_neg (by omega), if_pos (by omega)]
  · rw [if_neg h]; exact smQ_null fun i hi => if_neg (by omega)
/-- the sum along a node's joints -/
theorem nW_sum {x : Nat → Rat} {i N : Nat} (hi : i < N) : smQ (fun c => nW s i c * x c) N = (if i + 1 < N then nT s i * (1 - s i) * x (i + 1) else 0) + (if 0 < i then nT s (i - 1) * (1 - s (i - 1)) * x (i - 1) else 0) := by
  have e : smQ (fun c => nW s i c * x c) N = smQ (fun c => if c = i + 1 then nT s i * (1 - s i) * x c else 0) N + smQ (fun c => if c + 1 = i then nT s c * (1 - s c) * x c else 0) N := by
    rw [← smQ_add]
    refine smQ_congr fun c _ => ?_
    unfold nW
    by_cases h1 : c = i + 1
    · rw [if_pos h1, if_pos h1, if_neg (by omega), if_neg (by omega)]; grind
    · rw [if_neg h1, if_neg h1]
      by_cases h2 : c + 1 = i
      · rw [if_pos h2, if_pos h2]; grind
      · rw [if_neg h2, if_neg h2]; grind
  rw [e, smQ_at, smQ_be hi]
theorem nW_symm (i c : Nat) : nW s i c = nW s c i := by
  unfold nW
  by_cases h1 : c = i + 1
  · rw [if_pos h1, if_neg (by omega), if_neg (by omega), if_pos (by omega)]; grind
  · rw [if_neg h1]
    by_cases h2 : c + 1 = i
    · rw [if_pos h2, if_pos (by omega), if_neg (by omega)]; grind
    · rw [if_neg h2, if_neg (by omega), if_neg (by omega)]
theorem LS.rw_ (g : LS s n e) : RW (n + e) (n + e) (nW s) (nT s) (nT s) := by
  have w0 : ∀ i c, i < n + e → c < n + e → 0 ≤ nW s i c := fun i c hi hc => by
    unfold nW
    have a : ∀ k, k < n + e → 0 ≤ nT s k * (1 - s k) := fun k hk => Rat.mul_nonneg (Rat.le_of_lt (g.T0 k hk)) (by have := (g.lt hk).2.1; grind)
    have b1 : 0 ≤ (if c = i + 1 then nT s i * (1 - s i) else 0) := by split; exact a i hi; exact Rat.le_refl
    have b2 : 0 ≤ (if c + 1 = i then nT s c * (1 - s c) else 0) := by split; exact a c hc; exact Rat.le_refl
    grind
  have hT : ∀ i, i < n + e → smQ (nW s i) (n + e) ≤ nT s i := fun i hi => by
    have h := nW_sum (s := s) (x := fun _ => 1) (i := i) (N := n + e) hi
    rw [show smQ (fun c => nW s i c * 1) (n + e) = smQ (nW s i) (n + e) from smQ_congr fun c _ => by grind] at h
    rw [h]
    have t0 := g.T0 i hi
    obtain ⟨s0, s1, _⟩ := g.lt hi
    have p1 : 0 ≤ nT s i * (1 - s i) := Rat.mul_nonneg (Rat.le_of_lt t0) (by grind)
    have p2 : 0 ≤ nT s i * s i := Rat.mul_nonneg (Rat.le_of_lt t0) s0
    have a1 : (if i + 1 < n + e then nT s i * (1 - s i) * 1 else 0) ≤ nT s i * (1 - s i) := by split <;> grind
    have a2 : (if 0 < i then nT s (i - 1) * (1 - s (i - 1)) * 1 else 0) ≤ nT s i * s i := by
      split
      · rename_i h
        obtain ⟨u, rfl⟩ : ∃ u, i = u + 1 := ⟨i - 1, by omega⟩
        rw [Nat.add_sub_cancel, g.Ts hi]; grind
      · exact p2
    grind
  exact ⟨w0, g.T0, g.T0, hT, fun c hc => by rw [show smQ (fun i => nW s i c) (n + e) = smQ (nW s c) (n + e) from smQ_congr fun i _ => nW_symm i c]; exact hT c hc⟩
theorem LS.none (g : LS s n e) (he : e = 1) : ∀ h k, n < k → fr s 0 h k = 0
  | 0, k, hk => if_neg (by omega)
  | h + 1, k, hk => by
    show hstep s (fr s 0 h) k = 0
    unfold hstep
    rw [if_neg (by omega), g.none he h (k + 1) (by omega)]
    by_cases hn : k - 1 = n
    · rcases g.en with ⟨e0, _⟩ | ⟨_, z⟩
      · omega
      · rw [hn, z]; grind
    · rw [g.none he h (k - 1) (by omega)]; grind
def hf (s : Nat → Rat) (N : Nat) : Nat → Nat → Rat
  | 0 => fun i => if i = 0 then 1 else 0
  | h + 1 => dn N (nW s) (nT s) (hf s N h)
theorem LS.flow (g : LS s n e) : ∀ h c, c < n + e → nT s c * hf s (n + e) h c = fr s 0 h c
  | 0, c, hc => by
    show nT s c * (if c = 0 then 1 else 0) = if c = 0 then 1 else 0
    by_cases h : c = 0
    · rw [if_pos h, h]; show (1 : Rat) * 1 = 1; rw [Rat.mul_one]
    · rw [if_neg h, Rat.mul_zero]
  | h + 1, c, hc => by
    show nT s c * dn (n + e) (nW s) (nT s) (hf s (n + e) h) c = hstep s (fr s 0 h) c
    rw [dn_mul (g.T0 c hc), smQ_congr fun i _ => by rw [nW_symm i c], nW_sum hc]
    unfold hstep
    have a1 : (if c + 1 < n + e then nT s c * (1 - s c) * hf s (n + e) h (c + 1) else 0) = s (c + 1) * fr s 0 h (c + 1) := by
      by_cases h1 : c + 1 < n + e
      · rw [if_pos h1, ← g.Ts h1, ← g.flow h (c + 1) h1]; grind
      · rw [if_neg h1]
        rcases g.en with ⟨e0, z⟩ | ⟨e1, z⟩
        · rw [show c + 1 = n by omega, z]; grind
        · rw [g.none e1 h (c + 1) (by omega)]; grind
    have a2 : (if 0 < c then nT s (c - 1) * (1 - s (c - 1)) * hf s (n + e) h (c - 1) else 0) = if c = 0 then 0 else (1 - s (c - 1)) * fr s 0 h (c - 1) := by
      by_cases h1 : 0 < c
      · rw [if_pos h1, if_neg (by omega), ← g.flow h (c - 1) (by omega)]; grind
      · rw [if_neg h1, if_pos (by omega)]
    rw [a1, a2]; grind
theorem hf_pw (N : Nat) : ∀ k, hf s N (2 * k) = pw N N (nW s) (nT s) (nT s) (fun i => if i = 0 then 1 else 0) k
  | 0 => rfl
  | k + 1 => by
    show dn N (nW s) (nT s) (dn N (nW s) (nT s) (hf s N (2 * k))) = both N N (nW s) (nT s) (nT s) (pw N N (nW s) (nT s) (nT s) _ k)
    rw [hf_pw N k]
    unfold both
    rw [show tr (nW s) = nW s from funext fun i => funext fun c => nW_symm c i]
theorem LS.ip0 (g : LS s n e) (x : Nat → Rat) : ip (nT s) (n + e) x (fun i => if i = 0 then 1 else 0) = x 0 := by
  unfold ip
  rw [smQ_one (k := 0) (by have := g.n0; omega) fun i _ hi => by dsimp only; rw [if_neg hi, Rat.mul_zero]]
  show (1 : Rat) * x 0 * 1 = x 0
  grind
theorem LS.rl_pw (g : LS s n e) (t : Nat) : rl s t = ip (nT s) (n + e) (pw (n + e) (n + e) (nW s) (nT s) (nT s) (fun i => if i = 0 then 1 else 0) t) (fun i => if i = 0 then 1 else 0) := by
  rw [g.ip0, ← hf_pw]
  have := g.flow (2 * t) 0 (by have := g.n0; omega)
  unfold rl
  rw [← this]
  show (1 : Rat) * _ = _
  grind
theorem LS.hm (g : LS s n e) : HM (rl s) := (g.rw_.hm (fun i => if i = 0 then 1 else 0)).congr fun k => g.rl_pw k
/-! the limit of a line with the end 1 -/
def evn (i : Nat) : Rat := if i % 2 = 0 then 1 else 0
theorem LS.still (g : LS s n e) (he : e = 1) : ∀ c, c < n + e → dn (n + e) (nW s) (nT s) evn c = evn (c + 1) ∧ dn (n + e) (nW s) (nT s) (fun i => evn (i + 1)) c = evn c := by
  have key : ∀ (x : Nat → Rat) (y : Rat) c, c < n + e → (∀ i, i + 1 = c ∨ i = c + 1 → x i = y) → dn (n + e) (nW s) (nT s) x c = y := fun x y c hc hx => by
    have h := dn_mul (R := n + e) (w := nW s) (U := nT s) (x := x) (c := c) (g.T0 c hc)
    rw [smQ_congr fun i _ => by rw [nW_symm i c], nW_sum hc] at h
    have t0 := g.T0 c hc
    have e1 : (if c + 1 < n + e then nT s c * (1 - s c) * x (c + 1) else 0) = nT s c * (1 - s c) * y := by
      by_cases h1 : c + 1 < n + e
      · rw [if_pos h1, hx (c + 1) (.inr rfl)]
      · rw [if_neg h1]
        rcases g.en with ⟨e0, z⟩ | ⟨_, z⟩
        · omega
        · rw [show c = n by omega, z]; grind
    have e2 : (if 0 < c then nT s (c - 1) * (1 - s (c - 1)) * x (c - 1) else 0) = nT s c * s c * y := by
      by_cases h1 : 0 < c
      · obtain ⟨u, rfl⟩ : ∃ u, c = u + 1 := ⟨c - 1, by omega⟩
        rw [if_pos h1, Nat.add_sub_cancel, hx u (.inl rfl), g.Ts hc]
      · rw [if_neg h1, show c = 0 by omega, g.h0]; grind
    rw [e1, e2] at h
    have h2 : nT s c * (dn (n + e) (nW s) (nT s) x c - y) = 0 := by grind
    rcases Rat.mul_eq_zero.mp h2 with z | z
    · grind
    · grind
  intro c hc
  have ev2 : ∀ i, evn (i + 2) = evn i := fun i => by unfold evn; rw [Nat.add_mod_right]
  refine ⟨key _ _ c hc fun i hi => ?_, key _ _ c hc fun i hi => ?_⟩
  · rcases hi with rfl | rfl
    · rw [show i + 1 + 1 = i + 2 by omega, ev2]
    · rfl
  · rcases hi with rfl | rfl
    · rfl
    · rw [show c + 1 + 1 = c + 2 by omega, ev2]
def lsum (s : Nat → Rat) (N : Nat) : Rat := smQ (fun i => nT s i * evn i) N
theorem evn_sq (i : Nat) : evn i * evn i = evn i := by unfold evn; split <;> grind
theorem LS.lsum_pos (g : LS s n e) : 0 < lsum s (n + e) := by
  have h := smQ_ge (f := fun i => nT s i * evn i) (n := n + e) (k := 0) (by have := g.n0; omega) fun i hi => Rat.mul_nonneg (Rat.le_of_lt (g.T0 i hi)) (by unfold evn; split <;> decide)
  have e : nT s 0 * evn 0 = 1 := by show (1 : Rat) * (if 0 % 2 = 0 then 1 else 0) = 1; rw [if_pos rfl, Rat.mul_one]
  rw [e] at h
  unfold lsum
  grind
theorem LS.above (g : LS s n e) (he : e = 1) (t : Nat) : 1 / lsum s (n + e) ≤ rl s t := by
  have down : ∀ a b, rl s (a + b) ≤ rl s a := fun a b => by
    induction b with
    | zero => exact Rat.le_refl
    | succ b ih => have := g.hm.diff.pos (a + b); show rl s (a + b + 1) ≤ _; grind
  refine Rat.le_trans ?_ (down t t)
  have hr := g.rw_
  have S0 := g.lsum_pos
  have hS : ip (nT s) (n + e) evn evn = lsum s (n + e) := smQ_congr fun i _ => by rw [Rat.mul_assoc, evn_sq]
  have st : ∀ x, ip (nT s) (n + e) (both (n + e) (n + e) (nW s) (nT s) (nT s) x) evn = ip (nT s) (n + e) x evn := fun x => by
    rw [hr.self]
    refine ip_congr (fun _ _ => rfl) fun i hi => ?_
    unfold both
    rw [show tr (nW s) = nW s from funext fun i => funext fun c => nW_symm c i]
    have e1 : ∀ c, c < n + e → dn (n + e) (nW s) (nT s) evn c = evn (c + 1) := fun c hc => (g.still he c hc).1
    have e2 : dn (n + e) (nW s) (nT s) (dn (n + e) (nW s) (nT s) evn) i = dn (n + e) (nW s) (nT s) (fun c => evn (c + 1)) i := by
      unfold dn
      congr 1
      refine smQ_congr fun c hc => ?_
      have := e1 c hc
      unfold dn at this
      rw [this]
    rw [e2, (g.still he i hi).2]
  have hx : ∀ k, ip (nT s) (n + e) (pw (n + e) (n + e) (nW s) (nT s) (nT s) (fun i => if i = 0 then 1 else 0) k) evn = 1 := fun k => by
    induction k with
    | zero =>
      show ip (nT s) (n + e) (fun i => if i = 0 then 1 else 0) evn = 1
      rw [ip_comm, g.ip0]; rfl
    | succ k ih => exact (st _).trans ih
  have hm := hr.mom (fun i => if i = 0 then 1 else 0) t t
  rw [← g.rl_pw (t + t)] at hm
  have hb := hx t
  generalize pw (n + e) (n + e) (nW s) (nT s) (nT s) (fun i => if i = 0 then 1 else 0) t = x at *
  have h1 := ip_self (T := nT s) (n := n + e) (x := fun i => x i - (1 / lsum s (n + e)) * evn i) g.T0
  have e1 : ∀ c : Rat, ip (nT s) (n + e) (fun i => x i - c * evn i) (fun i => x i - c * evn i) = ip (nT s) (n + e) x x - 2 * c * ip (nT s) (n + e) x evn + c * c * ip (nT s) (n + e) evn evn := fun c => by
    unfold ip
    rw [← smQ_mul, ← smQ_mul, ← smQ_sub, ← smQ_add]
    exact smQ_congr fun i _ => by grind
  rw [e1, hb, hS, hm] at h1
  generalize lsum s (n + e) = S at *
  have : 1 / S * S = 1 := Rat.div_mul_cancel (by grind)
  have h2 : 1 / S * (1 / S) * S = 1 / S := by rw [Rat.mul_assoc, this, Rat.mul_one]
  rw [h2] at h1
  grind
end
end L2.Tr

namespace L2.Tr
/-! ### sizes: a denominator and a bound of the value -/
def Fx (D M : Nat) (q : Rat) : Prop := DB D (M * D) q
section
variable {D E M N : Nat} {x y : Rat}
theorem Fx.add (h : Fx D M x) (k : Fx D N y) : Fx D (M + N) (x + y) := by
  have := DB.add h k
  unfold Fx; rwa [Nat.add_mul]
theorem Fx.sub (h : Fx D M x) (k : Fx D N y) : Fx D (M + N) (x - y) := by
  have := DB.sub h k
  unfold Fx; rwa [Nat.add_mul]
theorem Fx.neg (h : Fx D M x) : Fx D M (-x) := DB.neg h
theorem Fx.mul (h : Fx D M x) (k : Fx E N y) : Fx (D * E) (M * N) (x * y) := by
  have := DB.mul h k
  unfold Fx
  rwa [show M * N * (D * E) = M * D * (N * E) by grind]
theorem Fx.pos (h : Fx D M x) : 0 < D := h.1
theorem Fx.up (h : Fx D M x) (hd : D ∣ E) (hE : 0 < E) : Fx E M x := by
  have := DB.dvd h hd hE
  unfold Fx
  rwa [Nat.mul_assoc, Nat.mul_div_cancel' hd] at this
theorem Fx.mono (h : Fx D M x) (hM : M ≤ N) : Fx D N x := DB.mono h (Nat.mul_le_mul_right D hM)
theorem Fx.zero (h : 0 < D) : Fx D M 0 := DB.zero h _
theorem Fx.one (h : 0 < D) : Fx D 1 1 := (show Fx 1 1 1 from DB.one).up (Nat.one_dvd D) h
theorem Fx.fits {a b : Nat} (h : Fx D M x) (hD : D ≤ 2 ^ a) (hM : M ≤ 2 ^ b) (hab : a + b ≤ 4000) : fits x :=
  DB.fits h (Nat.le_trans hD (Nat.pow_le_pow_right (by decide) (by omega))) (Nat.le_trans (Nat.mul_le_mul hM hD) (by rw [← Nat.pow_add]; exact Nat.pow_le_pow_right (by decide) (by omega)))
theorem Fx.sz {a b : Nat} (h : Fx D M x) (hD : D ≤ 2 ^ a) (hM : M ≤ 2 ^ b) : Sz (a + b) x := by
  obtain ⟨h0, z, e, hz⟩ := h
  rw [e]
  refine sz_divInt (Nat.le_trans hz (Nat.le_trans (Nat.mul_le_mul hM hD) (by rw [← Nat.pow_add, Nat.add_comm]; exact Nat.le_refl _))) ?_
  rw [Int.natAbs_natCast]
  exact Nat.le_trans hD (Nat.pow_le_pow_right (by decide) (by omega))
theorem Fx.sum {f : Nat → Rat} (h0 : 0 < D) : ∀ {n : Nat}, (∀ i, i < n → Fx D M (f i)) → Fx D (n * M) (smQ f n)
  | 0, _ => by rw [Nat.zero_mul]; exact Fx.zero h0
  | n + 1, h => by
    rw [smQ_succ, Nat.succ_mul]
    exact (Fx.sum h0 fun i hi => h i (by omega)).add (h n (by omega))
end
section
variable {s : Nat → Rat} {Λ : Nat}
theorem pow_dvd' {a b : Nat} (h : a ≤ b) : Λ ^ a ∣ Λ ^ b := Nat.pow_dvd_pow Λ h
theorem fx_fr (hΛ : 0 < Λ) (hs : ∀ k, Fx Λ 1 (s k)) : ∀ h k, Fx (Λ ^ h) (4 ^ h) (fr s 0 h k)
  | 0, k => by
    show Fx (Λ ^ 0) 1 (if k = 0 then 1 else 0)
    split
    · exact Fx.one (Nat.pow_pos hΛ)
    · exact Fx.zero (Nat.pow_pos hΛ)
  | h + 1, k => by
    show Fx (Λ ^ (h + 1)) (4 ^ (h + 1)) (hstep s (fr s 0 h) k)
    unfold hstep
    have a1 : Fx (Λ ^ (h + 1)) (2 * 4 ^ h) (if k = 0 then 0 else (1 - s (k - 1)) * fr s 0 h (k - 1)) := by
      split
      · exact Fx.zero (Nat.pow_pos hΛ)
      · have := ((Fx.one hΛ).sub (hs (k - 1))).mul (fx_fr hΛ hs h (k - 1))
        rwa [Nat.mul_comm Λ, ← Nat.pow_succ] at this
    have a2 : Fx (Λ ^ (h + 1)) (4 ^ h) (s (k + 1) * fr s 0 h (k + 1)) := by
      have := (hs (k + 1)).mul (fx_fr hΛ hs h (k + 1))
      rwa [Nat.mul_comm Λ, ← Nat.pow_succ, Nat.one_mul] at this
    refine (a1.add a2).mono ?_
    rw [Nat.pow_succ]; omega
theorem fx_rl (hΛ : 0 < Λ) (hs : ∀ k, Fx Λ 1 (s k)) (t : Nat) : Fx (Λ ^ (2 * t)) (4 ^ (2 * t)) (rl s t) := fx_fr hΛ hs (2 * t) 0
theorem fx_gf (hs : ∀ k, Fx Λ 1 (s k)) (hΛ : 0 < Λ) (i : Nat) : Fx (Λ * Λ) 2 (gf s i) := ((Fx.one hΛ).sub (hs (i - 1))).mul (hs i)
theorem fx_p (hΛ : 0 < Λ) (hs : ∀ k, Fx Λ 1 (s k)) : ∀ j, (∀ k, Fx (Λ ^ (2 * j)) (3 ^ (2 * j)) (pE s j k)) ∧ ∀ k, Fx (Λ ^ (2 * j + 1)) (3 ^ (2 * j + 1)) (pO s j k)
  | 0 => by
    have p : ∀ a b, 0 < b → ∀ k : Nat, Fx (Λ ^ a) b (if k = 0 then (1 : Rat) else 0) := fun a b hb k => by
      split
      · exact (Fx.one (Nat.pow_pos hΛ)).mono hb
      · exact Fx.zero (Nat.pow_pos hΛ)
    exact ⟨fun k => by rw [pE_zero]; exact p _ _ (by decide) k, fun k => by rw [pO_zero]; exact p _ _ (by decide) k⟩
  | j + 1 => by
    obtain ⟨hE, hO⟩ := fx_p hΛ hs j
    have kE : ∀ k, Fx (Λ ^ (2 * (j + 1))) (3 ^ (2 * (j + 1))) (pE s (j + 1) k) := fun k => by
      rw [pE_succ]
      have a1 : Fx (Λ ^ (2 * (j + 1))) (3 ^ (2 * j + 1)) (if k = 0 then 0 else pO s j (k - 1)) := by
        split
        · exact Fx.zero (Nat.pow_pos hΛ)
        · exact (hO (k - 1)).up (pow_dvd' (by omega)) (Nat.pow_pos hΛ)
      have a2 : Fx (Λ ^ (2 * (j + 1))) (3 ^ (2 * j) * 2) (pE s j k * gf s (2 * j + 1)) := by
        have := (hE k).mul (fx_gf hs hΛ (2 * j + 1))
        rwa [show Λ ^ (2 * j) * (Λ * Λ) = Λ ^ (2 * (j + 1)) by rw [show 2 * (j + 1) = 2 * j + 1 + 1 by omega, Nat.pow_succ, Nat.pow_succ, Nat.mul_assoc]] at this
      refine (a1.sub a2).mono ?_
      have e1 : 3 ^ (2 * j + 1) = 3 ^ (2 * j) * 3 := Nat.pow_succ _ _
      have e2 : 3 ^ (2 * (j + 1)) = 3 ^ (2 * j) * 3 * 3 := by rw [show 2 * (j + 1) = 2 * j + 1 + 1 by omega, Nat.pow_succ, Nat.pow_succ]
      omega
    refine ⟨kE, fun k => ?_⟩
    rw [pO_succ]
    have a1 : Fx (Λ ^ (2 * (j + 1) + 1)) (3 ^ (2 * (j + 1))) (pE s (j + 1) k) := (kE k).up (pow_dvd' (by omega)) (Nat.pow_pos hΛ)
    have a2 : Fx (Λ ^ (2 * (j + 1) + 1)) (3 ^ (2 * j + 1) * 2) (pO s j k * gf s (2 * j + 2)) := by
      have := (hO k).mul (fx_gf hs hΛ (2 * j + 2))
      rwa [show Λ ^ (2 * j + 1) * (Λ * Λ) = Λ ^ (2 * (j + 1) + 1) by rw [show 2 * (j + 1) + 1 = 2 * j + 1 + 1 + 1 by omega, Nat.pow_succ _ (2 * j + 1 + 1), Nat.pow_succ _ (2 * j + 1), Nat.mul_assoc]] at this
    refine (a1.sub a2).mono ?_
    have e1 : 3 ^ (2 * j + 1) = 3 ^ (2 * j) * 3 := Nat.pow_succ _ _
    have e2 : 3 ^ (2 * (j + 1)) = 3 ^ (2 * j) * 3 * 3 := by rw [show 2 * (j + 1) = 2 * j + 1 + 1 by omega, Nat.pow_succ, Nat.pow_succ]
    have e3 : 3 ^ (2 * (j + 1) + 1) = 3 ^ (2 * (j + 1)) * 3 := Nat.pow_succ _ _
    omega
theorem fx_gp (hΛ : 0 < Λ) (h0 : s 0 = 0) (hs : ∀ k, Fx Λ 1 (s k)) : ∀ t, Fx (Λ ^ (2 * t)) (2 ^ t) (gp s (t + 1))
  | 0 => by rw [gp_one h0]; exact Fx.one (Nat.pow_pos hΛ)
  | t + 1 => by
    rw [gp_succ (by omega)]
    have := ((fx_gp hΛ h0 hs t).mul (hs (t + 1))).mul ((Fx.one hΛ).sub (hs (t + 1)))
    rw [Nat.mul_one, ← Nat.pow_succ, ← Nat.pow_succ, show (1 : Nat) + 1 = 2 from rfl] at this
    rw [Nat.pow_succ]
    exact this
end
theorem trimQ_getD (xs : List Rat) (k : Nat) : (trimQ xs).getD k 0 = xs.getD k 0 := by
  unfold trimQ
  have key : ∀ m, m ≤ xs.length → (xs.take (trimN (fun i => decide (xs.getD i 0 = 0)) m)).getD k 0 = (xs.take m).getD k 0 := fun m => by
    induction m with
    | zero => exact fun _ => rfl
    | succ m ih =>
      intro hm
      unfold trimN
      by_cases h : xs.getD m 0 = 0
      · rw [if_pos (decide_eq_true h), ih (by omega)]
        rw [List.getD_eq_getElem?_getD, List.getD_eq_getElem?_getD]
        by_cases hk : k < m
        · rw [List.getElem?_take_of_lt hk, List.getElem?_take_of_lt (by omega)]
        · rw [List.getElem?_eq_none (by rw [List.length_take]; omega)]
          by_cases hk2 : k = m
          · subst hk2
            rw [List.getElem?_take_of_lt (by omega), ← List.getD_eq_getElem?_getD, h]; rfl
          · rw [List.getElem?_eq_none (by rw [List.length_take]; omega)]
      · rw [if_neg (by simpa using h)]
  have := key xs.length (Nat.le_refl _)
  rwa [List.take_length] at this
theorem trimQ_vec {n : Nat} {f : Nat → Rat} (h : f n ≠ 0) : trimQ (vec (n + 1) f) = vec (n + 1) f := trimQ_id fun x hx => by
  rw [vec_succ, List.getLast?_append, List.getLast?_singleton] at hx
  cases hx
  exact h
theorem vec_getD {n k : Nat} {f : Nat → Rat} : (vec n f).getD k 0 = if k < n then f k else 0 := by
  rw [List.getD_eq_getElem?_getD]
  split
  · rename_i h; rw [vec_get h]; rfl
  · rename_i h; rw [vec_none (by omega)]; rfl
theorem qAddq {x y : Rat} (hx : fits x) (hy : fits y) : qAdd x (.q y) = .ok (x + y) := qAdd_ok (y := .q y) hx hy
theorem qSubq {x y : Rat} (hx : fits x) (hy : fits y) : qSub x (.q y) = .ok (x - y) := qSub_ok (y := .q y) hx hy
theorem qMulq {x y : Rat} (hx : fits x) (hy : fits y) : qMul x (.q y) = .ok (x * y) := qMul_ok (y := .q y) hx hy
theorem qOverq {x y : Rat} (hx : fits x) (hy : fits y) (h : y ≠ 0) : qOver x (.q y) = .ok (x / y) := qOver_ok (y := .q y) hx hy h
theorem fits_one : fits ((1 : Int) : Rat) := ⟨by decide, by decide⟩
theorem fits_1 : fits (1 : Rat) := ⟨by decide, by decide⟩
theorem fits_0 : fits (0 : Rat) := ⟨by decide, by decide⟩
theorem qRsub1 {x : Rat} (hx : fits x) : qRsub x 1 = .ok (1 - x) := qRsub_ok hx fits_one
theorem num_qd (q : Rat) : ((q.num : Int) : Rat) = q * ((q.den : Int) : Rat) := by
  have e := Rat.num_divInt_den q
  rw [Rat.divInt_eq_div] at e
  have h : ((q.den : Int) : Rat) ≠ 0 := by have := q.den_nz; exact_mod_cast this
  have h2 : (q.num : Rat) / ((q.den : Int) : Rat) * ((q.den : Int) : Rat) = (q.num : Rat) := Rat.div_mul_cancel h
  rw [e] at h2
  exact h2.symm
theorem den_q (q : Rat) : (0 : Rat) < ((q.den : Int) : Rat) := by
  have := q.den_pos
  have h : (0 : Int) < (q.den : Int) := by omega
  exact_mod_cast h
/-- a fraction against a pair -/
theorem cross_iff {q : Rat} {a b : Int} (hb : 0 < b) : q.num * b = a * (q.den : Int) ↔ q = (a : Rat) / (b : Rat) := by
  have h1 := num_qd q
  have h2 := den_q q
  have h3 : (0 : Rat) < (b : Rat) := by exact_mod_cast hb
  have key : q.num * b = a * (q.den : Int) ↔ ((q.num : Int) : Rat) * (b : Rat) = (a : Rat) * ((q.den : Int) : Rat) := by
    constructor
    · intro h; rw [← Rat.intCast_mul, ← Rat.intCast_mul, h]
    · intro h; rw [← Rat.intCast_mul, ← Rat.intCast_mul] at h; exact_mod_cast h
  rw [key, h1]
  constructor
  · intro h
    have : (q * (b : Rat) - (a : Rat)) * ((q.den : Int) : Rat) = 0 := by grind
    rcases Rat.mul_eq_zero.mp this with z | z
    · have e : q * (b : Rat) = (a : Rat) := by grind
      rw [← e]; grind
    · grind
  · intro h
    have e : (a : Rat) / (b : Rat) * (b : Rat) = (a : Rat) := Rat.div_mul_cancel (by grind)
    rw [← h] at e
    rw [← e]; grind
theorem lt_cross {x y : Rat} : x.num * (y.den : Int) < y.num * (x.den : Int) ↔ x < y := by
  rw [Rat.lt_iff]
theorem sz_one : Sz 0 (1 : Rat) := ⟨by decide, by decide⟩
theorem sz_nT {s : Nat → Rat} (hz : ∀ k, Sz 10 (s k)) : ∀ k, Sz (21 * k) (nT s k)
  | 0 => sz_one
  | k + 1 => by
    show Sz (21 * (k + 1)) (nT s k * (1 - s k) / s (k + 1))
    have h1 := (sz_nT hz k).mul (sz_one.sub (hz k))
    exact (h1.div (hz (k + 1))).mono (by omega)
theorem sz_lsum {s : Nat → Rat} (hz : ∀ k, Sz 10 (s k)) : ∀ N, N ≤ 14 → Sz (280 * N) (lsum s N)
  | 0, _ => show Sz 0 (0 : Rat) from ⟨by decide, by decide⟩
  | N + 1, h => by
    show Sz (280 * (N + 1)) (lsum s N + nT s N * evn N)
    have he : Sz 0 (evn N) := by unfold evn; split <;> exact ⟨by decide, by decide⟩
    exact ((sz_lsum hz N (by omega)).add ((sz_nT hz N).mul he)).mono (by omega)
end L2.Tr

namespace L2.Tr
open PySem PySem.Spec PyProof.Rows
def top (i : Nat) : Stmt := PySem.Challenge.pw_tracerline_k22_lists_that_are_lines.main.body.getD i (.Pass ⟨0, 0, 0, 0⟩)
abbrev s_law_cell : Stmt := top 18
abbrev s_law_row : Stmt := top 19
abbrev s_law_entry : Stmt := top 20
abbrev s_law_list : Stmt := top 21
abbrev s_law_inside : Stmt := top 22
abbrev s_common_divisor : Stmt := top 7
abbrev s_Fraction_init : Stmt := inClass (top 8) 0
abbrev s_law_handed : Stmt := top 25
abbrev s_law_at_end : Stmt := top 23
abbrev s_law_place : Stmt := top 24
abbrev s_as_fraction : Stmt := top 9
abbrev s_BadLine_init : Stmt := inClass (top 5) 0
abbrev s_Fraction_le : Stmt := inClass (top 8) 12
abbrev s_Fraction_ge : Stmt := inClass (top 8) 14
abbrev s_Fraction_eq : Stmt := inClass (top 8) 10
abbrev s_Line_init : Stmt := inClass (top 16) 0
abbrev s_Line_shares : Stmt := inClass (top 16) 7
abbrev s_law_values : Stmt := top 26
abbrev s_Line_len : Stmt := inClass (top 16) 2
abbrev s_Line_getitem : Stmt := inClass (top 16) 4
abbrev s_law_kept : Stmt := top 27
abbrev s_law_made : Stmt := top 28
abbrev s_Fraction_lt : Stmt := inClass (top 8) 11
abbrev s_Fraction_gt : Stmt := inClass (top 8) 13
abbrev s_Line_cut : Stmt := inClass (top 16) 1
abbrev s_law_cut : Stmt := top 29
abbrev s_law_equal : Stmt := top 30
abbrev s_Line_eq : Stmt := inClass (top 16) 5
abbrev s_law : Stmt := top 31
structure O_Line where
  f_kept : (List Rat)
  f_end : Int
  f_rooms : Int
  f_passages : Int
abbrev gs_Line (K : PySem.W.Frag) : O_Line → List (Str × SF) := fun x => [("kept", SF.mk (rL (rFrac K)) x.f_kept), ("end", SF.mk rInt x.f_end), ("rooms", SF.mk rInt x.f_rooms), ("passages", SF.mk rInt x.f_passages)]
abbrev r_Line (K : PySem.W.Frag) : Rp O_Line := rIns (He.ga K "Line") (gs_Line K)
theorem fl_Line_kept (K : PySem.W.Frag) : ∀ x, (gs_Line K x).lookup ("kept" : Str) = some (SF.mk (rL (rFrac K)) x.f_kept) := fun _ => rfl
theorem fl_Line_end (K : PySem.W.Frag) : ∀ x, (gs_Line K x).lookup ("end" : Str) = some (SF.mk rInt x.f_end) := fun _ => rfl
theorem fl_Line_rooms (K : PySem.W.Frag) : ∀ x, (gs_Line K x).lookup ("rooms" : Str) = some (SF.mk rInt x.f_rooms) := fun _ => rfl
theorem fl_Line_passages (K : PySem.W.Frag) : ∀ x, (gs_Line K x).lookup ("passages" : Str) = some (SF.mk rInt x.f_passages) := fun _ => rfl
structure Txt (K : PySem.W.Frag) (mg : Str → Option Value) : Prop where
  g_law_cell : mg "_law_cell" = some (.ref (He.ga K "_law_cell"))
  k_law_cell : PySem.W.keepIn K (.ref (He.ga K "_law_cell")) = true
  n_int : mg "int" = none
  g_law_list : mg "_law_list" = some (.ref (He.ga K "_law_list"))
  k_law_list : PySem.W.keepIn K (.ref (He.ga K "_law_list")) = true
  n_list : mg "list" = none
  n_len : mg "len" = none
  g_law_inside : mg "_law_inside" = some (.ref (He.ga K "_law_inside"))
  k_law_inside : PySem.W.keepIn K (.ref (He.ga K "_law_inside")) = true
  g_law_made : mg "_law_made" = some (.ref (He.ga K "_law_made"))
  k_law_made : PySem.W.keepIn K (.ref (He.ga K "_law_made")) = true
  g_law_cut : mg "_law_cut" = some (.ref (He.ga K "_law_cut"))
  k_law_cut : PySem.W.keepIn K (.ref (He.ga K "_law_cut")) = true
  g_law_place : mg "_law_place" = some (.ref (He.ga K "_law_place"))
  k_law_place : PySem.W.keepIn K (.ref (He.ga K "_law_place")) = true
  g_law_handed : mg "_law_handed" = some (.ref (He.ga K "_law_handed"))
  k_law_handed : PySem.W.keepIn K (.ref (He.ga K "_law_handed")) = true
  g_Line : mg "Line" = some (.ref (He.ga K "Line"))
  mk_Line : Mk K (He.ga K "Line") (He.ma K (He.ga K "Line") "__init__")
  g_law_equal : mg "_law_equal" = some (.ref (He.ga K "_law_equal"))
  k_law_equal : PySem.W.keepIn K (.ref (He.ga K "_law_equal")) = true
  o_Line : OCls K (He.ga K "Line")
  om_Line_eq : OMet K (He.ga K "Line") "__eq__" (He.ma K (He.ga K "Line") "__eq__")
  nf_Line : PySem.W.notFirst K (He.ga K "Line") (.ref (He.ga K "Line")) = true ∧ PySem.W.notFirst K (He.ga K "Line") (.type "int") = true
  F_law_cell : ∃ fd, FunD K "_law_cell" "_law_cell" (defArgs s_law_cell) (defBody s_law_cell) (defScope s_law_cell) [] [] (He.ga K "_law_cell") fd
  g_law_row : mg "_law_row" = some (.ref (He.ga K "_law_row"))
  k_law_row : PySem.W.keepIn K (.ref (He.ga K "_law_row")) = true
  n_range : mg "range" = none
  g_law_entry : mg "_law_entry" = some (.ref (He.ga K "_law_entry"))
  k_law_entry : PySem.W.keepIn K (.ref (He.ga K "_law_entry")) = true
  n_abs : mg "abs" = none
  F_law_row : ∃ fd, FunD K "_law_row" "_law_row" (defArgs s_law_row) (defBody s_law_row) (defScope s_law_row) [] [] (He.ga K "_law_row") fd
  F_law_entry : ∃ fd, FunD K "_law_entry" "_law_entry" (defArgs s_law_entry) (defBody s_law_entry) (defScope s_law_entry) [] [] (He.ga K "_law_entry") fd
  F_law_list : ∃ fd, FunD K "_law_list" "_law_list" (defArgs s_law_list) (defBody s_law_list) (defScope s_law_list) [] [] (He.ga K "_law_list") fd
  F_law_inside : ∃ fd, FunD K "_law_inside" "_law_inside" (defArgs s_law_inside) (defBody s_law_inside) (defScope s_law_inside) [] [] (He.ga K "_law_inside") fd
  ev_BadLine : ExcV K mg "BadLine" ["place"]
  g_TracerError : mg "TracerError" = some (.ref (He.ga K "TracerError"))
  kt_BadLine_TracerError : PySem.W.kitOne K (.ref (He.ga K "BadLine")) (.ref (He.ga K "TracerError")) = some true
  xc_BadLine : ExcC K (He.ga K "BadLine")
  n_isinstance : mg "isinstance" = none
  xm_BadLine_BadLine : PySem.W.exmOne K (.ref (He.ga K "BadLine")) (.ref (He.ga K "BadLine")) = some true
  g_BadLine : mg "BadLine" = some (.ref (He.ga K "BadLine"))
  o_Fraction : OCls K (He.ga K "Fraction")
  om_Fraction_eq : OMet K (He.ga K "Fraction") "__eq__" (He.ma K (He.ga K "Fraction") "__eq__")
  nf_Fraction : PySem.W.notFirst K (He.ga K "Fraction") (.ref (He.ga K "Fraction")) = true ∧ PySem.W.notFirst K (He.ga K "Fraction") (.type "int") = true
  g_Fraction : mg "Fraction" = some (.ref (He.ga K "Fraction"))
  mk_Fraction : Mk K (He.ga K "Fraction") (He.ma K (He.ga K "Fraction") "__init__")
  g_law_kept : mg "_law_kept" = some (.ref (He.ga K "_law_kept"))
  k_law_kept : PySem.W.keepIn K (.ref (He.ga K "_law_kept")) = true
  F_common_divisor : ∃ fd, FunD K "common_divisor" "common_divisor" (defArgs s_common_divisor) (defBody s_common_divisor) (defScope s_common_divisor) [] [] (He.ga K "common_divisor") fd
  F_law_handed : ∃ fd, FunD K "_law_handed" "_law_handed" (defArgs s_law_handed) (defBody s_law_handed) (defScope s_law_handed) [] [] (He.ga K "_law_handed") fd
  g_law_at_end : mg "_law_at_end" = some (.ref (He.ga K "_law_at_end"))
  k_law_at_end : PySem.W.keepIn K (.ref (He.ga K "_law_at_end")) = true
  F_law_at_end : ∃ fd, FunD K "_law_at_end" "_law_at_end" (defArgs s_law_at_end) (defBody s_law_at_end) (defScope s_law_at_end) [] [] (He.ga K "_law_at_end") fd
  F_law_place : ∃ fd, FunD K "_law_place" "_law_place" (defArgs s_law_place) (defBody s_law_place) (defScope s_law_place) [] [] (He.ga K "_law_place") fd
  g_as_fraction : mg "as_fraction" = some (.ref (He.ga K "as_fraction"))
  k_as_fraction : PySem.W.keepIn K (.ref (He.ga K "as_fraction")) = true
  om_Fraction_le : OMet K (He.ga K "Fraction") "__le__" (He.ma K (He.ga K "Fraction") "__le__")
  om_Fraction_ge : OMet K (He.ga K "Fraction") "__ge__" (He.ma K (He.ga K "Fraction") "__ge__")
  na_Line_kept : NoAttr K (He.ga K "Line") "kept"
  na_Fraction_top : NoAttr K (He.ga K "Fraction") "top"
  na_Line_end : NoAttr K (He.ga K "Line") "end"
  na_Line_rooms : NoAttr K (He.ga K "Line") "rooms"
  na_Line_passages : NoAttr K (He.ga K "Line") "passages"
  kI_int_Fraction : PySem.W.kitOne K (.type "int") (.ref (He.ga K "Fraction")) = some false
  kt_Fraction_Fraction : PySem.W.kitOne K (.ref (He.ga K "Fraction")) (.ref (He.ga K "Fraction")) = some true
  F_as_fraction : ∃ fd, FunD K "as_fraction" "as_fraction" (defArgs s_as_fraction) (defBody s_as_fraction) (defScope s_as_fraction) [] [] (He.ga K "as_fraction") fd
  F_BadLine_init : ∃ fd, FunD K "__init__" "BadLine.__init__" (defArgs s_BadLine_init) (defBody s_BadLine_init) (defScope s_BadLine_init) [] [] (He.ma K (He.ga K "BadLine") "__init__") fd
  na_Fraction_bottom : NoAttr K (He.ga K "Fraction") "bottom"
  kT_Fraction_int : PySem.W.kitOne K (.ref (He.ga K "Fraction")) (.type "int") = some false
  F_Fraction_le : ∃ fd, FunD K "__le__" "Fraction.__le__" (defArgs s_Fraction_le) (defBody s_Fraction_le) (defScope s_Fraction_le) [] [] (He.ma K (He.ga K "Fraction") "__le__") fd
  F_Fraction_ge : ∃ fd, FunD K "__ge__" "Fraction.__ge__" (defArgs s_Fraction_ge) (defBody s_Fraction_ge) (defScope s_Fraction_ge) [] [] (He.ma K (He.ga K "Fraction") "__ge__") fd
  F_Fraction_eq : ∃ fd, FunD K "__eq__" "Fraction.__eq__" (defArgs s_Fraction_eq) (defBody s_Fraction_eq) (defScope s_Fraction_eq) [] [] (He.ma K (He.ga K "Fraction") "__eq__") fd
  F_Line_init : ∃ fd, FunD K "__init__" "Line.__init__" (defArgs s_Line_init) (defBody s_Line_init) (defScope s_Line_init) [] [] (He.ma K (He.ga K "Line") "__init__") fd
  me_Line_shares : Meth K (He.ga K "Line") "shares" (He.ma K (He.ga K "Line") "shares")
  g_law_values : mg "_law_values" = some (.ref (He.ga K "_law_values"))
  k_law_values : PySem.W.keepIn K (.ref (He.ga K "_law_values")) = true
  om_Line_len : OMet K (He.ga K "Line") "__len__" (He.ma K (He.ga K "Line") "__len__")
  om_Line_getitem : OMet K (He.ga K "Line") "__getitem__" (He.ma K (He.ga K "Line") "__getitem__")
  fi_Line_getitem : PySem.W.fnIn K (He.ma K (He.ga K "Line") "__getitem__") = true
  n_bool : mg "bool" = none
  F_Line_shares : ∃ fd, FunD K "shares" "Line.shares" (defArgs s_Line_shares) (defBody s_Line_shares) (defScope s_Line_shares) [] [] (He.ma K (He.ga K "Line") "shares") fd
  F_law_values : ∃ fd, FunD K "_law_values" "_law_values" (defArgs s_law_values) (defBody s_law_values) (defScope s_law_values) [] [] (He.ga K "_law_values") fd
  F_Line_len : ∃ fd, FunD K "__len__" "Line.__len__" (defArgs s_Line_len) (defBody s_Line_len) (defScope s_Line_len) [] [] (He.ma K (He.ga K "Line") "__len__") fd
  F_Line_getitem : ∃ fd, FunD K "__getitem__" "Line.__getitem__" (defArgs s_Line_getitem) (defBody s_Line_getitem) (defScope s_Line_getitem) [] [] (He.ma K (He.ga K "Line") "__getitem__") fd
  F_law_kept : ∃ fd, FunD K "_law_kept" "_law_kept" (defArgs s_law_kept) (defBody s_law_kept) (defScope s_law_kept) [] [] (He.ga K "_law_kept") fd
  F_law_made : ∃ fd, FunD K "_law_made" "_law_made" (defArgs s_law_made) (defBody s_law_made) (defScope s_law_made) [] [] (He.ga K "_law_made") fd
  cm_Line_cut : ClX.CRead K (He.ga K "Line") (.type "type") ∧ ClX.CMet K (He.ga K "Line") (.type "type") "cut" (He.ma K (He.ga K "Line") "cut") (wa K "classmethod" (He.ga K "Line") "cut")
  om_Fraction_lt : OMet K (He.ga K "Fraction") "__lt__" (He.ma K (He.ga K "Fraction") "__lt__")
  om_Fraction_gt : OMet K (He.ga K "Fraction") "__gt__" (He.ma K (He.ga K "Fraction") "__gt__")
  F_Fraction_lt : ∃ fd, FunD K "__lt__" "Fraction.__lt__" (defArgs s_Fraction_lt) (defBody s_Fraction_lt) (defScope s_Fraction_lt) [] [] (He.ma K (He.ga K "Fraction") "__lt__") fd
  F_Fraction_gt : ∃ fd, FunD K "__gt__" "Fraction.__gt__" (defArgs s_Fraction_gt) (defBody s_Fraction_gt) (defScope s_Fraction_gt) [] [] (He.ma K (He.ga K "Fraction") "__gt__") fd
  F_Line_cut : ∃ fd, FunD K "cut" "Line.cut" (defArgs s_Line_cut) (defBody s_Line_cut) (defScope s_Line_cut) [] [] (wa K "classmethod" (He.ga K "Line") "cut") fd
  F_law_cut : ∃ fd, FunD K "_law_cut" "_law_cut" (defArgs s_law_cut) (defBody s_law_cut) (defScope s_law_cut) [] [] (He.ga K "_law_cut") fd
  F_law_equal : ∃ fd, FunD K "_law_equal" "_law_equal" (defArgs s_law_equal) (defBody s_law_equal) (defScope s_law_equal) [] [] (He.ga K "_law_equal") fd
  kt_Line_Line : PySem.W.kitOne K (.ref (He.ga K "Line")) (.ref (He.ga K "Line")) = some true
  n_all : mg "all" = none
  F_Line_eq : ∃ fd, FunD K "__eq__" "Line.__eq__" (defArgs s_Line_eq) (defBody s_Line_eq) (defScope s_Line_eq) [] [] (He.ma K (He.ga K "Line") "__eq__") fd
  F_law : ∃ fd, FunD K "law" "law" (defArgs s_law) (defBody s_law) (defScope s_law) [] [] (He.ga K "law") fd
  g_law : mg "law" = some (.ref (He.ga K "law"))
  F_Fraction_init : ∃ fd, FunD K "__init__" "Fraction.__init__" (defArgs s_Fraction_init) (defBody s_Fraction_init) (defScope s_Fraction_init) [.int 1] [] (He.ma K (He.ga K "Fraction") "__init__") fd
  ex_BadFraction : ExcP K mg "BadFraction"
  g_common_divisor : mg "common_divisor" = some (.ref (He.ga K "common_divisor"))
  k_common_divisor : PySem.W.keepIn K (.ref (He.ga K "common_divisor")) = true
theorem sc_law_cell : FnScope ["_law_script", "_law_k"] ["_law_script", "_law_k"] (defScope s_law_cell) := ⟨rfl, rfl, rfl, by decide +kernel, rfl, by decide +kernel, by decide +kernel⟩
def m_law_cell (p_law_script : (List Int)) (p_law_k : Int) : Res Int :=
  (((Res.ok p_law_k).bind fun a181 => (((Res.ok p_law_script).bind fun a179 => (Res.ok ()).bind fun b180 => .ok (a179, b180)).bind (fun d => .ok (d.1.length : Int))).bind fun b182 => .ok (decide (a181 < b182))).bind fun x183 => if x183 = true then ((Res.ok p_law_script).bind fun a184 => (Res.ok p_law_k).bind fun b185 => atM a184 b185) else (Res.ok (0 : Int)))
abbrev C_law_cell (P : Program) (w : World) (K : PySem.W.Frag) (mg : Str → Option Value) (base : Heap) : Prop := FnR P w K mg base (L2.CX P w) 1 (He.ga K "_law_cell") (spF K (aCons (rdL K (rp rInt)) (aCons (rp rInt) aNil)) (fun d => m_law_cell d.1 d.2.1) (rp rInt))
theorem ok_law_cell {P : Program} {w : World} {K : PySem.W.Frag} {mg : Str → Option Value} {base : Heap} (T : Txt K mg) {fd : FuncData} (F : FunD K "_law_cell" "_law_cell" (defArgs s_law_cell) (defBody s_law_cell) (defScope s_law_cell) [] [] (He.ga K "_law_cell") fd) : FnOk P w K mg base (L2.CX P w) 1 (He.ga K "_law_cell") fd ["_law_script", "_law_k"] (spF K (aCons (rdL K (rp rInt)) (aCons (rp rInt) aNil)) (fun d => m_law_cell d.1 d.2.1) (rp rInt)) := by
  refine FunD.fn (k := 0) (N := ["_law_script", "_law_k"]) (ps := ["_law_script", "_law_k"]) F sc_law_cell (fun I H vs d h => ?_) (fun cdv A outer s I0 H0 E vs d hr sm h => ?_)
  · obtain ⟨v0, _, rfl, h0, v1, _, rfl, h1, rfl⟩ := h; rfl
  obtain ⟨v0, _, rfl, h0, v1, _, rfl, h1, rfl⟩ := h
  have hx : ∀ {ctx : List (Option SF)} {mem : List MF} (I H : Hp) (σ : St) (d : Option Addr), Stt I0 H0 ctx mem I H σ → Fr H0 d → bK I0 H0 I H σ d := fun _ _ _ _ s f => ⟨s.fm, f⟩
  have tk : Takes (bx P w K mg base ["_law_script", "_law_k"] "_law_cell" (defScope s_law_cell) (He.ga K "_law_cell") cdv A outer s H0 E) (bW E) := takes_of rfl rfl rfl rfl
  obtain ⟨p_law_script, p_law_k, _⟩ := d
  exact ⟨Stt I0 H0 [some (SF.mk (fun I v x => (rdL K (rp rInt)) I H0 v x) p_law_script), some (SF.mk rInt p_law_k)] [], Stt.start sm ⟨h0, h1, ini_nil rfl⟩ rfl (by simp), (JR.ifR (JT.cmp (JE.var 1) (JE.callB (JA.cons (JE.varP 0 (r := (rdL K (rp rInt)))) JA.nil) cj_len T.n_len boot_len) opj_lt) (JR.ret (JE.ix (JE.varP 0 (r := (rdL K (rp rInt)))) (JE.var 1)) hx) (JR.ret JE.int hx) hx)⟩
theorem fn_law_cell {P : Program} {w : World} {K : PySem.W.Frag} {mg : Str → Option Value} {base : Heap} (T : Txt K mg) : FnR P w K mg base (L2.CX P w) 1 (He.ga K "_law_cell") (spF K (aCons (rdL K (rp rInt)) (aCons (rp rInt) aNil)) (fun d => m_law_cell d.1 d.2.1) (rp rInt)) := by
  obtain ⟨fd, F⟩ := T.F_law_cell
  exact FnOk.fr0 (ok_law_cell T F) (F.bindsN fun _ _ _ _ _ _ us hl => match us, hl with | [_, _], _ => rfl)
theorem sc_law_row : FnScope ["_law_cell_here", "_law_span", "_law_many", "_law_number", "_law_great", "_law_row_here", "_law_k", "_law_blend"] ["_law_cell_here", "_law_span", "_law_many"] (defScope s_law_row) := ⟨rfl, rfl, rfl, by decide +kernel, rfl, by decide +kernel, by decide +kernel⟩
def m_law_row (p_law_cell_here : Int) (p_law_span : Int) (p_law_many : Int) : Res (List Int) :=
  ((((((Res.ok p_law_cell_here).bind fun a326 => (Res.ok ()).bind fun b327 => .ok (a326, b327)).bind (fun d => .ok d.1)).bind fun a328 => (Res.ok ()).bind fun b329 => .ok (a328, b329)).bind (fun d => .ok (if d.1 < 0 then -d.1 else d.1))).bind fun v_law_number_325 => (((Res.ok v_law_number_325).bind fun a333 => ((Res.ok (10 : Int)).bind fun a331 => (Res.ok (18 : Int)).bind fun b332 => powI a331 b332).bind fun b334 => .ok (decide (a333 ≥ b334))).bind fun v_law_great_330 => ((Res.ok ([] : List Int)).bind fun v_law_row_here_335 => ((((Res.ok p_law_many).bind fun a338 => rangeM1 a338).bind fun l381 => forS (fun (i339 : Int) (s337 : (Int × (List Int))) => (((Res.ok v_law_great_330).bind fun x380 => if x380 = true then ((((Res.ok s337.1).bind fun a341 => (Res.ok p_law_span).bind fun b342 => modI a341 b342).bind fun y344 => appM s337.2 y344).bind fun v_law_row_here_340 => (((Res.ok s337.1).bind fun a346 => (Res.ok p_law_span).bind fun b347 => fdivI a346 b347).bind fun v_law_number_345 => (Res.ok (v_law_number_345, v_law_row_here_340)))) else (((((((Res.ok s337.1).bind fun a349 => (Res.ok (7919 : Int)).bind fun b350 => mulI a349 b350).bind fun a353 => ((Res.ok i339).bind fun a351 => (Res.ok (104729 : Int)).bind fun b352 => mulI a351 b352).bind fun b354 => .ok (a353 + b354)).bind fun a355 => (Res.ok (13 : Int)).bind fun b356 => .ok (a355 + b356)).bind fun a357 => (Res.ok (3 : Int)).bind fun b358 => powI a357 b358).bind fun a359 => (Res.ok (2147483647 : Int)).bind fun b360 => modI a359 b360).bind fun v_law_blend_348 => (((((((Res.ok v_law_blend_348).bind fun a362 => (Res.ok (48271 : Int)).bind fun b363 => mulI a362 b363).bind fun a364 => (Res.ok s337.1).bind fun b365 => .ok (a364 + b365)).bind fun a368 => ((Res.ok i339).bind fun a366 => (Res.ok (69621 : Int)).bind fun b367 => mulI a366 b367).bind fun b369 => .ok (a368 + b369)).bind fun a370 => (Res.ok (2 : Int)).bind fun b371 => powI a370 b371).bind fun a372 => (Res.ok (1000003 : Int)).bind fun b373 => modI a372 b373).bind fun v_law_blend_361 => ((((Res.ok v_law_blend_361).bind fun a375 => (Res.ok p_law_span).bind fun b376 => modI a375 b376).bind fun y378 => appM s337.2 y378).bind fun v_law_row_here_374 => (Res.ok (s337.1, v_law_row_here_374)))))).bind fun s379 => (Res.ok (s379.1, s379.2)))) l381 (v_law_number_325, v_law_row_here_335)).bind fun s337 => (Res.ok s337.2)))))
abbrev C_law_row (P : Program) (w : World) (K : PySem.W.Frag) (mg : Str → Option Value) (base : Heap) : Prop := FnR P w K mg base (L2.CX P w) 1 (He.ga K "_law_row") (spN K (aCons (rp rInt) (aCons (rp rInt) (aCons (rp rInt) aNil))) (fun d => m_law_row d.1 d.2.1 d.2.2.1) rInt)
theorem ok_law_row {P : Program} {w : World} {K : PySem.W.Frag} {mg : Str → Option Value} {base : Heap} (T : Txt K mg) {fd : FuncData} (F : FunD K "_law_row" "_law_row" (defArgs s_law_row) (defBody s_law_row) (defScope s_law_row) [] [] (He.ga K "_law_row") fd) : FnOk P w K mg base (L2.CX P w) 1 (He.ga K "_law_row") fd ["_law_cell_here", "_law_span", "_law_many"] (spN K (aCons (rp rInt) (aCons (rp rInt) (aCons (rp rInt) aNil))) (fun d => m_law_row d.1 d.2.1 d.2.2.1) rInt) := by
  refine FunD.fnN (k := 0) (N := ["_law_cell_here", "_law_span", "_law_many", "_law_number", "_law_great", "_law_row_here", "_law_k", "_law_blend"]) (ps := ["_law_cell_here", "_law_span", "_law_many"]) F sc_law_row (fun I H vs d h => ?_) (fun cdv A outer s I0 H0 E vs d hr sm h => ?_)
  · obtain ⟨v0, _, rfl, h0, v1, _, rfl, h1, v2, _, rfl, h2, rfl⟩ := h; rfl
  obtain ⟨v0, _, rfl, h0, v1, _, rfl, h1, v2, _, rfl, h2, rfl⟩ := h
  have hx : ∀ {ctx : List (Option SF)} {mem : List MF} (I H : Hp) (σ : St) (d : Option Addr), Stt I0 H0 ctx mem I H σ → Fr H0 d → bK I0 H0 I H σ d := fun _ _ _ _ s f => ⟨s.fm, f⟩
  have tk : Takes (bx P w K mg base ["_law_cell_here", "_law_span", "_law_many", "_law_number", "_law_great", "_law_row_here", "_law_k", "_law_blend"] "_law_row" (defScope s_law_row) (He.ga K "_law_row") cdv A outer s H0 E) (bW E) := takes_of rfl rfl rfl rfl
  have hp : PassesOwn (model P w) (bx P w K mg base ["_law_cell_here", "_law_span", "_law_many", "_law_number", "_law_great", "_law_row_here", "_law_k", "_law_blend"] "_law_row" (defScope s_law_row) (He.ga K "_law_row") cdv A outer s H0 E).A (bx P w K mg base ["_law_cell_here", "_law_span", "_law_many", "_law_number", "_law_great", "_law_row_here", "_law_k", "_law_blend"] "_law_row" (defScope s_law_row) (He.ga K "_law_row") cdv A outer s H0 E).env (bx P w K mg base ["_law_cell_here", "_law_span", "_law_many", "_law_number", "_law_great", "_law_row_here", "_law_k", "_law_blend"] "_law_row" (defScope s_law_row) (He.ga K "_law_row") cdv A outer s H0 E).xe := passes_of rfl
  obtain ⟨p_law_cell_here, p_law_span, p_law_many, _⟩ := d
  exact ⟨Stt I0 H0 [some (SF.mk rInt p_law_cell_here), some (SF.mk rInt p_law_span), some (SF.mk rInt p_law_many), none, none, none, none, none] [], Stt.start sm ⟨h0, h1, h2, ini_nil rfl⟩ rfl (by simp), (JR.seq (J1.cx (c' := fun v_law_number_325 => [some (SF.mk rInt p_law_cell_here), some (SF.mk rInt p_law_span), some (SF.mk rInt p_law_many), some (SF.mk rInt v_law_number_325), none, none, none, none]) (J1.set 3 (JE.callB (JA.cons (JE.callTy (JA.cons (JE.var 0) JA.nil) cj_int T.n_int boot_int) JA.nil) cj_abs T.n_abs boot_abs) hx sc_law_row.nd)) fun v_law_number_325 => (JR.seq (J1.cx (c' := fun v_law_great_330 => [some (SF.mk rInt p_law_cell_here), some (SF.mk rInt p_law_span), some (SF.mk rInt p_law_many), some (SF.mk rInt v_law_number_325), some (SF.mk rBl v_law_great_330), none, none, none]) (J1.set 4 (JE.cmp (JE.var 3) (JE.bin JE.int JE.int opj_pow) opj_ge) hx sc_law_row.nd)) fun v_law_great_330 => (JR.seq (J1.cn (c' := fun v_law_row_here_335 l336 => [some (SF.mk rInt p_law_cell_here), some (SF.mk rInt p_law_span), some (SF.mk rInt p_law_many), some (SF.mk rInt v_law_number_325), some (SF.mk rBl v_law_great_330), some (SF.mk (rRef l336) ()), none, none]) (me' := fun v_law_row_here_335 l336 => [MF.lst l336 rInt v_law_row_here_335]) (J1.setM 5 (JM.lst (r := rInt) JA.nilL) hx sc_law_row.nd)) fun v_law_row_here_335 => JR.ex fun l336 => (JR.seq (J1.forS (S := (Int × (List Int))) (cx := fun s337 => [some (SF.mk rInt p_law_cell_here), some (SF.mk rInt p_law_span), some (SF.mk rInt p_law_many), some (SF.mk rInt s337.1), some (SF.mk rBl v_law_great_330), some (SF.mk (rRef l336) ()), none, none]) (me := fun s337 => [MF.lst l336 rInt s337.2]) (s0 := (v_law_number_325, v_law_row_here_335)) 6 hp (JI.range1 (JE.var 2) T.n_range) (fun i339 s337 => JN.at (c' := [some (SF.mk rInt p_law_cell_here), some (SF.mk rInt p_law_span), some (SF.mk rInt p_law_many), some (SF.mk rInt s337.1), some (SF.mk rBl v_law_great_330), some (SF.mk (rRef l336) ()), some (SF.mk rInt i339), none]) (JN.seq (J1.if (S := (Int × (List Int))) (G' := fun s379 => Stt I0 H0 [some (SF.mk rInt p_law_cell_here), some (SF.mk rInt p_law_span), some (SF.mk rInt p_law_many), some (SF.mk rInt s379.1), some (SF.mk rBl v_law_great_330), some (SF.mk (rRef l336) ()), some (SF.mk rInt i339), none] [MF.lst l336 rInt s379.2]) (JT.of (JE.var 4)) (JN.seq (J1.cm (c' := fun v_law_row_here_340 => [some (SF.mk rInt p_law_cell_here), some (SF.mk rInt p_law_span), some (SF.mk rInt p_law_many), some (SF.mk rInt s337.1), some (SF.mk rBl v_law_great_330), some (SF.mk (rRef l336) ()), some (SF.mk rInt i339), none]) (me' := fun v_law_row_here_340 => [MF.lst l336 rInt v_law_row_here_340]) (J1.app 5 0 (JE.bin (JE.var 3) (JE.var 1) opj_mod) hx)) fun v_law_row_here_340 => (JN.seq (J1.cx (c' := fun v_law_number_345 => [some (SF.mk rInt p_law_cell_here), some (SF.mk rInt p_law_span), some (SF.mk rInt p_law_many), some (SF.mk rInt v_law_number_345), some (SF.mk rBl v_law_great_330), some (SF.mk (rRef l336) ()), some (SF.mk rInt i339), none]) (J1.set 3 (JE.bin (JE.var 3) (JE.var 1) opj_fdiv) hx sc_law_row.nd)) fun v_law_number_345 => (JN.nil (fun _ _ _ h => h)))) (JN.seq (J1.cx (c' := fun v_law_blend_348 => [some (SF.mk rInt p_law_cell_here), some (SF.mk rInt p_law_span), some (SF.mk rInt p_law_many), some (SF.mk rInt s337.1), some (SF.mk rBl v_law_great_330), some (SF.mk (rRef l336) ()), some (SF.mk rInt i339), some (SF.mk rInt v_law_blend_348)]) (J1.set 7 (JE.bin (JE.bin (JE.bin (JE.bin (JE.bin (JE.var 3) JE.int opj_mul) (JE.bin (JE.var 6) JE.int opj_mul) opj_add) JE.int opj_add) JE.int opj_pow) JE.int opj_mod) hx sc_law_row.nd)) fun v_law_blend_348 => (JN.seq (J1.cx (c' := fun v_law_blend_361 => [some (SF.mk rInt p_law_cell_here), some (SF.mk rInt p_law_span), some (SF.mk rInt p_law_many), some (SF.mk rInt s337.1), some (SF.mk rBl v_law_great_330), some (SF.mk (rRef l336) ()), some (SF.mk rInt i339), some (SF.mk rInt v_law_blend_361)]) (J1.set 7 (JE.bin (JE.bin (JE.bin (JE.bin (JE.bin (JE.var 7) JE.int opj_mul) (JE.var 3) opj_add) (JE.bin (JE.var 6) JE.int opj_mul) opj_add) JE.int opj_pow) JE.int opj_mod) hx sc_law_row.nd)) fun v_law_blend_361 => (JN.seq (J1.cm (c' := fun v_law_row_here_374 => [some (SF.mk rInt p_law_cell_here), some (SF.mk rInt p_law_span), some (SF.mk rInt p_law_many), some (SF.mk rInt s337.1), some (SF.mk rBl v_law_great_330), some (SF.mk (rRef l336) ()), some (SF.mk rInt i339), some (SF.mk rInt v_law_blend_361)]) (me' := fun v_law_row_here_374 => [MF.lst l336 rInt v_law_row_here_374]) (J1.app 5 0 (JE.bin (JE.var 7) (JE.var 1) opj_mod) hx)) fun v_law_row_here_374 => (JN.nil (fun _ _ _ h => (Stt.weak h (weak_some (weak_some (weak_some (weak_some (weak_some (weak_some (weak_some (weak_none weak_nil)))))))))))))) hx) fun s379 => (JN.nil (fun _ _ _ h => (Stt.weak h (weak_some (weak_some (weak_some (weak_some (weak_some (weak_some (weak_none (weak_none weak_nil))))))))))))) hx (weak_some (weak_some (weak_some (weak_some (weak_some (weak_some (weak_none (weak_none weak_nil)))))))) sc_law_row.nd) fun s337 => (JR.retC 5 0)))))⟩
theorem fn_law_row {P : Program} {w : World} {K : PySem.W.Frag} {mg : Str → Option Value} {base : Heap} (T : Txt K mg) : FnR P w K mg base (L2.CX P w) 1 (He.ga K "_law_row") (spN K (aCons (rp rInt) (aCons (rp rInt) (aCons (rp rInt) aNil))) (fun d => m_law_row d.1 d.2.1 d.2.2.1) rInt) := by
  obtain ⟨fd, F⟩ := T.F_law_row
  exact FnOk.frN0 (ok_law_row T F) (F.bindsN fun _ _ _ _ _ _ us hl => match us, hl with | [_, _, _], _ => rfl)
theorem sc_law_entry : FnScope ["_law_kind", "_law_top", "_law_bottom"] ["_law_kind", "_law_top", "_law_bottom"] (defScope s_law_entry) := ⟨rfl, rfl, rfl, by decide +kernel, rfl, by decide +kernel, by decide +kernel⟩
def m_law_entry (p_law_kind : Int) (p_law_top : Int) (p_law_bottom : Int) : Res (Int × Int × Unit) :=
  (((Res.ok p_law_kind).bind fun a382 => (Res.ok (9 : Int)).bind fun b383 => .ok (decide (a382 < b383))).bind fun x384 => if x384 = true then (((Res.ok (1 : Int)).bind fun a389 => ((Res.ok p_law_top).bind fun a387 => ((Res.ok (1 : Int)).bind fun a385 => (Res.ok p_law_bottom).bind fun b386 => .ok (a385 + b386)).bind fun b388 => modI a387 b388).bind fun b390 => .ok (a389 + b390)).bind fun a397 => (((Res.ok (2 : Int)).bind fun a391 => (Res.ok p_law_bottom).bind fun b392 => .ok (a391 + b392)).bind fun a395 => (Res.ok ()).bind fun b396 => .ok (a395, b396)).bind fun b398 => .ok (a397, b398)) else (((Res.ok p_law_kind).bind fun a400 => (Res.ok (11 : Int)).bind fun b401 => .ok (decide (a400 < b401))).bind fun x402 => if x402 = true then (((Res.ok p_law_kind).bind fun a403 => (Res.ok (9 : Int)).bind fun b404 => .ok (a403 - b404)).bind fun a409 => ((Res.ok (1 : Int)).bind fun a407 => (Res.ok ()).bind fun b408 => .ok (a407, b408)).bind fun b410 => .ok (a409, b410)) else (((Res.ok p_law_kind).bind fun a412 => (Res.ok (11 : Int)).bind fun b413 => .ok (decide (a412 = b413))).bind fun x414 => if x414 = true then ((((Res.ok (1 : Int)).bind fun a415 => .ok (-a415)).bind fun a418 => ((Res.ok p_law_top).bind fun a416 => (Res.ok (3 : Int)).bind fun b417 => modI a416 b417).bind fun b419 => .ok (a418 - b419)).bind fun a428 => (((Res.ok (1 : Int)).bind fun a422 => ((Res.ok p_law_bottom).bind fun a420 => (Res.ok (3 : Int)).bind fun b421 => modI a420 b421).bind fun b423 => .ok (a422 + b423)).bind fun a426 => (Res.ok ()).bind fun b427 => .ok (a426, b427)).bind fun b429 => .ok (a428, b429)) else ((((Res.ok (2 : Int)).bind fun a431 => (Res.ok p_law_bottom).bind fun b432 => .ok (a431 + b432)).bind fun a435 => ((Res.ok p_law_top).bind fun a433 => (Res.ok (3 : Int)).bind fun b434 => modI a433 b434).bind fun b436 => .ok (a435 + b436)).bind fun a445 => (((Res.ok (1 : Int)).bind fun a439 => ((Res.ok p_law_bottom).bind fun a437 => (Res.ok (2 : Int)).bind fun b438 => modI a437 b438).bind fun b440 => .ok (a439 + b440)).bind fun a443 => (Res.ok ()).bind fun b444 => .ok (a443, b444)).bind fun b446 => .ok (a445, b446)))))
abbrev C_law_entry (P : Program) (w : World) (K : PySem.W.Frag) (mg : Str → Option Value) (base : Heap) : Prop := FnR P w K mg base (L2.CX P w) 1 (He.ga K "_law_entry") (spF K (aCons (rp rInt) (aCons (rp rInt) (aCons (rp rInt) aNil))) (fun d => m_law_entry d.1 d.2.1 d.2.2.1) (rp (rTu (aCons (rp rInt) (aCons (rp rInt) aNil)))))
theorem ok_law_entry {P : Program} {w : World} {K : PySem.W.Frag} {mg : Str → Option Value} {base : Heap} (T : Txt K mg) {fd : FuncData} (F : FunD K "_law_entry" "_law_entry" (defArgs s_law_entry) (defBody s_law_entry) (defScope s_law_entry) [] [] (He.ga K "_law_entry") fd) : FnOk P w K mg base (L2.CX P w) 1 (He.ga K "_law_entry") fd ["_law_kind", "_law_top", "_law_bottom"] (spF K (aCons (rp rInt) (aCons (rp rInt) (aCons (rp rInt) aNil))) (fun d => m_law_entry d.1 d.2.1 d.2.2.1) (rp (rTu (aCons (rp rInt) (aCons (rp rInt) aNil))))) := by
  refine FunD.fn (k := 0) (N := ["_law_kind", "_law_top", "_law_bottom"]) (ps := ["_law_kind", "_law_top", "_law_bottom"]) F sc_law_entry (fun I H vs d h => ?_) (fun cdv A outer s I0 H0 E vs d hr sm h => ?_)
  · obtain ⟨v0, _, rfl, h0, v1, _, rfl, h1, v2, _, rfl, h2, rfl⟩ := h; rfl
  obtain ⟨v0, _, rfl, h0, v1, _, rfl, h1, v2, _, rfl, h2, rfl⟩ := h
  have hx : ∀ {ctx : List (Option SF)} {mem : List MF} (I H : Hp) (σ : St) (d : Option Addr), Stt I0 H0 ctx mem I H σ → Fr H0 d → bK I0 H0 I H σ d := fun _ _ _ _ s f => ⟨s.fm, f⟩
  have tk : Takes (bx P w K mg base ["_law_kind", "_law_top", "_law_bottom"] "_law_entry" (defScope s_law_entry) (He.ga K "_law_entry") cdv A outer s H0 E) (bW E) := takes_of rfl rfl rfl rfl
  obtain ⟨p_law_kind, p_law_top, p_law_bottom, _⟩ := d
  exact ⟨Stt I0 H0 [some (SF.mk rInt p_law_kind), some (SF.mk rInt p_law_top), some (SF.mk rInt p_law_bottom)] [], Stt.start sm ⟨h0, h1, h2, ini_nil rfl⟩ rfl (by simp), (JR.ifR (JT.cmp (JE.var 0) JE.int opj_lt) (JR.ret (JE.tupD (k := 2) (JA.cons (JE.bin JE.int (JE.bin (JE.var 1) (JE.bin JE.int (JE.var 2) opj_add) opj_mod) opj_add) (JA.cons (JE.bin JE.int (JE.var 2) opj_add) JA.nil)) (by rintro _ _ _ _ ⟨_, _, rfl, _, _, _, rfl, _, rfl⟩; rfl)) hx) (JR.ifR (JT.cmp (JE.var 0) JE.int opj_lt) (JR.ret (JE.tupD (k := 2) (JA.cons (JE.bin (JE.var 0) JE.int opj_sub) (JA.cons JE.int JA.nil)) (by rintro _ _ _ _ ⟨_, _, rfl, _, _, _, rfl, _, rfl⟩; rfl)) hx) (JR.ifR (JT.cmp (JE.var 0) JE.int opj_eq) (JR.ret (JE.tupD (k := 2) (JA.cons (JE.bin (JE.un JE.int unj_neg) (JE.bin (JE.var 1) JE.int opj_mod) opj_sub) (JA.cons (JE.bin JE.int (JE.bin (JE.var 2) JE.int opj_mod) opj_add) JA.nil)) (by rintro _ _ _ _ ⟨_, _, rfl, _, _, _, rfl, _, rfl⟩; rfl)) hx) (JR.ret (JE.tupD (k := 2) (JA.cons (JE.bin (JE.bin JE.int (JE.var 2) opj_add) (JE.bin (JE.var 1) JE.int opj_mod) opj_add) (JA.cons (JE.bin JE.int (JE.bin (JE.var 2) JE.int opj_mod) opj_add) JA.nil)) (by rintro _ _ _ _ ⟨_, _, rfl, _, _, _, rfl, _, rfl⟩; rfl)) hx) hx) hx) hx)⟩
theorem fn_law_entry {P : Program} {w : World} {K : PySem.W.Frag} {mg : Str → Option Value} {base : Heap} (T : Txt K mg) : FnR P w K mg base (L2.CX P w) 1 (He.ga K "_law_entry") (spF K (aCons (rp rInt) (aCons (rp rInt) (aCons (rp rInt) aNil))) (fun d => m_law_entry d.1 d.2.1 d.2.2.1) (rp (rTu (aCons (rp rInt) (aCons (rp rInt) aNil))))) := by
  obtain ⟨fd, F⟩ := T.F_law_entry
  exact FnOk.fr0 (ok_law_entry T F) (F.bindsN fun _ _ _ _ _ _ us hl => match us, hl with | [_, _, _], _ => rfl)
theorem sc_law_list : FnScope ["_law_script", "_law_at", "_law_shape", "_law_many", "_law_kinds", "_law_tops", "_law_bottoms", "_law_kind", "_law_pairs", "_law_k"] ["_law_script", "_law_at"] (defScope s_law_list) := ⟨rfl, rfl, rfl, by decide +kernel, rfl, by decide +kernel, by decide +kernel⟩
def m_law_list (p_law_script : (List Int)) (p_law_at : Int) : Res (List (Int × Int × Unit)) :=
  ((((((Res.ok p_law_script).bind fun a193 => ((Res.ok p_law_at).bind fun a191 => (Res.ok ()).bind fun b192 => .ok (a191, b192)).bind fun b194 => .ok (a193, b194)).bind (fun d => m_law_cell d.1 d.2.1)).bind fun a202 => ((Res.ok (5040 : Int)).bind fun a200 => ((Res.ok (2 : Int)).bind fun a198 => (Res.ok ()).bind fun b199 => .ok (a198, b199)).bind fun b201 => .ok (a200, b201)).bind fun b203 => .ok (a202, b203)).bind (fun d => m_law_row d.1 d.2.1 d.2.2.1)).bind fun v_law_shape_188 => ((((Res.ok v_law_shape_188).bind fun a205 => (Res.ok (0 : Int)).bind fun b206 => atM a205 b206).bind fun a207 => (Res.ok (7 : Int)).bind fun b208 => modI a207 b208).bind fun v_law_many_204 => ((((((Res.ok p_law_script).bind fun a216 => (((Res.ok p_law_at).bind fun a211 => (Res.ok (1 : Int)).bind fun b212 => .ok (a211 + b212)).bind fun a214 => (Res.ok ()).bind fun b215 => .ok (a214, b215)).bind fun b217 => .ok (a216, b217)).bind (fun d => m_law_cell d.1 d.2.1)).bind fun a225 => ((Res.ok (13 : Int)).bind fun a223 => ((Res.ok v_law_many_204).bind fun a221 => (Res.ok ()).bind fun b222 => .ok (a221, b222)).bind fun b224 => .ok (a223, b224)).bind fun b226 => .ok (a225, b226)).bind (fun d => m_law_row d.1 d.2.1 d.2.2.1)).bind fun v_law_kinds_209 => ((((((Res.ok p_law_script).bind fun a234 => (((Res.ok p_law_at).bind fun a229 => (Res.ok (2 : Int)).bind fun b230 => .ok (a229 + b230)).bind fun a232 => (Res.ok ()).bind fun b233 => .ok (a232, b233)).bind fun b235 => .ok (a234, b235)).bind (fun d => m_law_cell d.1 d.2.1)).bind fun a243 => ((Res.ok (1000 : Int)).bind fun a241 => ((Res.ok v_law_many_204).bind fun a239 => (Res.ok ()).bind fun b240 => .ok (a239, b240)).bind fun b242 => .ok (a241, b242)).bind fun b244 => .ok (a243, b244)).bind (fun d => m_law_row d.1 d.2.1 d.2.2.1)).bind fun v_law_tops_227 => ((((((Res.ok p_law_script).bind fun a252 => (((Res.ok p_law_at).bind fun a247 => (Res.ok (3 : Int)).bind fun b248 => .ok (a247 + b248)).bind fun a250 => (Res.ok ()).bind fun b251 => .ok (a250, b251)).bind fun b253 => .ok (a252, b253)).bind (fun d => m_law_cell d.1 d.2.1)).bind fun a261 => ((Res.ok (11 : Int)).bind fun a259 => ((Res.ok v_law_many_204).bind fun a257 => (Res.ok ()).bind fun b258 => .ok (a257, b258)).bind fun b260 => .ok (a259, b260)).bind fun b262 => .ok (a261, b262)).bind (fun d => m_law_row d.1 d.2.1 d.2.2.1)).bind fun v_law_bottoms_245 => ((((((Res.ok v_law_shape_188).bind fun a263 => (Res.ok (1 : Int)).bind fun b264 => atM a263 b264).bind fun a265 => (Res.ok (3 : Int)).bind fun b266 => modI a265 b266).bind fun a267 => (Res.ok (0 : Int)).bind fun b268 => .ok (decide (a267 = b268))).bind fun x277 => if x277 = true then (((Res.ok v_law_kinds_209).bind fun l275 => lcR (fun (i270 : Int) => ((Res.ok i270).bind fun a272 => (Res.ok (9 : Int)).bind fun b273 => modI a272 b273)) l275).bind fun v_law_kinds_269 => (Res.ok v_law_kinds_269)) else (Res.ok v_law_kinds_209)).bind fun s276 => ((((Res.ok v_law_many_204).bind fun a279 => rangeM1 a279).bind fun l298 => lcR (fun (i280 : Int) => ((((Res.ok s276).bind fun a282 => (Res.ok i280).bind fun b283 => atM a282 b283).bind fun a295 => (((Res.ok v_law_tops_227).bind fun a285 => (Res.ok i280).bind fun b286 => atM a285 b286).bind fun a293 => (((Res.ok v_law_bottoms_245).bind fun a288 => (Res.ok i280).bind fun b289 => atM a288 b289).bind fun a291 => (Res.ok ()).bind fun b292 => .ok (a291, b292)).bind fun b294 => .ok (a293, b294)).bind fun b296 => .ok (a295, b296)).bind (fun d => m_law_entry d.1 d.2.1 d.2.2.1))) l298).bind fun v_law_pairs_278 => (((((((Res.ok v_law_shape_188).bind fun a300 => (Res.ok (1 : Int)).bind fun b301 => atM a300 b301).bind fun a302 => (Res.ok (3 : Int)).bind fun b303 => fdivI a302 b303).bind fun a304 => (Res.ok (3 : Int)).bind fun b305 => modI a304 b305).bind fun a306 => (Res.ok (0 : Int)).bind fun b307 => .ok (decide (a306 > b307))).bind fun x324 => if x324 = true then (((((((Res.ok v_law_shape_188).bind fun a309 => (Res.ok (1 : Int)).bind fun b310 => atM a309 b310).bind fun a311 => (Res.ok (9 : Int)).bind fun b312 => fdivI a311 b312).bind fun a313 => (Res.ok (2 : Int)).bind fun b314 => modI a313 b314).bind fun a319 => ((Res.ok (1 : Int)).bind fun a317 => (Res.ok ()).bind fun b318 => .ok (a317, b318)).bind fun b320 => .ok (a319, b320)).bind fun y322 => appM v_law_pairs_278 y322).bind fun v_law_pairs_308 => (Res.ok v_law_pairs_308)) else (Res.ok v_law_pairs_278)).bind fun s323 => (Res.ok s323)))))))))
abbrev C_law_list (P : Program) (w : World) (K : PySem.W.Frag) (mg : Str → Option Value) (base : Heap) : Prop := FnR P w K mg base (L2.CX P w) 2 (He.ga K "_law_list") (spN K (aCons (rdL K (rp rInt)) (aCons (rp rInt) aNil)) (fun d => m_law_list d.1 d.2.1) (rTu (aCons (rp rInt) (aCons (rp rInt) aNil))))
theorem ok_law_list {P : Program} {w : World} {K : PySem.W.Frag} {mg : Str → Option Value} {base : Heap} (T : Txt K mg) (c_law_cell : C_law_cell P w K mg base) (c_law_row : C_law_row P w K mg base) (c_law_entry : C_law_entry P w K mg base) {fd : FuncData} (F : FunD K "_law_list" "_law_list" (defArgs s_law_list) (defBody s_law_list) (defScope s_law_list) [] [] (He.ga K "_law_list") fd) : FnOk P w K mg base (L2.CX P w) 2 (He.ga K "_law_list") fd ["_law_script", "_law_at"] (spN K (aCons (rdL K (rp rInt)) (aCons (rp rInt) aNil)) (fun d => m_law_list d.1 d.2.1) (rTu (aCons (rp rInt) (aCons (rp rInt) aNil)))) := by
  refine FunD.fnN (k := 1) (N := ["_law_script", "_law_at", "_law_shape", "_law_many", "_law_kinds", "_law_tops", "_law_bottoms", "_law_kind", "_law_pairs", "_law_k"]) (ps := ["_law_script", "_law_at"]) F sc_law_list (fun I H vs d h => ?_) (fun cdv A outer s I0 H0 E vs d hr sm h => ?_)
  · obtain ⟨v0, _, rfl, h0, v1, _, rfl, h1, rfl⟩ := h; rfl
  obtain ⟨v0, _, rfl, h0, v1, _, rfl, h1, rfl⟩ := h
  have hx : ∀ {ctx : List (Option SF)} {mem : List MF} (I H : Hp) (σ : St) (d : Option Addr), Stt I0 H0 ctx mem I H σ → Fr H0 d → bK I0 H0 I H σ d := fun _ _ _ _ s f => ⟨s.fm, f⟩
  have tk : Takes (bx P w K mg base ["_law_script", "_law_at", "_law_shape", "_law_many", "_law_kinds", "_law_tops", "_law_bottoms", "_law_kind", "_law_pairs", "_law_k"] "_law_list" (defScope s_law_list) (He.ga K "_law_list") cdv A outer s H0 E) (bW E) := takes_of rfl rfl rfl rfl
  obtain ⟨p_law_script, p_law_at, _⟩ := d
  exact ⟨Stt I0 H0 [some (SF.mk (fun I v x => (rdL K (rp rInt)) I H0 v x) p_law_script), some (SF.mk rInt p_law_at), none, none, none, none, none, none, none, none] [], Stt.start sm ⟨h0, h1, ini_nil rfl⟩ rfl (by simp), (JR.seq (J1.cx (c' := fun v_law_shape_188 => [some (SF.mk (fun I v x => (rdL K (rp rInt)) I H0 v x) p_law_script), some (SF.mk rInt p_law_at), some (SF.mk (rL rInt) v_law_shape_188), none, none, none, none, none, none, none]) (J1.set 2 (JE.ofM (JM.call (JA.cons (JE.call (JA.cons (JE.varP 0 (r := (rdL K (rp rInt)))) (JA.cons (JE.var 1) JA.nil)) (cj_of c_law_cell (hr.mono (by decide)) tk) T.g_law_cell T.k_law_cell) (JA.cons JE.int (JA.cons JE.int JA.nil))) (cn_of c_law_row (hr.mono (by decide)) tk) T.g_law_row T.k_law_row)) hx sc_law_list.nd)) fun v_law_shape_188 => (JR.seq (J1.cx (c' := fun v_law_many_204 => [some (SF.mk (fun I v x => (rdL K (rp rInt)) I H0 v x) p_law_script), some (SF.mk rInt p_law_at), some (SF.mk (rL rInt) v_law_shape_188), some (SF.mk rInt v_law_many_204), none, none, none, none, none, none]) (J1.set 3 (JE.bin (JE.ix (JE.rd (JE.var 2)) JE.int) JE.int opj_mod) hx sc_law_list.nd)) fun v_law_many_204 => (JR.seq (J1.cx (c' := fun v_law_kinds_209 => [some (SF.mk (fun I v x => (rdL K (rp rInt)) I H0 v x) p_law_script), some (SF.mk rInt p_law_at), some (SF.mk (rL rInt) v_law_shape_188), some (SF.mk rInt v_law_many_204), some (SF.mk (rL rInt) v_law_kinds_209), none, none, none, none, none]) (J1.set 4 (JE.ofM (JM.call (JA.cons (JE.call (JA.cons (JE.varP 0 (r := (rdL K (rp rInt)))) (JA.cons (JE.bin (JE.var 1) JE.int opj_add) JA.nil)) (cj_of c_law_cell (hr.mono (by decide)) tk) T.g_law_cell T.k_law_cell) (JA.cons JE.int (JA.cons (JE.var 3) JA.nil))) (cn_of c_law_row (hr.mono (by decide)) tk) T.g_law_row T.k_law_row)) hx sc_law_list.nd)) fun v_law_kinds_209 => (JR.seq (J1.cx (c' := fun v_law_tops_227 => [some (SF.mk (fun I v x => (rdL K (rp rInt)) I H0 v x) p_law_script), some (SF.mk rInt p_law_at), some (SF.mk (rL rInt) v_law_shape_188), some (SF.mk rInt v_law_many_204), some (SF.mk (rL rInt) v_law_kinds_209), some (SF.mk (rL rInt) v_law_tops_227), none, none, none, none]) (J1.set 5 (JE.ofM (JM.call (JA.cons (JE.call (JA.cons (JE.varP 0 (r := (rdL K (rp rInt)))) (JA.cons (JE.bin (JE.var 1) JE.int opj_add) JA.nil)) (cj_of c_law_cell (hr.mono (by decide)) tk) T.g_law_cell T.k_law_cell) (JA.cons JE.int (JA.cons (JE.var 3) JA.nil))) (cn_of c_law_row (hr.mono (by decide)) tk) T.g_law_row T.k_law_row)) hx sc_law_list.nd)) fun v_law_tops_227 => (JR.seq (J1.cx (c' := fun v_law_bottoms_245 => [some (SF.mk (fun I v x => (rdL K (rp rInt)) I H0 v x) p_law_script), some (SF.mk rInt p_law_at), some (SF.mk (rL rInt) v_law_shape_188), some (SF.mk rInt v_law_many_204), some (SF.mk (rL rInt) v_law_kinds_209), some (SF.mk (rL rInt) v_law_tops_227), some (SF.mk (rL rInt) v_law_bottoms_245), none, none, none]) (J1.set 6 (JE.ofM (JM.call (JA.cons (JE.call (JA.cons (JE.varP 0 (r := (rdL K (rp rInt)))) (JA.cons (JE.bin (JE.var 1) JE.int opj_add) JA.nil)) (cj_of c_law_cell (hr.mono (by decide)) tk) T.g_law_cell T.k_law_cell) (JA.cons JE.int (JA.cons (JE.var 3) JA.nil))) (cn_of c_law_row (hr.mono (by decide)) tk) T.g_law_row T.k_law_row)) hx sc_law_list.nd)) fun v_law_bottoms_245 => (JR.seq (J1.if (S := (List Int)) (G' := fun s276 => Stt I0 H0 [some (SF.mk (fun I v x => (rdL K (rp rInt)) I H0 v x) p_law_script), some (SF.mk rInt p_law_at), some (SF.mk (rL rInt) v_law_shape_188), some (SF.mk rInt v_law_many_204), some (SF.mk (rL rInt) s276), some (SF.mk (rL rInt) v_law_tops_227), some (SF.mk (rL rInt) v_law_bottoms_245), none, none, none] []) (JT.cmp (JE.bin (JE.ix (JE.rd (JE.var 2)) JE.int) JE.int opj_mod) JE.int opj_eq) (JN.seq (J1.cx (c' := fun v_law_kinds_269 => [some (SF.mk (fun I v x => (rdL K (rp rInt)) I H0 v x) p_law_script), some (SF.mk rInt p_law_at), some (SF.mk (rL rInt) v_law_shape_188), some (SF.mk rInt v_law_many_204), some (SF.mk (rL rInt) v_law_kinds_269), some (SF.mk (rL rInt) v_law_tops_227), some (SF.mk (rL rInt) v_law_bottoms_245), none, none, none]) (J1.set 4 (JE.ofM (JM.lcT (r := rInt) 7 (JI.list (JE.var 4)) (fun _ _ _ _ _ D acc i270 tk271 => (JE.at (c' := [some (SF.mk (fun I v x => (rdL K (rp rInt)) I H0 v x) p_law_script), some (SF.mk rInt p_law_at), some (SF.mk (rL rInt) v_law_shape_188), some (SF.mk rInt v_law_many_204), some (SF.mk (rL rInt) v_law_kinds_209), some (SF.mk (rL rInt) v_law_tops_227), some (SF.mk (rL rInt) v_law_bottoms_245), some (SF.mk rInt i270), none, none]) (JE.bin (JE.var 7) JE.int opj_mod))) sc_law_list.nd (blkok_of (by kernel_rfl)))) hx sc_law_list.nd)) fun v_law_kinds_269 => (JN.nil (fun _ _ _ h => h))) (JN.nil (fun _ _ _ h => h)) hx) fun s276 => (JR.seq (J1.cn (c' := fun v_law_pairs_278 l299 => [some (SF.mk (fun I v x => (rdL K (rp rInt)) I H0 v x) p_law_script), some (SF.mk rInt p_law_at), some (SF.mk (rL rInt) v_law_shape_188), some (SF.mk rInt v_law_many_204), some (SF.mk (rL rInt) s276), some (SF.mk (rL rInt) v_law_tops_227), some (SF.mk (rL rInt) v_law_bottoms_245), none, some (SF.mk (rRef l299) ()), none]) (me' := fun v_law_pairs_278 l299 => [MF.lst l299 (rTu (aCons (rp rInt) (aCons (rp rInt) aNil))) v_law_pairs_278]) (J1.setLcT (r := (rTu (aCons (rp rInt) (aCons (rp rInt) aNil)))) 8 9 (JI.range1 (JE.var 3) T.n_range) (fun _ _ _ _ _ D acc i280 tk281 => (JE.at (c' := [some (SF.mk (fun I v x => (rdL K (rp rInt)) I H0 v x) p_law_script), some (SF.mk rInt p_law_at), some (SF.mk (rL rInt) v_law_shape_188), some (SF.mk rInt v_law_many_204), some (SF.mk (rL rInt) s276), some (SF.mk (rL rInt) v_law_tops_227), some (SF.mk (rL rInt) v_law_bottoms_245), none, none, some (SF.mk rInt i280)]) (JE.call (JA.cons (JE.ix (JE.rd (JE.var 4)) (JE.var 9)) (JA.cons (JE.ix (JE.rd (JE.var 5)) (JE.var 9)) (JA.cons (JE.ix (JE.rd (JE.var 6)) (JE.var 9)) JA.nil))) (cj_of c_law_entry (hr.mono (by decide)) tk281) T.g_law_entry T.k_law_entry))) hx sc_law_list.nd (blkok_of (by kernel_rfl)))) fun v_law_pairs_278 => JR.ex fun l299 => (JR.seq (J1.if (S := (List (Int × Int × Unit))) (G' := fun s323 => Stt I0 H0 [some (SF.mk (fun I v x => (rdL K (rp rInt)) I H0 v x) p_law_script), some (SF.mk rInt p_law_at), some (SF.mk (rL rInt) v_law_shape_188), some (SF.mk rInt v_law_many_204), some (SF.mk (rL rInt) s276), some (SF.mk (rL rInt) v_law_tops_227), some (SF.mk (rL rInt) v_law_bottoms_245), none, some (SF.mk (rRef l299) ()), none] [MF.lst l299 (rTu (aCons (rp rInt) (aCons (rp rInt) aNil))) s323]) (JT.cmp (JE.bin (JE.bin (JE.ix (JE.rd (JE.var 2)) JE.int) JE.int opj_fdiv) JE.int opj_mod) JE.int opj_gt) (JN.seq (J1.cm (c' := fun v_law_pairs_308 => [some (SF.mk (fun I v x => (rdL K (rp rInt)) I H0 v x) p_law_script), some (SF.mk rInt p_law_at), some (SF.mk (rL rInt) v_law_shape_188), some (SF.mk rInt v_law_many_204), some (SF.mk (rL rInt) s276), some (SF.mk (rL rInt) v_law_tops_227), some (SF.mk (rL rInt) v_law_bottoms_245), none, some (SF.mk (rRef l299) ()), none]) (me' := fun v_law_pairs_308 => [MF.lst l299 (rTu (aCons (rp rInt) (aCons (rp rInt) aNil))) v_law_pairs_308]) (J1.app 8 0 (JE.tupD (k := 2) (JA.cons (JE.bin (JE.bin (JE.ix (JE.rd (JE.var 2)) JE.int) JE.int opj_fdiv) JE.int opj_mod) (JA.cons JE.int JA.nil)) (by rintro _ _ _ _ ⟨_, _, rfl, _, _, _, rfl, _, rfl⟩; rfl)) hx)) fun v_law_pairs_308 => (JN.nil (fun _ _ _ h => h))) (JN.nil (fun _ _ _ h => h)) hx) fun s323 => (JR.retC 8 0)))))))))⟩
theorem fn_law_list {P : Program} {w : World} {K : PySem.W.Frag} {mg : Str → Option Value} {base : Heap} (T : Txt K mg) (c_law_cell : C_law_cell P w K mg base) (c_law_row : C_law_row P w K mg base) (c_law_entry : C_law_entry P w K mg base) : FnR P w K mg base (L2.CX P w) 2 (He.ga K "_law_list") (spN K (aCons (rdL K (rp rInt)) (aCons (rp rInt) aNil)) (fun d => m_law_list d.1 d.2.1) (rTu (aCons (rp rInt) (aCons (rp rInt) aNil)))) := by
  obtain ⟨fd, F⟩ := T.F_law_list
  exact FnOk.frN0 (ok_law_list T c_law_cell c_law_row c_law_entry F) (F.bindsN fun _ _ _ _ _ _ us hl => match us, hl with | [_, _], _ => rfl)
theorem sc_law_inside : FnScope ["_law_pair"] ["_law_pair"] (defScope s_law_inside) := ⟨rfl, rfl, rfl, by decide +kernel, rfl, by decide +kernel, by decide +kernel⟩
def m_law_inside (p_law_pair : (Int × Int × Unit)) : Res Bool :=
  (((Res.ok (0 : Int)).bind fun a449 => ((Res.ok p_law_pair).bind fun a448 => .ok a448.1).bind fun b450 => .ok (decide (a449 < b450))).bind fun a455 => if a455 = true then (((Res.ok p_law_pair).bind fun a451 => .ok a451.1).bind fun a453 => ((Res.ok p_law_pair).bind fun a452 => .ok a452.2.1).bind fun b454 => .ok (decide (a453 < b454))) else .ok false)
abbrev C_law_inside (P : Program) (w : World) (K : PySem.W.Frag) (mg : Str → Option Value) (base : Heap) : Prop := FnR P w K mg base (L2.CX P w) 1 (He.ga K "_law_inside") (spF K (aCons (rp (rTu (aCons (rp rInt) (aCons (rp rInt) aNil)))) aNil) (fun d => m_law_inside d.1) (rp rBl))
theorem ok_law_inside {P : Program} {w : World} {K : PySem.W.Frag} {mg : Str → Option Value} {base : Heap} (T : Txt K mg) {fd : FuncData} (F : FunD K "_law_inside" "_law_inside" (defArgs s_law_inside) (defBody s_law_inside) (defScope s_law_inside) [] [] (He.ga K "_law_inside") fd) : FnOk P w K mg base (L2.CX P w) 1 (He.ga K "_law_inside") fd ["_law_pair"] (spF K (aCons (rp (rTu (aCons (rp rInt) (aCons (rp rInt) aNil)))) aNil) (fun d => m_law_inside d.1) (rp rBl)) := by
  refine FunD.fn (k := 0) (N := ["_law_pair"]) (ps := ["_law_pair"]) F sc_law_inside (fun I H vs d h => ?_) (fun cdv A outer s I0 H0 E vs d hr sm h => ?_)
  · obtain ⟨v0, _, rfl, h0, rfl⟩ := h; rfl
  obtain ⟨v0, _, rfl, h0, rfl⟩ := h
  have hx : ∀ {ctx : List (Option SF)} {mem : List MF} (I H : Hp) (σ : St) (d : Option Addr), Stt I0 H0 ctx mem I H σ → Fr H0 d → bK I0 H0 I H σ d := fun _ _ _ _ s f => ⟨s.fm, f⟩
  have tk : Takes (bx P w K mg base ["_law_pair"] "_law_inside" (defScope s_law_inside) (He.ga K "_law_inside") cdv A outer s H0 E) (bW E) := takes_of rfl rfl rfl rfl
  obtain ⟨p_law_pair, _⟩ := d
  exact ⟨Stt I0 H0 [some (SF.mk (rTu (aCons (rp rInt) (aCons (rp rInt) aNil))) p_law_pair)] [], Stt.start sm ⟨h0, ini_nil rfl⟩ rfl (by simp), (JR.ret (JE.and (JE.cmp JE.int (JE.ixD 0 (JE.var 0) AtR.zero) opj_lt) (JE.one (JE.cmp (JE.ixD 0 (JE.var 0) AtR.zero) (JE.ixD 1 (JE.var 0) (AtR.succ AtR.zero)) opj_lt))) hx)⟩
theorem fn_law_inside {P : Program} {w : World} {K : PySem.W.Frag} {mg : Str → Option Value} {base : Heap} (T : Txt K mg) : FnR P w K mg base (L2.CX P w) 1 (He.ga K "_law_inside") (spF K (aCons (rp (rTu (aCons (rp rInt) (aCons (rp rInt) aNil)))) aNil) (fun d => m_law_inside d.1) (rp rBl)) := by
  obtain ⟨fd, F⟩ := T.F_law_inside
  exact FnOk.fr0 (ok_law_inside T F) (F.bindsN fun _ _ _ _ _ _ us hl => match us, hl with | [_], _ => rfl)
theorem sc_common_divisor : FnScope ["first", "second"] ["first", "second"] (defScope s_common_divisor) := ⟨rfl, rfl, rfl, by decide +kernel, rfl, by decide +kernel, by decide +kernel⟩
def m_common_divisor (p_first : Int) (p_second : Int) : Res Int :=
  ((((Res.ok p_first).bind fun a557 => (Res.ok ()).bind fun b558 => .ok (a557, b558)).bind (fun d => .ok (if d.1 < 0 then -d.1 else d.1))).bind fun v_first_556 => ((((Res.ok p_second).bind fun a560 => (Res.ok ()).bind fun b561 => .ok (a560, b561)).bind (fun d => .ok (if d.1 < 0 then -d.1 else d.1))).bind fun v_second_559 => ((whileM (fun s562 : (Int × Int) => ((Res.ok s562.2).bind fun a563 => (Res.ok (0 : Int)).bind fun b564 => .ok (!decide (a563 = b564)))) (fun s562 => (((Res.ok s562.2).bind fun a568 => ((Res.ok s562.1).bind fun a566 => (Res.ok s562.2).bind fun b567 => modI a566 b567).bind fun b569 => .ok (a568, b569)).bind fun v565 => (Res.ok (v565.1, v565.2)))) ((v_second_559).toNat + 1) (v_first_556, v_second_559)).bind fun s562 => (Res.ok s562.1))))
abbrev C_common_divisor (P : Program) (w : World) (K : PySem.W.Frag) (mg : Str → Option Value) (base : Heap) : Prop := FnR P w K mg base (L2.CX P w) 1 (He.ga K "common_divisor") (spF K (aCons (rp rInt) (aCons (rp rInt) aNil)) (fun d => n_cd d.1 d.2.1) (rp rInt))
theorem ok_common_divisor {P : Program} {w : World} {K : PySem.W.Frag} {mg : Str → Option Value} {base : Heap} (T : Txt K mg) {fd : FuncData} (F : FunD K "common_divisor" "common_divisor" (defArgs s_common_divisor) (defBody s_common_divisor) (defScope s_common_divisor) [] [] (He.ga K "common_divisor") fd) : FnOk P w K mg base (L2.CX P w) 1 (He.ga K "common_divisor") fd ["first", "second"] (spF K (aCons (rp rInt) (aCons (rp rInt) aNil)) (fun d => m_common_divisor d.1 d.2.1) (rp rInt)) := by
  refine FunD.fn (k := 0) (N := ["first", "second"]) (ps := ["first", "second"]) F sc_common_divisor (fun I H vs d h => ?_) (fun cdv A outer s I0 H0 E vs d hr sm h => ?_)
  · obtain ⟨v0, _, rfl, h0, v1, _, rfl, h1, rfl⟩ := h; rfl
  obtain ⟨v0, _, rfl, h0, v1, _, rfl, h1, rfl⟩ := h
  have hx : ∀ {ctx : List (Option SF)} {mem : List MF} (I H : Hp) (σ : St) (d : Option Addr), Stt I0 H0 ctx mem I H σ → Fr H0 d → bK I0 H0 I H σ d := fun _ _ _ _ s f => ⟨s.fm, f⟩
  have tk : Takes (bx P w K mg base ["first", "second"] "common_divisor" (defScope s_common_divisor) (He.ga K "common_divisor") cdv A outer s H0 E) (bW E) := takes_of rfl rfl rfl rfl
  have hp : PassesOwn (model P w) (bx P w K mg base ["first", "second"] "common_divisor" (defScope s_common_divisor) (He.ga K "common_divisor") cdv A outer s H0 E).A (bx P w K mg base ["first", "second"] "common_divisor" (defScope s_common_divisor) (He.ga K "common_divisor") cdv A outer s H0 E).env (bx P w K mg base ["first", "second"] "common_divisor" (defScope s_common_divisor) (He.ga K "common_divisor") cdv A outer s H0 E).xe := passes_of rfl
  obtain ⟨p_first, p_second, _⟩ := d
  exact ⟨Stt I0 H0 [some (SF.mk rInt p_first), some (SF.mk rInt p_second)] [], Stt.start sm ⟨h0, h1, ini_nil rfl⟩ rfl (by simp), (JR.seq (J1.cx (c' := fun v_first_556 => [some (SF.mk rInt v_first_556), some (SF.mk rInt p_second)]) (J1.set 0 (JE.callB (JA.cons (JE.var 0) JA.nil) cj_abs T.n_abs boot_abs) hx sc_common_divisor.nd)) fun v_first_556 => (JR.seq (J1.cx (c' := fun v_second_559 => [some (SF.mk rInt v_first_556), some (SF.mk rInt v_second_559)]) (J1.set 1 (JE.callB (JA.cons (JE.var 1) JA.nil) cj_abs T.n_abs boot_abs) hx sc_common_divisor.nd)) fun v_second_559 => (JR.seq (J1.while (S := (Int × Int)) (cx := fun s562 => [some (SF.mk rInt s562.1), some (SF.mk rInt s562.2)]) (me := fun s562 => []) (s0 := (v_first_556, v_second_559)) (fuel := (v_second_559).toNat + 1) hp (fun s562 => (JT.cmp (JE.var 1) JE.int opj_ne)) (fun s562 => (JN.seq (J1.cx (c' := fun v565 => [some (SF.mk rInt v565.1), some (SF.mk rInt v565.2)]) (J1.par 0 1 (JE.var 1) (JE.bin (JE.var 0) (JE.var 1) opj_mod) hx sc_common_divisor.nd)) fun v565 => (JN.nil (fun _ _ _ h => h)))) fun _ => hx) fun s562 => (JR.ret (JE.var 0) hx))))⟩
theorem fn_common_divisor {P : Program} {w : World} {K : PySem.W.Frag} {mg : Str → Option Value} {base : Heap} (T : Txt K mg) : FnR P w K mg base (L2.CX P w) 1 (He.ga K "common_divisor") (spF K (aCons (rp rInt) (aCons (rp rInt) aNil)) (fun d => m_common_divisor d.1 d.2.1) (rp rInt)) := by
  obtain ⟨fd, F⟩ := T.F_common_divisor
  exact FnOk.fr0 (ok_common_divisor T F) (F.bindsN fun _ _ _ _ _ _ us hl => match us, hl with | [_, _], _ => rfl)
theorem nice_common_divisor : ∀ d : Int × Int × Unit, n_cd d.1 d.2.1 = .stuck ∨ n_cd d.1 d.2.1 = m_common_divisor d.1 d.2.1 := fun ⟨a, b, _⟩ => by
  right
  show Res.ok _ = m_common_divisor a b
  have e : m_common_divisor a b = (whileM _ _ ((absI b).toNat + 1) (absI a, absI b)).bind fun s => .ok s.1 := rfl
  rw [e, absI_eq a, absI_eq b]
  simp only [Res.ok_bind]
  rw [cd_loop (fun s => rfl) (fun s h => by simp only [Res.ok_bind, modI_ok h]) _ _ _ (by omega)]
  simp only [Res.ok_bind, Int.gcd, Nat.gcd_comm b.natAbs]
theorem sc_Fraction_init : FnScope ["self", "top", "bottom", "divisor"] ["self", "top", "bottom"] (defScope s_Fraction_init) := ⟨rfl, rfl, rfl, by decide +kernel, rfl, by decide +kernel, by decide +kernel⟩
def mi_Fraction (top bottom : Int) : Res (Int × Int) :=
  (((Res.ok bottom).bind fun a => (Res.ok (0 : Int)).bind fun b => .ok (decide (a = b))).bind fun x => if x = true then (Res.err eBF : Res Unit) else .ok ()).bind fun _ =>
  (((Res.ok top).bind fun a => ((Res.ok bottom).bind fun b => (Res.ok ()).bind fun c => .ok (b, c)).bind fun d => .ok (a, d)).bind fun d => n_cd d.1 d.2.1).bind fun dv =>
  (((Res.ok bottom).bind fun a => (Res.ok (0 : Int)).bind fun b => .ok (decide (a < b))).bind fun x => if x = true then ((Res.ok dv).bind fun a => .ok (-a)).bind fun v => (Res.ok v) else .ok dv).bind fun s =>
  ((Res.ok top).bind fun a => (Res.ok s).bind fun b => fdivI a b).bind fun x =>
  ((Res.ok bottom).bind fun a => (Res.ok s).bind fun b => fdivI a b).bind fun y => .ok (x, y)
theorem mi_Fraction_eq (t b : Int) : mi_Fraction t b = (qRaw t b).bind fun q => .ok (q.num, (q.den : Int)) := by
  unfold mi_Fraction qRaw
  simp only [Res.ok_bind, n_cd]
  by_cases hb : b = 0
  · simp [hb]
  · simp only [hb, decide_false, Bool.false_eq_true, if_false, Res.ok_bind]
    have key : ∀ dv : Int, dv = (if b < 0 then -(Int.gcd t b : Int) else (Int.gcd t b : Int)) → (fdivI t dv).bind (fun x => (fdivI b dv).bind fun y => .ok (x, y)) = (Res.guard ((Int.gcd t b).log2 < 9000) (.ok (Rat.divInt t b))).bind fun q => .ok (q.num, (q.den : Int)) := fun dv hd => by
      obtain ⟨e1, e2⟩ := div_num hb dv hd
      have hg : Int.gcd t b ≠ 0 := fun h => hb (Int.gcd_eq_zero_iff.mp h).2
      have na : dv.natAbs = Int.gcd t b := by rw [hd]; split <;> omega
      have nz : dv ≠ 0 := by omega
      unfold fdivI
      rw [na]
      by_cases hl : (Int.gcd t b).log2 < 9000
      · rw [Res.guard_pos ⟨nz, hl⟩, Res.guard_pos ⟨nz, hl⟩, Res.guard_pos hl, e1, e2]; rfl
      · unfold Res.guard; rw [if_neg (fun h => hl h.2), if_neg hl]; rfl
    by_cases hlt : b < 0
    · simp only [hlt, decide_true, if_true, Res.ok_bind]
      exact key _ (by rw [if_pos hlt])
    · simp only [hlt, decide_false, Bool.false_eq_true, if_false, Res.ok_bind]
      exact key _ (by rw [if_neg hlt])
theorem in_Fraction {P : Program} {w : World} {K : PySem.W.Frag} {mg : Str → Option Value} {base : Heap} (T : Txt K mg) (c_common_divisor : C_common_divisor P w K mg base) {fd : FuncData} (F : FunD K "__init__" "Fraction.__init__" (defArgs s_Fraction_init) (defBody s_Fraction_init) (defScope s_Fraction_init) [.int 1] [] (He.ma K (He.ga K "Fraction") "__init__") fd) :
    FnOk P w K mg base (L2.CX P w) 2 (He.ma K (He.ga K "Fraction") "__init__") fd ["self", "top", "bottom"] (spI K (He.ga K "Fraction") (aCons (rp rInt) (aCons (rp rInt) aNil)) (fun d => qRaw d.1 d.2.1) (rp (rFrac K))) := by
  refine FunD.init (k := 1) (N := ["self", "top", "bottom", "divisor"]) (S := Int × Int) F sc_Fraction_init (fun I H vs d h => ?_) (fun cdv A outer s I0 H0 H1 E vs d y dx hr sm h n1 n2 n3 eH => ?_)
  · obtain ⟨v0, _, rfl, h0, v1, _, rfl, h1, rfl⟩ := h; rfl
  obtain ⟨v0, _, rfl, h0, v1, _, rfl, h1, rfl⟩ := h
  obtain ⟨t, b, _⟩ := d
  have hx : ∀ {ctx : List (Option SF)} {mem : List MF} (I H : Hp) (σ : St) (d : Option Addr), Stt I0 H0 ctx mem I H σ → Fr H0 d → bK I0 H0 I H σ d := fun _ _ _ _ s f => ⟨s.fm, f⟩
  have tk : Takes (bx P w K mg base ["self", "top", "bottom", "divisor"] "Fraction.__init__" (defScope s_Fraction_init) (He.ma K (He.ga K "Fraction") "__init__") cdv A outer s H1 E) (bW E) := takes_of rfl rfl rfl rfl
  refine ⟨Stt I0 H0 [some ⟨rRef y, ()⟩, some ⟨rInt, t⟩, some ⟨rInt, b⟩, none] [.ins y (He.ga K "Fraction") dx []], Int × Int, mi_Fraction t b, fun s I H σ => ∃ ctx, Stt I0 H0 ctx [.ins y (He.ga K "Fraction") dx [("top", ⟨rInt, s.1⟩), ("bottom", ⟨rInt, s.2⟩)]] I H σ, ?_, ?_, ?_⟩
  · subst eH
    exact Stt.fresh sm n1 n2 n3 rfl fun i sf e => IniR.get (n := 1) (vs := [.ref y, v0, v1]) (c := [some ⟨rRef y, ()⟩, some ⟨rInt, t⟩, some ⟨rInt, b⟩, none]) ⟨rfl, h0, h1, ini_nil rfl⟩ i sf e
  · exact JN.seq (J1.if (S := Unit) (G' := fun _ => Stt I0 H0 [some ⟨rRef y, ()⟩, some ⟨rInt, t⟩, some ⟨rInt, b⟩, none] [.ins y (He.ga K "Fraction") dx []]) (JT.cmp (JE.var 2) JE.int opj_eq) (JN.last (J1.raiseP rfl tk T.ex_BadFraction hx)) (JN.nil fun _ _ _ h => h) hx) fun _ =>
      JN.seq (J1.set 3 (JE.call (JA.cons (JE.var 1) (JA.cons (JE.var 2) JA.nil)) (cj_of c_common_divisor (hr.mono (by decide)) tk) T.g_common_divisor T.k_common_divisor) hx sc_Fraction_init.nd) fun dv =>
      JN.seq (J1.if (S := Int) (G' := fun s => Stt I0 H0 [some ⟨rRef y, ()⟩, some ⟨rInt, t⟩, some ⟨rInt, b⟩, some ⟨rInt, s⟩] [.ins y (He.ga K "Fraction") dx []]) (JT.cmp (JE.var 2) JE.int opj_lt) (JN.seq (J1.set 3 (JE.un (JE.var 3) unj_neg) hx sc_Fraction_init.nd) fun v => JN.nil fun _ _ _ h => h) (JN.nil fun _ _ _ h => h) hx) fun s =>
      JN.seq (J1.sfld 0 (JE.bin (JE.var 1) (JE.var 3) opj_fdiv) T.o_Fraction.cl T.na_Fraction_top (by decide) hx) fun x =>
      JN.seq (J1.sfld 0 (JE.bin (JE.var 2) (JE.var 3) opj_fdiv) T.o_Fraction.cl T.na_Fraction_bottom (by simp [putG]) hx) fun y' => JN.nil fun _ _ _ h => ⟨_, h⟩
  · rw [mi_Fraction_eq]
    dsimp only
    generalize qRaw t b = z
    cases z with
    | err e => rfl
    | stuck => rfl
    | ok q =>
      refine ⟨q, rfl, fun I' H' σ' ⟨ctx, g⟩ => ?_⟩
      obtain ⟨fs, I2, e1, hf, g2, sm2, e2⟩ := g.freeze
      exact ⟨I2, g2.fm, y, dx, rfl, by rw [e2, frF_of rfl rfl hf]⟩
abbrev C_Fraction_2 (P : Program) (w : World) (K : PySem.W.Frag) (mg : Str → Option Value) (base : Heap) : Prop := MkR P w K mg base 3 (He.ga K "Fraction") (aCons (rp rInt) (aCons (rp rInt) aNil)) (fun d => qMk d.1 d.2.1) (rp (rFrac K))
theorem fn_Fraction_2 {P : Program} {w : World} {K : PySem.W.Frag} {mg : Str → Option Value} {base : Heap} (T : Txt K mg) (c_common_divisor : C_common_divisor P w K mg base) : C_Fraction_2 P w K mg base := by
  obtain ⟨fd, F⟩ := T.F_Fraction_init
  obtain ⟨ds, hd, hb⟩ := FunD.binds1 (ps := ["self", "top", "bottom"]) F 3 1 (by simp) rfl fun T kV doc pm an cdv ct us its hl hi => match us, hl, its, hi with | [_, _, _], _, [_], _ => ⟨_, rfl, rfl⟩
  exact MkR.nice (mkR_of (h := fun d => d) T.mk_Fraction (in_Fraction T c_common_divisor F) hb hd fun I H vs d h => by rw [show List.drop 1 [V.int 1] = [] from rfl, List.append_nil]; exact h) fun d => qMk_raw d.1 d.2.1
abbrev C_Fraction_1 (P : Program) (w : World) (K : PySem.W.Frag) (mg : Str → Option Value) (base : Heap) : Prop := MkR P w K mg base 3 (He.ga K "Fraction") (aCons (rp rInt) aNil) (fun d => qInt d.1) (rp (rFrac K))
theorem fn_Fraction_1 {P : Program} {w : World} {K : PySem.W.Frag} {mg : Str → Option Value} {base : Heap} (T : Txt K mg) (c_common_divisor : C_common_divisor P w K mg base) : C_Fraction_1 P w K mg base := by
  obtain ⟨fd, F⟩ := T.F_Fraction_init
  obtain ⟨ds, hd, hb⟩ := FunD.binds1 (ps := ["self", "top", "bottom"]) F 2 0 (by simp) rfl fun T kV doc pm an cdv ct us its hl hi => match us, hl, its, hi with | [_, _], _, [_], _ => ⟨_, rfl, rfl⟩
  exact MkR.nice (mkR_of (h := fun d : Int × Unit => (d.1, 1, ())) T.mk_Fraction (in_Fraction T c_common_divisor F) hb hd fun I H vs d h => by
    obtain ⟨v0, _, rfl, h0, rfl⟩ := h
    exact ⟨v0, _, rfl, h0, _, _, rfl, rfl, rfl⟩) fun d => qInt_raw d.1

theorem sc_law_handed : FnScope ["_law_pair"] ["_law_pair"] (defScope s_law_handed) := ⟨rfl, rfl, rfl, by decide +kernel, rfl, by decide +kernel, by decide +kernel⟩
def m_law_handed (p_law_pair : (Int × Int × Unit)) : Res Num :=
  ((((Res.ok p_law_pair).bind fun a541 => .ok a541.2.1).bind fun a542 => (Res.ok (1 : Int)).bind fun b543 => .ok (decide (a542 = b543))).bind fun x544 => if x544 = true then (((Res.ok p_law_pair).bind fun a545 => .ok a545.1).bind fun a546 => .ok (Num.i a546)) else (((((Res.ok p_law_pair).bind fun a547 => .ok a547.1).bind fun a553 => (((Res.ok p_law_pair).bind fun a549 => .ok a549.2.1).bind fun a551 => (Res.ok ()).bind fun b552 => .ok (a551, b552)).bind fun b554 => .ok (a553, b554)).bind (fun d => qMk d.1 d.2.1)).bind fun a555 => .ok (Num.q a555)))
abbrev C_law_handed (P : Program) (w : World) (K : PySem.W.Frag) (mg : Str → Option Value) (base : Heap) : Prop := FnR P w K mg base (L2.CX P w) 4 (He.ga K "_law_handed") (spF K (aCons (rp (rTu (aCons (rp rInt) (aCons (rp rInt) aNil)))) aNil) (fun d => m_law_handed d.1) (rp (rNum K)))
theorem ok_law_handed {P : Program} {w : World} {K : PySem.W.Frag} {mg : Str → Option Value} {base : Heap} (T : Txt K mg) (c_Fraction_2 : C_Fraction_2 P w K mg base) {fd : FuncData} (F : FunD K "_law_handed" "_law_handed" (defArgs s_law_handed) (defBody s_law_handed) (defScope s_law_handed) [] [] (He.ga K "_law_handed") fd) : FnOk P w K mg base (L2.CX P w) 4 (He.ga K "_law_handed") fd ["_law_pair"] (spF K (aCons (rp (rTu (aCons (rp rInt) (aCons (rp rInt) aNil)))) aNil) (fun d => m_law_handed d.1) (rp (rNum K))) := by
  refine FunD.fn (k := 3) (N := ["_law_pair"]) (ps := ["_law_pair"]) F sc_law_handed (fun I H vs d h => ?_) (fun cdv A outer s I0 H0 E vs d hr sm h => ?_)
  · obtain ⟨v0, _, rfl, h0, rfl⟩ := h; rfl
  obtain ⟨v0, _, rfl, h0, rfl⟩ := h
  have hx : ∀ {ctx : List (Option SF)} {mem : List MF} (I H : Hp) (σ : St) (d : Option Addr), Stt I0 H0 ctx mem I H σ → Fr H0 d → bK I0 H0 I H σ d := fun _ _ _ _ s f => ⟨s.fm, f⟩
  have tk : Takes (bx P w K mg base ["_law_pair"] "_law_handed" (defScope s_law_handed) (He.ga K "_law_handed") cdv A outer s H0 E) (bW E) := takes_of rfl rfl rfl rfl
  obtain ⟨p_law_pair, _⟩ := d
  exact ⟨Stt I0 H0 [some (SF.mk (rTu (aCons (rp rInt) (aCons (rp rInt) aNil))) p_law_pair)] [], Stt.start sm ⟨h0, ini_nil rfl⟩ rfl (by simp), (JR.ifR (JT.cmp (JE.ixD 1 (JE.var 0) (AtR.succ AtR.zero)) JE.int opj_eq) (JR.ret (JE.num (JE.ixD 0 (JE.var 0) AtR.zero)) hx) (JR.ret (JE.numq (JE.call (JA.cons (JE.ixD 0 (JE.var 0) AtR.zero) (JA.cons (JE.ixD 1 (JE.var 0) (AtR.succ AtR.zero)) JA.nil)) (c_Fraction_2 _ _ rfl rfl rfl rfl rfl (hr.mono (by decide)) tk) T.g_Fraction T.mk_Fraction.kp)) hx) hx)⟩
theorem fn_law_handed {P : Program} {w : World} {K : PySem.W.Frag} {mg : Str → Option Value} {base : Heap} (T : Txt K mg) (c_Fraction_2 : C_Fraction_2 P w K mg base) : FnR P w K mg base (L2.CX P w) 4 (He.ga K "_law_handed") (spF K (aCons (rp (rTu (aCons (rp rInt) (aCons (rp rInt) aNil)))) aNil) (fun d => m_law_handed d.1) (rp (rNum K))) := by
  obtain ⟨fd, F⟩ := T.F_law_handed
  exact FnOk.fr0 (ok_law_handed T c_Fraction_2 F) (F.bindsN fun _ _ _ _ _ _ us hl => match us, hl with | [_], _ => rfl)
theorem sc_law_at_end : FnScope ["_law_pair"] ["_law_pair"] (defScope s_law_at_end) := ⟨rfl, rfl, rfl, by decide +kernel, rfl, by decide +kernel, by decide +kernel⟩
def m_law_at_end (p_law_pair : (Int × Int × Unit)) : Res Bool :=
  ((((Res.ok p_law_pair).bind fun a616 => .ok a616.1).bind fun a617 => (Res.ok (0 : Int)).bind fun b618 => .ok (decide (a617 = b618))).bind fun a623 => if a623 = true then .ok true else (((Res.ok p_law_pair).bind fun a619 => .ok a619.1).bind fun a621 => ((Res.ok p_law_pair).bind fun a620 => .ok a620.2.1).bind fun b622 => .ok (decide (a621 = b622))))
abbrev C_law_at_end (P : Program) (w : World) (K : PySem.W.Frag) (mg : Str → Option Value) (base : Heap) : Prop := FnR P w K mg base (L2.CX P w) 1 (He.ga K "_law_at_end") (spF K (aCons (rp (rTu (aCons (rp rInt) (aCons (rp rInt) aNil)))) aNil) (fun d => m_law_at_end d.1) (rp rBl))
theorem ok_law_at_end {P : Program} {w : World} {K : PySem.W.Frag} {mg : Str → Option Value} {base : Heap} (T : Txt K mg) {fd : FuncData} (F : FunD K "_law_at_end" "_law_at_end" (defArgs s_law_at_end) (defBody s_law_at_end) (defScope s_law_at_end) [] [] (He.ga K "_law_at_end") fd) : FnOk P w K mg base (L2.CX P w) 1 (He.ga K "_law_at_end") fd ["_law_pair"] (spF K (aCons (rp (rTu (aCons (rp rInt) (aCons (rp rInt) aNil)))) aNil) (fun d => m_law_at_end d.1) (rp rBl)) := by
  refine FunD.fn (k := 0) (N := ["_law_pair"]) (ps := ["_law_pair"]) F sc_law_at_end (fun I H vs d h => ?_) (fun cdv A outer s I0 H0 E vs d hr sm h => ?_)
  · obtain ⟨v0, _, rfl, h0, rfl⟩ := h; rfl
  obtain ⟨v0, _, rfl, h0, rfl⟩ := h
  have hx : ∀ {ctx : List (Option SF)} {mem : List MF} (I H : Hp) (σ : St) (d : Option Addr), Stt I0 H0 ctx mem I H σ → Fr H0 d → bK I0 H0 I H σ d := fun _ _ _ _ s f => ⟨s.fm, f⟩
  have tk : Takes (bx P w K mg base ["_law_pair"] "_law_at_end" (defScope s_law_at_end) (He.ga K "_law_at_end") cdv A outer s H0 E) (bW E) := takes_of rfl rfl rfl rfl
  obtain ⟨p_law_pair, _⟩ := d
  exact ⟨Stt I0 H0 [some (SF.mk (rTu (aCons (rp rInt) (aCons (rp rInt) aNil))) p_law_pair)] [], Stt.start sm ⟨h0, ini_nil rfl⟩ rfl (by simp), (JR.ret (JE.or (JE.cmp (JE.ixD 0 (JE.var 0) AtR.zero) JE.int opj_eq) (JE.one (JE.cmp (JE.ixD 0 (JE.var 0) AtR.zero) (JE.ixD 1 (JE.var 0) (AtR.succ AtR.zero)) opj_eq))) hx)⟩
theorem fn_law_at_end {P : Program} {w : World} {K : PySem.W.Frag} {mg : Str → Option Value} {base : Heap} (T : Txt K mg) : FnR P w K mg base (L2.CX P w) 1 (He.ga K "_law_at_end") (spF K (aCons (rp (rTu (aCons (rp rInt) (aCons (rp rInt) aNil)))) aNil) (fun d => m_law_at_end d.1) (rp rBl)) := by
  obtain ⟨fd, F⟩ := T.F_law_at_end
  exact FnOk.fr0 (ok_law_at_end T F) (F.bindsN fun _ _ _ _ _ _ us hl => match us, hl with | [_], _ => rfl)
theorem sc_law_place : FnScope ["_law_pairs", "_law_k"] ["_law_pairs"] (defScope s_law_place) := ⟨rfl, rfl, rfl, by decide +kernel, rfl, by decide +kernel, by decide +kernel⟩
def m_law_place (p_law_pairs : (List (Int × Int × Unit))) : Res Int :=
  (((((((Res.ok p_law_pairs).bind fun a573 => (Res.ok ()).bind fun b574 => .ok (a573, b574)).bind (fun d => .ok (d.1.length : Int))).bind fun a575 => (Res.ok (1 : Int)).bind fun b576 => .ok (a575 - b576)).bind fun a577 => rangeM1 a577).bind fun l588 => (forG (fun (i578 : Int) (s571 : Unit) => (((((((Res.ok p_law_pairs).bind fun a579 => (Res.ok i578).bind fun b580 => atM a579 b580).bind fun a582 => (Res.ok ()).bind fun b583 => .ok (a582, b583)).bind (fun d => m_law_inside d.1)).bind fun a584 => .ok (!a584)).bind fun x585 => if x585 = true then ((Res.ok i578).bind fun r587 => .ok (Fl.rt r587)) else (Res.ok (Fl.nx ()))) : Res (Fl Unit Unit Int))) l588 () : Res (Fl Unit Unit Int))).bind (Fl.out fun s571 => (((((Res.ok p_law_pairs).bind fun a590 => (Res.ok ()).bind fun b591 => .ok (a590, b591)).bind (fun d => .ok (d.1.length : Int))).bind fun a592 => (Res.ok (0 : Int)).bind fun b593 => .ok (decide (a592 = b593))).bind fun x594 => if x594 = true then (Res.ok (0 : Int)) else ((((((Res.ok p_law_pairs).bind fun a601 => ((((Res.ok p_law_pairs).bind fun a597 => (Res.ok ()).bind fun b598 => .ok (a597, b598)).bind (fun d => .ok (d.1.length : Int))).bind fun a599 => (Res.ok (1 : Int)).bind fun b600 => .ok (a599 - b600)).bind fun b602 => atM a601 b602).bind fun a604 => (Res.ok ()).bind fun b605 => .ok (a604, b605)).bind (fun d => m_law_at_end d.1)).bind fun a606 => .ok (!a606)).bind fun x607 => if x607 = true then ((((Res.ok p_law_pairs).bind fun a609 => (Res.ok ()).bind fun b610 => .ok (a609, b610)).bind (fun d => .ok (d.1.length : Int))).bind fun a611 => (Res.ok (1 : Int)).bind fun b612 => .ok (a611 - b612)) else ((Res.ok (1 : Int)).bind fun a614 => .ok (-a614))))))
abbrev C_law_place (P : Program) (w : World) (K : PySem.W.Frag) (mg : Str → Option Value) (base : Heap) : Prop := FnR P w K mg base (L2.CX P w) 2 (He.ga K "_law_place") (spF K (aCons (rp (rL (rTu (aCons (rp rInt) (aCons (rp rInt) aNil))))) aNil) (fun d => m_law_place d.1) (rp rInt))
theorem ok_law_place {P : Program} {w : World} {K : PySem.W.Frag} {mg : Str → Option Value} {base : Heap} (T : Txt K mg) (c_law_inside : C_law_inside P w K mg base) (c_law_at_end : C_law_at_end P w K mg base) {fd : FuncData} (F : FunD K "_law_place" "_law_place" (defArgs s_law_place) (defBody s_law_place) (defScope s_law_place) [] [] (He.ga K "_law_place") fd) : FnOk P w K mg base (L2.CX P w) 2 (He.ga K "_law_place") fd ["_law_pairs"] (spF K (aCons (rp (rL (rTu (aCons (rp rInt) (aCons (rp rInt) aNil))))) aNil) (fun d => m_law_place d.1) (rp rInt)) := by
  refine FunD.fn (k := 1) (N := ["_law_pairs", "_law_k"]) (ps := ["_law_pairs"]) F sc_law_place (fun I H vs d h => ?_) (fun cdv A outer s I0 H0 E vs d hr sm h => ?_)
  · obtain ⟨v0, _, rfl, h0, rfl⟩ := h; rfl
  obtain ⟨v0, _, rfl, h0, rfl⟩ := h
  have hx : ∀ {ctx : List (Option SF)} {mem : List MF} (I H : Hp) (σ : St) (d : Option Addr), Stt I0 H0 ctx mem I H σ → Fr H0 d → bK I0 H0 I H σ d := fun _ _ _ _ s f => ⟨s.fm, f⟩
  have tk : Takes (bx P w K mg base ["_law_pairs", "_law_k"] "_law_place" (defScope s_law_place) (He.ga K "_law_place") cdv A outer s H0 E) (bW E) := takes_of rfl rfl rfl rfl
  have hp : PassesOwn (model P w) (bx P w K mg base ["_law_pairs", "_law_k"] "_law_place" (defScope s_law_place) (He.ga K "_law_place") cdv A outer s H0 E).A (bx P w K mg base ["_law_pairs", "_law_k"] "_law_place" (defScope s_law_place) (He.ga K "_law_place") cdv A outer s H0 E).env (bx P w K mg base ["_law_pairs", "_law_k"] "_law_place" (defScope s_law_place) (He.ga K "_law_place") cdv A outer s H0 E).xe := passes_of rfl
  obtain ⟨p_law_pairs, _⟩ := d
  exact ⟨Stt I0 H0 [some (SF.mk (rL (rTu (aCons (rp rInt) (aCons (rp rInt) aNil)))) p_law_pairs), none] [], Stt.start sm ⟨h0, ini_nil rfl⟩ rfl (by simp), (JR.seqG (GL := fun _ _ _ _ => False) (J1G.forG (S := Unit) (cx := fun s571 => [some (SF.mk (rL (rTu (aCons (rp rInt) (aCons (rp rInt) aNil)))) p_law_pairs), none]) (me := fun s571 => []) (s0 := ()) 1 hp (JI.range1 (JE.bin (JE.callB (JA.cons (JE.rd (JE.var 0)) JA.nil) cj_len T.n_len boot_len) JE.int opj_sub) T.n_range) (fun i578 s571 => JG.at (c' := [some (SF.mk (rL (rTu (aCons (rp rInt) (aCons (rp rInt) aNil)))) p_law_pairs), some (SF.mk rInt i578)]) (JG.ifT (JT.not (JT.of (JE.call (JA.cons (JE.ix (JE.rd (JE.var 0)) (JE.var 1)) JA.nil) (cj_of c_law_inside (hr.mono (by decide)) tk) T.g_law_inside T.k_law_inside))) (JG.rt (JR.ret (JE.var 1) hx)) (JG.nil (fun _ _ _ h => (Stt.weak h (weak_some (weak_none weak_nil))))) hx)) hx (weak_some (weak_none weak_nil)) sc_law_place.nd) fun s571 => (JR.ifR (JT.cmp (JE.callB (JA.cons (JE.rd (JE.var 0)) JA.nil) cj_len T.n_len boot_len) JE.int opj_eq) (JR.ret JE.int hx) (JR.ifR (JT.not (JT.of (JE.call (JA.cons (JE.ix (JE.rd (JE.var 0)) (JE.bin (JE.callB (JA.cons (JE.rd (JE.var 0)) JA.nil) cj_len T.n_len boot_len) JE.int opj_sub)) JA.nil) (cj_of c_law_at_end (hr.mono (by decide)) tk) T.g_law_at_end T.k_law_at_end))) (JR.ret (JE.bin (JE.callB (JA.cons (JE.rd (JE.var 0)) JA.nil) cj_len T.n_len boot_len) JE.int opj_sub) hx) (JR.ret (JE.un JE.int unj_neg) hx) hx) hx))⟩
theorem fn_law_place {P : Program} {w : World} {K : PySem.W.Frag} {mg : Str → Option Value} {base : Heap} (T : Txt K mg) (c_law_inside : C_law_inside P w K mg base) (c_law_at_end : C_law_at_end P w K mg base) : FnR P w K mg base (L2.CX P w) 2 (He.ga K "_law_place") (spF K (aCons (rp (rL (rTu (aCons (rp rInt) (aCons (rp rInt) aNil))))) aNil) (fun d => m_law_place d.1) (rp rInt)) := by
  obtain ⟨fd, F⟩ := T.F_law_place
  exact FnOk.fr0 (ok_law_place T c_law_inside c_law_at_end F) (F.bindsN fun _ _ _ _ _ _ us hl => match us, hl with | [_], _ => rfl)
theorem sc_as_fraction : FnScope ["number"] ["number"] (defScope s_as_fraction) := ⟨rfl, rfl, rfl, by decide +kernel, rfl, by decide +kernel, by decide +kernel⟩
def m_as_fraction (p_number : Num) : Res Rat :=
  (match p_number with | .i p_number_i => (((Res.ok p_number_i).bind fun a706 => .ok false).bind fun x707 => if x707 = true then .stuck else (((Res.ok p_number_i).bind fun a709 => (Res.ok ()).bind fun b710 => .ok (a709, b710)).bind (fun d => qInt d.1))) | .q p_number_q => (((Res.ok p_number_q).bind fun a712 => .ok true).bind fun x713 => if x713 = true then (Res.ok p_number_q) else .stuck))
abbrev C_as_fraction (P : Program) (w : World) (K : PySem.W.Frag) (mg : Str → Option Value) (base : Heap) : Prop := FnR P w K mg base (L2.CX P w) 4 (He.ga K "as_fraction") (spF K (aCons (rp (rNum K)) aNil) (fun d => qAs d.1) (rp (rFrac K)))
theorem ok_as_fraction {P : Program} {w : World} {K : PySem.W.Frag} {mg : Str → Option Value} {base : Heap} (T : Txt K mg) (c_Fraction_1 : C_Fraction_1 P w K mg base) {fd : FuncData} (F : FunD K "as_fraction" "as_fraction" (defArgs s_as_fraction) (defBody s_as_fraction) (defScope s_as_fraction) [] [] (He.ga K "as_fraction") fd) : FnOk P w K mg base (L2.CX P w) 4 (He.ga K "as_fraction") fd ["number"] (spF K (aCons (rp (rNum K)) aNil) (fun d => m_as_fraction d.1) (rp (rFrac K))) := by
  refine FunD.fn (k := 3) (N := ["number"]) (ps := ["number"]) F sc_as_fraction (fun I H vs d h => ?_) (fun cdv A outer s I0 H0 E vs d hr sm h => ?_)
  · obtain ⟨v0, _, rfl, h0, rfl⟩ := h; rfl
  obtain ⟨v0, _, rfl, h0, rfl⟩ := h
  have hx : ∀ {ctx : List (Option SF)} {mem : List MF} (I H : Hp) (σ : St) (d : Option Addr), Stt I0 H0 ctx mem I H σ → Fr H0 d → bK I0 H0 I H σ d := fun _ _ _ _ s f => ⟨s.fm, f⟩
  have tk : Takes (bx P w K mg base ["number"] "as_fraction" (defScope s_as_fraction) (He.ga K "as_fraction") cdv A outer s H0 E) (bW E) := takes_of rfl rfl rfl rfl
  obtain ⟨p_number, _⟩ := d
  exact ⟨Stt I0 H0 [some (SF.mk (rNum K) p_number)] [], Stt.start sm ⟨h0, ini_nil rfl⟩ rfl (by simp), (JR.num (K := K) 0 (fun p_number_i => JR.at (c' := [some (SF.mk rInt p_number_i)]) (JR.ifR (JT.of (JE.isi (JE.var 0) (w_glob_at T.g_Fraction rfl (by decide)) (.own _) (tyr_intC T.kI_int_Fraction) T.n_isinstance)) JR.dead (JR.ret (JE.call (JA.cons (JE.var 0) JA.nil) (c_Fraction_1 _ _ rfl rfl rfl rfl rfl (hr.mono (by decide)) tk) T.g_Fraction T.mk_Fraction.kp) hx) hx)) (fun p_number_q => JR.at (c' := [some (SF.mk (rFrac K) p_number_q)]) (JR.ifR (JT.of (JE.isi (JE.var 0) (w_glob_at T.g_Fraction rfl (by decide)) (.own _) (tyr_ins T.o_Fraction insF T.kt_Fraction_Fraction) T.n_isinstance)) (JR.ret (JE.var 0) hx) JR.dead hx)))⟩
theorem fn_as_fraction {P : Program} {w : World} {K : PySem.W.Frag} {mg : Str → Option Value} {base : Heap} (T : Txt K mg) (c_Fraction_1 : C_Fraction_1 P w K mg base) : FnR P w K mg base (L2.CX P w) 4 (He.ga K "as_fraction") (spF K (aCons (rp (rNum K)) aNil) (fun d => m_as_fraction d.1) (rp (rFrac K))) := by
  obtain ⟨fd, F⟩ := T.F_as_fraction
  exact FnOk.fr0 (ok_as_fraction T c_Fraction_1 F) (F.bindsN fun _ _ _ _ _ _ us hl => match us, hl with | [_], _ => rfl)
theorem nice_as_fraction : ∀ d : Num × Unit, qAs d.1 = .stuck ∨ qAs d.1 = m_as_fraction d.1 := fun ⟨y, _⟩ => by
  right
  cases y with
  | i n => rfl
  | q y => rfl
theorem sc_BadLine_init : FnScope ["self", "place"] ["self", "place"] (defScope s_BadLine_init) := ⟨rfl, rfl, rfl, by decide +kernel, rfl, by decide +kernel, by decide +kernel⟩
abbrev C_err_BadLine (P : Program) (w : World) (K : PySem.W.Frag) (mg : Str → Option Value) (base : Heap) : Prop := ErR1 P w K mg base "BadLine" "place"
theorem fn_err_BadLine {P : Program} {w : World} {K : PySem.W.Frag} {mg : Str → Option Value} {base : Heap} (T : Txt K mg) : C_err_BadLine P w K mg base := by
  obtain ⟨fd, F⟩ := T.F_BadLine_init
  exact ⟨T.ev_BadLine, fd, ["self", "place"], init1 F sc_BadLine_init rfl T.ev_BadLine.oex (T.ev_BadLine.no _ (by simp)) (by first | exact Or.inl rfl | exact Or.inr (Or.inl rfl) | exact Or.inr (Or.inr rfl)) (by first | exact Or.inl rfl | exact Or.inr (Or.inl rfl) | exact Or.inr (Or.inr rfl)) (by decide) (by decide), F.bindsN fun _ _ _ _ _ _ us hl => match us, hl with | [_, _], _ => rfl⟩
theorem sc_Fraction_le : FnScope ["self", "other"] ["self", "other"] (defScope s_Fraction_le) := ⟨rfl, rfl, rfl, by decide +kernel, rfl, by decide +kernel, by decide +kernel⟩
def m_Fraction_le (p_self : Rat) (p_other : Num) : Res Bool :=
  (match p_other with | .i p_other_i => (((Res.ok p_other_i).bind fun a715 => .ok true).bind fun x716 => if x716 = true then (((Res.ok p_self).bind fun a717 => .ok a717.num).bind fun a721 => ((Res.ok p_other_i).bind fun a719 => ((Res.ok p_self).bind fun a718 => .ok (a718.den : Int)).bind fun b720 => mulI a719 b720).bind fun b722 => .ok (decide (a721 ≤ b722))) else .stuck) | .q p_other_q => (((Res.ok p_other_q).bind fun a724 => .ok false).bind fun x725 => if x725 = true then .stuck else ((((Res.ok p_other_q).bind fun a726 => .ok true).bind fun a727 => .ok (!a727)).bind fun x728 => if x728 = true then .stuck else ((((Res.ok p_self).bind fun a729 => .ok a729.num).bind fun a731 => ((Res.ok p_other_q).bind fun a730 => .ok (a730.den : Int)).bind fun b732 => mulI a731 b732).bind fun a737 => (((Res.ok p_other_q).bind fun a733 => .ok a733.num).bind fun a735 => ((Res.ok p_self).bind fun a734 => .ok (a734.den : Int)).bind fun b736 => mulI a735 b736).bind fun b738 => .ok (decide (a737 ≤ b738))))))
abbrev C_Fraction_le (P : Program) (w : World) (K : PySem.W.Frag) (mg : Str → Option Value) (base : Heap) : Prop := FnR P w K mg base (L2.CX P w) 1 (He.ma K (He.ga K "Fraction") "__le__") (spF K (aCons (rp (rFrac K)) (aCons (rp (rNum K)) aNil)) (fun d => qLe d.1 d.2.1) (rp rBl))
theorem ok_Fraction_le {P : Program} {w : World} {K : PySem.W.Frag} {mg : Str → Option Value} {base : Heap} (T : Txt K mg) {fd : FuncData} (F : FunD K "__le__" "Fraction.__le__" (defArgs s_Fraction_le) (defBody s_Fraction_le) (defScope s_Fraction_le) [] [] (He.ma K (He.ga K "Fraction") "__le__") fd) : FnOk P w K mg base (L2.CX P w) 1 (He.ma K (He.ga K "Fraction") "__le__") fd ["self", "other"] (spF K (aCons (rp (rFrac K)) (aCons (rp (rNum K)) aNil)) (fun d => m_Fraction_le d.1 d.2.1) (rp rBl)) := by
  refine FunD.fn (k := 0) (N := ["self", "other"]) (ps := ["self", "other"]) F sc_Fraction_le (fun I H vs d h => ?_) (fun cdv A outer s I0 H0 E vs d hr sm h => ?_)
  · obtain ⟨v0, _, rfl, h0, v1, _, rfl, h1, rfl⟩ := h; rfl
  obtain ⟨v0, _, rfl, h0, v1, _, rfl, h1, rfl⟩ := h
  have hx : ∀ {ctx : List (Option SF)} {mem : List MF} (I H : Hp) (σ : St) (d : Option Addr), Stt I0 H0 ctx mem I H σ → Fr H0 d → bK I0 H0 I H σ d := fun _ _ _ _ s f => ⟨s.fm, f⟩
  have tk : Takes (bx P w K mg base ["self", "other"] "Fraction.__le__" (defScope s_Fraction_le) (He.ma K (He.ga K "Fraction") "__le__") cdv A outer s H0 E) (bW E) := takes_of rfl rfl rfl rfl
  obtain ⟨p_self, p_other, _⟩ := d
  exact ⟨Stt I0 H0 [some (SF.mk (rFrac K) p_self), some (SF.mk (rNum K) p_other)] [], Stt.start sm ⟨h0, h1, ini_nil rfl⟩ rfl (by simp), (JR.num (K := K) 1 (fun p_other_i => JR.at (c' := [some (SF.mk (rFrac K) p_self), some (SF.mk rInt p_other_i)]) (JR.ifR (JT.of (JE.isi (JE.var 1) (w_type_at T.n_int (by decide +kernel) rfl (by decide) (by decide)) (.ty _) (tyr_int (t := "int") (by decide +kernel)) T.n_isinstance)) (JR.ret (JE.cmp (JE.fld (JE.var 0) fld_top T.o_Fraction.cl T.na_Fraction_top) (JE.bin (JE.var 1) (JE.fld (JE.var 0) fld_bottom T.o_Fraction.cl T.na_Fraction_bottom) opj_mul) opj_le) hx) JR.dead hx)) (fun p_other_q => JR.at (c' := [some (SF.mk (rFrac K) p_self), some (SF.mk (rFrac K) p_other_q)]) (JR.ifR (JT.of (JE.isi (JE.var 1) (w_type_at T.n_int (by decide +kernel) rfl (by decide) (by decide)) (.ty _) (tyr_ins T.o_Fraction insF T.kT_Fraction_int) T.n_isinstance)) JR.dead (JR.ifR (JT.not (JT.of (JE.isi (JE.var 1) (w_glob_at T.g_Fraction rfl (by decide)) (.own _) (tyr_ins T.o_Fraction insF T.kt_Fraction_Fraction) T.n_isinstance))) JR.dead (JR.ret (JE.cmp (JE.bin (JE.fld (JE.var 0) fld_top T.o_Fraction.cl T.na_Fraction_top) (JE.fld (JE.var 1) fld_bottom T.o_Fraction.cl T.na_Fraction_bottom) opj_mul) (JE.bin (JE.fld (JE.var 1) fld_top T.o_Fraction.cl T.na_Fraction_top) (JE.fld (JE.var 0) fld_bottom T.o_Fraction.cl T.na_Fraction_bottom) opj_mul) opj_le) hx) hx) hx)))⟩
theorem fn_Fraction_le {P : Program} {w : World} {K : PySem.W.Frag} {mg : Str → Option Value} {base : Heap} (T : Txt K mg) : FnR P w K mg base (L2.CX P w) 1 (He.ma K (He.ga K "Fraction") "__le__") (spF K (aCons (rp (rFrac K)) (aCons (rp (rNum K)) aNil)) (fun d => m_Fraction_le d.1 d.2.1) (rp rBl)) := by
  obtain ⟨fd, F⟩ := T.F_Fraction_le
  exact FnOk.fr0 (ok_Fraction_le T F) (F.bindsN fun _ _ _ _ _ _ us hl => match us, hl with | [_, _], _ => rfl)
theorem nice_Fraction_le : ∀ d : Rat × Num × Unit, qLe d.1 d.2.1 = .stuck ∨ qLe d.1 d.2.1 = m_Fraction_le d.1 d.2.1 := fun ⟨x, y, _⟩ => by
  cases y with
  | i n =>
      refine stuck_or fun h => ?_
      obtain ⟨hx, hn⟩ := h
      dsimp only at hx ⊢
      have hn := fits_int.mp hn
      simp only [m_Fraction_le, Res.ok_bind, Bool.not_true, Bool.not_false, Bool.false_eq_true, if_true, if_false, mul_fit hn (fd hx)]
      exact congrArg Res.ok (decide_eq_decide.mpr (le_int x n))
  | q y =>
      refine stuck_or fun h => ?_
      obtain ⟨hx, hy⟩ := h
      dsimp only at hx ⊢
      have hy : fits y := hy
      simp only [m_Fraction_le, Res.ok_bind, Bool.not_true, Bool.not_false, Bool.false_eq_true, if_true, if_false, mul_fit hx.1 (fd hy), mul_fit hy.1 (fd hx)]
      exact congrArg Res.ok (decide_eq_decide.mpr (Rat.le_iff x y))
theorem sc_Fraction_ge : FnScope ["self", "other"] ["self", "other"] (defScope s_Fraction_ge) := ⟨rfl, rfl, rfl, by decide +kernel, rfl, by decide +kernel, by decide +kernel⟩
def m_Fraction_ge (p_self : Rat) (p_other : Num) : Res Bool :=
  (match p_other with | .i p_other_i => (((Res.ok p_other_i).bind fun a740 => .ok true).bind fun x741 => if x741 = true then (((Res.ok p_self).bind fun a742 => .ok a742.num).bind fun a746 => ((Res.ok p_other_i).bind fun a744 => ((Res.ok p_self).bind fun a743 => .ok (a743.den : Int)).bind fun b745 => mulI a744 b745).bind fun b747 => .ok (decide (a746 ≥ b747))) else .stuck) | .q p_other_q => (((Res.ok p_other_q).bind fun a749 => .ok false).bind fun x750 => if x750 = true then .stuck else ((((Res.ok p_other_q).bind fun a751 => .ok true).bind fun a752 => .ok (!a752)).bind fun x753 => if x753 = true then .stuck else ((((Res.ok p_self).bind fun a754 => .ok a754.num).bind fun a756 => ((Res.ok p_other_q).bind fun a755 => .ok (a755.den : Int)).bind fun b757 => mulI a756 b757).bind fun a762 => (((Res.ok p_other_q).bind fun a758 => .ok a758.num).bind fun a760 => ((Res.ok p_self).bind fun a759 => .ok (a759.den : Int)).bind fun b761 => mulI a760 b761).bind fun b763 => .ok (decide (a762 ≥ b763))))))
abbrev C_Fraction_ge (P : Program) (w : World) (K : PySem.W.Frag) (mg : Str → Option Value) (base : Heap) : Prop := FnR P w K mg base (L2.CX P w) 1 (He.ma K (He.ga K "Fraction") "__ge__") (spF K (aCons (rp (rFrac K)) (aCons (rp (rNum K)) aNil)) (fun d => qGe d.1 d.2.1) (rp rBl))
theorem ok_Fraction_ge {P : Program} {w : World} {K : PySem.W.Frag} {mg : Str → Option Value} {base : Heap} (T : Txt K mg) {fd : FuncData} (F : FunD K "__ge__" "Fraction.__ge__" (defArgs s_Fraction_ge) (defBody s_Fraction_ge) (defScope s_Fraction_ge) [] [] (He.ma K (He.ga K "Fraction") "__ge__") fd) : FnOk P w K mg base (L2.CX P w) 1 (He.ma K (He.ga K "Fraction") "__ge__") fd ["self", "other"] (spF K (aCons (rp (rFrac K)) (aCons (rp (rNum K)) aNil)) (fun d => m_Fraction_ge d.1 d.2.1) (rp rBl)) := by
  refine FunD.fn (k := 0) (N := ["self", "other"]) (ps := ["self", "other"]) F sc_Fraction_ge (fun I H vs d h => ?_) (fun cdv A outer s I0 H0 E vs d hr sm h => ?_)
  · obtain ⟨v0, _, rfl, h0, v1, _, rfl, h1, rfl⟩ := h; rfl
  obtain ⟨v0, _, rfl, h0, v1, _, rfl, h1, rfl⟩ := h
  have hx : ∀ {ctx : List (Option SF)} {mem : List MF} (I H : Hp) (σ : St) (d : Option Addr), Stt I0 H0 ctx mem I H σ → Fr H0 d → bK I0 H0 I H σ d := fun _ _ _ _ s f => ⟨s.fm, f⟩
  have tk : Takes (bx P w K mg base ["self", "other"] "Fraction.__ge__" (defScope s_Fraction_ge) (He.ma K (He.ga K "Fraction") "__ge__") cdv A outer s H0 E) (bW E) := takes_of rfl rfl rfl rfl
  obtain ⟨p_self, p_other, _⟩ := d
  exact ⟨Stt I0 H0 [some (SF.mk (rFrac K) p_self), some (SF.mk (rNum K) p_other)] [], Stt.start sm ⟨h0, h1, ini_nil rfl⟩ rfl (by simp), (JR.num (K := K) 1 (fun p_other_i => JR.at (c' := [some (SF.mk (rFrac K) p_self), some (SF.mk rInt p_other_i)]) (JR.ifR (JT.of (JE.isi (JE.var 1) (w_type_at T.n_int (by decide +kernel) rfl (by decide) (by decide)) (.ty _) (tyr_int (t := "int") (by decide +kernel)) T.n_isinstance)) (JR.ret (JE.cmp (JE.fld (JE.var 0) fld_top T.o_Fraction.cl T.na_Fraction_top) (JE.bin (JE.var 1) (JE.fld (JE.var 0) fld_bottom T.o_Fraction.cl T.na_Fraction_bottom) opj_mul) opj_ge) hx) JR.dead hx)) (fun p_other_q => JR.at (c' := [some (SF.mk (rFrac K) p_self), some (SF.mk (rFrac K) p_other_q)]) (JR.ifR (JT.of (JE.isi (JE.var 1) (w_type_at T.n_int (by decide +kernel) rfl (by decide) (by decide)) (.ty _) (tyr_ins T.o_Fraction insF T.kT_Fraction_int) T.n_isinstance)) JR.dead (JR.ifR (JT.not (JT.of (JE.isi (JE.var 1) (w_glob_at T.g_Fraction rfl (by decide)) (.own _) (tyr_ins T.o_Fraction insF T.kt_Fraction_Fraction) T.n_isinstance))) JR.dead (JR.ret (JE.cmp (JE.bin (JE.fld (JE.var 0) fld_top T.o_Fraction.cl T.na_Fraction_top) (JE.fld (JE.var 1) fld_bottom T.o_Fraction.cl T.na_Fraction_bottom) opj_mul) (JE.bin (JE.fld (JE.var 1) fld_top T.o_Fraction.cl T.na_Fraction_top) (JE.fld (JE.var 0) fld_bottom T.o_Fraction.cl T.na_Fraction_bottom) opj_mul) opj_ge) hx) hx) hx)))⟩
theorem fn_Fraction_ge {P : Program} {w : World} {K : PySem.W.Frag} {mg : Str → Option Value} {base : Heap} (T : Txt K mg) : FnR P w K mg base (L2.CX P w) 1 (He.ma K (He.ga K "Fraction") "__ge__") (spF K (aCons (rp (rFrac K)) (aCons (rp (rNum K)) aNil)) (fun d => m_Fraction_ge d.1 d.2.1) (rp rBl)) := by
  obtain ⟨fd, F⟩ := T.F_Fraction_ge
  exact FnOk.fr0 (ok_Fraction_ge T F) (F.bindsN fun _ _ _ _ _ _ us hl => match us, hl with | [_, _], _ => rfl)
theorem nice_Fraction_ge : ∀ d : Rat × Num × Unit, qGe d.1 d.2.1 = .stuck ∨ qGe d.1 d.2.1 = m_Fraction_ge d.1 d.2.1 := fun ⟨x, y, _⟩ => by
  cases y with
  | i n =>
      refine stuck_or fun h => ?_
      obtain ⟨hx, hn⟩ := h
      dsimp only at hx ⊢
      have hn := fits_int.mp hn
      simp only [m_Fraction_ge, Res.ok_bind, Bool.not_true, Bool.not_false, Bool.false_eq_true, if_true, if_false, mul_fit hn (fd hx)]
      exact congrArg Res.ok (decide_eq_decide.mpr (ge_int x n))
  | q y =>
      refine stuck_or fun h => ?_
      obtain ⟨hx, hy⟩ := h
      dsimp only at hx ⊢
      have hy : fits y := hy
      simp only [m_Fraction_ge, Res.ok_bind, Bool.not_true, Bool.not_false, Bool.false_eq_true, if_true, if_false, mul_fit hx.1 (fd hy), mul_fit hy.1 (fd hx)]
      exact congrArg Res.ok (decide_eq_decide.mpr (Rat.le_iff y x))
theorem sc_Fraction_eq : FnScope ["self", "other"] ["self", "other"] (defScope s_Fraction_eq) := ⟨rfl, rfl, rfl, by decide +kernel, rfl, by decide +kernel, by decide +kernel⟩
def m_Fraction_eq (p_self : Rat) (p_other : Num) : Res Bool :=
  (match p_other with | .i p_other_i => (((Res.ok p_other_i).bind fun a765 => .ok true).bind fun x766 => if x766 = true then ((((Res.ok p_self).bind fun a767 => .ok (a767.den : Int)).bind fun a768 => (Res.ok (1 : Int)).bind fun b769 => .ok (decide (a768 = b769))).bind fun a773 => if a773 = true then (((Res.ok p_self).bind fun a770 => .ok a770.num).bind fun a771 => (Res.ok p_other_i).bind fun b772 => .ok (decide (a771 = b772))) else .ok false) else .stuck) | .q p_other_q => (((Res.ok p_other_q).bind fun a775 => .ok false).bind fun x776 => if x776 = true then .stuck else ((((Res.ok p_other_q).bind fun a777 => .ok true).bind fun a778 => .ok (!a778)).bind fun x779 => if x779 = true then .stuck else ((((Res.ok p_self).bind fun a780 => .ok a780.num).bind fun a782 => ((Res.ok p_other_q).bind fun a781 => .ok a781.num).bind fun b783 => .ok (decide (a782 = b783))).bind fun a788 => if a788 = true then (((Res.ok p_self).bind fun a784 => .ok (a784.den : Int)).bind fun a786 => ((Res.ok p_other_q).bind fun a785 => .ok (a785.den : Int)).bind fun b787 => .ok (decide (a786 = b787))) else .ok false))))
abbrev C_Fraction_eq (P : Program) (w : World) (K : PySem.W.Frag) (mg : Str → Option Value) (base : Heap) : Prop := FnR P w K mg base (L2.CX P w) 1 (He.ma K (He.ga K "Fraction") "__eq__") (spF K (aCons (rp (rFrac K)) (aCons (rp (rNum K)) aNil)) (fun d => qEq d.1 d.2.1) (rp rBl))
theorem ok_Fraction_eq {P : Program} {w : World} {K : PySem.W.Frag} {mg : Str → Option Value} {base : Heap} (T : Txt K mg) {fd : FuncData} (F : FunD K "__eq__" "Fraction.__eq__" (defArgs s_Fraction_eq) (defBody s_Fraction_eq) (defScope s_Fraction_eq) [] [] (He.ma K (He.ga K "Fraction") "__eq__") fd) : FnOk P w K mg base (L2.CX P w) 1 (He.ma K (He.ga K "Fraction") "__eq__") fd ["self", "other"] (spF K (aCons (rp (rFrac K)) (aCons (rp (rNum K)) aNil)) (fun d => m_Fraction_eq d.1 d.2.1) (rp rBl)) := by
  refine FunD.fn (k := 0) (N := ["self", "other"]) (ps := ["self", "other"]) F sc_Fraction_eq (fun I H vs d h => ?_) (fun cdv A outer s I0 H0 E vs d hr sm h => ?_)
  · obtain ⟨v0, _, rfl, h0, v1, _, rfl, h1, rfl⟩ := h; rfl
  obtain ⟨v0, _, rfl, h0, v1, _, rfl, h1, rfl⟩ := h
  have hx : ∀ {ctx : List (Option SF)} {mem : List MF} (I H : Hp) (σ : St) (d : Option Addr), Stt I0 H0 ctx mem I H σ → Fr H0 d → bK I0 H0 I H σ d := fun _ _ _ _ s f => ⟨s.fm, f⟩
  have tk : Takes (bx P w K mg base ["self", "other"] "Fraction.__eq__" (defScope s_Fraction_eq) (He.ma K (He.ga K "Fraction") "__eq__") cdv A outer s H0 E) (bW E) := takes_of rfl rfl rfl rfl
  obtain ⟨p_self, p_other, _⟩ := d
  exact ⟨Stt I0 H0 [some (SF.mk (rFrac K) p_self), some (SF.mk (rNum K) p_other)] [], Stt.start sm ⟨h0, h1, ini_nil rfl⟩ rfl (by simp), (JR.num (K := K) 1 (fun p_other_i => JR.at (c' := [some (SF.mk (rFrac K) p_self), some (SF.mk rInt p_other_i)]) (JR.ifR (JT.of (JE.isi (JE.var 1) (w_type_at T.n_int (by decide +kernel) rfl (by decide) (by decide)) (.ty _) (tyr_int (t := "int") (by decide +kernel)) T.n_isinstance)) (JR.ret (JE.and (JE.cmp (JE.fld (JE.var 0) fld_bottom T.o_Fraction.cl T.na_Fraction_bottom) JE.int opj_eq) (JE.one (JE.cmp (JE.fld (JE.var 0) fld_top T.o_Fraction.cl T.na_Fraction_top) (JE.var 1) opj_eq))) hx) JR.dead hx)) (fun p_other_q => JR.at (c' := [some (SF.mk (rFrac K) p_self), some (SF.mk (rFrac K) p_other_q)]) (JR.ifR (JT.of (JE.isi (JE.var 1) (w_type_at T.n_int (by decide +kernel) rfl (by decide) (by decide)) (.ty _) (tyr_ins T.o_Fraction insF T.kT_Fraction_int) T.n_isinstance)) JR.dead (JR.ifR (JT.not (JT.of (JE.isi (JE.var 1) (w_glob_at T.g_Fraction rfl (by decide)) (.own _) (tyr_ins T.o_Fraction insF T.kt_Fraction_Fraction) T.n_isinstance))) JR.dead (JR.ret (JE.and (JE.cmp (JE.fld (JE.var 0) fld_top T.o_Fraction.cl T.na_Fraction_top) (JE.fld (JE.var 1) fld_top T.o_Fraction.cl T.na_Fraction_top) opj_eq) (JE.one (JE.cmp (JE.fld (JE.var 0) fld_bottom T.o_Fraction.cl T.na_Fraction_bottom) (JE.fld (JE.var 1) fld_bottom T.o_Fraction.cl T.na_Fraction_bottom) opj_eq))) hx) hx) hx)))⟩
theorem fn_Fraction_eq {P : Program} {w : World} {K : PySem.W.Frag} {mg : Str → Option Value} {base : Heap} (T : Txt K mg) : FnR P w K mg base (L2.CX P w) 1 (He.ma K (He.ga K "Fraction") "__eq__") (spF K (aCons (rp (rFrac K)) (aCons (rp (rNum K)) aNil)) (fun d => m_Fraction_eq d.1 d.2.1) (rp rBl)) := by
  obtain ⟨fd, F⟩ := T.F_Fraction_eq
  exact FnOk.fr0 (ok_Fraction_eq T F) (F.bindsN fun _ _ _ _ _ _ us hl => match us, hl with | [_, _], _ => rfl)
theorem nice_Fraction_eq : ∀ d : Rat × Num × Unit, qEq d.1 d.2.1 = .stuck ∨ qEq d.1 d.2.1 = m_Fraction_eq d.1 d.2.1 := fun ⟨x, y, _⟩ => by
  right
  cases y with
  | i n =>
      simp only [m_Fraction_eq, Res.ok_bind, Bool.not_true, Bool.not_false, Bool.false_eq_true, if_true, if_false]
      exact (eq_dec1 x n).symm
  | q y =>
      simp only [m_Fraction_eq, Res.ok_bind, Bool.not_true, Bool.not_false, Bool.false_eq_true, if_true, if_false]
      exact (eq_dec x y).symm
theorem sc_Line_init : FnScope ["self", "shares", "kept", "share", "place", "nodes"] ["self", "shares"] (defScope s_Line_init) := ⟨rfl, rfl, rfl, by decide +kernel, rfl, by decide +kernel, by decide +kernel⟩
def m_Line_init (p_shares : (List Num)) : Res O_Line :=
  (((Res.ok p_shares).bind fun l632 => lcR (fun (i626 : Num) => (((Res.ok i626).bind fun a629 => (Res.ok ()).bind fun b630 => .ok (a629, b630)).bind (fun d => qAs d.1))) l632).bind fun v_kept_625 => (((((Res.ok v_kept_625).bind fun a635 => (Res.ok ()).bind fun b636 => .ok (a635, b636)).bind (fun d => .ok (d.1.length : Int))).bind fun a637 => (Res.ok (0 : Int)).bind fun b638 => .ok (decide (a637 = b638))).bind fun x639 => if x639 = true then (((Res.ok (0 : Int)).bind fun y641 => Res.err ⟨"BadLine", [("place", Pay.int y641)]⟩)) else (((((((Res.ok v_kept_625).bind fun a644 => (Res.ok ()).bind fun b645 => .ok (a644, b645)).bind (fun d => .ok (d.1.length : Int))).bind fun a646 => (Res.ok (1 : Int)).bind fun b647 => .ok (a646 - b647)).bind fun a648 => rangeM1 a648).bind fun l662 => forS (fun (i649 : Int) (s642 : Unit) => (((((Res.ok v_kept_625).bind fun a650 => (Res.ok i649).bind fun b651 => atM a650 b651).bind fun a652 => (Res.ok (0 : Int)).bind fun b653 => qLe a652 (.i b653)).bind fun a658 => if a658 = true then .ok true else (((Res.ok v_kept_625).bind fun a654 => (Res.ok i649).bind fun b655 => atM a654 b655).bind fun a656 => (Res.ok (1 : Int)).bind fun b657 => qGe a656 (.i b657))).bind fun x659 => if x659 = true then (((Res.ok i649).bind fun y661 => Res.err ⟨"BadLine", [("place", Pay.int y661)]⟩)) else (Res.ok ()))) l662 ()).bind fun s642 => (((((Res.ok v_kept_625).bind fun a664 => ((Res.ok (1 : Int)).bind fun a663 => .ok (-a663)).bind fun b665 => atM a664 b665).bind fun a666 => (Res.ok (0 : Int)).bind fun b667 => (qEq a666 (.i b667)).bind fun z => .ok (!z)).bind fun a673 => if a673 = true then (((Res.ok v_kept_625).bind fun a669 => ((Res.ok (1 : Int)).bind fun a668 => .ok (-a668)).bind fun b670 => atM a669 b670).bind fun a671 => (Res.ok (1 : Int)).bind fun b672 => (qEq a671 (.i b672)).bind fun z => .ok (!z)) else .ok false).bind fun x674 => if x674 = true then ((((((Res.ok v_kept_625).bind fun a676 => (Res.ok ()).bind fun b677 => .ok (a676, b677)).bind (fun d => .ok (d.1.length : Int))).bind fun a678 => (Res.ok (1 : Int)).bind fun b679 => .ok (a678 - b679)).bind fun y681 => Res.err ⟨"BadLine", [("place", Pay.int y681)]⟩)) else ((Res.ok v_kept_625).bind fun v_kept_683 => ((((Res.ok v_kept_625).bind fun a685 => ((Res.ok (1 : Int)).bind fun a684 => .ok (-a684)).bind fun b686 => atM a685 b686).bind fun a687 => .ok a687.num).bind fun v_end_689 => (((((Res.ok v_kept_625).bind fun a692 => (Res.ok ()).bind fun b693 => .ok (a692, b693)).bind (fun d => .ok (d.1.length : Int))).bind fun a694 => (Res.ok v_end_689).bind fun b695 => .ok (a694 + b695)).bind fun v_nodes_690 => ((((Res.ok v_nodes_690).bind fun a696 => (Res.ok (1 : Int)).bind fun b697 => .ok (a696 + b697)).bind fun a698 => (Res.ok (2 : Int)).bind fun b699 => fdivI a698 b699).bind fun v_rooms_701 => (((Res.ok v_nodes_690).bind fun a702 => (Res.ok (2 : Int)).bind fun b703 => fdivI a702 b703).bind fun v_passages_705 => (Res.ok (O_Line.mk v_kept_683 v_end_689 v_rooms_701 v_passages_705)))))))))))
theorem in_Line {P : Program} {w : World} {K : PySem.W.Frag} {mg : Str → Option Value} {base : Heap} (T : Txt K mg) (c_as_fraction : C_as_fraction P w K mg base) (c_err_BadLine : C_err_BadLine P w K mg base) (c_Fraction_le : C_Fraction_le P w K mg base) (c_Fraction_ge : C_Fraction_ge P w K mg base) (c_Fraction_eq : C_Fraction_eq P w K mg base) {fd : FuncData} (F : FunD K "__init__" "Line.__init__" (defArgs s_Line_init) (defBody s_Line_init) (defScope s_Line_init) [] [] (He.ma K (He.ga K "Line") "__init__") fd) : FnOk P w K mg base (L2.CX P w) 6 (He.ma K (He.ga K "Line") "__init__") fd ["self", "shares"] (spI K (He.ga K "Line") (aCons (rSq K (rp (rNum K))) aNil) (fun d => m_Line_init d.1) (rp (r_Line K))) := by
  refine FunD.initI (k := 5) (N := ["self", "shares", "kept", "share", "place", "nodes"]) (ps := ["self", "shares"]) F sc_Line_init (fun I H vs d h => ?_) (fun cdv A outer s I0 H0 H1 E vs d y dx hr sm h eH => ?_)
  · obtain ⟨v0, _, rfl, h0, rfl⟩ := h; rfl
  obtain ⟨v0, _, rfl, h0, rfl⟩ := h
  have hx : ∀ {ctx : List (Option SF)} {mem : List MF} (I H : Hp) (σ : St) (d : Option Addr), Stt I0 H0 ctx mem I H σ → Fr H0 d → bK I0 H0 I H σ d := fun _ _ _ _ s f => ⟨s.fm, f⟩
  have tk : Takes (bx P w K mg base ["self", "shares", "kept", "share", "place", "nodes"] "Line.__init__" (defScope s_Line_init) (He.ma K (He.ga K "Line") "__init__") cdv A outer s H1 E) (bW E) := takes_of rfl rfl rfl rfl
  have hp : PassesOwn (model P w) (bx P w K mg base ["self", "shares", "kept", "share", "place", "nodes"] "Line.__init__" (defScope s_Line_init) (He.ma K (He.ga K "Line") "__init__") cdv A outer s H1 E).A (bx P w K mg base ["self", "shares", "kept", "share", "place", "nodes"] "Line.__init__" (defScope s_Line_init) (He.ma K (He.ga K "Line") "__init__") cdv A outer s H1 E).env (bx P w K mg base ["self", "shares", "kept", "share", "place", "nodes"] "Line.__init__" (defScope s_Line_init) (He.ma K (He.ga K "Line") "__init__") cdv A outer s H1 E).xe := passes_of rfl
  obtain ⟨p_shares, _⟩ := d
  exact ⟨[some (SF.mk (rRef y) ()), some (SF.mk (fun I v x => (rSq K (rp (rNum K))) I H0 v x) p_shares), none, none, none, none], rfl, by simp, ⟨rfl, h0, ini_nil rfl⟩, (JN.seq (J1.cn (c' := fun v_kept_625 l633 => [some (SF.mk (rRef y) ()), some (SF.mk (fun I v x => (rSq K (rp (rNum K))) I H0 v x) p_shares), some (SF.mk (rRef l633) ()), none, none, none]) (me' := fun v_kept_625 l633 => [MF.lst l633 (rFrac K) v_kept_625, MF.ins y (He.ga K "Line") dx []]) (J1.setLcT (r := (rFrac K)) 2 3 (JI.parS 1) (fun _ _ _ _ _ D acc i626 tk627 => (JE.at (c' := [some (SF.mk (rRef y) ()), some (SF.mk (fun I v x => (rSq K (rp (rNum K))) I H0 v x) p_shares), none, some (SF.mk (rNum K) i626), none, none]) (JE.call (JA.cons (JE.var 3) JA.nil) (cj_of c_as_fraction (hr.mono (by decide)) tk627) T.g_as_fraction T.k_as_fraction))) hx sc_Line_init.nd (blkok_of (by kernel_rfl)))) fun v_kept_625 => JN.ex fun l633 => (JN.fz 2 0 (ctx' := [some (SF.mk (rRef y) ()), some (SF.mk (fun I v x => (rSq K (rp (rNum K))) I H0 v x) p_shares), some (SF.mk (rL (rFrac K)) v_kept_625), none, none, none]) (mem' := [MF.ins y (He.ga K "Line") dx []]) (JN.ifT (JT.cmp (JE.callB (JA.cons (JE.rd (JE.var 2)) JA.nil) cj_len T.n_len boot_len) JE.int opj_eq) (JN.raise1 (pay := Pay.int) rfl tk c_err_BadLine (hr.mono (by decide)) JE.int pay_int hx) (JN.seq (J1.forS (S := Unit) (cx := fun s642 => [some (SF.mk (rRef y) ()), some (SF.mk (fun I v x => (rSq K (rp (rNum K))) I H0 v x) p_shares), some (SF.mk (rL (rFrac K)) v_kept_625), none, none, none]) (me := fun s642 => [MF.ins y (He.ga K "Line") dx []]) (s0 := ()) 4 hp (JI.range1 (JE.bin (JE.callB (JA.cons (JE.rd (JE.var 2)) JA.nil) cj_len T.n_len boot_len) JE.int opj_sub) T.n_range) (fun i649 s642 => JN.at (c' := [some (SF.mk (rRef y) ()), some (SF.mk (fun I v x => (rSq K (rp (rNum K))) I H0 v x) p_shares), some (SF.mk (rL (rFrac K)) v_kept_625), none, some (SF.mk rInt i649), none]) (JN.ifT (JT.bool (JW.or (JT.cmp (JE.ix (JE.rd (JE.var 2)) (JE.var 4)) JE.int (opj_cqi (op := .LtE) (g := fun d => qLe d.1 d.2.1) (fun _ _ => rfl) T.o_Fraction T.om_Fraction_le T.nf_Fraction.2 c_Fraction_le (hr.mono (by decide)) tk)) (JW.or1 (JT.cmp (JE.ix (JE.rd (JE.var 2)) (JE.var 4)) JE.int (opj_cqi (op := .GtE) (g := fun d => qGe d.1 d.2.1) (fun _ _ => rfl) T.o_Fraction T.om_Fraction_ge T.nf_Fraction.2 c_Fraction_ge (hr.mono (by decide)) tk))))) (JN.raise1 (pay := Pay.int) rfl tk c_err_BadLine (hr.mono (by decide)) (JE.var 4) pay_int hx) (JN.nil (fun _ _ _ h => (Stt.weak h (weak_some (weak_some (weak_some (weak_none (weak_none (weak_none weak_nil))))))))) hx)) hx (weak_some (weak_some (weak_some (weak_none (weak_none (weak_none weak_nil)))))) sc_Line_init.nd) fun s642 => (JN.ifT (JT.bool (JW.and (JT.cmp (JE.ix (JE.rd (JE.var 2)) (JE.un JE.int unj_neg)) JE.int (opj_neqi (gb := fun d => qEq d.1 d.2.1) T.o_Fraction T.om_Fraction_eq T.nf_Fraction.2 c_Fraction_eq (hr.mono (by decide)) tk)) (JW.and1 (JT.cmp (JE.ix (JE.rd (JE.var 2)) (JE.un JE.int unj_neg)) JE.int (opj_neqi (gb := fun d => qEq d.1 d.2.1) T.o_Fraction T.om_Fraction_eq T.nf_Fraction.2 c_Fraction_eq (hr.mono (by decide)) tk))))) (JN.raise1 (pay := Pay.int) rfl tk c_err_BadLine (hr.mono (by decide)) (JE.bin (JE.callB (JA.cons (JE.rd (JE.var 2)) JA.nil) cj_len T.n_len boot_len) JE.int opj_sub) pay_int hx) (JN.seq (J1.cm (c' := fun v_kept_683 => [some (SF.mk (rRef y) ()), some (SF.mk (fun I v x => (rSq K (rp (rNum K))) I H0 v x) p_shares), some (SF.mk (rL (rFrac K)) v_kept_625), none, none, none]) (me' := fun v_kept_683 => [MF.ins y (He.ga K "Line") dx [("kept", SF.mk (rL (rFrac K)) v_kept_683)]]) (J1.sfldJ 0 0 (gs := []) (JE.var 2) T.o_Line.cl T.na_Line_kept (by simp) hx)) fun v_kept_683 => (JN.seq (J1.cm (c' := fun v_end_689 => [some (SF.mk (rRef y) ()), some (SF.mk (fun I v x => (rSq K (rp (rNum K))) I H0 v x) p_shares), some (SF.mk (rL (rFrac K)) v_kept_625), none, none, none]) (me' := fun v_end_689 => [MF.ins y (He.ga K "Line") dx [("kept", SF.mk (rL (rFrac K)) v_kept_683), ("end", SF.mk rInt v_end_689)]]) (J1.sfldJ 0 0 (gs := [("kept", SF.mk (rL (rFrac K)) v_kept_683)]) (JE.fld (JE.ix (JE.rd (JE.var 2)) (JE.un JE.int unj_neg)) fld_top T.o_Fraction.cl T.na_Fraction_top) T.o_Line.cl T.na_Line_end (by simp) hx)) fun v_end_689 => (JN.seq (J1.cx (c' := fun v_nodes_690 => [some (SF.mk (rRef y) ()), some (SF.mk (fun I v x => (rSq K (rp (rNum K))) I H0 v x) p_shares), some (SF.mk (rL (rFrac K)) v_kept_625), none, none, some (SF.mk rInt v_nodes_690)]) (J1.set 5 (JE.bin (JE.callB (JA.cons (JE.rd (JE.var 2)) JA.nil) cj_len T.n_len boot_len) (JE.fldS 0 0 T.o_Line.cl T.na_Line_end) opj_add) hx sc_Line_init.nd)) fun v_nodes_690 => (JN.seq (J1.cm (c' := fun v_rooms_701 => [some (SF.mk (rRef y) ()), some (SF.mk (fun I v x => (rSq K (rp (rNum K))) I H0 v x) p_shares), some (SF.mk (rL (rFrac K)) v_kept_625), none, none, some (SF.mk rInt v_nodes_690)]) (me' := fun v_rooms_701 => [MF.ins y (He.ga K "Line") dx [("kept", SF.mk (rL (rFrac K)) v_kept_683), ("end", SF.mk rInt v_end_689), ("rooms", SF.mk rInt v_rooms_701)]]) (J1.sfldJ 0 0 (gs := [("kept", SF.mk (rL (rFrac K)) v_kept_683), ("end", SF.mk rInt v_end_689)]) (JE.bin (JE.bin (JE.var 5) JE.int opj_add) JE.int opj_fdiv) T.o_Line.cl T.na_Line_rooms (by simp) hx)) fun v_rooms_701 => (JN.seq (J1.cm (c' := fun v_passages_705 => [some (SF.mk (rRef y) ()), some (SF.mk (fun I v x => (rSq K (rp (rNum K))) I H0 v x) p_shares), some (SF.mk (rL (rFrac K)) v_kept_625), none, none, some (SF.mk rInt v_nodes_690)]) (me' := fun v_passages_705 => [MF.ins y (He.ga K "Line") dx [("kept", SF.mk (rL (rFrac K)) v_kept_683), ("end", SF.mk rInt v_end_689), ("rooms", SF.mk rInt v_rooms_701), ("passages", SF.mk rInt v_passages_705)]]) (J1.sfldJ 0 0 (gs := [("kept", SF.mk (rL (rFrac K)) v_kept_683), ("end", SF.mk rInt v_end_689), ("rooms", SF.mk rInt v_rooms_701)]) (JE.bin (JE.var 5) JE.int opj_fdiv) T.o_Line.cl T.na_Line_passages (by simp) hx)) fun v_passages_705 => (JN.nil fun _ _ _ h => ⟨_, h⟩)))))) hx)) hx)))⟩
abbrev C_Line_0_shares (P : Program) (w : World) (K : PySem.W.Frag) (mg : Str → Option Value) (base : Heap) : Prop := MkK P w K mg base 7 (He.ga K "Line") ["shares"] aNil (aCons (rSq K (rp (rNum K))) aNil) (fun (x : (Unit)) (y : ((List Num) × Unit)) => m_Line_init y.1) (rp (r_Line K))
theorem fn_Line_0_shares {P : Program} {w : World} {K : PySem.W.Frag} {mg : Str → Option Value} {base : Heap} (T : Txt K mg) (c_as_fraction : C_as_fraction P w K mg base) (c_err_BadLine : C_err_BadLine P w K mg base) (c_Fraction_le : C_Fraction_le P w K mg base) (c_Fraction_ge : C_Fraction_ge P w K mg base) (c_Fraction_eq : C_Fraction_eq P w K mg base) : C_Line_0_shares P w K mg base := by
  obtain ⟨fd, F⟩ := T.F_Line_init
  have hb := kbindsN (ps := ["self", "shares"]) F 1 ["shares"] (fun us ws => us ++ ws) (fun a c => a.append c) fun kV doc pm an cdv ct us ws hl hw => match us, hl, ws, hw with | [_], _, [_], _ => rfl
  exact fun X W e1 e2 e3 e4 e5 hr tk => by
    subst e1; subst e2; subst e3; subst e4; subst e5
    exact cjk_make (n := 0) (R := aNil) (R' := (aCons (rSq X.K (rp (rNum X.K))) aNil)) (h := fun (x : (Unit)) (y : ((List Num) × Unit)) => (y.1, ())) T.mk_Line (in_Line T c_as_fraction c_err_BadLine c_Fraction_le c_Fraction_ge c_Fraction_eq F) hr hb tk fun I H vs zs x y r r' => by
      obtain rfl := r
      obtain ⟨w0, _, rfl, k0, rfl⟩ := r'
      exact ⟨rfl, rfl, fun v => ⟨[w0], rfl, _, _, rfl, k0, rfl⟩⟩
theorem sc_Line_shares : FnScope ["self"] ["self"] (defScope s_Line_shares) := ⟨rfl, rfl, rfl, by decide +kernel, rfl, by decide +kernel, by decide +kernel⟩
def m_Line_shares (p_self : O_Line) : Res (List Rat) :=
  (((Res.ok p_self).bind fun a907 => .ok a907.f_kept).bind fun a908 => .ok a908)
abbrev C_Line_shares (P : Program) (w : World) (K : PySem.W.Frag) (mg : Str → Option Value) (base : Heap) : Prop := FnR P w K mg base (L2.CX P w) 1 (He.ma K (He.ga K "Line") "shares") (spN K (aCons (rp (r_Line K)) aNil) (fun d => m_Line_shares d.1) (rFrac K))
theorem ok_Line_shares {P : Program} {w : World} {K : PySem.W.Frag} {mg : Str → Option Value} {base : Heap} (T : Txt K mg) {fd : FuncData} (F : FunD K "shares" "Line.shares" (defArgs s_Line_shares) (defBody s_Line_shares) (defScope s_Line_shares) [] [] (He.ma K (He.ga K "Line") "shares") fd) : FnOk P w K mg base (L2.CX P w) 1 (He.ma K (He.ga K "Line") "shares") fd ["self"] (spN K (aCons (rp (r_Line K)) aNil) (fun d => m_Line_shares d.1) (rFrac K)) := by
  refine FunD.fnN (k := 0) (N := ["self"]) (ps := ["self"]) F sc_Line_shares (fun I H vs d h => ?_) (fun cdv A outer s I0 H0 E vs d hr sm h => ?_)
  · obtain ⟨v0, _, rfl, h0, rfl⟩ := h; rfl
  obtain ⟨v0, _, rfl, h0, rfl⟩ := h
  have hx : ∀ {ctx : List (Option SF)} {mem : List MF} (I H : Hp) (σ : St) (d : Option Addr), Stt I0 H0 ctx mem I H σ → Fr H0 d → bK I0 H0 I H σ d := fun _ _ _ _ s f => ⟨s.fm, f⟩
  have tk : Takes (bx P w K mg base ["self"] "Line.shares" (defScope s_Line_shares) (He.ma K (He.ga K "Line") "shares") cdv A outer s H0 E) (bW E) := takes_of rfl rfl rfl rfl
  obtain ⟨p_self, _⟩ := d
  exact ⟨Stt I0 H0 [some (SF.mk (r_Line K) p_self)] [], Stt.start sm ⟨h0, ini_nil rfl⟩ rfl (by simp), (JR.retM (JM.list (JE.rd (JE.fld (JE.var 0) (fldI (fl_Line_kept K)) T.o_Line.cl T.na_Line_kept)) T.n_list) hx)⟩
theorem fn_Line_shares {P : Program} {w : World} {K : PySem.W.Frag} {mg : Str → Option Value} {base : Heap} (T : Txt K mg) : FnR P w K mg base (L2.CX P w) 1 (He.ma K (He.ga K "Line") "shares") (spN K (aCons (rp (r_Line K)) aNil) (fun d => m_Line_shares d.1) (rFrac K)) := by
  obtain ⟨fd, F⟩ := T.F_Line_shares
  exact FnOk.frN0 (ok_Line_shares T F) (F.bindsN fun _ _ _ _ _ _ us hl => match us, hl with | [_], _ => rfl)
theorem sc_law_values : FnScope ["_law_values_here", "_law_pairs", "_law_k", "_law_told"] ["_law_values_here", "_law_pairs"] (defScope s_law_values) := ⟨rfl, rfl, rfl, by decide +kernel, rfl, by decide +kernel, by decide +kernel⟩
def m_law_values (p_law_values_here : (List Rat)) (p_law_pairs : (List (Int × Int × Unit))) : Res Bool :=
  (((((Res.ok p_law_values_here).bind fun a909 => .ok true).bind fun a910 => .ok (!a910)).bind fun a919 => if a919 = true then .ok true else ((((Res.ok p_law_values_here).bind fun a912 => (Res.ok ()).bind fun b913 => .ok (a912, b913)).bind (fun d => .ok (d.1.length : Int))).bind fun a917 => (((Res.ok p_law_pairs).bind fun a915 => (Res.ok ()).bind fun b916 => .ok (a915, b916)).bind (fun d => .ok (d.1.length : Int))).bind fun b918 => .ok (!decide (a917 = b918)))).bind fun x920 => if x920 = true then (Res.ok false) else ((((((Res.ok p_law_pairs).bind fun a924 => (Res.ok ()).bind fun b925 => .ok (a924, b925)).bind (fun d => .ok (d.1.length : Int))).bind fun a926 => rangeM1 a926).bind fun l951 => (forG (fun (i927 : Int) (s922 : Unit) => ((((Res.ok p_law_values_here).bind fun a929 => (Res.ok i927).bind fun b930 => atM a929 b930).bind fun v_law_told_928 => (((((Res.ok v_law_told_928).bind fun a931 => .ok true).bind fun a932 => .ok (!a932)).bind fun a947 => if a947 = true then .ok true else ((((Res.ok v_law_told_928).bind fun a933 => .ok a933.num).bind fun a937 => (((Res.ok p_law_pairs).bind fun a934 => (Res.ok i927).bind fun b935 => atM a934 b935).bind fun a936 => .ok a936.2.1).bind fun b938 => mulI a937 b938).bind fun a945 => ((((Res.ok p_law_pairs).bind fun a939 => (Res.ok i927).bind fun b940 => atM a939 b940).bind fun a941 => .ok a941.1).bind fun a943 => ((Res.ok v_law_told_928).bind fun a942 => .ok (a942.den : Int)).bind fun b944 => mulI a943 b944).bind fun b946 => .ok (!decide (a945 = b946)))).bind fun x948 => if x948 = true then ((Res.ok false).bind fun r950 => .ok (Fl.rt r950)) else (Res.ok (Fl.nx ())))) : Res (Fl Unit Unit Bool))) l951 () : Res (Fl Unit Unit Bool))).bind (Fl.out fun s922 => (Res.ok true))))
abbrev C_law_values (P : Program) (w : World) (K : PySem.W.Frag) (mg : Str → Option Value) (base : Heap) : Prop := FnR P w K mg base (L2.CX P w) 1 (He.ga K "_law_values") (spF K (aCons (rp (rL (rFrac K))) (aCons (rp (rL (rTu (aCons (rp rInt) (aCons (rp rInt) aNil))))) aNil)) (fun d => m_law_values d.1 d.2.1) (rp rBl))
theorem ok_law_values {P : Program} {w : World} {K : PySem.W.Frag} {mg : Str → Option Value} {base : Heap} (T : Txt K mg) {fd : FuncData} (F : FunD K "_law_values" "_law_values" (defArgs s_law_values) (defBody s_law_values) (defScope s_law_values) [] [] (He.ga K "_law_values") fd) : FnOk P w K mg base (L2.CX P w) 1 (He.ga K "_law_values") fd ["_law_values_here", "_law_pairs"] (spF K (aCons (rp (rL (rFrac K))) (aCons (rp (rL (rTu (aCons (rp rInt) (aCons (rp rInt) aNil))))) aNil)) (fun d => m_law_values d.1 d.2.1) (rp rBl)) := by
  refine FunD.fn (k := 0) (N := ["_law_values_here", "_law_pairs", "_law_k", "_law_told"]) (ps := ["_law_values_here", "_law_pairs"]) F sc_law_values (fun I H vs d h => ?_) (fun cdv A outer s I0 H0 E vs d hr sm h => ?_)
  · obtain ⟨v0, _, rfl, h0, v1, _, rfl, h1, rfl⟩ := h; rfl
  obtain ⟨v0, _, rfl, h0, v1, _, rfl, h1, rfl⟩ := h
  have hx : ∀ {ctx : List (Option SF)} {mem : List MF} (I H : Hp) (σ : St) (d : Option Addr), Stt I0 H0 ctx mem I H σ → Fr H0 d → bK I0 H0 I H σ d := fun _ _ _ _ s f => ⟨s.fm, f⟩
  have tk : Takes (bx P w K mg base ["_law_values_here", "_law_pairs", "_law_k", "_law_told"] "_law_values" (defScope s_law_values) (He.ga K "_law_values") cdv A outer s H0 E) (bW E) := takes_of rfl rfl rfl rfl
  have hp : PassesOwn (model P w) (bx P w K mg base ["_law_values_here", "_law_pairs", "_law_k", "_law_told"] "_law_values" (defScope s_law_values) (He.ga K "_law_values") cdv A outer s H0 E).A (bx P w K mg base ["_law_values_here", "_law_pairs", "_law_k", "_law_told"] "_law_values" (defScope s_law_values) (He.ga K "_law_values") cdv A outer s H0 E).env (bx P w K mg base ["_law_values_here", "_law_pairs", "_law_k", "_law_told"] "_law_values" (defScope s_law_values) (He.ga K "_law_values") cdv A outer s H0 E).xe := passes_of rfl
  obtain ⟨p_law_values_here, p_law_pairs, _⟩ := d
  exact ⟨Stt I0 H0 [some (SF.mk (rL (rFrac K)) p_law_values_here), some (SF.mk (rL (rTu (aCons (rp rInt) (aCons (rp rInt) aNil)))) p_law_pairs), none, none] [], Stt.start sm ⟨h0, h1, ini_nil rfl⟩ rfl (by simp), (JR.ifR (JT.bool (JW.or (JT.not (JT.of (JE.isi (JE.var 0) (w_type_at T.n_list (by decide +kernel) rfl (by decide) (by decide)) (.ty _) (tyr_list (t := "list") (by decide +kernel)) T.n_isinstance))) (JW.or1 (JT.cmp (JE.callB (JA.cons (JE.rd (JE.var 0)) JA.nil) cj_len T.n_len boot_len) (JE.callB (JA.cons (JE.rd (JE.var 1)) JA.nil) cj_len T.n_len boot_len) opj_ne)))) (JR.ret JE.bl hx) (JR.seqG (GL := fun _ _ _ _ => False) (J1G.forG (S := Unit) (cx := fun s922 => [some (SF.mk (rL (rFrac K)) p_law_values_here), some (SF.mk (rL (rTu (aCons (rp rInt) (aCons (rp rInt) aNil)))) p_law_pairs), none, none]) (me := fun s922 => []) (s0 := ()) 2 hp (JI.range1 (JE.callB (JA.cons (JE.rd (JE.var 1)) JA.nil) cj_len T.n_len boot_len) T.n_range) (fun i927 s922 => JG.at (c' := [some (SF.mk (rL (rFrac K)) p_law_values_here), some (SF.mk (rL (rTu (aCons (rp rInt) (aCons (rp rInt) aNil)))) p_law_pairs), some (SF.mk rInt i927), none]) (JG.seq (J1.cx (c' := fun v_law_told_928 => [some (SF.mk (rL (rFrac K)) p_law_values_here), some (SF.mk (rL (rTu (aCons (rp rInt) (aCons (rp rInt) aNil)))) p_law_pairs), some (SF.mk rInt i927), some (SF.mk (rFrac K) v_law_told_928)]) (J1.set 3 (JE.ix (JE.rd (JE.var 0)) (JE.var 2)) hx sc_law_values.nd)) fun v_law_told_928 => (JG.ifT (JT.bool (JW.or (JT.not (JT.of (JE.isi (JE.var 3) (w_glob_at T.g_Fraction rfl (by decide)) (.own _) (tyr_ins T.o_Fraction insF T.kt_Fraction_Fraction) T.n_isinstance))) (JW.or1 (JT.cmp (JE.bin (JE.fld (JE.var 3) fld_top T.o_Fraction.cl T.na_Fraction_top) (JE.ixD 1 (JE.ix (JE.rd (JE.var 1)) (JE.var 2)) (AtR.succ AtR.zero)) opj_mul) (JE.bin (JE.ixD 0 (JE.ix (JE.rd (JE.var 1)) (JE.var 2)) AtR.zero) (JE.fld (JE.var 3) fld_bottom T.o_Fraction.cl T.na_Fraction_bottom) opj_mul) opj_ne)))) (JG.rt (JR.ret JE.bl hx)) (JG.nil (fun _ _ _ h => (Stt.weak h (weak_some (weak_some (weak_none (weak_none weak_nil))))))) hx))) hx (weak_some (weak_some (weak_none (weak_none weak_nil)))) sc_law_values.nd) fun s922 => (JR.ret JE.bl hx)) hx)⟩
theorem fn_law_values {P : Program} {w : World} {K : PySem.W.Frag} {mg : Str → Option Value} {base : Heap} (T : Txt K mg) : FnR P w K mg base (L2.CX P w) 1 (He.ga K "_law_values") (spF K (aCons (rp (rL (rFrac K))) (aCons (rp (rL (rTu (aCons (rp rInt) (aCons (rp rInt) aNil))))) aNil)) (fun d => m_law_values d.1 d.2.1) (rp rBl)) := by
  obtain ⟨fd, F⟩ := T.F_law_values
  exact FnOk.fr0 (ok_law_values T F) (F.bindsN fun _ _ _ _ _ _ us hl => match us, hl with | [_, _], _ => rfl)
theorem sc_Line_len : FnScope ["self"] ["self"] (defScope s_Line_len) := ⟨rfl, rfl, rfl, by decide +kernel, rfl, by decide +kernel, by decide +kernel⟩
def m_Line_len (p_self : O_Line) : Res Int :=
  ((((Res.ok p_self).bind fun a953 => .ok a953.f_kept).bind fun a955 => (Res.ok ()).bind fun b956 => .ok (a955, b956)).bind (fun d => .ok (d.1.length : Int)))
abbrev C_Line_len (P : Program) (w : World) (K : PySem.W.Frag) (mg : Str → Option Value) (base : Heap) : Prop := FnR P w K mg base (L2.CX P w) 1 (He.ma K (He.ga K "Line") "__len__") (spF K (aCons (rp (r_Line K)) aNil) (fun d => m_Line_len d.1) (rp rInt))
theorem ok_Line_len {P : Program} {w : World} {K : PySem.W.Frag} {mg : Str → Option Value} {base : Heap} (T : Txt K mg) {fd : FuncData} (F : FunD K "__len__" "Line.__len__" (defArgs s_Line_len) (defBody s_Line_len) (defScope s_Line_len) [] [] (He.ma K (He.ga K "Line") "__len__") fd) : FnOk P w K mg base (L2.CX P w) 1 (He.ma K (He.ga K "Line") "__len__") fd ["self"] (spF K (aCons (rp (r_Line K)) aNil) (fun d => m_Line_len d.1) (rp rInt)) := by
  refine FunD.fn (k := 0) (N := ["self"]) (ps := ["self"]) F sc_Line_len (fun I H vs d h => ?_) (fun cdv A outer s I0 H0 E vs d hr sm h => ?_)
  · obtain ⟨v0, _, rfl, h0, rfl⟩ := h; rfl
  obtain ⟨v0, _, rfl, h0, rfl⟩ := h
  have hx : ∀ {ctx : List (Option SF)} {mem : List MF} (I H : Hp) (σ : St) (d : Option Addr), Stt I0 H0 ctx mem I H σ → Fr H0 d → bK I0 H0 I H σ d := fun _ _ _ _ s f => ⟨s.fm, f⟩
  have tk : Takes (bx P w K mg base ["self"] "Line.__len__" (defScope s_Line_len) (He.ma K (He.ga K "Line") "__len__") cdv A outer s H0 E) (bW E) := takes_of rfl rfl rfl rfl
  obtain ⟨p_self, _⟩ := d
  exact ⟨Stt I0 H0 [some (SF.mk (r_Line K) p_self)] [], Stt.start sm ⟨h0, ini_nil rfl⟩ rfl (by simp), (JR.ret (JE.callB (JA.cons (JE.rd (JE.fld (JE.var 0) (fldI (fl_Line_kept K)) T.o_Line.cl T.na_Line_kept)) JA.nil) cj_len T.n_len boot_len) hx)⟩
theorem fn_Line_len {P : Program} {w : World} {K : PySem.W.Frag} {mg : Str → Option Value} {base : Heap} (T : Txt K mg) : FnR P w K mg base (L2.CX P w) 1 (He.ma K (He.ga K "Line") "__len__") (spF K (aCons (rp (r_Line K)) aNil) (fun d => m_Line_len d.1) (rp rInt)) := by
  obtain ⟨fd, F⟩ := T.F_Line_len
  exact FnOk.fr0 (ok_Line_len T F) (F.bindsN fun _ _ _ _ _ _ us hl => match us, hl with | [_], _ => rfl)
theorem sc_Line_getitem : FnScope ["self", "at"] ["self", "at"] (defScope s_Line_getitem) := ⟨rfl, rfl, rfl, by decide +kernel, rfl, by decide +kernel, by decide +kernel⟩
def m_Line_getitem (p_self : O_Line) (p_at : Int) : Res Rat :=
  (((Res.ok p_self).bind fun a958 => .ok a958.f_kept).bind fun a959 => (Res.ok p_at).bind fun b960 => atM a959 b960)
abbrev C_Line_getitem (P : Program) (w : World) (K : PySem.W.Frag) (mg : Str → Option Value) (base : Heap) : Prop := FnR P w K mg base (L2.CX P w) 1 (He.ma K (He.ga K "Line") "__getitem__") (spF K (aCons (rp (r_Line K)) (aCons (rp rInt) aNil)) (fun d => m_Line_getitem d.1 d.2.1) (rp (rFrac K)))
theorem ok_Line_getitem {P : Program} {w : World} {K : PySem.W.Frag} {mg : Str → Option Value} {base : Heap} (T : Txt K mg) {fd : FuncData} (F : FunD K "__getitem__" "Line.__getitem__" (defArgs s_Line_getitem) (defBody s_Line_getitem) (defScope s_Line_getitem) [] [] (He.ma K (He.ga K "Line") "__getitem__") fd) : FnOk P w K mg base (L2.CX P w) 1 (He.ma K (He.ga K "Line") "__getitem__") fd ["self", "at"] (spF K (aCons (rp (r_Line K)) (aCons (rp rInt) aNil)) (fun d => m_Line_getitem d.1 d.2.1) (rp (rFrac K))) := by
  refine FunD.fn (k := 0) (N := ["self", "at"]) (ps := ["self", "at"]) F sc_Line_getitem (fun I H vs d h => ?_) (fun cdv A outer s I0 H0 E vs d hr sm h => ?_)
  · obtain ⟨v0, _, rfl, h0, v1, _, rfl, h1, rfl⟩ := h; rfl
  obtain ⟨v0, _, rfl, h0, v1, _, rfl, h1, rfl⟩ := h
  have hx : ∀ {ctx : List (Option SF)} {mem : List MF} (I H : Hp) (σ : St) (d : Option Addr), Stt I0 H0 ctx mem I H σ → Fr H0 d → bK I0 H0 I H σ d := fun _ _ _ _ s f => ⟨s.fm, f⟩
  have tk : Takes (bx P w K mg base ["self", "at"] "Line.__getitem__" (defScope s_Line_getitem) (He.ma K (He.ga K "Line") "__getitem__") cdv A outer s H0 E) (bW E) := takes_of rfl rfl rfl rfl
  obtain ⟨p_self, p_at, _⟩ := d
  exact ⟨Stt I0 H0 [some (SF.mk (r_Line K) p_self), some (SF.mk rInt p_at)] [], Stt.start sm ⟨h0, h1, ini_nil rfl⟩ rfl (by simp), (JR.ret (JE.ix (JE.rd (JE.fld (JE.var 0) (fldI (fl_Line_kept K)) T.o_Line.cl T.na_Line_kept)) (JE.var 1)) hx)⟩
theorem fn_Line_getitem {P : Program} {w : World} {K : PySem.W.Frag} {mg : Str → Option Value} {base : Heap} (T : Txt K mg) : FnR P w K mg base (L2.CX P w) 1 (He.ma K (He.ga K "Line") "__getitem__") (spF K (aCons (rp (r_Line K)) (aCons (rp rInt) aNil)) (fun d => m_Line_getitem d.1 d.2.1) (rp (rFrac K))) := by
  obtain ⟨fd, F⟩ := T.F_Line_getitem
  exact FnOk.fr0 (ok_Line_getitem T F) (F.bindsN fun _ _ _ _ _ _ us hl => match us, hl with | [_, _], _ => rfl)
theorem sc_law_kept : FnScope ["_law_line", "_law_pairs", "_law_told", "_law_k", "_law_nodes"] ["_law_line", "_law_pairs"] (defScope s_law_kept) := ⟨rfl, rfl, rfl, by decide +kernel, rfl, by decide +kernel, by decide +kernel⟩
def m_law_kept (p_law_line : O_Line) (p_law_pairs : (List (Int × Int × Unit))) : Res Bool :=
  (((Res.ok p_law_line).bind fun a791 => (fun d => m_Line_shares d.1) (a791, ())).bind fun v_law_told_790 => (((((Res.ok (1 : Int)).bind fun a798 => ((Res.ok (2 : Int)).bind fun a796 => (Res.ok ()).bind fun b797 => .ok (a796, b797)).bind fun b799 => .ok (a798, b799)).bind (fun d => qMk d.1 d.2.1)).bind fun y801 => appM v_law_told_790 y801).bind fun v_law_told_793 => (((((Res.ok (1 : Int)).bind fun a806 => ((Res.ok (3 : Int)).bind fun a804 => (Res.ok ()).bind fun b805 => .ok (a804, b805)).bind fun b807 => .ok (a806, b807)).bind (fun d => qMk d.1 d.2.1)).bind fun y810 => (Res.ok (0 : Int)).bind fun k811 => putM v_law_told_793 k811 y810).bind fun v_law_told_809 => (((((((Res.ok p_law_line).bind fun a812 => (fun d => m_Line_shares d.1) (a812, ())).bind fun a817 => ((Res.ok p_law_pairs).bind fun a815 => (Res.ok ()).bind fun b816 => .ok (a815, b816)).bind fun b818 => .ok (a817, b818)).bind (fun d => m_law_values d.1 d.2.1)).bind fun a819 => .ok (!a819)).bind fun a827 => if a827 = true then .ok true else ((((Res.ok p_law_line).bind fun a820 => (Res.ok ()).bind fun b821 => .ok (a820, b821)).bind (fun d => (m_Line_len d.1).bind lenG)).bind fun a825 => (((Res.ok p_law_pairs).bind fun a823 => (Res.ok ()).bind fun b824 => .ok (a823, b824)).bind (fun d => .ok (d.1.length : Int))).bind fun b826 => .ok (!decide (a825 = b826)))).bind fun x828 => if x828 = true then (Res.ok false) else (((((((((Res.ok p_law_pairs).bind fun a831 => (Res.ok ()).bind fun b832 => .ok (a831, b832)).bind (fun d => .ok (d.1.length : Int))).bind fun a833 => rangeM1 a833).bind fun l840 => lcR (fun (i834 : Int) => ((Res.ok p_law_line).bind fun a837 => (Res.ok i834).bind fun b838 => m_Line_getitem a837 b838)) l840).bind fun a845 => ((Res.ok p_law_pairs).bind fun a843 => (Res.ok ()).bind fun b844 => .ok (a843, b844)).bind fun b846 => .ok (a845, b846)).bind (fun d => m_law_values d.1 d.2.1)).bind fun a847 => .ok (!a847)).bind fun x848 => if x848 = true then (Res.ok false) else (((((Res.ok p_law_pairs).bind fun a852 => (Res.ok ()).bind fun b853 => .ok (a852, b853)).bind (fun d => .ok (d.1.length : Int))).bind fun a866 => ((((((Res.ok p_law_pairs).bind fun a859 => ((((Res.ok p_law_pairs).bind fun a855 => (Res.ok ()).bind fun b856 => .ok (a855, b856)).bind (fun d => .ok (d.1.length : Int))).bind fun a857 => (Res.ok (1 : Int)).bind fun b858 => .ok (a857 - b858)).bind fun b860 => atM a859 b860).bind fun a861 => .ok a861.1).bind fun a862 => (Res.ok (0 : Int)).bind fun b863 => .ok (!decide (a862 = b863))).bind fun a864 => (Res.ok ()).bind fun b865 => .ok (a864, b865)).bind (fun d => .ok (if d.1 = true then 1 else 0))).bind fun b867 => .ok (a866 + b867)).bind fun v_law_nodes_850 => ((((((Res.ok p_law_line).bind fun a868 => .ok a868.f_end).bind fun a869 => .ok true).bind fun a870 => .ok (!a870)).bind fun a873 => if a873 = true then .ok true else (((Res.ok p_law_line).bind fun a871 => .ok a871.f_end).bind fun a872 => .ok false)).bind fun x874 => if x874 = true then (Res.ok false) else (((((Res.ok p_law_line).bind fun a876 => .ok a876.f_rooms).bind fun a881 => (((Res.ok v_law_nodes_850).bind fun a877 => (Res.ok (1 : Int)).bind fun b878 => .ok (a877 + b878)).bind fun a879 => (Res.ok (2 : Int)).bind fun b880 => fdivI a879 b880).bind fun b882 => .ok (!decide (a881 = b882))).bind fun a888 => if a888 = true then .ok true else (((Res.ok p_law_line).bind fun a883 => .ok a883.f_passages).bind fun a886 => ((Res.ok v_law_nodes_850).bind fun a884 => (Res.ok (2 : Int)).bind fun b885 => fdivI a884 b885).bind fun b887 => .ok (!decide (a886 = b887)))).bind fun x889 => if x889 = true then (Res.ok false) else (((Res.ok p_law_line).bind fun a891 => .ok a891.f_end).bind fun a904 => ((((((Res.ok p_law_pairs).bind fun a897 => ((((Res.ok p_law_pairs).bind fun a893 => (Res.ok ()).bind fun b894 => .ok (a893, b894)).bind (fun d => .ok (d.1.length : Int))).bind fun a895 => (Res.ok (1 : Int)).bind fun b896 => .ok (a895 - b896)).bind fun b898 => atM a897 b898).bind fun a899 => .ok a899.1).bind fun a900 => (Res.ok (0 : Int)).bind fun b901 => .ok (!decide (a900 = b901))).bind fun a902 => (Res.ok ()).bind fun b903 => .ok (a902, b903)).bind (fun d => .ok (if d.1 = true then 1 else 0))).bind fun b905 => .ok (decide (a904 = b905)))))))))))
abbrev C_law_kept (P : Program) (w : World) (K : PySem.W.Frag) (mg : Str → Option Value) (base : Heap) : Prop := FnR P w K mg base (L2.CX P w) 5 (He.ga K "_law_kept") (spF K (aCons (rp (r_Line K)) (aCons (rp (rL (rTu (aCons (rp rInt) (aCons (rp rInt) aNil))))) aNil)) (fun d => m_law_kept d.1 d.2.1) (rp rBl))
theorem ok_law_kept {P : Program} {w : World} {K : PySem.W.Frag} {mg : Str → Option Value} {base : Heap} (T : Txt K mg) (c_Line_shares : C_Line_shares P w K mg base) (c_Fraction_2 : C_Fraction_2 P w K mg base) (c_law_values : C_law_values P w K mg base) (c_Line_len : C_Line_len P w K mg base) (c_Line_getitem : C_Line_getitem P w K mg base) {fd : FuncData} (F : FunD K "_law_kept" "_law_kept" (defArgs s_law_kept) (defBody s_law_kept) (defScope s_law_kept) [] [] (He.ga K "_law_kept") fd) : FnOk P w K mg base (L2.CX P w) 5 (He.ga K "_law_kept") fd ["_law_line", "_law_pairs"] (spF K (aCons (rp (r_Line K)) (aCons (rp (rL (rTu (aCons (rp rInt) (aCons (rp rInt) aNil))))) aNil)) (fun d => m_law_kept d.1 d.2.1) (rp rBl)) := by
  refine FunD.fn (k := 4) (N := ["_law_line", "_law_pairs", "_law_told", "_law_k", "_law_nodes"]) (ps := ["_law_line", "_law_pairs"]) F sc_law_kept (fun I H vs d h => ?_) (fun cdv A outer s I0 H0 E vs d hr sm h => ?_)
  · obtain ⟨v0, _, rfl, h0, v1, _, rfl, h1, rfl⟩ := h; rfl
  obtain ⟨v0, _, rfl, h0, v1, _, rfl, h1, rfl⟩ := h
  have hx : ∀ {ctx : List (Option SF)} {mem : List MF} (I H : Hp) (σ : St) (d : Option Addr), Stt I0 H0 ctx mem I H σ → Fr H0 d → bK I0 H0 I H σ d := fun _ _ _ _ s f => ⟨s.fm, f⟩
  have tk : Takes (bx P w K mg base ["_law_line", "_law_pairs", "_law_told", "_law_k", "_law_nodes"] "_law_kept" (defScope s_law_kept) (He.ga K "_law_kept") cdv A outer s H0 E) (bW E) := takes_of rfl rfl rfl rfl
  obtain ⟨p_law_line, p_law_pairs, _⟩ := d
  exact ⟨Stt I0 H0 [some (SF.mk (r_Line K) p_law_line), some (SF.mk (rL (rTu (aCons (rp rInt) (aCons (rp rInt) aNil)))) p_law_pairs), none, none, none] [], Stt.start sm ⟨h0, h1, ini_nil rfl⟩ rfl (by simp), (JR.seq (J1.cn (c' := fun v_law_told_790 l792 => [some (SF.mk (r_Line K) p_law_line), some (SF.mk (rL (rTu (aCons (rp rInt) (aCons (rp rInt) aNil)))) p_law_pairs), some (SF.mk (rRef l792) ()), none, none]) (me' := fun v_law_told_790 l792 => [MF.lst l792 (rFrac K) v_law_told_790]) (J1.setM 2 (JM.meth0 (JE.var 0) (insOfI fun _ => rfl) (cn_of c_Line_shares (hr.mono (by decide)) tk) T.o_Line.cl T.me_Line_shares) hx sc_law_kept.nd)) fun v_law_told_790 => JR.ex fun l792 => (JR.seq (J1.cm (c' := fun v_law_told_793 => [some (SF.mk (r_Line K) p_law_line), some (SF.mk (rL (rTu (aCons (rp rInt) (aCons (rp rInt) aNil)))) p_law_pairs), some (SF.mk (rRef l792) ()), none, none]) (me' := fun v_law_told_793 => [MF.lst l792 (rFrac K) v_law_told_793]) (J1.app 2 0 (JE.call (JA.cons JE.int (JA.cons JE.int JA.nil)) (c_Fraction_2 _ _ rfl rfl rfl rfl rfl (hr.mono (by decide)) tk) T.g_Fraction T.mk_Fraction.kp) hx)) fun v_law_told_793 => (JR.seq (J1.cm (c' := fun v_law_told_809 => [some (SF.mk (r_Line K) p_law_line), some (SF.mk (rL (rTu (aCons (rp rInt) (aCons (rp rInt) aNil)))) p_law_pairs), some (SF.mk (rRef l792) ()), none, none]) (me' := fun v_law_told_809 => [MF.lst l792 (rFrac K) v_law_told_809]) (J1.put 2 0 (JE.call (JA.cons JE.int (JA.cons JE.int JA.nil)) (c_Fraction_2 _ _ rfl rfl rfl rfl rfl (hr.mono (by decide)) tk) T.g_Fraction T.mk_Fraction.kp) JE.int hx)) fun v_law_told_809 => (JR.fz 2 0 (ctx' := [some (SF.mk (r_Line K) p_law_line), some (SF.mk (rL (rTu (aCons (rp rInt) (aCons (rp rInt) aNil)))) p_law_pairs), some (SF.mk (rL (rFrac K)) v_law_told_809), none, none]) (mem' := []) (JR.ifR (JT.bool (JW.or (JT.not (JT.of (JE.call (JA.cons (JE.ofM (JM.meth0 (JE.var 0) (insOfI fun _ => rfl) (cn_of c_Line_shares (hr.mono (by decide)) tk) T.o_Line.cl T.me_Line_shares)) (JA.cons (JE.var 1) JA.nil)) (cj_of c_law_values (hr.mono (by decide)) tk) T.g_law_values T.k_law_values))) (JW.or1 (JT.cmp (JE.callB (JA.cons (JE.var 0) JA.nil) (cj_lenO T.om_Line_len insI (hr.mono (by decide)) tk c_Line_len) T.n_len boot_len) (JE.callB (JA.cons (JE.rd (JE.var 1)) JA.nil) cj_len T.n_len boot_len) opj_ne)))) (JR.ret JE.bl hx) (JR.ifR (JT.not (JT.of (JE.call (JA.cons (JE.ofM (JM.lcT (r := (rFrac K)) 3 (JI.range1 (JE.callB (JA.cons (JE.rd (JE.var 1)) JA.nil) cj_len T.n_len boot_len) T.n_range) (fun _ _ _ _ _ D acc i834 tk835 => (JE.at (c' := [some (SF.mk (r_Line K) p_law_line), some (SF.mk (rL (rTu (aCons (rp rInt) (aCons (rp rInt) aNil)))) p_law_pairs), some (SF.mk (rL (rFrac K)) v_law_told_809), some (SF.mk rInt i834), none]) (JE.ixO2 T.om_Line_getitem T.fi_Line_getitem insI (hr.mono (by decide)) tk835 c_Line_getitem (JE.var 0) (JE.var 3)))) sc_law_kept.nd (blkok_of (by kernel_rfl)))) (JA.cons (JE.var 1) JA.nil)) (cj_of c_law_values (hr.mono (by decide)) tk) T.g_law_values T.k_law_values))) (JR.ret JE.bl hx) (JR.seq (J1.cx (c' := fun v_law_nodes_850 => [some (SF.mk (r_Line K) p_law_line), some (SF.mk (rL (rTu (aCons (rp rInt) (aCons (rp rInt) aNil)))) p_law_pairs), some (SF.mk (rL (rFrac K)) v_law_told_809), none, some (SF.mk rInt v_law_nodes_850)]) (J1.set 4 (JE.bin (JE.callB (JA.cons (JE.rd (JE.var 1)) JA.nil) cj_len T.n_len boot_len) (JE.callTy (JA.cons (JE.cmp (JE.ixD 0 (JE.ix (JE.rd (JE.var 1)) (JE.bin (JE.callB (JA.cons (JE.rd (JE.var 1)) JA.nil) cj_len T.n_len boot_len) JE.int opj_sub)) AtR.zero) JE.int opj_ne) JA.nil) cj_intB T.n_int boot_int) opj_add) hx sc_law_kept.nd)) fun v_law_nodes_850 => (JR.ifR (JT.bool (JW.or (JT.not (JT.of (JE.isi (JE.fld (JE.var 0) (fldI (fl_Line_end K)) T.o_Line.cl T.na_Line_end) (w_type_at T.n_int (by decide +kernel) rfl (by decide) (by decide)) (.ty _) (tyr_int (t := "int") (by decide +kernel)) T.n_isinstance))) (JW.or1 (JT.of (JE.isi (JE.fld (JE.var 0) (fldI (fl_Line_end K)) T.o_Line.cl T.na_Line_end) (w_type_at T.n_bool (by decide +kernel) rfl (by decide) (by decide)) (.ty _) (tyr_int (t := "bool") (by decide +kernel)) T.n_isinstance))))) (JR.ret JE.bl hx) (JR.ifR (JT.bool (JW.or (JT.cmp (JE.fld (JE.var 0) (fldI (fl_Line_rooms K)) T.o_Line.cl T.na_Line_rooms) (JE.bin (JE.bin (JE.var 4) JE.int opj_add) JE.int opj_fdiv) opj_ne) (JW.or1 (JT.cmp (JE.fld (JE.var 0) (fldI (fl_Line_passages K)) T.o_Line.cl T.na_Line_passages) (JE.bin (JE.var 4) JE.int opj_fdiv) opj_ne)))) (JR.ret JE.bl hx) (JR.ret (JE.cmp (JE.fld (JE.var 0) (fldI (fl_Line_end K)) T.o_Line.cl T.na_Line_end) (JE.callTy (JA.cons (JE.cmp (JE.ixD 0 (JE.ix (JE.rd (JE.var 1)) (JE.bin (JE.callB (JA.cons (JE.rd (JE.var 1)) JA.nil) cj_len T.n_len boot_len) JE.int opj_sub)) AtR.zero) JE.int opj_ne) JA.nil) cj_intB T.n_int boot_int) opj_eq) hx) hx) hx)) hx) hx)))))⟩
theorem fn_law_kept {P : Program} {w : World} {K : PySem.W.Frag} {mg : Str → Option Value} {base : Heap} (T : Txt K mg) (c_Line_shares : C_Line_shares P w K mg base) (c_Fraction_2 : C_Fraction_2 P w K mg base) (c_law_values : C_law_values P w K mg base) (c_Line_len : C_Line_len P w K mg base) (c_Line_getitem : C_Line_getitem P w K mg base) : FnR P w K mg base (L2.CX P w) 5 (He.ga K "_law_kept") (spF K (aCons (rp (r_Line K)) (aCons (rp (rL (rTu (aCons (rp rInt) (aCons (rp rInt) aNil))))) aNil)) (fun d => m_law_kept d.1 d.2.1) (rp rBl)) := by
  obtain ⟨fd, F⟩ := T.F_law_kept
  exact FnOk.fr0 (ok_law_kept T c_Line_shares c_Fraction_2 c_law_values c_Line_len c_Line_getitem F) (F.bindsN fun _ _ _ _ _ _ us hl => match us, hl with | [_, _], _ => rfl)
theorem sc_law_made : FnScope ["_law_pairs", "_law_given", "_law_pair", "_law_kept_here", "_law_place_here", "_law_line", "e", "_law_k"] ["_law_pairs"] (defScope s_law_made) := ⟨rfl, rfl, rfl, by decide +kernel, rfl, by decide +kernel, by decide +kernel⟩
def m_law_made (p_law_pairs : (List (Int × Int × Unit))) : Res Bool :=
  (((Res.ok p_law_pairs).bind fun l464 => lcR (fun (i458 : (Int × Int × Unit)) => (((Res.ok i458).bind fun a461 => (Res.ok ()).bind fun b462 => .ok (a461, b462)).bind (fun d => m_law_handed d.1))) l464).bind fun v_law_given_457 => (((Res.ok v_law_given_457).bind fun a467 => .ok a467).bind fun v_law_kept_here_466 => ((((Res.ok p_law_pairs).bind fun a470 => (Res.ok ()).bind fun b471 => .ok (a470, b471)).bind (fun d => m_law_place d.1)).bind fun v_law_place_here_468 => ((tryG (((((Res.ok v_law_given_457).bind fun a476 => (Res.ok ()).bind fun b477 => .ok (a476, b477)).bind fun y478 => (fun (x : (Unit)) (y : ((List Num) × Unit)) => m_Line_init y.1) () y478).bind fun v_law_line_473 => (Res.ok (Fl.nx v_law_line_473))) : Res (Fl O_Line Unit Bool)) [("BadLine", true)] (fun ee => pay1 "place" dInt (fun y479 => ((((Res.ok v_law_place_here_468).bind fun a482 => (Res.ok (0 : Int)).bind fun b483 => .ok (decide (a482 ≥ b483))).bind fun a488 => if a488 = true then (((Res.ok y479).bind fun a484 => (Res.ok v_law_place_here_468).bind fun b485 => .ok (decide (a484 = b485))).bind fun a487 => if a487 = true then (Res.ok true) else .ok false) else .ok false).bind fun r490 => .ok (Fl.rt r490))) ee.pay)).bind (Fl.out fun s491 => (((((Res.ok v_law_given_457).bind fun a493 => (Res.ok ()).bind fun b494 => .ok (a493, b494)).bind (fun d => .ok (d.1.length : Int))).bind fun a498 => (((Res.ok v_law_kept_here_466).bind fun a496 => (Res.ok ()).bind fun b497 => .ok (a496, b497)).bind (fun d => .ok (d.1.length : Int))).bind fun b499 => .ok (!decide (a498 = b499))).bind fun x500 => if x500 = true then (Res.ok false) else ((((((Res.ok v_law_kept_here_466).bind fun a504 => (Res.ok ()).bind fun b505 => .ok (a504, b505)).bind (fun d => .ok (d.1.length : Int))).bind fun a506 => rangeM1 a506).bind fun l517 => (forG (fun (i507 : Int) (s502 : Unit) => (((((Res.ok v_law_given_457).bind fun a508 => (Res.ok i507).bind fun b509 => atM a508 b509).bind fun a512 => ((Res.ok v_law_kept_here_466).bind fun a510 => (Res.ok i507).bind fun b511 => atM a510 b511).bind fun b513 => (nnEq (fun d => qEq d.1 d.2.1) a512 b513).bind fun z => .ok (!z)).bind fun x514 => if x514 = true then ((Res.ok false).bind fun r516 => .ok (Fl.rt r516)) else (Res.ok (Fl.nx ()))) : Res (Fl Unit Unit Bool))) l517 () : Res (Fl Unit Unit Bool))).bind (Fl.out fun s502 => ((((Res.ok (1 : Int)).bind fun a519 => .ok (Num.i a519)).bind fun y520 => appM v_law_given_457 y520).bind fun v_law_given_518 => ((((((Res.ok (2 : Int)).bind fun a525 => ((Res.ok (7 : Int)).bind fun a523 => (Res.ok ()).bind fun b524 => .ok (a523, b524)).bind fun b526 => .ok (a525, b526)).bind (fun d => qMk d.1 d.2.1)).bind fun a527 => .ok (Num.q a527)).bind fun y529 => (Res.ok (0 : Int)).bind fun k530 => putM v_law_given_518 k530 y529).bind fun v_law_given_528 => (((Res.ok v_law_place_here_468).bind fun a531 => (Res.ok (0 : Int)).bind fun b532 => .ok (decide (a531 < b532))).bind fun a539 => if a539 = true then (((Res.ok s491).bind fun a537 => ((Res.ok p_law_pairs).bind fun a535 => (Res.ok ()).bind fun b536 => .ok (a535, b536)).bind fun b538 => .ok (a537, b538)).bind (fun d => m_law_kept d.1 d.2.1)) else .ok false)))))))))))
abbrev C_law_made (P : Program) (w : World) (K : PySem.W.Frag) (mg : Str → Option Value) (base : Heap) : Prop := FnR P w K mg base (L2.CX P w) 9 (He.ga K "_law_made") (spF K (aCons (rp (rL (rTu (aCons (rp rInt) (aCons (rp rInt) aNil))))) aNil) (fun d => m_law_made d.1) (rp rBl))
theorem ok_law_made {P : Program} {w : World} {K : PySem.W.Frag} {mg : Str → Option Value} {base : Heap} (T : Txt K mg) (c_law_handed : C_law_handed P w K mg base) (c_law_place : C_law_place P w K mg base) (c_Line_0_shares : C_Line_0_shares P w K mg base) (c_Fraction_eq : C_Fraction_eq P w K mg base) (c_Fraction_2 : C_Fraction_2 P w K mg base) (c_law_kept : C_law_kept P w K mg base) {fd : FuncData} (F : FunD K "_law_made" "_law_made" (defArgs s_law_made) (defBody s_law_made) (defScope s_law_made) [] [] (He.ga K "_law_made") fd) : FnOk P w K mg base (L2.CX P w) 9 (He.ga K "_law_made") fd ["_law_pairs"] (spF K (aCons (rp (rL (rTu (aCons (rp rInt) (aCons (rp rInt) aNil))))) aNil) (fun d => m_law_made d.1) (rp rBl)) := by
  refine FunD.fn (k := 8) (N := ["_law_pairs", "_law_given", "_law_pair", "_law_kept_here", "_law_place_here", "_law_line", "e", "_law_k"]) (ps := ["_law_pairs"]) F sc_law_made (fun I H vs d h => ?_) (fun cdv A outer s I0 H0 E vs d hr sm h => ?_)
  · obtain ⟨v0, _, rfl, h0, rfl⟩ := h; rfl
  obtain ⟨v0, _, rfl, h0, rfl⟩ := h
  have hx : ∀ {ctx : List (Option SF)} {mem : List MF} (I H : Hp) (σ : St) (d : Option Addr), Stt I0 H0 ctx mem I H σ → Fr H0 d → bK I0 H0 I H σ d := fun _ _ _ _ s f => ⟨s.fm, f⟩
  have tk : Takes (bx P w K mg base ["_law_pairs", "_law_given", "_law_pair", "_law_kept_here", "_law_place_here", "_law_line", "e", "_law_k"] "_law_made" (defScope s_law_made) (He.ga K "_law_made") cdv A outer s H0 E) (bW E) := takes_of rfl rfl rfl rfl
  have hp : PassesOwn (model P w) (bx P w K mg base ["_law_pairs", "_law_given", "_law_pair", "_law_kept_here", "_law_place_here", "_law_line", "e", "_law_k"] "_law_made" (defScope s_law_made) (He.ga K "_law_made") cdv A outer s H0 E).A (bx P w K mg base ["_law_pairs", "_law_given", "_law_pair", "_law_kept_here", "_law_place_here", "_law_line", "e", "_law_k"] "_law_made" (defScope s_law_made) (He.ga K "_law_made") cdv A outer s H0 E).env (bx P w K mg base ["_law_pairs", "_law_given", "_law_pair", "_law_kept_here", "_law_place_here", "_law_line", "e", "_law_k"] "_law_made" (defScope s_law_made) (He.ga K "_law_made") cdv A outer s H0 E).xe := passes_of rfl
  obtain ⟨p_law_pairs, _⟩ := d
  exact ⟨Stt I0 H0 [some (SF.mk (rL (rTu (aCons (rp rInt) (aCons (rp rInt) aNil)))) p_law_pairs), none, none, none, none, none, none, none] [], Stt.start sm ⟨h0, ini_nil rfl⟩ rfl (by simp), (JR.seq (J1.cn (c' := fun v_law_given_457 l465 => [some (SF.mk (rL (rTu (aCons (rp rInt) (aCons (rp rInt) aNil)))) p_law_pairs), some (SF.mk (rRef l465) ()), none, none, none, none, none, none]) (me' := fun v_law_given_457 l465 => [MF.lst l465 (rNum K) v_law_given_457]) (J1.setLcT (r := (rNum K)) 1 2 (JI.list (JE.var 0)) (fun _ _ _ _ _ D acc i458 tk459 => (JE.at (c' := [some (SF.mk (rL (rTu (aCons (rp rInt) (aCons (rp rInt) aNil)))) p_law_pairs), none, some (SF.mk (rTu (aCons (rp rInt) (aCons (rp rInt) aNil))) i458), none, none, none, none, none]) (JE.call (JA.cons (JE.var 2) JA.nil) (cj_of c_law_handed (hr.mono (by decide)) tk459) T.g_law_handed T.k_law_handed))) hx sc_law_made.nd (blkok_of (by kernel_rfl)))) fun v_law_given_457 => JR.ex fun l465 => (JR.seq (J1.cx (c' := fun v_law_kept_here_466 => [some (SF.mk (rL (rTu (aCons (rp rInt) (aCons (rp rInt) aNil)))) p_law_pairs), some (SF.mk (rRef l465) ()), none, some (SF.mk (rL (rNum K)) v_law_kept_here_466), none, none, none, none]) (J1.set 3 (JE.ofM (JM.list (JE.rdM 1 0) T.n_list)) hx sc_law_made.nd)) fun v_law_kept_here_466 => (JR.seq (J1.cx (c' := fun v_law_place_here_468 => [some (SF.mk (rL (rTu (aCons (rp rInt) (aCons (rp rInt) aNil)))) p_law_pairs), some (SF.mk (rRef l465) ()), none, some (SF.mk (rL (rNum K)) v_law_kept_here_466), some (SF.mk rInt v_law_place_here_468), none, none, none]) (J1.set 4 (JE.call (JA.cons (JE.var 0) JA.nil) (cj_of c_law_place (hr.mono (by decide)) tk) T.g_law_place T.k_law_place) hx sc_law_made.nd)) fun v_law_place_here_468 => (JR.seqG (GL := fun _ _ _ _ => False) (J1G.tryAs1 6 "place" dInt (c0 := "BadLine") (mh := fun y479 => ((((Res.ok v_law_place_here_468).bind fun a482 => (Res.ok (0 : Int)).bind fun b483 => .ok (decide (a482 ≥ b483))).bind fun a488 => if a488 = true then (((Res.ok y479).bind fun a484 => (Res.ok v_law_place_here_468).bind fun b485 => .ok (decide (a484 = b485))).bind fun a487 => if a487 = true then (Res.ok true) else .ok false) else .ok false).bind fun r490 => .ok (Fl.rt r490))) (cv := .ref (He.ga K "BadLine")) (Ls := [("BadLine", true)]) (cw := [some (SF.mk (rL (rTu (aCons (rp rInt) (aCons (rp rInt) aNil)))) p_law_pairs), some (SF.mk (rRef l465) ()), none, some (SF.mk (rL (rNum K)) v_law_kept_here_466), some (SF.mk rInt v_law_place_here_468), none, none, none]) (me' := fun I472 => [MF.lst l465 (rNum K) v_law_given_457, MF.same I472]) (G' := fun s491 => Stt I0 H0 [some (SF.mk (rL (rTu (aCons (rp rInt) (aCons (rp rInt) aNil)))) p_law_pairs), some (SF.mk (rRef l465) ()), none, some (SF.mk (rL (rNum K)) v_law_kept_here_466), some (SF.mk rInt v_law_place_here_468), some (SF.mk (r_Line K) s491), none, none] [MF.lst l465 (rNum K) v_law_given_457]) tk (fun W' pn xe I472 tk hp => (JG.seq (J1.cx (c' := fun v_law_line_473 => [some (SF.mk (rL (rTu (aCons (rp rInt) (aCons (rp rInt) aNil)))) p_law_pairs), some (SF.mk (rRef l465) ()), none, some (SF.mk (rL (rNum K)) v_law_kept_here_466), some (SF.mk rInt v_law_place_here_468), some (SF.mk (r_Line K) v_law_line_473), none, none]) (J1.set 5 (JE.callK0 (JK.cons (JE.sqL (JE.rdM 1 0)) JK.nil) (c_Line_0_shares _ _ rfl rfl rfl rfl rfl (hr.mono (by decide)) tk) T.g_Line T.mk_Line.kp) (fun _ _ _ _ s f => ⟨s.weak (by repeat (first | exact weak_nil | apply weak_some | apply weak_none)), f⟩) sc_law_made.nd)) fun v_law_line_473 => (JG.nil (fun _ _ _ h => (Stt.forgetAt h 1 rfl))))) (fun a oe dd pn p480 y479 hz hf hd481 => (JG.rt (JR.ret (JE.and (JE.cmp (JE.var 4) JE.int opj_ge) (JE.and (JE.cmp (JE.xfld 6 0 (r := rInt) (dp := dInt) hz hf T.ev_BadLine.xf (T.ev_BadLine.no _ (by simp)) hd481 rfl (JE.var 6)) (JE.var 4) opj_eq) (JE.one (JE.isV 0 hz hf T.xc_BadLine T.kt_BadLine_TracerError (JE.var 6) (w_glob_at T.g_TracerError rfl (by decide)) (.own _) T.n_isinstance)))) (fun _ _ _ _ _ _ => True.intro)))) (fun c h => by simpa using h) (fun y b h => by
        simp only [List.mem_cons, List.mem_nil_iff, or_false, Prod.mk.injEq] at h
        obtain ⟨rfl, rfl⟩ := h
        exact T.xm_BadLine_BadLine) ⟨rfl, by decide, .inl T.g_BadLine⟩ hx sc_law_made.nd (hmx := (by repeat (first | exact True.intro | refine ⟨noxd_lst, ?_⟩ | refine ⟨noxd_ins, ?_⟩)))) fun s491 => (JR.ifR (JT.cmp (JE.callB (JA.cons (JE.rdM 1 0) JA.nil) cj_len T.n_len boot_len) (JE.callB (JA.cons (JE.rd (JE.var 3)) JA.nil) cj_len T.n_len boot_len) opj_ne) (JR.ret JE.bl hx) (JR.seqG (GL := fun _ _ _ _ => False) (J1G.forG (S := Unit) (cx := fun s502 => [some (SF.mk (rL (rTu (aCons (rp rInt) (aCons (rp rInt) aNil)))) p_law_pairs), some (SF.mk (rRef l465) ()), none, some (SF.mk (rL (rNum K)) v_law_kept_here_466), some (SF.mk rInt v_law_place_here_468), some (SF.mk (r_Line K) s491), none, none]) (me := fun s502 => [MF.lst l465 (rNum K) v_law_given_457]) (s0 := ()) 7 hp (JI.range1 (JE.callB (JA.cons (JE.rd (JE.var 3)) JA.nil) cj_len T.n_len boot_len) T.n_range) (fun i507 s502 => JG.at (c' := [some (SF.mk (rL (rTu (aCons (rp rInt) (aCons (rp rInt) aNil)))) p_law_pairs), some (SF.mk (rRef l465) ()), none, some (SF.mk (rL (rNum K)) v_law_kept_here_466), some (SF.mk rInt v_law_place_here_468), some (SF.mk (r_Line K) s491), none, some (SF.mk rInt i507)]) (JG.ifT (JT.cmp (JE.ix (JE.rdM 1 0) (JE.var 7)) (JE.ix (JE.rd (JE.var 3)) (JE.var 7)) (opj_nnN (f := fun d => qEq d.1 d.2.1) opj_ne (opj_neiq (gb := fun d => qEq d.1 d.2.1) T.o_Fraction T.om_Fraction_eq c_Fraction_eq (hr.mono (by decide)) tk) (opj_neqq (gb := fun d => qEq d.1 d.2.1) T.o_Fraction T.om_Fraction_eq T.nf_Fraction.1 c_Fraction_eq (hr.mono (by decide)) tk) (opj_neqi (gb := fun d => qEq d.1 d.2.1) T.o_Fraction T.om_Fraction_eq T.nf_Fraction.2 c_Fraction_eq (hr.mono (by decide)) tk))) (JG.rt (JR.ret JE.bl hx)) (JG.nil (fun _ _ _ h => (Stt.weak h (weak_some (weak_some (weak_none (weak_some (weak_some (weak_some (weak_none (weak_none weak_nil))))))))))) hx)) hx (weak_some (weak_some (weak_none (weak_some (weak_some (weak_some (weak_none (weak_none weak_nil)))))))) sc_law_made.nd) fun s502 => (JR.seq (J1.cm (c' := fun v_law_given_518 => [some (SF.mk (rL (rTu (aCons (rp rInt) (aCons (rp rInt) aNil)))) p_law_pairs), some (SF.mk (rRef l465) ()), none, some (SF.mk (rL (rNum K)) v_law_kept_here_466), some (SF.mk rInt v_law_place_here_468), some (SF.mk (r_Line K) s491), none, none]) (me' := fun v_law_given_518 => [MF.lst l465 (rNum K) v_law_given_518]) (J1.app 1 0 (JE.num JE.int) hx)) fun v_law_given_518 => (JR.seq (J1.cm (c' := fun v_law_given_528 => [some (SF.mk (rL (rTu (aCons (rp rInt) (aCons (rp rInt) aNil)))) p_law_pairs), some (SF.mk (rRef l465) ()), none, some (SF.mk (rL (rNum K)) v_law_kept_here_466), some (SF.mk rInt v_law_place_here_468), some (SF.mk (r_Line K) s491), none, none]) (me' := fun v_law_given_528 => [MF.lst l465 (rNum K) v_law_given_528]) (J1.put 1 0 (JE.numq (JE.call (JA.cons JE.int (JA.cons JE.int JA.nil)) (c_Fraction_2 _ _ rfl rfl rfl rfl rfl (hr.mono (by decide)) tk) T.g_Fraction T.mk_Fraction.kp)) JE.int hx)) fun v_law_given_528 => (JR.fz 1 0 (ctx' := [some (SF.mk (rL (rTu (aCons (rp rInt) (aCons (rp rInt) aNil)))) p_law_pairs), some (SF.mk (rL (rNum K)) v_law_given_528), none, some (SF.mk (rL (rNum K)) v_law_kept_here_466), some (SF.mk rInt v_law_place_here_468), some (SF.mk (r_Line K) s491), none, none]) (mem' := []) (JR.ret (JE.and (JE.cmp (JE.var 4) JE.int opj_lt) (JE.one (JE.call (JA.cons (JE.var 5) (JA.cons (JE.var 0) JA.nil)) (cj_of c_law_kept (hr.mono (by decide)) tk) T.g_law_kept T.k_law_kept))) hx))))) hx)))))⟩
theorem fn_law_made {P : Program} {w : World} {K : PySem.W.Frag} {mg : Str → Option Value} {base : Heap} (T : Txt K mg) (c_law_handed : C_law_handed P w K mg base) (c_law_place : C_law_place P w K mg base) (c_Line_0_shares : C_Line_0_shares P w K mg base) (c_Fraction_eq : C_Fraction_eq P w K mg base) (c_Fraction_2 : C_Fraction_2 P w K mg base) (c_law_kept : C_law_kept P w K mg base) : FnR P w K mg base (L2.CX P w) 9 (He.ga K "_law_made") (spF K (aCons (rp (rL (rTu (aCons (rp rInt) (aCons (rp rInt) aNil))))) aNil) (fun d => m_law_made d.1) (rp rBl)) := by
  obtain ⟨fd, F⟩ := T.F_law_made
  exact FnOk.fr0 (ok_law_made T c_law_handed c_law_place c_Line_0_shares c_Fraction_eq c_Fraction_2 c_law_kept F) (F.bindsN fun _ _ _ _ _ _ us hl => match us, hl with | [_], _ => rfl)
theorem sc_Fraction_lt : FnScope ["self", "other"] ["self", "other"] (defScope s_Fraction_lt) := ⟨rfl, rfl, rfl, by decide +kernel, rfl, by decide +kernel, by decide +kernel⟩
def m_Fraction_lt (p_self : Rat) (p_other : Num) : Res Bool :=
  (match p_other with | .i p_other_i => (((Res.ok p_other_i).bind fun a1129 => .ok true).bind fun x1130 => if x1130 = true then (((Res.ok p_self).bind fun a1131 => .ok a1131.num).bind fun a1135 => ((Res.ok p_other_i).bind fun a1133 => ((Res.ok p_self).bind fun a1132 => .ok (a1132.den : Int)).bind fun b1134 => mulI a1133 b1134).bind fun b1136 => .ok (decide (a1135 < b1136))) else .stuck) | .q p_other_q => (((Res.ok p_other_q).bind fun a1138 => .ok false).bind fun x1139 => if x1139 = true then .stuck else ((((Res.ok p_other_q).bind fun a1140 => .ok true).bind fun a1141 => .ok (!a1141)).bind fun x1142 => if x1142 = true then .stuck else ((((Res.ok p_self).bind fun a1143 => .ok a1143.num).bind fun a1145 => ((Res.ok p_other_q).bind fun a1144 => .ok (a1144.den : Int)).bind fun b1146 => mulI a1145 b1146).bind fun a1151 => (((Res.ok p_other_q).bind fun a1147 => .ok a1147.num).bind fun a1149 => ((Res.ok p_self).bind fun a1148 => .ok (a1148.den : Int)).bind fun b1150 => mulI a1149 b1150).bind fun b1152 => .ok (decide (a1151 < b1152))))))
abbrev C_Fraction_lt (P : Program) (w : World) (K : PySem.W.Frag) (mg : Str → Option Value) (base : Heap) : Prop := FnR P w K mg base (L2.CX P w) 1 (He.ma K (He.ga K "Fraction") "__lt__") (spF K (aCons (rp (rFrac K)) (aCons (rp (rNum K)) aNil)) (fun d => qLt d.1 d.2.1) (rp rBl))
theorem ok_Fraction_lt {P : Program} {w : World} {K : PySem.W.Frag} {mg : Str → Option Value} {base : Heap} (T : Txt K mg) {fd : FuncData} (F : FunD K "__lt__" "Fraction.__lt__" (defArgs s_Fraction_lt) (defBody s_Fraction_lt) (defScope s_Fraction_lt) [] [] (He.ma K (He.ga K "Fraction") "__lt__") fd) : FnOk P w K mg base (L2.CX P w) 1 (He.ma K (He.ga K "Fraction") "__lt__") fd ["self", "other"] (spF K (aCons (rp (rFrac K)) (aCons (rp (rNum K)) aNil)) (fun d => m_Fraction_lt d.1 d.2.1) (rp rBl)) := by
  refine FunD.fn (k := 0) (N := ["self", "other"]) (ps := ["self", "other"]) F sc_Fraction_lt (fun I H vs d h => ?_) (fun cdv A outer s I0 H0 E vs d hr sm h => ?_)
  · obtain ⟨v0, _, rfl, h0, v1, _, rfl, h1, rfl⟩ := h; rfl
  obtain ⟨v0, _, rfl, h0, v1, _, rfl, h1, rfl⟩ := h
  have hx : ∀ {ctx : List (Option SF)} {mem : List MF} (I H : Hp) (σ : St) (d : Option Addr), Stt I0 H0 ctx mem I H σ → Fr H0 d → bK I0 H0 I H σ d := fun _ _ _ _ s f => ⟨s.fm, f⟩
  have tk : Takes (bx P w K mg base ["self", "other"] "Fraction.__lt__" (defScope s_Fraction_lt) (He.ma K (He.ga K "Fraction") "__lt__") cdv A outer s H0 E) (bW E) := takes_of rfl rfl rfl rfl
  obtain ⟨p_self, p_other, _⟩ := d
  exact ⟨Stt I0 H0 [some (SF.mk (rFrac K) p_self), some (SF.mk (rNum K) p_other)] [], Stt.start sm ⟨h0, h1, ini_nil rfl⟩ rfl (by simp), (JR.num (K := K) 1 (fun p_other_i => JR.at (c' := [some (SF.mk (rFrac K) p_self), some (SF.mk rInt p_other_i)]) (JR.ifR (JT.of (JE.isi (JE.var 1) (w_type_at T.n_int (by decide +kernel) rfl (by decide) (by decide)) (.ty _) (tyr_int (t := "int") (by decide +kernel)) T.n_isinstance)) (JR.ret (JE.cmp (JE.fld (JE.var 0) fld_top T.o_Fraction.cl T.na_Fraction_top) (JE.bin (JE.var 1) (JE.fld (JE.var 0) fld_bottom T.o_Fraction.cl T.na_Fraction_bottom) opj_mul) opj_lt) hx) JR.dead hx)) (fun p_other_q => JR.at (c' := [some (SF.mk (rFrac K) p_self), some (SF.mk (rFrac K) p_other_q)]) (JR.ifR (JT.of (JE.isi (JE.var 1) (w_type_at T.n_int (by decide +kernel) rfl (by decide) (by decide)) (.ty _) (tyr_ins T.o_Fraction insF T.kT_Fraction_int) T.n_isinstance)) JR.dead (JR.ifR (JT.not (JT.of (JE.isi (JE.var 1) (w_glob_at T.g_Fraction rfl (by decide)) (.own _) (tyr_ins T.o_Fraction insF T.kt_Fraction_Fraction) T.n_isinstance))) JR.dead (JR.ret (JE.cmp (JE.bin (JE.fld (JE.var 0) fld_top T.o_Fraction.cl T.na_Fraction_top) (JE.fld (JE.var 1) fld_bottom T.o_Fraction.cl T.na_Fraction_bottom) opj_mul) (JE.bin (JE.fld (JE.var 1) fld_top T.o_Fraction.cl T.na_Fraction_top) (JE.fld (JE.var 0) fld_bottom T.o_Fraction.cl T.na_Fraction_bottom) opj_mul) opj_lt) hx) hx) hx)))⟩
theorem fn_Fraction_lt {P : Program} {w : World} {K : PySem.W.Frag} {mg : Str → Option Value} {base : Heap} (T : Txt K mg) : FnR P w K mg base (L2.CX P w) 1 (He.ma K (He.ga K "Fraction") "__lt__") (spF K (aCons (rp (rFrac K)) (aCons (rp (rNum K)) aNil)) (fun d => m_Fraction_lt d.1 d.2.1) (rp rBl)) := by
  obtain ⟨fd, F⟩ := T.F_Fraction_lt
  exact FnOk.fr0 (ok_Fraction_lt T F) (F.bindsN fun _ _ _ _ _ _ us hl => match us, hl with | [_, _], _ => rfl)
theorem nice_Fraction_lt : ∀ d : Rat × Num × Unit, qLt d.1 d.2.1 = .stuck ∨ qLt d.1 d.2.1 = m_Fraction_lt d.1 d.2.1 := fun ⟨x, y, _⟩ => by
  cases y with
  | i n =>
      refine stuck_or fun h => ?_
      obtain ⟨hx, hn⟩ := h
      dsimp only at hx ⊢
      have hn := fits_int.mp hn
      simp only [m_Fraction_lt, Res.ok_bind, Bool.not_true, Bool.not_false, Bool.false_eq_true, if_true, if_false, mul_fit hn (fd hx)]
      exact congrArg Res.ok (decide_eq_decide.mpr (lt_int x n))
  | q y =>
      refine stuck_or fun h => ?_
      obtain ⟨hx, hy⟩ := h
      dsimp only at hx ⊢
      have hy : fits y := hy
      simp only [m_Fraction_lt, Res.ok_bind, Bool.not_true, Bool.not_false, Bool.false_eq_true, if_true, if_false, mul_fit hx.1 (fd hy), mul_fit hy.1 (fd hx)]
      exact congrArg Res.ok (decide_eq_decide.mpr (Rat.lt_iff x y))
theorem sc_Fraction_gt : FnScope ["self", "other"] ["self", "other"] (defScope s_Fraction_gt) := ⟨rfl, rfl, rfl, by decide +kernel, rfl, by decide +kernel, by decide +kernel⟩
def m_Fraction_gt (p_self : Rat) (p_other : Num) : Res Bool :=
  (match p_other with | .i p_other_i => (((Res.ok p_other_i).bind fun a1154 => .ok true).bind fun x1155 => if x1155 = true then (((Res.ok p_self).bind fun a1156 => .ok a1156.num).bind fun a1160 => ((Res.ok p_other_i).bind fun a1158 => ((Res.ok p_self).bind fun a1157 => .ok (a1157.den : Int)).bind fun b1159 => mulI a1158 b1159).bind fun b1161 => .ok (decide (a1160 > b1161))) else .stuck) | .q p_other_q => (((Res.ok p_other_q).bind fun a1163 => .ok false).bind fun x1164 => if x1164 = true then .stuck else ((((Res.ok p_other_q).bind fun a1165 => .ok true).bind fun a1166 => .ok (!a1166)).bind fun x1167 => if x1167 = true then .stuck else ((((Res.ok p_self).bind fun a1168 => .ok a1168.num).bind fun a1170 => ((Res.ok p_other_q).bind fun a1169 => .ok (a1169.den : Int)).bind fun b1171 => mulI a1170 b1171).bind fun a1176 => (((Res.ok p_other_q).bind fun a1172 => .ok a1172.num).bind fun a1174 => ((Res.ok p_self).bind fun a1173 => .ok (a1173.den : Int)).bind fun b1175 => mulI a1174 b1175).bind fun b1177 => .ok (decide (a1176 > b1177))))))
abbrev C_Fraction_gt (P : Program) (w : World) (K : PySem.W.Frag) (mg : Str → Option Value) (base : Heap) : Prop := FnR P w K mg base (L2.CX P w) 1 (He.ma K (He.ga K "Fraction") "__gt__") (spF K (aCons (rp (rFrac K)) (aCons (rp (rNum K)) aNil)) (fun d => qGt d.1 d.2.1) (rp rBl))
theorem ok_Fraction_gt {P : Program} {w : World} {K : PySem.W.Frag} {mg : Str → Option Value} {base : Heap} (T : Txt K mg) {fd : FuncData} (F : FunD K "__gt__" "Fraction.__gt__" (defArgs s_Fraction_gt) (defBody s_Fraction_gt) (defScope s_Fraction_gt) [] [] (He.ma K (He.ga K "Fraction") "__gt__") fd) : FnOk P w K mg base (L2.CX P w) 1 (He.ma K (He.ga K "Fraction") "__gt__") fd ["self", "other"] (spF K (aCons (rp (rFrac K)) (aCons (rp (rNum K)) aNil)) (fun d => m_Fraction_gt d.1 d.2.1) (rp rBl)) := by
  refine FunD.fn (k := 0) (N := ["self", "other"]) (ps := ["self", "other"]) F sc_Fraction_gt (fun I H vs d h => ?_) (fun cdv A outer s I0 H0 E vs d hr sm h => ?_)
  · obtain ⟨v0, _, rfl, h0, v1, _, rfl, h1, rfl⟩ := h; rfl
  obtain ⟨v0, _, rfl, h0, v1, _, rfl, h1, rfl⟩ := h
  have hx : ∀ {ctx : List (Option SF)} {mem : List MF} (I H : Hp) (σ : St) (d : Option Addr), Stt I0 H0 ctx mem I H σ → Fr H0 d → bK I0 H0 I H σ d := fun _ _ _ _ s f => ⟨s.fm, f⟩
  have tk : Takes (bx P w K mg base ["self", "other"] "Fraction.__gt__" (defScope s_Fraction_gt) (He.ma K (He.ga K "Fraction") "__gt__") cdv A outer s H0 E) (bW E) := takes_of rfl rfl rfl rfl
  obtain ⟨p_self, p_other, _⟩ := d
  exact ⟨Stt I0 H0 [some (SF.mk (rFrac K) p_self), some (SF.mk (rNum K) p_other)] [], Stt.start sm ⟨h0, h1, ini_nil rfl⟩ rfl (by simp), (JR.num (K := K) 1 (fun p_other_i => JR.at (c' := [some (SF.mk (rFrac K) p_self), some (SF.mk rInt p_other_i)]) (JR.ifR (JT.of (JE.isi (JE.var 1) (w_type_at T.n_int (by decide +kernel) rfl (by decide) (by decide)) (.ty _) (tyr_int (t := "int") (by decide +kernel)) T.n_isinstance)) (JR.ret (JE.cmp (JE.fld (JE.var 0) fld_top T.o_Fraction.cl T.na_Fraction_top) (JE.bin (JE.var 1) (JE.fld (JE.var 0) fld_bottom T.o_Fraction.cl T.na_Fraction_bottom) opj_mul) opj_gt) hx) JR.dead hx)) (fun p_other_q => JR.at (c' := [some (SF.mk (rFrac K) p_self), some (SF.mk (rFrac K) p_other_q)]) (JR.ifR (JT.of (JE.isi (JE.var 1) (w_type_at T.n_int (by decide +kernel) rfl (by decide) (by decide)) (.ty _) (tyr_ins T.o_Fraction insF T.kT_Fraction_int) T.n_isinstance)) JR.dead (JR.ifR (JT.not (JT.of (JE.isi (JE.var 1) (w_glob_at T.g_Fraction rfl (by decide)) (.own _) (tyr_ins T.o_Fraction insF T.kt_Fraction_Fraction) T.n_isinstance))) JR.dead (JR.ret (JE.cmp (JE.bin (JE.fld (JE.var 0) fld_top T.o_Fraction.cl T.na_Fraction_top) (JE.fld (JE.var 1) fld_bottom T.o_Fraction.cl T.na_Fraction_bottom) opj_mul) (JE.bin (JE.fld (JE.var 1) fld_top T.o_Fraction.cl T.na_Fraction_top) (JE.fld (JE.var 0) fld_bottom T.o_Fraction.cl T.na_Fraction_bottom) opj_mul) opj_gt) hx) hx) hx)))⟩
theorem fn_Fraction_gt {P : Program} {w : World} {K : PySem.W.Frag} {mg : Str → Option Value} {base : Heap} (T : Txt K mg) : FnR P w K mg base (L2.CX P w) 1 (He.ma K (He.ga K "Fraction") "__gt__") (spF K (aCons (rp (rFrac K)) (aCons (rp (rNum K)) aNil)) (fun d => m_Fraction_gt d.1 d.2.1) (rp rBl)) := by
  obtain ⟨fd, F⟩ := T.F_Fraction_gt
  exact FnOk.fr0 (ok_Fraction_gt T F) (F.bindsN fun _ _ _ _ _ _ us hl => match us, hl with | [_, _], _ => rfl)
theorem nice_Fraction_gt : ∀ d : Rat × Num × Unit, qGt d.1 d.2.1 = .stuck ∨ qGt d.1 d.2.1 = m_Fraction_gt d.1 d.2.1 := fun ⟨x, y, _⟩ => by
  cases y with
  | i n =>
      refine stuck_or fun h => ?_
      obtain ⟨hx, hn⟩ := h
      dsimp only at hx ⊢
      have hn := fits_int.mp hn
      simp only [m_Fraction_gt, Res.ok_bind, Bool.not_true, Bool.not_false, Bool.false_eq_true, if_true, if_false, mul_fit hn (fd hx)]
      exact congrArg Res.ok (decide_eq_decide.mpr (gt_int x n))
  | q y =>
      refine stuck_or fun h => ?_
      obtain ⟨hx, hy⟩ := h
      dsimp only at hx ⊢
      have hy : fits y := hy
      simp only [m_Fraction_gt, Res.ok_bind, Bool.not_true, Bool.not_false, Bool.false_eq_true, if_true, if_false, mul_fit hx.1 (fd hy), mul_fit hy.1 (fd hx)]
      exact congrArg Res.ok (decide_eq_decide.mpr (Rat.lt_iff y x))
def m_Line_1 (x0 : (List Num)) : Res O_Line := m_Line_init x0
abbrev C_Line_1 (P : Program) (w : World) (K : PySem.W.Frag) (mg : Str → Option Value) (base : Heap) : Prop := MkR P w K mg base 7 (He.ga K "Line") (aCons (rSq K (rp (rNum K))) aNil) (fun (d : (List Num) × Unit) => m_Line_1 d.1) (rp (r_Line K))
theorem fn_Line_1 {P : Program} {w : World} {K : PySem.W.Frag} {mg : Str → Option Value} {base : Heap} (T : Txt K mg) (c_as_fraction : C_as_fraction P w K mg base) (c_err_BadLine : C_err_BadLine P w K mg base) (c_Fraction_le : C_Fraction_le P w K mg base) (c_Fraction_ge : C_Fraction_ge P w K mg base) (c_Fraction_eq : C_Fraction_eq P w K mg base) : MkR P w K mg base 7 (He.ga K "Line") (aCons (rSq K (rp (rNum K))) aNil) (fun (d : (List Num) × Unit) => m_Line_1 d.1) (rp (r_Line K)) := by
  obtain ⟨fd, F⟩ := T.F_Line_init
  exact mkR_of (h := (fun (d : (List Num) × Unit) => (d.1, ()))) T.mk_Line (in_Line T c_as_fraction c_err_BadLine c_Fraction_le c_Fraction_ge c_Fraction_eq F) (F.bindsN fun _ _ _ _ _ _ us hl => match us, hl with | [_, _], _ => rfl) .nil fun I H vs d h => by rw [List.append_nil]; exact h
theorem sc_Line_cut : FnScope ["cls", "shares", "kept", "place", "share"] ["cls", "shares"] (defScope s_Line_cut) := ⟨rfl, rfl, rfl, by decide +kernel, rfl, by decide +kernel, by decide +kernel⟩
def m_Line_cut (p_cls : Unit) (p_shares : (List Num)) : Res O_Line :=
  ((Res.ok ([] : List Rat)).bind fun v_kept_1085 => ((((((Res.ok p_shares).bind fun a1089 => (Res.ok ()).bind fun b1090 => .ok (a1089, b1090)).bind (fun d => .ok (d.1.length : Int))).bind fun a1091 => rangeM1 a1091).bind fun l1123 => (forG (fun (i1092 : Int) (s1087 : (List Rat)) => ((((((Res.ok p_shares).bind fun a1094 => (Res.ok i1092).bind fun b1095 => atM a1094 b1095).bind fun a1097 => (Res.ok ()).bind fun b1098 => .ok (a1097, b1098)).bind (fun d => qAs d.1)).bind fun v_share_1093 => ((((Res.ok v_share_1093).bind fun a1099 => (Res.ok (0 : Int)).bind fun b1100 => qLt a1099 (.i b1100)).bind fun a1103 => if a1103 = true then .ok true else ((Res.ok v_share_1093).bind fun a1101 => (Res.ok (1 : Int)).bind fun b1102 => qGt a1101 (.i b1102))).bind fun x1104 => if x1104 = true then ((((Res.ok i1092).bind fun y1106 => Res.err ⟨"BadLine", [("place", Pay.int y1106)]⟩)).bind fun r1107 => .ok (Fl.rt r1107)) else (((Res.ok v_share_1093).bind fun y1110 => appM s1087 y1110).bind fun v_kept_1108 => ((((Res.ok v_share_1093).bind fun a1111 => (Res.ok (0 : Int)).bind fun b1112 => qEq a1111 (.i b1112)).bind fun a1115 => if a1115 = true then .ok true else ((Res.ok v_share_1093).bind fun a1113 => (Res.ok (1 : Int)).bind fun b1114 => qEq a1113 (.i b1114))).bind fun x1116 => if x1116 = true then (((((Res.ok v_kept_1108).bind fun a1118 => .ok (a1118.map Num.q)).bind fun a1119 => (Res.ok ()).bind fun b1120 => .ok (a1119, b1120)).bind (fun d => m_Line_1 d.1)).bind fun r1122 => .ok (Fl.rt r1122)) else (Res.ok (Fl.nx v_kept_1108)))))) : Res (Fl (List Rat) (List Rat) O_Line))) l1123 v_kept_1085 : Res (Fl (List Rat) Unit O_Line))).bind (Fl.out fun s1087 => (((((Res.ok p_shares).bind fun a1125 => (Res.ok ()).bind fun b1126 => .ok (a1125, b1126)).bind (fun d => .ok (d.1.length : Int))).bind fun y1128 => Res.err ⟨"BadLine", [("place", Pay.int y1128)]⟩)))))
abbrev C_Line_cut (P : Program) (w : World) (K : PySem.W.Frag) (mg : Str → Option Value) (base : Heap) : Prop := FnR P w K mg base (L2.CX P w) 8 (wa K "classmethod" (He.ga K "Line") "cut") (spF K (aCons (rp (rRef (He.ga K "Line"))) (aCons (rdL K (rp (rNum K))) aNil)) (fun d => m_Line_cut d.1 d.2.1) (rp (r_Line K)))
theorem ok_Line_cut {P : Program} {w : World} {K : PySem.W.Frag} {mg : Str → Option Value} {base : Heap} (T : Txt K mg) (c_as_fraction : C_as_fraction P w K mg base) (c_Fraction_lt : C_Fraction_lt P w K mg base) (c_Fraction_gt : C_Fraction_gt P w K mg base) (c_err_BadLine : C_err_BadLine P w K mg base) (c_Fraction_eq : C_Fraction_eq P w K mg base) (c_Line_1 : C_Line_1 P w K mg base) {fd : FuncData} (F : FunD K "cut" "Line.cut" (defArgs s_Line_cut) (defBody s_Line_cut) (defScope s_Line_cut) [] [] (wa K "classmethod" (He.ga K "Line") "cut") fd) : FnOk P w K mg base (L2.CX P w) 8 (wa K "classmethod" (He.ga K "Line") "cut") fd ["cls", "shares"] (spF K (aCons (rp (rRef (He.ga K "Line"))) (aCons (rdL K (rp (rNum K))) aNil)) (fun d => m_Line_cut d.1 d.2.1) (rp (r_Line K))) := by
  refine FunD.fn (k := 7) (N := ["cls", "shares", "kept", "place", "share"]) (ps := ["cls", "shares"]) F sc_Line_cut (fun I H vs d h => ?_) (fun cdv A outer s I0 H0 E vs d hr sm h => ?_)
  · obtain ⟨v0, _, rfl, h0, v1, _, rfl, h1, rfl⟩ := h; rfl
  obtain ⟨v0, _, rfl, h0, v1, _, rfl, h1, rfl⟩ := h
  have hx : ∀ {ctx : List (Option SF)} {mem : List MF} (I H : Hp) (σ : St) (d : Option Addr), Stt I0 H0 ctx mem I H σ → Fr H0 d → bK I0 H0 I H σ d := fun _ _ _ _ s f => ⟨s.fm, f⟩
  have tk : Takes (bx P w K mg base ["cls", "shares", "kept", "place", "share"] "Line.cut" (defScope s_Line_cut) (wa K "classmethod" (He.ga K "Line") "cut") cdv A outer s H0 E) (bW E) := takes_of rfl rfl rfl rfl
  have hp : PassesOwn (model P w) (bx P w K mg base ["cls", "shares", "kept", "place", "share"] "Line.cut" (defScope s_Line_cut) (wa K "classmethod" (He.ga K "Line") "cut") cdv A outer s H0 E).A (bx P w K mg base ["cls", "shares", "kept", "place", "share"] "Line.cut" (defScope s_Line_cut) (wa K "classmethod" (He.ga K "Line") "cut") cdv A outer s H0 E).env (bx P w K mg base ["cls", "shares", "kept", "place", "share"] "Line.cut" (defScope s_Line_cut) (wa K "classmethod" (He.ga K "Line") "cut") cdv A outer s H0 E).xe := passes_of rfl
  obtain ⟨p_cls, p_shares, _⟩ := d
  exact ⟨Stt I0 H0 [some (SF.mk (rRef (He.ga K "Line")) ()), some (SF.mk (fun I v x => (rdL K (rp (rNum K))) I H0 v x) p_shares), none, none, none] [], Stt.start sm ⟨h0, h1, ini_nil rfl⟩ rfl (by simp), (JR.seq (J1.cn (c' := fun v_kept_1085 l1086 => [some (SF.mk (rRef (He.ga K "Line")) ()), some (SF.mk (fun I v x => (rdL K (rp (rNum K))) I H0 v x) p_shares), some (SF.mk (rRef l1086) ()), none, none]) (me' := fun v_kept_1085 l1086 => [MF.lst l1086 (rFrac K) v_kept_1085]) (J1.setM 2 (JM.lst (r := (rFrac K)) JA.nilL) hx sc_Line_cut.nd)) fun v_kept_1085 => JR.ex fun l1086 => (JR.seqG (GL := fun _ _ _ _ => False) (J1G.forG (S := (List Rat)) (cx := fun s1087 => [some (SF.mk (rRef (He.ga K "Line")) ()), some (SF.mk (fun I v x => (rdL K (rp (rNum K))) I H0 v x) p_shares), some (SF.mk (rRef l1086) ()), none, none]) (me := fun s1087 => [MF.lst l1086 (rFrac K) s1087]) (s0 := v_kept_1085) 3 hp (JI.range1 (JE.callB (JA.cons (JE.varP 1 (r := (rdL K (rp (rNum K))))) JA.nil) cj_len T.n_len boot_len) T.n_range) (fun i1092 s1087 => JG.at (c' := [some (SF.mk (rRef (He.ga K "Line")) ()), some (SF.mk (fun I v x => (rdL K (rp (rNum K))) I H0 v x) p_shares), some (SF.mk (rRef l1086) ()), some (SF.mk rInt i1092), none]) (JG.seq (J1.cx (c' := fun v_share_1093 => [some (SF.mk (rRef (He.ga K "Line")) ()), some (SF.mk (fun I v x => (rdL K (rp (rNum K))) I H0 v x) p_shares), some (SF.mk (rRef l1086) ()), some (SF.mk rInt i1092), some (SF.mk (rFrac K) v_share_1093)]) (J1.set 4 (JE.call (JA.cons (JE.ix (JE.varP 1 (r := (rdL K (rp (rNum K))))) (JE.var 3)) JA.nil) (cj_of c_as_fraction (hr.mono (by decide)) tk) T.g_as_fraction T.k_as_fraction) hx sc_Line_cut.nd)) fun v_share_1093 => (JG.ifT (JT.bool (JW.or (JT.cmp (JE.var 4) JE.int (opj_cqi (op := .Lt) (g := fun d => qLt d.1 d.2.1) (fun _ _ => rfl) T.o_Fraction T.om_Fraction_lt T.nf_Fraction.2 c_Fraction_lt (hr.mono (by decide)) tk)) (JW.or1 (JT.cmp (JE.var 4) JE.int (opj_cqi (op := .Gt) (g := fun d => qGt d.1 d.2.1) (fun _ _ => rfl) T.o_Fraction T.om_Fraction_gt T.nf_Fraction.2 c_Fraction_gt (hr.mono (by decide)) tk))))) (JG.rt (JR.raise1 (pay := Pay.int) rfl tk c_err_BadLine (hr.mono (by decide)) (JE.var 3) pay_int hx)) (JG.seq (J1.cm (c' := fun v_kept_1108 => [some (SF.mk (rRef (He.ga K "Line")) ()), some (SF.mk (fun I v x => (rdL K (rp (rNum K))) I H0 v x) p_shares), some (SF.mk (rRef l1086) ()), some (SF.mk rInt i1092), some (SF.mk (rFrac K) v_share_1093)]) (me' := fun v_kept_1108 => [MF.lst l1086 (rFrac K) v_kept_1108]) (J1.app 2 0 (JE.var 4) hx)) fun v_kept_1108 => (JG.ifT (JT.bool (JW.or (JT.cmp (JE.var 4) JE.int (opj_cqi (op := .Eq) (g := fun d => qEq d.1 d.2.1) (fun _ _ => rfl) T.o_Fraction T.om_Fraction_eq T.nf_Fraction.2 c_Fraction_eq (hr.mono (by decide)) tk)) (JW.or1 (JT.cmp (JE.var 4) JE.int (opj_cqi (op := .Eq) (g := fun d => qEq d.1 d.2.1) (fun _ _ => rfl) T.o_Fraction T.om_Fraction_eq T.nf_Fraction.2 c_Fraction_eq (hr.mono (by decide)) tk))))) (JG.rt (JR.ret (JE.callL (JE.var 0) (JA.cons (JE.sqMap (JE.sqL (JE.rdM 2 0)) co_qN) JA.nil) (c_Line_1 _ _ rfl rfl rfl rfl rfl (hr.mono (by decide)) tk) T.mk_Line.kp) hx)) (JG.nil (fun _ _ _ h => (Stt.weak h (weak_some (weak_some (weak_some (weak_none (weak_none weak_nil)))))))) hx)) hx))) hx (weak_some (weak_some (weak_some (weak_none (weak_none weak_nil))))) sc_Line_cut.nd) fun s1087 => (JR.fz 2 0 (ctx' := [some (SF.mk (rRef (He.ga K "Line")) ()), some (SF.mk (fun I v x => (rdL K (rp (rNum K))) I H0 v x) p_shares), some (SF.mk (rL (rFrac K)) s1087), none, none]) (mem' := []) (JR.raise1 (pay := Pay.int) rfl tk c_err_BadLine (hr.mono (by decide)) (JE.callB (JA.cons (JE.varP 1 (r := (rdL K (rp (rNum K))))) JA.nil) cj_len T.n_len boot_len) pay_int hx))))⟩
theorem fn_Line_cut {P : Program} {w : World} {K : PySem.W.Frag} {mg : Str → Option Value} {base : Heap} (T : Txt K mg) (c_as_fraction : C_as_fraction P w K mg base) (c_Fraction_lt : C_Fraction_lt P w K mg base) (c_Fraction_gt : C_Fraction_gt P w K mg base) (c_err_BadLine : C_err_BadLine P w K mg base) (c_Fraction_eq : C_Fraction_eq P w K mg base) (c_Line_1 : C_Line_1 P w K mg base) : FnR P w K mg base (L2.CX P w) 8 (wa K "classmethod" (He.ga K "Line") "cut") (spF K (aCons (rp (rRef (He.ga K "Line"))) (aCons (rdL K (rp (rNum K))) aNil)) (fun d => m_Line_cut d.1 d.2.1) (rp (r_Line K))) := by
  obtain ⟨fd, F⟩ := T.F_Line_cut
  exact FnOk.fr0 (ok_Line_cut T c_as_fraction c_Fraction_lt c_Fraction_gt c_err_BadLine c_Fraction_eq c_Line_1 F) (F.bindsN fun _ _ _ _ _ _ us hl => match us, hl with | [_, _], _ => rfl)
abbrev C_Line_cut_1_shares (P : Program) (w : World) (K : PySem.W.Frag) (mg : Str → Option Value) (base : Heap) : Prop := MkKC P w K mg base 8 (wa K "classmethod" (He.ga K "Line") "cut") ["shares"] (aCons (rp (rRef (He.ga K "Line"))) aNil) (aCons (rdL K (rp (rNum K))) aNil) (fun (x : (Unit × Unit)) (y : ((List Num) × Unit)) => m_Line_cut x.1 y.1) (rp (r_Line K))
theorem fn_Line_cut_1_shares {P : Program} {w : World} {K : PySem.W.Frag} {mg : Str → Option Value} {base : Heap} (T : Txt K mg) (c_as_fraction : C_as_fraction P w K mg base) (c_Fraction_lt : C_Fraction_lt P w K mg base) (c_Fraction_gt : C_Fraction_gt P w K mg base) (c_err_BadLine : C_err_BadLine P w K mg base) (c_Fraction_eq : C_Fraction_eq P w K mg base) (c_Line_1 : C_Line_1 P w K mg base) : C_Line_cut_1_shares P w K mg base := by
  obtain ⟨fd, F⟩ := T.F_Line_cut
  have hb := kbindsN (ps := ["cls", "shares"]) F 1 ["shares"] (fun us ws => us ++ ws) (fun a c => a.append c) fun kV doc pm an cdv ct us ws hl hw => match us, hl, ws, hw with | [_], _, [_], _ => rfl
  have ok := ok_Line_cut T c_as_fraction c_Fraction_lt c_Fraction_gt c_err_BadLine c_Fraction_eq c_Line_1 F
  generalize hM : (fun (d : (Unit × (List Num) × Unit)) => m_Line_cut d.1 d.2.1) = M at ok
  have goal : MkKC P w K mg base 8 (wa K "classmethod" (He.ga K "Line") "cut") ["shares"] (aCons (rp (rRef (He.ga K "Line"))) aNil) (aCons (rdL K (rp (rNum K))) aNil) (fun (x : (Unit × Unit)) (y : ((List Num) × Unit)) => M (x.1, y.1, ())) (rp (r_Line K)) := fun X W e1 e2 e3 e4 e5 hr tk => by
    subst e1; subst e2; subst e3; subst e4; subst e5
    refine cjk_code (n := 1) (h := fun (x : (Unit × Unit)) (y : ((List Num) × Unit)) => (x.1, y.1, ())) ok hr hb tk ?_
    intro I H vs zs x y r r'
    obtain ⟨v0, _, rfl, h0, rfl⟩ := r
    obtain ⟨w0, _, rfl, k0, rfl⟩ := r'
    exact ⟨rfl, rfl, _, _, rfl, h0, _, _, rfl, k0, rfl⟩
  rw [← hM] at goal
  exact goal
theorem sc_law_cut : FnScope ["_law_pairs", "_law_expected", "_law_place_here", "_law_k", "_law_given", "_law_pair", "_law_line", "e"] ["_law_pairs"] (defScope s_law_cut) := ⟨rfl, rfl, rfl, by decide +kernel, rfl, by decide +kernel, by decide +kernel⟩
def m_law_cut (p_law_pairs : (List (Int × Int × Unit))) : Res Bool :=
  (((Res.ok (1 : Int)).bind fun a963 => .ok (-a963)).bind fun v_law_expected_962 => ((((Res.ok p_law_pairs).bind fun a966 => (Res.ok ()).bind fun b967 => .ok (a966, b967)).bind (fun d => .ok (d.1.length : Int))).bind fun v_law_place_here_964 => ((((((Res.ok p_law_pairs).bind fun a970 => (Res.ok ()).bind fun b971 => .ok (a970, b971)).bind (fun d => .ok (d.1.length : Int))).bind fun a972 => rangeM1 a972).bind fun l1009 => forS (fun (i973 : Int) (s968 : (Int × Int)) => (((((Res.ok s968.2).bind fun a977 => (((Res.ok p_law_pairs).bind fun a975 => (Res.ok ()).bind fun b976 => .ok (a975, b976)).bind (fun d => .ok (d.1.length : Int))).bind fun b978 => .ok (decide (a977 = b978))).bind fun a981 => if a981 = true then ((Res.ok s968.1).bind fun a979 => (Res.ok (0 : Int)).bind fun b980 => .ok (decide (a979 < b980))) else .ok false).bind fun x1008 => if x1008 = true then (((((((Res.ok p_law_pairs).bind fun a982 => (Res.ok i973).bind fun b983 => atM a982 b983).bind fun a984 => .ok a984.1).bind fun a985 => (Res.ok (0 : Int)).bind fun b986 => .ok (decide (a985 < b986))).bind fun a995 => if a995 = true then .ok true else ((((Res.ok p_law_pairs).bind fun a987 => (Res.ok i973).bind fun b988 => atM a987 b988).bind fun a989 => .ok a989.1).bind fun a993 => (((Res.ok p_law_pairs).bind fun a990 => (Res.ok i973).bind fun b991 => atM a990 b991).bind fun a992 => .ok a992.2.1).bind fun b994 => .ok (decide (a993 > b994)))).bind fun x1006 => if x1006 = true then ((Res.ok i973).bind fun v_law_place_here_996 => (Res.ok (s968.1, v_law_place_here_996))) else ((((((Res.ok p_law_pairs).bind fun a997 => (Res.ok i973).bind fun b998 => atM a997 b998).bind fun a1000 => (Res.ok ()).bind fun b1001 => .ok (a1000, b1001)).bind (fun d => m_law_at_end d.1)).bind fun x1004 => if x1004 = true then ((Res.ok i973).bind fun v_law_expected_1002 => (Res.ok v_law_expected_1002)) else (Res.ok s968.1)).bind fun s1003 => (Res.ok (s1003, s968.2)))).bind fun s1005 => (Res.ok (s1005.1, s1005.2))) else (Res.ok (s968.1, s968.2))).bind fun s1007 => (Res.ok (s1007.1, s1007.2)))) l1009 (v_law_expected_962, v_law_place_here_964)).bind fun s968 => (((Res.ok p_law_pairs).bind fun l1017 => lcR (fun (i1011 : (Int × Int × Unit)) => (((Res.ok i1011).bind fun a1014 => (Res.ok ()).bind fun b1015 => .ok (a1014, b1015)).bind (fun d => m_law_handed d.1))) l1017).bind fun v_law_given_1010 => ((tryG (((((Res.ok v_law_given_1010).bind fun a1022 => (Res.ok ()).bind fun b1023 => .ok (a1022, b1023)).bind fun y1024 => m_Line_cut () y1024.1).bind fun v_law_line_1020 => (Res.ok (Fl.nx v_law_line_1020))) : Res (Fl O_Line Unit Bool)) [("BadLine", true)] (fun ee => pay1 "place" dInt (fun y1025 => ((((Res.ok s968.1).bind fun a1028 => (Res.ok (0 : Int)).bind fun b1029 => .ok (decide (a1028 < b1029))).bind fun a1032 => if a1032 = true then ((Res.ok y1025).bind fun a1030 => (Res.ok s968.2).bind fun b1031 => .ok (decide (a1030 = b1031))) else .ok false).bind fun r1034 => .ok (Fl.rt r1034))) ee.pay)).bind (Fl.out fun s1035 => ((((((Res.ok v_law_given_1010).bind fun a1037 => (Res.ok ()).bind fun b1038 => .ok (a1037, b1038)).bind (fun d => .ok (d.1.length : Int))).bind fun a1042 => (((Res.ok p_law_pairs).bind fun a1040 => (Res.ok ()).bind fun b1041 => .ok (a1040, b1041)).bind (fun d => .ok (d.1.length : Int))).bind fun b1043 => .ok (!decide (a1042 = b1043))).bind fun a1053 => if a1053 = true then .ok true else ((Res.ok v_law_given_1010).bind fun a1051 => ((Res.ok p_law_pairs).bind fun l1050 => lcR (fun (i1044 : (Int × Int × Unit)) => (((Res.ok i1044).bind fun a1047 => (Res.ok ()).bind fun b1048 => .ok (a1047, b1048)).bind (fun d => m_law_handed d.1))) l1050).bind fun b1052 => Res.guard (a1051 = b1052) (.ok false))).bind fun x1054 => if x1054 = true then (Res.ok false) else ((((((Res.ok (3 : Int)).bind fun a1060 => ((Res.ok (7 : Int)).bind fun a1058 => (Res.ok ()).bind fun b1059 => .ok (a1058, b1059)).bind fun b1061 => .ok (a1060, b1061)).bind (fun d => qMk d.1 d.2.1)).bind fun a1062 => .ok (Num.q a1062)).bind fun y1064 => (Res.ok (0 : Int)).bind fun k1065 => putM v_law_given_1010 k1065 y1064).bind fun v_law_given_1063 => ((((Res.ok (0 : Int)).bind fun a1067 => .ok (Num.i a1067)).bind fun y1068 => appM v_law_given_1063 y1068).bind fun v_law_given_1066 => (((Res.ok s968.1).bind fun a1069 => (Res.ok (0 : Int)).bind fun b1070 => .ok (decide (a1069 ≥ b1070))).bind fun a1083 => if a1083 = true then (((Res.ok s1035).bind fun a1081 => (((Res.ok p_law_pairs).bind fun a1072 => (Res.ok none).bind fun b1076 => (((Res.ok s968.1).bind fun a1073 => (Res.ok (1 : Int)).bind fun b1074 => .ok (a1073 + b1074)).bind fun b1075 => .ok (some b1075)).bind fun c1077 => .ok (cutL a1072 b1076 c1077)).bind fun a1079 => (Res.ok ()).bind fun b1080 => .ok (a1079, b1080)).bind fun b1082 => .ok (a1081, b1082)).bind (fun d => m_law_kept d.1 d.2.1)) else .ok false))))))))))
abbrev C_law_cut (P : Program) (w : World) (K : PySem.W.Frag) (mg : Str → Option Value) (base : Heap) : Prop := FnR P w K mg base (L2.CX P w) 10 (He.ga K "_law_cut") (spF K (aCons (rp (rL (rTu (aCons (rp rInt) (aCons (rp rInt) aNil))))) aNil) (fun d => m_law_cut d.1) (rp rBl))
theorem ok_law_cut {P : Program} {w : World} {K : PySem.W.Frag} {mg : Str → Option Value} {base : Heap} (T : Txt K mg) (c_law_at_end : C_law_at_end P w K mg base) (c_law_handed : C_law_handed P w K mg base) (c_Line_cut_1_shares : C_Line_cut_1_shares P w K mg base) (c_Fraction_eq : C_Fraction_eq P w K mg base) (c_Fraction_2 : C_Fraction_2 P w K mg base) (c_law_kept : C_law_kept P w K mg base) {fd : FuncData} (F : FunD K "_law_cut" "_law_cut" (defArgs s_law_cut) (defBody s_law_cut) (defScope s_law_cut) [] [] (He.ga K "_law_cut") fd) : FnOk P w K mg base (L2.CX P w) 10 (He.ga K "_law_cut") fd ["_law_pairs"] (spF K (aCons (rp (rL (rTu (aCons (rp rInt) (aCons (rp rInt) aNil))))) aNil) (fun d => m_law_cut d.1) (rp rBl)) := by
  refine FunD.fn (k := 9) (N := ["_law_pairs", "_law_expected", "_law_place_here", "_law_k", "_law_given", "_law_pair", "_law_line", "e"]) (ps := ["_law_pairs"]) F sc_law_cut (fun I H vs d h => ?_) (fun cdv A outer s I0 H0 E vs d hr sm h => ?_)
  · obtain ⟨v0, _, rfl, h0, rfl⟩ := h; rfl
  obtain ⟨v0, _, rfl, h0, rfl⟩ := h
  have hx : ∀ {ctx : List (Option SF)} {mem : List MF} (I H : Hp) (σ : St) (d : Option Addr), Stt I0 H0 ctx mem I H σ → Fr H0 d → bK I0 H0 I H σ d := fun _ _ _ _ s f => ⟨s.fm, f⟩
  have tk : Takes (bx P w K mg base ["_law_pairs", "_law_expected", "_law_place_here", "_law_k", "_law_given", "_law_pair", "_law_line", "e"] "_law_cut" (defScope s_law_cut) (He.ga K "_law_cut") cdv A outer s H0 E) (bW E) := takes_of rfl rfl rfl rfl
  have hp : PassesOwn (model P w) (bx P w K mg base ["_law_pairs", "_law_expected", "_law_place_here", "_law_k", "_law_given", "_law_pair", "_law_line", "e"] "_law_cut" (defScope s_law_cut) (He.ga K "_law_cut") cdv A outer s H0 E).A (bx P w K mg base ["_law_pairs", "_law_expected", "_law_place_here", "_law_k", "_law_given", "_law_pair", "_law_line", "e"] "_law_cut" (defScope s_law_cut) (He.ga K "_law_cut") cdv A outer s H0 E).env (bx P w K mg base ["_law_pairs", "_law_expected", "_law_place_here", "_law_k", "_law_given", "_law_pair", "_law_line", "e"] "_law_cut" (defScope s_law_cut) (He.ga K "_law_cut") cdv A outer s H0 E).xe := passes_of rfl
  obtain ⟨p_law_pairs, _⟩ := d
  exact ⟨Stt I0 H0 [some (SF.mk (rL (rTu (aCons (rp rInt) (aCons (rp rInt) aNil)))) p_law_pairs), none, none, none, none, none, none, none] [], Stt.start sm ⟨h0, ini_nil rfl⟩ rfl (by simp), (JR.seq (J1.cx (c' := fun v_law_expected_962 => [some (SF.mk (rL (rTu (aCons (rp rInt) (aCons (rp rInt) aNil)))) p_law_pairs), some (SF.mk rInt v_law_expected_962), none, none, none, none, none, none]) (J1.set 1 (JE.un JE.int unj_neg) hx sc_law_cut.nd)) fun v_law_expected_962 => (JR.seq (J1.cx (c' := fun v_law_place_here_964 => [some (SF.mk (rL (rTu (aCons (rp rInt) (aCons (rp rInt) aNil)))) p_law_pairs), some (SF.mk rInt v_law_expected_962), some (SF.mk rInt v_law_place_here_964), none, none, none, none, none]) (J1.set 2 (JE.callB (JA.cons (JE.rd (JE.var 0)) JA.nil) cj_len T.n_len boot_len) hx sc_law_cut.nd)) fun v_law_place_here_964 => (JR.seq (J1.forS (S := (Int × Int)) (cx := fun s968 => [some (SF.mk (rL (rTu (aCons (rp rInt) (aCons (rp rInt) aNil)))) p_law_pairs), some (SF.mk rInt s968.1), some (SF.mk rInt s968.2), none, none, none, none, none]) (me := fun s968 => []) (s0 := (v_law_expected_962, v_law_place_here_964)) 3 hp (JI.range1 (JE.callB (JA.cons (JE.rd (JE.var 0)) JA.nil) cj_len T.n_len boot_len) T.n_range) (fun i973 s968 => JN.at (c' := [some (SF.mk (rL (rTu (aCons (rp rInt) (aCons (rp rInt) aNil)))) p_law_pairs), some (SF.mk rInt s968.1), some (SF.mk rInt s968.2), some (SF.mk rInt i973), none, none, none, none]) (JN.seq (J1.if (S := (Int × Int)) (G' := fun s1007 => Stt I0 H0 [some (SF.mk (rL (rTu (aCons (rp rInt) (aCons (rp rInt) aNil)))) p_law_pairs), some (SF.mk rInt s1007.1), some (SF.mk rInt s1007.2), some (SF.mk rInt i973), none, none, none, none] []) (JT.bool (JW.and (JT.cmp (JE.var 2) (JE.callB (JA.cons (JE.rd (JE.var 0)) JA.nil) cj_len T.n_len boot_len) opj_eq) (JW.and1 (JT.cmp (JE.var 1) JE.int opj_lt)))) (JN.seq (J1.if (S := (Int × Int)) (G' := fun s1005 => Stt I0 H0 [some (SF.mk (rL (rTu (aCons (rp rInt) (aCons (rp rInt) aNil)))) p_law_pairs), some (SF.mk rInt s1005.1), some (SF.mk rInt s1005.2), some (SF.mk rInt i973), none, none, none, none] []) (JT.bool (JW.or (JT.cmp (JE.ixD 0 (JE.ix (JE.rd (JE.var 0)) (JE.var 3)) AtR.zero) JE.int opj_lt) (JW.or1 (JT.cmp (JE.ixD 0 (JE.ix (JE.rd (JE.var 0)) (JE.var 3)) AtR.zero) (JE.ixD 1 (JE.ix (JE.rd (JE.var 0)) (JE.var 3)) (AtR.succ AtR.zero)) opj_gt)))) (JN.seq (J1.cx (c' := fun v_law_place_here_996 => [some (SF.mk (rL (rTu (aCons (rp rInt) (aCons (rp rInt) aNil)))) p_law_pairs), some (SF.mk rInt s968.1), some (SF.mk rInt v_law_place_here_996), some (SF.mk rInt i973), none, none, none, none]) (J1.set 2 (JE.var 3) hx sc_law_cut.nd)) fun v_law_place_here_996 => (JN.nil (fun _ _ _ h => h))) (JN.seq (J1.if (S := Int) (G' := fun s1003 => Stt I0 H0 [some (SF.mk (rL (rTu (aCons (rp rInt) (aCons (rp rInt) aNil)))) p_law_pairs), some (SF.mk rInt s1003), some (SF.mk rInt s968.2), some (SF.mk rInt i973), none, none, none, none] []) (JT.of (JE.call (JA.cons (JE.ix (JE.rd (JE.var 0)) (JE.var 3)) JA.nil) (cj_of c_law_at_end (hr.mono (by decide)) tk) T.g_law_at_end T.k_law_at_end)) (JN.seq (J1.cx (c' := fun v_law_expected_1002 => [some (SF.mk (rL (rTu (aCons (rp rInt) (aCons (rp rInt) aNil)))) p_law_pairs), some (SF.mk rInt v_law_expected_1002), some (SF.mk rInt s968.2), some (SF.mk rInt i973), none, none, none, none]) (J1.set 1 (JE.var 3) hx sc_law_cut.nd)) fun v_law_expected_1002 => (JN.nil (fun _ _ _ h => h))) (JN.nil (fun _ _ _ h => h)) hx) fun s1003 => (JN.nil (fun _ _ _ h => h))) hx) fun s1005 => (JN.nil (fun _ _ _ h => h))) (JN.nil (fun _ _ _ h => h)) hx) fun s1007 => (JN.nil (fun _ _ _ h => (Stt.weak h (weak_some (weak_some (weak_some (weak_none (weak_none (weak_none (weak_none (weak_none weak_nil))))))))))))) hx (weak_some (weak_some (weak_some (weak_none (weak_none (weak_none (weak_none (weak_none weak_nil)))))))) sc_law_cut.nd) fun s968 => (JR.seq (J1.cn (c' := fun v_law_given_1010 l1018 => [some (SF.mk (rL (rTu (aCons (rp rInt) (aCons (rp rInt) aNil)))) p_law_pairs), some (SF.mk rInt s968.1), some (SF.mk rInt s968.2), none, some (SF.mk (rRef l1018) ()), none, none, none]) (me' := fun v_law_given_1010 l1018 => [MF.lst l1018 (rNum K) v_law_given_1010]) (J1.setLcT (r := (rNum K)) 4 5 (JI.list (JE.var 0)) (fun _ _ _ _ _ D acc i1011 tk1012 => (JE.at (c' := [some (SF.mk (rL (rTu (aCons (rp rInt) (aCons (rp rInt) aNil)))) p_law_pairs), some (SF.mk rInt s968.1), some (SF.mk rInt s968.2), none, none, some (SF.mk (rTu (aCons (rp rInt) (aCons (rp rInt) aNil))) i1011), none, none]) (JE.call (JA.cons (JE.var 5) JA.nil) (cj_of c_law_handed (hr.mono (by decide)) tk1012) T.g_law_handed T.k_law_handed))) hx sc_law_cut.nd (blkok_of (by kernel_rfl)))) fun v_law_given_1010 => JR.ex fun l1018 => (JR.seqG (GL := fun _ _ _ _ => False) (J1G.tryAs1 7 "place" dInt (c0 := "BadLine") (mh := fun y1025 => ((((Res.ok s968.1).bind fun a1028 => (Res.ok (0 : Int)).bind fun b1029 => .ok (decide (a1028 < b1029))).bind fun a1032 => if a1032 = true then ((Res.ok y1025).bind fun a1030 => (Res.ok s968.2).bind fun b1031 => .ok (decide (a1030 = b1031))) else .ok false).bind fun r1034 => .ok (Fl.rt r1034))) (cv := .ref (He.ga K "BadLine")) (Ls := [("BadLine", true)]) (cw := [some (SF.mk (rL (rTu (aCons (rp rInt) (aCons (rp rInt) aNil)))) p_law_pairs), some (SF.mk rInt s968.1), some (SF.mk rInt s968.2), none, some (SF.mk (rRef l1018) ()), none, none, none]) (me' := fun I1019 => [MF.lst l1018 (rNum K) v_law_given_1010, MF.same I1019]) (G' := fun s1035 => Stt I0 H0 [some (SF.mk (rL (rTu (aCons (rp rInt) (aCons (rp rInt) aNil)))) p_law_pairs), some (SF.mk rInt s968.1), some (SF.mk rInt s968.2), none, some (SF.mk (rRef l1018) ()), none, some (SF.mk (r_Line K) s1035), none] [MF.lst l1018 (rNum K) v_law_given_1010]) tk (fun W' pn xe I1019 tk hp => (JG.seq (J1.cx (c' := fun v_law_line_1020 => [some (SF.mk (rL (rTu (aCons (rp rInt) (aCons (rp rInt) aNil)))) p_law_pairs), some (SF.mk rInt s968.1), some (SF.mk rInt s968.2), none, some (SF.mk (rRef l1018) ()), none, some (SF.mk (r_Line K) v_law_line_1020), none]) (J1.set 6 (JE.cmethK0 (g' := fun (x : Unit × Unit) (y : ((List Num) × Unit)) => m_Line_cut x.1 y.1) T.g_Line T.cm_Line_cut.1 T.cm_Line_cut.2 (JK.cons (JE.rdM 4 0) JK.nil) (c_Line_cut_1_shares _ _ rfl rfl rfl rfl rfl (hr.mono (by decide)) tk)) (fun _ _ _ _ s f => ⟨s.weak (by repeat (first | exact weak_nil | apply weak_some | apply weak_none)), f⟩) sc_law_cut.nd)) fun v_law_line_1020 => (JG.nil (fun _ _ _ h => (Stt.forgetAt h 1 rfl))))) (fun a oe dd pn p1026 y1025 hz hf hd1027 => (JG.rt (JR.ret (JE.and (JE.cmp (JE.var 1) JE.int opj_lt) (JE.one (JE.cmp (JE.xfld 7 0 (r := rInt) (dp := dInt) hz hf T.ev_BadLine.xf (T.ev_BadLine.no _ (by simp)) hd1027 rfl (JE.var 7)) (JE.var 2) opj_eq))) (fun _ _ _ _ _ _ => True.intro)))) (fun c h => by simpa using h) (fun y b h => by
        simp only [List.mem_cons, List.mem_nil_iff, or_false, Prod.mk.injEq] at h
        obtain ⟨rfl, rfl⟩ := h
        exact T.xm_BadLine_BadLine) ⟨rfl, by decide, .inl T.g_BadLine⟩ hx sc_law_cut.nd (hmx := (by repeat (first | exact True.intro | refine ⟨noxd_lst, ?_⟩ | refine ⟨noxd_ins, ?_⟩)))) fun s1035 => (JR.ifR (JT.bool (JW.or (JT.cmp (JE.callB (JA.cons (JE.rdM 4 0) JA.nil) cj_len T.n_len boot_len) (JE.callB (JA.cons (JE.rd (JE.var 0)) JA.nil) cj_len T.n_len boot_len) opj_ne) (JW.or1 (JT.cmp (JE.hM 4 0) (JE.hp (JE.ofM (JM.lcT (r := (rNum K)) 5 (JI.list (JE.var 0)) (fun _ _ _ _ _ D acc i1044 tk1045 => (JE.at (c' := [some (SF.mk (rL (rTu (aCons (rp rInt) (aCons (rp rInt) aNil)))) p_law_pairs), some (SF.mk rInt s968.1), some (SF.mk rInt s968.2), none, some (SF.mk (rRef l1018) ()), some (SF.mk (rTu (aCons (rp rInt) (aCons (rp rInt) aNil))) i1044), some (SF.mk (r_Line K) s1035), none]) (JE.call (JA.cons (JE.var 5) JA.nil) (cj_of c_law_handed (hr.mono (by decide)) tk1045) T.g_law_handed T.k_law_handed))) sc_law_cut.nd (blkok_of (by kernel_rfl))))) (opj_neNL (gb := fun d => qEq d.1 d.2.1) T.om_Fraction_eq c_Fraction_eq tk qEq_refl (hr.mono (by decide))))))) (JR.ret JE.bl hx) (JR.seq (J1.cm (c' := fun v_law_given_1063 => [some (SF.mk (rL (rTu (aCons (rp rInt) (aCons (rp rInt) aNil)))) p_law_pairs), some (SF.mk rInt s968.1), some (SF.mk rInt s968.2), none, some (SF.mk (rRef l1018) ()), none, some (SF.mk (r_Line K) s1035), none]) (me' := fun v_law_given_1063 => [MF.lst l1018 (rNum K) v_law_given_1063]) (J1.put 4 0 (JE.numq (JE.call (JA.cons JE.int (JA.cons JE.int JA.nil)) (c_Fraction_2 _ _ rfl rfl rfl rfl rfl (hr.mono (by decide)) tk) T.g_Fraction T.mk_Fraction.kp)) JE.int hx)) fun v_law_given_1063 => (JR.seq (J1.cm (c' := fun v_law_given_1066 => [some (SF.mk (rL (rTu (aCons (rp rInt) (aCons (rp rInt) aNil)))) p_law_pairs), some (SF.mk rInt s968.1), some (SF.mk rInt s968.2), none, some (SF.mk (rRef l1018) ()), none, some (SF.mk (r_Line K) s1035), none]) (me' := fun v_law_given_1066 => [MF.lst l1018 (rNum K) v_law_given_1066]) (J1.app 4 0 (JE.num JE.int) hx)) fun v_law_given_1066 => (JR.fz 4 0 (ctx' := [some (SF.mk (rL (rTu (aCons (rp rInt) (aCons (rp rInt) aNil)))) p_law_pairs), some (SF.mk rInt s968.1), some (SF.mk rInt s968.2), none, some (SF.mk (rL (rNum K)) v_law_given_1066), none, some (SF.mk (r_Line K) s1035), none]) (mem' := []) (JR.ret (JE.and (JE.cmp (JE.var 1) JE.int opj_ge) (JE.one (JE.call (JA.cons (JE.var 6) (JA.cons (JE.ofM (JM.sl (JE.rd (JE.var 0)) JO.no (JO.at (JE.bin (JE.var 1) JE.int opj_add)))) JA.nil)) (cj_of c_law_kept (hr.mono (by decide)) tk) T.g_law_kept T.k_law_kept))) hx)))) hx))))))⟩
theorem fn_law_cut {P : Program} {w : World} {K : PySem.W.Frag} {mg : Str → Option Value} {base : Heap} (T : Txt K mg) (c_law_at_end : C_law_at_end P w K mg base) (c_law_handed : C_law_handed P w K mg base) (c_Line_cut_1_shares : C_Line_cut_1_shares P w K mg base) (c_Fraction_eq : C_Fraction_eq P w K mg base) (c_Fraction_2 : C_Fraction_2 P w K mg base) (c_law_kept : C_law_kept P w K mg base) : FnR P w K mg base (L2.CX P w) 10 (He.ga K "_law_cut") (spF K (aCons (rp (rL (rTu (aCons (rp rInt) (aCons (rp rInt) aNil))))) aNil) (fun d => m_law_cut d.1) (rp rBl)) := by
  obtain ⟨fd, F⟩ := T.F_law_cut
  exact FnOk.fr0 (ok_law_cut T c_law_at_end c_law_handed c_Line_cut_1_shares c_Fraction_eq c_Fraction_2 c_law_kept F) (F.bindsN fun _ _ _ _ _ _ us hl => match us, hl with | [_], _ => rfl)
theorem sc_law_equal : FnScope ["_law_first", "_law_second", "_law_k"] ["_law_first", "_law_second"] (defScope s_law_equal) := ⟨rfl, rfl, rfl, by decide +kernel, rfl, by decide +kernel, by decide +kernel⟩
def m_law_equal (p_law_first : (List (Int × Int × Unit))) (p_law_second : (List (Int × Int × Unit))) : Res Bool :=
  (((((Res.ok p_law_first).bind fun a1180 => (Res.ok ()).bind fun b1181 => .ok (a1180, b1181)).bind (fun d => .ok (d.1.length : Int))).bind fun a1185 => (((Res.ok p_law_second).bind fun a1183 => (Res.ok ()).bind fun b1184 => .ok (a1183, b1184)).bind (fun d => .ok (d.1.length : Int))).bind fun b1186 => .ok (!decide (a1185 = b1186))).bind fun x1187 => if x1187 = true then (Res.ok false) else ((((((Res.ok p_law_first).bind fun a1191 => (Res.ok ()).bind fun b1192 => .ok (a1191, b1192)).bind (fun d => .ok (d.1.length : Int))).bind fun a1193 => rangeM1 a1193).bind fun l1216 => (forG (fun (i1194 : Int) (s1189 : Unit) => (((((((Res.ok p_law_first).bind fun a1195 => (Res.ok i1194).bind fun b1196 => atM a1195 b1196).bind fun a1197 => .ok a1197.1).bind fun a1201 => (((Res.ok p_law_second).bind fun a1198 => (Res.ok i1194).bind fun b1199 => atM a1198 b1199).bind fun a1200 => .ok a1200.2.1).bind fun b1202 => mulI a1201 b1202).bind fun a1211 => ((((Res.ok p_law_second).bind fun a1203 => (Res.ok i1194).bind fun b1204 => atM a1203 b1204).bind fun a1205 => .ok a1205.1).bind fun a1209 => (((Res.ok p_law_first).bind fun a1206 => (Res.ok i1194).bind fun b1207 => atM a1206 b1207).bind fun a1208 => .ok a1208.2.1).bind fun b1210 => mulI a1209 b1210).bind fun b1212 => .ok (!decide (a1211 = b1212))).bind fun x1213 => if x1213 = true then ((Res.ok false).bind fun r1215 => .ok (Fl.rt r1215)) else (Res.ok (Fl.nx ()))) : Res (Fl Unit Unit Bool))) l1216 () : Res (Fl Unit Unit Bool))).bind (Fl.out fun s1189 => (Res.ok true))))
abbrev C_law_equal (P : Program) (w : World) (K : PySem.W.Frag) (mg : Str → Option Value) (base : Heap) : Prop := FnR P w K mg base (L2.CX P w) 1 (He.ga K "_law_equal") (spF K (aCons (rp (rL (rTu (aCons (rp rInt) (aCons (rp rInt) aNil))))) (aCons (rp (rL (rTu (aCons (rp rInt) (aCons (rp rInt) aNil))))) aNil)) (fun d => m_law_equal d.1 d.2.1) (rp rBl))
theorem ok_law_equal {P : Program} {w : World} {K : PySem.W.Frag} {mg : Str → Option Value} {base : Heap} (T : Txt K mg) {fd : FuncData} (F : FunD K "_law_equal" "_law_equal" (defArgs s_law_equal) (defBody s_law_equal) (defScope s_law_equal) [] [] (He.ga K "_law_equal") fd) : FnOk P w K mg base (L2.CX P w) 1 (He.ga K "_law_equal") fd ["_law_first", "_law_second"] (spF K (aCons (rp (rL (rTu (aCons (rp rInt) (aCons (rp rInt) aNil))))) (aCons (rp (rL (rTu (aCons (rp rInt) (aCons (rp rInt) aNil))))) aNil)) (fun d => m_law_equal d.1 d.2.1) (rp rBl)) := by
  refine FunD.fn (k := 0) (N := ["_law_first", "_law_second", "_law_k"]) (ps := ["_law_first", "_law_second"]) F sc_law_equal (fun I H vs d h => ?_) (fun cdv A outer s I0 H0 E vs d hr sm h => ?_)
  · obtain ⟨v0, _, rfl, h0, v1, _, rfl, h1, rfl⟩ := h; rfl
  obtain ⟨v0, _, rfl, h0, v1, _, rfl, h1, rfl⟩ := h
  have hx : ∀ {ctx : List (Option SF)} {mem : List MF} (I H : Hp) (σ : St) (d : Option Addr), Stt I0 H0 ctx mem I H σ → Fr H0 d → bK I0 H0 I H σ d := fun _ _ _ _ s f => ⟨s.fm, f⟩
  have tk : Takes (bx P w K mg base ["_law_first", "_law_second", "_law_k"] "_law_equal" (defScope s_law_equal) (He.ga K "_law_equal") cdv A outer s H0 E) (bW E) := takes_of rfl rfl rfl rfl
  have hp : PassesOwn (model P w) (bx P w K mg base ["_law_first", "_law_second", "_law_k"] "_law_equal" (defScope s_law_equal) (He.ga K "_law_equal") cdv A outer s H0 E).A (bx P w K mg base ["_law_first", "_law_second", "_law_k"] "_law_equal" (defScope s_law_equal) (He.ga K "_law_equal") cdv A outer s H0 E).env (bx P w K mg base ["_law_first", "_law_second", "_law_k"] "_law_equal" (defScope s_law_equal) (He.ga K "_law_equal") cdv A outer s H0 E).xe := passes_of rfl
  obtain ⟨p_law_first, p_law_second, _⟩ := d
  exact ⟨Stt I0 H0 [some (SF.mk (rL (rTu (aCons (rp rInt) (aCons (rp rInt) aNil)))) p_law_first), some (SF.mk (rL (rTu (aCons (rp rInt) (aCons (rp rInt) aNil)))) p_law_second), none] [], Stt.start sm ⟨h0, h1, ini_nil rfl⟩ rfl (by simp), (JR.ifR (JT.cmp (JE.callB (JA.cons (JE.rd (JE.var 0)) JA.nil) cj_len T.n_len boot_len) (JE.callB (JA.cons (JE.rd (JE.var 1)) JA.nil) cj_len T.n_len boot_len) opj_ne) (JR.ret JE.bl hx) (JR.seqG (GL := fun _ _ _ _ => False) (J1G.forG (S := Unit) (cx := fun s1189 => [some (SF.mk (rL (rTu (aCons (rp rInt) (aCons (rp rInt) aNil)))) p_law_first), some (SF.mk (rL (rTu (aCons (rp rInt) (aCons (rp rInt) aNil)))) p_law_second), none]) (me := fun s1189 => []) (s0 := ()) 2 hp (JI.range1 (JE.callB (JA.cons (JE.rd (JE.var 0)) JA.nil) cj_len T.n_len boot_len) T.n_range) (fun i1194 s1189 => JG.at (c' := [some (SF.mk (rL (rTu (aCons (rp rInt) (aCons (rp rInt) aNil)))) p_law_first), some (SF.mk (rL (rTu (aCons (rp rInt) (aCons (rp rInt) aNil)))) p_law_second), some (SF.mk rInt i1194)]) (JG.ifT (JT.cmp (JE.bin (JE.ixD 0 (JE.ix (JE.rd (JE.var 0)) (JE.var 2)) AtR.zero) (JE.ixD 1 (JE.ix (JE.rd (JE.var 1)) (JE.var 2)) (AtR.succ AtR.zero)) opj_mul) (JE.bin (JE.ixD 0 (JE.ix (JE.rd (JE.var 1)) (JE.var 2)) AtR.zero) (JE.ixD 1 (JE.ix (JE.rd (JE.var 0)) (JE.var 2)) (AtR.succ AtR.zero)) opj_mul) opj_ne) (JG.rt (JR.ret JE.bl hx)) (JG.nil (fun _ _ _ h => (Stt.weak h (weak_some (weak_some (weak_none weak_nil)))))) hx)) hx (weak_some (weak_some (weak_none weak_nil))) sc_law_equal.nd) fun s1189 => (JR.ret JE.bl hx)) hx)⟩
theorem fn_law_equal {P : Program} {w : World} {K : PySem.W.Frag} {mg : Str → Option Value} {base : Heap} (T : Txt K mg) : FnR P w K mg base (L2.CX P w) 1 (He.ga K "_law_equal") (spF K (aCons (rp (rL (rTu (aCons (rp rInt) (aCons (rp rInt) aNil))))) (aCons (rp (rL (rTu (aCons (rp rInt) (aCons (rp rInt) aNil))))) aNil)) (fun d => m_law_equal d.1 d.2.1) (rp rBl)) := by
  obtain ⟨fd, F⟩ := T.F_law_equal
  exact FnOk.fr0 (ok_law_equal T F) (F.bindsN fun _ _ _ _ _ _ us hl => match us, hl with | [_, _], _ => rfl)
theorem sc_Line_eq : FnScope ["self", "other", "k"] ["self", "other"] (defScope s_Line_eq) := ⟨rfl, rfl, rfl, by decide +kernel, rfl, by decide +kernel, by decide +kernel⟩
def m_Line_eq (p_self : O_Line) (p_other : O_Line) : Res Bool :=
  ((((Res.ok p_other).bind fun a1218 => .ok true).bind fun a1219 => .ok (!a1219)).bind fun x1220 => if x1220 = true then .stuck else ((((((Res.ok p_self).bind fun a1221 => .ok a1221.f_kept).bind fun a1223 => (Res.ok ()).bind fun b1224 => .ok (a1223, b1224)).bind (fun d => .ok (d.1.length : Int))).bind fun a1229 => ((((Res.ok p_other).bind fun a1225 => .ok a1225.f_kept).bind fun a1227 => (Res.ok ()).bind fun b1228 => .ok (a1227, b1228)).bind (fun d => .ok (d.1.length : Int))).bind fun b1230 => .ok (!decide (a1229 = b1230))).bind fun x1231 => if x1231 = true then (Res.ok false) else ((((((((Res.ok p_self).bind fun a1233 => .ok a1233.f_kept).bind fun a1235 => (Res.ok ()).bind fun b1236 => .ok (a1235, b1236)).bind (fun d => .ok (d.1.length : Int))).bind fun a1237 => rangeM1 a1237).bind fun l1249 => lcR (fun (i1238 : Int) => ((((Res.ok p_self).bind fun a1240 => .ok a1240.f_kept).bind fun a1241 => (Res.ok i1238).bind fun b1242 => atM a1241 b1242).bind fun a1246 => (((Res.ok p_other).bind fun a1243 => .ok a1243.f_kept).bind fun a1244 => (Res.ok i1238).bind fun b1245 => atM a1244 b1245).bind fun b1247 => qEq a1246 (.q b1247))) l1249).bind fun a1251 => (Res.ok ()).bind fun b1252 => .ok (a1251, b1252)).bind (fun d => .ok (d.1.all id)))))
abbrev C_Line_eq (P : Program) (w : World) (K : PySem.W.Frag) (mg : Str → Option Value) (base : Heap) : Prop := FnR P w K mg base (L2.CX P w) 2 (He.ma K (He.ga K "Line") "__eq__") (spF K (aCons (rp (r_Line K)) (aCons (rp (r_Line K)) aNil)) (fun d => m_Line_eq d.1 d.2.1) (rp rBl))
theorem ok_Line_eq {P : Program} {w : World} {K : PySem.W.Frag} {mg : Str → Option Value} {base : Heap} (T : Txt K mg) (c_Fraction_eq : C_Fraction_eq P w K mg base) {fd : FuncData} (F : FunD K "__eq__" "Line.__eq__" (defArgs s_Line_eq) (defBody s_Line_eq) (defScope s_Line_eq) [] [] (He.ma K (He.ga K "Line") "__eq__") fd) : FnOk P w K mg base (L2.CX P w) 2 (He.ma K (He.ga K "Line") "__eq__") fd ["self", "other"] (spF K (aCons (rp (r_Line K)) (aCons (rp (r_Line K)) aNil)) (fun d => m_Line_eq d.1 d.2.1) (rp rBl)) := by
  refine FunD.fn (k := 1) (N := ["self", "other", "k"]) (ps := ["self", "other"]) F sc_Line_eq (fun I H vs d h => ?_) (fun cdv A outer s I0 H0 E vs d hr sm h => ?_)
  · obtain ⟨v0, _, rfl, h0, v1, _, rfl, h1, rfl⟩ := h; rfl
  obtain ⟨v0, _, rfl, h0, v1, _, rfl, h1, rfl⟩ := h
  have hx : ∀ {ctx : List (Option SF)} {mem : List MF} (I H : Hp) (σ : St) (d : Option Addr), Stt I0 H0 ctx mem I H σ → Fr H0 d → bK I0 H0 I H σ d := fun _ _ _ _ s f => ⟨s.fm, f⟩
  have tk : Takes (bx P w K mg base ["self", "other", "k"] "Line.__eq__" (defScope s_Line_eq) (He.ma K (He.ga K "Line") "__eq__") cdv A outer s H0 E) (bW E) := takes_of rfl rfl rfl rfl
  obtain ⟨p_self, p_other, _⟩ := d
  exact ⟨Stt I0 H0 [some (SF.mk (r_Line K) p_self), some (SF.mk (r_Line K) p_other), none] [], Stt.start sm ⟨h0, h1, ini_nil rfl⟩ rfl (by simp), (JR.ifR (JT.not (JT.of (JE.isi (JE.var 1) (w_glob_at T.g_Line rfl (by decide)) (.own _) (tyr_ins T.o_Line insI T.kt_Line_Line) T.n_isinstance))) JR.dead (JR.ifR (JT.cmp (JE.callB (JA.cons (JE.rd (JE.fld (JE.var 0) (fldI (fl_Line_kept K)) T.o_Line.cl T.na_Line_kept)) JA.nil) cj_len T.n_len boot_len) (JE.callB (JA.cons (JE.rd (JE.fld (JE.var 1) (fldI (fl_Line_kept K)) T.o_Line.cl T.na_Line_kept)) JA.nil) cj_len T.n_len boot_len) opj_ne) (JR.ret JE.bl hx) (JR.ret (JE.callB (JA.cons (JE.rd (JE.ofM (JM.lcT (r := rBl) 2 (JI.range1 (JE.callB (JA.cons (JE.rd (JE.fld (JE.var 0) (fldI (fl_Line_kept K)) T.o_Line.cl T.na_Line_kept)) JA.nil) cj_len T.n_len boot_len) T.n_range) (fun _ _ _ _ _ D acc i1238 tk1239 => (JE.at (c' := [some (SF.mk (r_Line K) p_self), some (SF.mk (r_Line K) p_other), some (SF.mk rInt i1238)]) (JE.cmp (JE.ix (JE.rd (JE.fld (JE.var 0) (fldI (fl_Line_kept K)) T.o_Line.cl T.na_Line_kept)) (JE.var 2)) (JE.ix (JE.rd (JE.fld (JE.var 1) (fldI (fl_Line_kept K)) T.o_Line.cl T.na_Line_kept)) (JE.var 2)) (opj_cqq (op := .Eq) (g := fun d => qEq d.1 d.2.1) (fun _ _ => rfl) T.o_Fraction T.om_Fraction_eq T.nf_Fraction.1 c_Fraction_eq (hr.mono (by decide)) tk1239)))) sc_Line_eq.nd (blkok_of (by kernel_rfl))))) JA.nil) (cj_all rfl) T.n_all boot_all) hx) hx) hx)⟩
theorem fn_Line_eq {P : Program} {w : World} {K : PySem.W.Frag} {mg : Str → Option Value} {base : Heap} (T : Txt K mg) (c_Fraction_eq : C_Fraction_eq P w K mg base) : FnR P w K mg base (L2.CX P w) 2 (He.ma K (He.ga K "Line") "__eq__") (spF K (aCons (rp (r_Line K)) (aCons (rp (r_Line K)) aNil)) (fun d => m_Line_eq d.1 d.2.1) (rp rBl)) := by
  obtain ⟨fd, F⟩ := T.F_Line_eq
  exact FnOk.fr0 (ok_Line_eq T c_Fraction_eq F) (F.bindsN fun _ _ _ _ _ _ us hl => match us, hl with | [_, _], _ => rfl)
theorem sc_law : FnScope ["_law_script", "_law_choice", "_law_pairs", "_law_others", "_law_place_here", "_law_first", "_law_pair", "_law_second", "_law_same"] ["_law_script"] (defScope s_law) := ⟨rfl, rfl, rfl, by decide +kernel, rfl, by decide +kernel, by decide +kernel⟩
def m_law (p_law_script : (List Int)) : Res Bool :=
  (((((((Res.ok p_law_script).bind fun a6 => ((Res.ok (0 : Int)).bind fun a4 => (Res.ok ()).bind fun b5 => .ok (a4, b5)).bind fun b7 => .ok (a6, b7)).bind (fun d => m_law_cell d.1 d.2.1)).bind fun a8 => (Res.ok ()).bind fun b9 => .ok (a8, b9)).bind (fun d => .ok d.1)).bind fun a12 => ((Res.ok (10 : Int)).bind fun a10 => (Res.ok (9 : Int)).bind fun b11 => powI a10 b11).bind fun b13 => modI a12 b13).bind fun v_law_choice_1 => ((((Res.ok p_law_script).bind fun a19 => ((Res.ok (1 : Int)).bind fun a17 => (Res.ok ()).bind fun b18 => .ok (a17, b18)).bind fun b20 => .ok (a19, b20)).bind (fun d => m_law_list d.1 d.2.1)).bind fun v_law_pairs_14 => (((Res.ok v_law_pairs_14).bind fun a22 => .ok a22).bind fun v_law_others_21 => ((((((Res.ok v_law_choice_1).bind fun a24 => (Res.ok (3 : Int)).bind fun b25 => modI a24 b25).bind fun a26 => (Res.ok (0 : Int)).bind fun b27 => .ok (decide (a26 > b27))).bind fun a33 => if a33 = true then ((((Res.ok v_law_pairs_14).bind fun a29 => (Res.ok ()).bind fun b30 => .ok (a29, b30)).bind (fun d => .ok (d.1.length : Int))).bind fun a31 => (Res.ok (0 : Int)).bind fun b32 => .ok (decide (a31 > b32))) else .ok false).bind fun x93 => if x93 = true then ((((Res.ok v_law_choice_1).bind fun a37 => (Res.ok (3 : Int)).bind fun b38 => fdivI a37 b38).bind fun a42 => (((Res.ok v_law_pairs_14).bind fun a40 => (Res.ok ()).bind fun b41 => .ok (a40, b41)).bind (fun d => .ok (d.1.length : Int))).bind fun b43 => modI a42 b43).bind fun v_law_place_here_36 => ((((((Res.ok v_law_choice_1).bind fun a44 => (Res.ok (3 : Int)).bind fun b45 => modI a44 b45).bind fun a46 => (Res.ok (1 : Int)).bind fun b47 => .ok (decide (a46 = b47))).bind fun a53 => if a53 = true then ((((Res.ok v_law_pairs_14).bind fun a48 => (Res.ok v_law_place_here_36).bind fun b49 => atM a48 b49).bind fun a51 => (Res.ok ()).bind fun b52 => .ok (a51, b52)).bind (fun d => m_law_inside d.1)) else .ok false).bind fun x79 => if x79 = true then ((((((((Res.ok v_law_pairs_14).bind fun a54 => (Res.ok v_law_place_here_36).bind fun b55 => atM a54 b55).bind fun a56 => .ok a56.1).bind fun a57 => (Res.ok (2 : Int)).bind fun b58 => mulI a57 b58).bind fun a59 => (Res.ok (1 : Int)).bind fun b60 => .ok (a59 + b60)).bind fun a72 => ((((((Res.ok v_law_pairs_14).bind fun a61 => (Res.ok v_law_place_here_36).bind fun b62 => atM a61 b62).bind fun a63 => .ok a63.2.1).bind fun a64 => (Res.ok (2 : Int)).bind fun b65 => mulI a64 b65).bind fun a66 => (Res.ok (2 : Int)).bind fun b67 => .ok (a66 + b67)).bind fun a70 => (Res.ok ()).bind fun b71 => .ok (a70, b71)).bind fun b73 => .ok (a72, b73)).bind fun y76 => (Res.ok v_law_place_here_36).bind fun k77 => putM v_law_others_21 k77 y76).bind fun v_law_others_75 => (Res.ok v_law_others_75)) else (Res.ok v_law_others_21)).bind fun s78 => (((((Res.ok v_law_choice_1).bind fun a80 => (Res.ok (3 : Int)).bind fun b81 => modI a80 b81).bind fun a82 => (Res.ok (2 : Int)).bind fun b83 => .ok (decide (a82 = b83))).bind fun x92 => if x92 = true then (((Res.ok s78).bind fun a87 => ((Res.ok v_law_place_here_36).bind fun b88 => .ok (some b88)).bind fun b89 => (Res.ok none).bind fun c90 => .ok (cutL a87 b89 c90)).bind fun v_law_others_86 => (Res.ok v_law_others_86)) else (Res.ok s78)).bind fun s85 => (Res.ok s85)))) else (Res.ok v_law_others_21)).bind fun s35 => ((((((Res.ok v_law_pairs_14).bind fun a95 => (Res.ok ()).bind fun b96 => .ok (a95, b96)).bind (fun d => m_law_made d.1)).bind fun a97 => .ok (!a97)).bind fun a112 => if a112 = true then .ok true else (((((Res.ok v_law_pairs_14).bind fun a99 => (Res.ok ()).bind fun b100 => .ok (a99, b100)).bind (fun d => m_law_cut d.1)).bind fun a101 => .ok (!a101)).bind fun a111 => if a111 = true then .ok true else (((((Res.ok s35).bind fun a103 => (Res.ok ()).bind fun b104 => .ok (a103, b104)).bind (fun d => m_law_made d.1)).bind fun a105 => .ok (!a105)).bind fun a110 => if a110 = true then .ok true else ((((Res.ok s35).bind fun a107 => (Res.ok ()).bind fun b108 => .ok (a107, b108)).bind (fun d => m_law_cut d.1)).bind fun a109 => .ok (!a109))))).bind fun x113 => if x113 = true then (Res.ok false) else ((((((Res.ok v_law_pairs_14).bind fun a116 => (Res.ok ()).bind fun b117 => .ok (a116, b117)).bind (fun d => m_law_place d.1)).bind fun a118 => (Res.ok (0 : Int)).bind fun b119 => .ok (decide (a118 ≥ b119))).bind fun a125 => if a125 = true then .ok true else ((((Res.ok s35).bind fun a121 => (Res.ok ()).bind fun b122 => .ok (a121, b122)).bind (fun d => m_law_place d.1)).bind fun a123 => (Res.ok (0 : Int)).bind fun b124 => .ok (decide (a123 ≥ b124)))).bind fun x126 => if x126 = true then (Res.ok true) else (((((Res.ok v_law_pairs_14).bind fun l135 => lcR (fun (i129 : (Int × Int × Unit)) => (((Res.ok i129).bind fun a132 => (Res.ok ()).bind fun b133 => .ok (a132, b133)).bind (fun d => m_law_handed d.1))) l135).bind fun a139 => (Res.ok ()).bind fun b140 => .ok (a139, b140)).bind (fun d => m_Line_1 d.1)).bind fun v_law_first_128 => (((((Res.ok s35).bind fun l148 => lcR (fun (i142 : (Int × Int × Unit)) => (((Res.ok i142).bind fun a145 => (Res.ok ()).bind fun b146 => .ok (a145, b146)).bind (fun d => m_law_handed d.1))) l148).bind fun a152 => (Res.ok ()).bind fun b153 => .ok (a152, b153)).bind (fun d => m_Line_1 d.1)).bind fun v_law_second_141 => ((((Res.ok v_law_pairs_14).bind fun a159 => ((Res.ok s35).bind fun a157 => (Res.ok ()).bind fun b158 => .ok (a157, b158)).bind fun b160 => .ok (a159, b160)).bind (fun d => m_law_equal d.1 d.2.1)).bind fun v_law_same_154 => ((((Res.ok v_law_first_128).bind fun a161 => (Res.ok v_law_second_141).bind fun b162 => m_Line_eq a161 b162).bind fun a163 => (Res.ok v_law_same_154).bind fun b164 => .ok (decide (a163 = b164))).bind fun a176 => if a176 = true then ((((Res.ok v_law_first_128).bind fun a165 => (Res.ok v_law_second_141).bind fun b166 => (m_Line_eq a165 b166).bind fun z => .ok (!z)).bind fun a167 => (Res.ok v_law_same_154).bind fun b168 => .ok (!decide (a167 = b168))).bind fun a175 => if a175 = true then (((Res.ok v_law_first_128).bind fun a169 => (Res.ok v_law_first_128).bind fun b170 => m_Line_eq a169 b170).bind fun a174 => if a174 = true then (((Res.ok v_law_first_128).bind fun a171 => (Res.ok v_law_first_128).bind fun b172 => (m_Line_eq a171 b172).bind fun z => .ok (!z)).bind fun a173 => .ok (!a173)) else .ok false) else .ok false) else .ok false))))))))))
abbrev C_law (P : Program) (w : World) (K : PySem.W.Frag) (mg : Str → Option Value) (base : Heap) : Prop := FnR P w K mg base (L2.CX P w) 12 (He.ga K "law") (spF K (aCons (rdL K (rp rInt)) aNil) (fun d => m_law d.1) (rp rBl))
theorem fn_law {P : Program} {w : World} {K : PySem.W.Frag} {mg : Str → Option Value} {base : Heap} (T : Txt K mg) (c_law_cell : C_law_cell P w K mg base) (c_law_list : C_law_list P w K mg base) (c_law_inside : C_law_inside P w K mg base) (c_law_made : C_law_made P w K mg base) (c_law_cut : C_law_cut P w K mg base) (c_law_place : C_law_place P w K mg base) (c_Line_1 : C_Line_1 P w K mg base) (c_law_handed : C_law_handed P w K mg base) (c_law_equal : C_law_equal P w K mg base) (c_Line_eq : C_Line_eq P w K mg base) {fd : FuncData} (F : FunD K "law" "law" (defArgs s_law) (defBody s_law) (defScope s_law) [] [] (He.ga K "law") fd) : FnOk P w K mg base (L2.CX P w) 12 (He.ga K "law") fd ["_law_script"] (spF K (aCons (rdL K (rp rInt)) aNil) (fun d => m_law d.1) (rp rBl)) := by
  refine FunD.fn (k := 11) (N := ["_law_script", "_law_choice", "_law_pairs", "_law_others", "_law_place_here", "_law_first", "_law_pair", "_law_second", "_law_same"]) (ps := ["_law_script"]) F sc_law (fun I H vs d h => ?_) (fun cdv A outer s I0 H0 E vs d hr sm h => ?_)
  · obtain ⟨v0, _, rfl, h0, rfl⟩ := h; rfl
  obtain ⟨v0, _, rfl, h0, rfl⟩ := h
  have hx : ∀ {ctx : List (Option SF)} {mem : List MF} (I H : Hp) (σ : St) (d : Option Addr), Stt I0 H0 ctx mem I H σ → Fr H0 d → bK I0 H0 I H σ d := fun _ _ _ _ s f => ⟨s.fm, f⟩
  have tk : Takes (bx P w K mg base ["_law_script", "_law_choice", "_law_pairs", "_law_others", "_law_place_here", "_law_first", "_law_pair", "_law_second", "_law_same"] "law" (defScope s_law) (He.ga K "law") cdv A outer s H0 E) (bW E) := takes_of rfl rfl rfl rfl
  obtain ⟨p_law_script, _⟩ := d
  exact ⟨Stt I0 H0 [some (SF.mk (fun I v x => (rdL K (rp rInt)) I H0 v x) p_law_script), none, none, none, none, none, none, none, none] [], Stt.start sm ⟨h0, ini_nil rfl⟩ rfl (by simp), (JR.seq (J1.cx (c' := fun v_law_choice_1 => [some (SF.mk (fun I v x => (rdL K (rp rInt)) I H0 v x) p_law_script), some (SF.mk rInt v_law_choice_1), none, none, none, none, none, none, none]) (J1.set 1 (JE.bin (JE.callTy (JA.cons (JE.call (JA.cons (JE.varP 0 (r := (rdL K (rp rInt)))) (JA.cons JE.int JA.nil)) (cj_of c_law_cell (hr.mono (by decide)) tk) T.g_law_cell T.k_law_cell) JA.nil) cj_int T.n_int boot_int) (JE.bin JE.int JE.int opj_pow) opj_mod) hx sc_law.nd)) fun v_law_choice_1 => (JR.seq (J1.cx (c' := fun v_law_pairs_14 => [some (SF.mk (fun I v x => (rdL K (rp rInt)) I H0 v x) p_law_script), some (SF.mk rInt v_law_choice_1), some (SF.mk (rL (rTu (aCons (rp rInt) (aCons (rp rInt) aNil)))) v_law_pairs_14), none, none, none, none, none, none]) (J1.set 2 (JE.ofM (JM.call (JA.cons (JE.varP 0 (r := (rdL K (rp rInt)))) (JA.cons JE.int JA.nil)) (cn_of c_law_list (hr.mono (by decide)) tk) T.g_law_list T.k_law_list)) hx sc_law.nd)) fun v_law_pairs_14 => (JR.seq (J1.cn (c' := fun v_law_others_21 l23 => [some (SF.mk (fun I v x => (rdL K (rp rInt)) I H0 v x) p_law_script), some (SF.mk rInt v_law_choice_1), some (SF.mk (rL (rTu (aCons (rp rInt) (aCons (rp rInt) aNil)))) v_law_pairs_14), some (SF.mk (rRef l23) ()), none, none, none, none, none]) (me' := fun v_law_others_21 l23 => [MF.lst l23 (rTu (aCons (rp rInt) (aCons (rp rInt) aNil))) v_law_others_21]) (J1.setM 3 (JM.list (JE.rd (JE.var 2)) T.n_list) hx sc_law.nd)) fun v_law_others_21 => JR.ex fun l23 => (JR.seq (J1.if (S := (List (Int × Int × Unit))) (G' := fun s35 I H σ => ∃ l34, Stt I0 H0 [some (SF.mk (fun I v x => (rdL K (rp rInt)) I H0 v x) p_law_script), some (SF.mk rInt v_law_choice_1), some (SF.mk (rL (rTu (aCons (rp rInt) (aCons (rp rInt) aNil)))) v_law_pairs_14), some (SF.mk (rRef l34) ()), none, none, none, none, none] [MF.lst l34 (rTu (aCons (rp rInt) (aCons (rp rInt) aNil))) s35] I H σ) (JT.bool (JW.and (JT.cmp (JE.bin (JE.var 1) JE.int opj_mod) JE.int opj_gt) (JW.and1 (JT.cmp (JE.callB (JA.cons (JE.rd (JE.var 2)) JA.nil) cj_len T.n_len boot_len) JE.int opj_gt)))) (JN.seq (J1.cx (c' := fun v_law_place_here_36 => [some (SF.mk (fun I v x => (rdL K (rp rInt)) I H0 v x) p_law_script), some (SF.mk rInt v_law_choice_1), some (SF.mk (rL (rTu (aCons (rp rInt) (aCons (rp rInt) aNil)))) v_law_pairs_14), some (SF.mk (rRef l23) ()), some (SF.mk rInt v_law_place_here_36), none, none, none, none]) (J1.set 4 (JE.bin (JE.bin (JE.var 1) JE.int opj_fdiv) (JE.callB (JA.cons (JE.rd (JE.var 2)) JA.nil) cj_len T.n_len boot_len) opj_mod) hx sc_law.nd)) fun v_law_place_here_36 => (JN.seq (J1.if (S := (List (Int × Int × Unit))) (G' := fun s78 => Stt I0 H0 [some (SF.mk (fun I v x => (rdL K (rp rInt)) I H0 v x) p_law_script), some (SF.mk rInt v_law_choice_1), some (SF.mk (rL (rTu (aCons (rp rInt) (aCons (rp rInt) aNil)))) v_law_pairs_14), some (SF.mk (rRef l23) ()), some (SF.mk rInt v_law_place_here_36), none, none, none, none] [MF.lst l23 (rTu (aCons (rp rInt) (aCons (rp rInt) aNil))) s78]) (JT.bool (JW.and (JT.cmp (JE.bin (JE.var 1) JE.int opj_mod) JE.int opj_eq) (JW.and1 (JT.of (JE.call (JA.cons (JE.ix (JE.rd (JE.var 2)) (JE.var 4)) JA.nil) (cj_of c_law_inside (hr.mono (by decide)) tk) T.g_law_inside T.k_law_inside))))) (JN.seq (J1.cm (c' := fun v_law_others_75 => [some (SF.mk (fun I v x => (rdL K (rp rInt)) I H0 v x) p_law_script), some (SF.mk rInt v_law_choice_1), some (SF.mk (rL (rTu (aCons (rp rInt) (aCons (rp rInt) aNil)))) v_law_pairs_14), some (SF.mk (rRef l23) ()), some (SF.mk rInt v_law_place_here_36), none, none, none, none]) (me' := fun v_law_others_75 => [MF.lst l23 (rTu (aCons (rp rInt) (aCons (rp rInt) aNil))) v_law_others_75]) (J1.put 3 0 (JE.tupD (k := 2) (JA.cons (JE.bin (JE.bin (JE.ixD 0 (JE.ix (JE.rd (JE.var 2)) (JE.var 4)) AtR.zero) JE.int opj_mul) JE.int opj_add) (JA.cons (JE.bin (JE.bin (JE.ixD 1 (JE.ix (JE.rd (JE.var 2)) (JE.var 4)) (AtR.succ AtR.zero)) JE.int opj_mul) JE.int opj_add) JA.nil)) (by rintro _ _ _ _ ⟨_, _, rfl, _, _, _, rfl, _, rfl⟩; rfl)) (JE.var 4) hx)) fun v_law_others_75 => (JN.nil (fun _ _ _ h => h))) (JN.nil (fun _ _ _ h => h)) hx) fun s78 => (JN.seq (J1.if (S := (List (Int × Int × Unit))) (G' := fun s85 I H σ => ∃ l84, Stt I0 H0 [some (SF.mk (fun I v x => (rdL K (rp rInt)) I H0 v x) p_law_script), some (SF.mk rInt v_law_choice_1), some (SF.mk (rL (rTu (aCons (rp rInt) (aCons (rp rInt) aNil)))) v_law_pairs_14), some (SF.mk (rRef l84) ()), some (SF.mk rInt v_law_place_here_36), none, none, none, none] [MF.lst l84 (rTu (aCons (rp rInt) (aCons (rp rInt) aNil))) s85] I H σ) (JT.cmp (JE.bin (JE.var 1) JE.int opj_mod) JE.int opj_eq) (JN.seq (J1.cn (c' := fun v_law_others_86 l91 => [some (SF.mk (fun I v x => (rdL K (rp rInt)) I H0 v x) p_law_script), some (SF.mk rInt v_law_choice_1), some (SF.mk (rL (rTu (aCons (rp rInt) (aCons (rp rInt) aNil)))) v_law_pairs_14), some (SF.mk (rRef l91) ()), some (SF.mk rInt v_law_place_here_36), none, none, none, none]) (me' := fun v_law_others_86 l91 => [MF.lst l91 (rTu (aCons (rp rInt) (aCons (rp rInt) aNil))) v_law_others_86, MF.lst l23 (rTu (aCons (rp rInt) (aCons (rp rInt) aNil))) s78]) (J1.setM 3 (JM.sl (JE.rdM 3 0) (JO.at (JE.var 4)) JO.no) hx sc_law.nd)) fun v_law_others_86 => JN.ex fun l91 => (JN.nil (fun _ _ _ h => ⟨_, (Stt.forgetAt h 1 rfl)⟩))) (JN.nil (fun _ _ _ h => ⟨_, h⟩)) hx) fun s85 => JN.ex fun l84 => (JN.nil (fun _ _ _ h => ⟨_, (Stt.weak h (weak_some (weak_some (weak_some (weak_some (weak_none (weak_none (weak_none (weak_none (weak_none weak_nil))))))))))⟩))))) (JN.nil (fun _ _ _ h => ⟨_, h⟩)) hx) fun s35 => JR.ex fun l34 => (JR.fz 3 0 (ctx' := [some (SF.mk (fun I v x => (rdL K (rp rInt)) I H0 v x) p_law_script), some (SF.mk rInt v_law_choice_1), some (SF.mk (rL (rTu (aCons (rp rInt) (aCons (rp rInt) aNil)))) v_law_pairs_14), some (SF.mk (rL (rTu (aCons (rp rInt) (aCons (rp rInt) aNil)))) s35), none, none, none, none, none]) (mem' := []) (JR.ifR (JT.bool (JW.or (JT.not (JT.of (JE.call (JA.cons (JE.var 2) JA.nil) (cj_of c_law_made (hr.mono (by decide)) tk) T.g_law_made T.k_law_made))) (JW.or (JT.not (JT.of (JE.call (JA.cons (JE.var 2) JA.nil) (cj_of c_law_cut (hr.mono (by decide)) tk) T.g_law_cut T.k_law_cut))) (JW.or (JT.not (JT.of (JE.call (JA.cons (JE.var 3) JA.nil) (cj_of c_law_made (hr.mono (by decide)) tk) T.g_law_made T.k_law_made))) (JW.or1 (JT.not (JT.of (JE.call (JA.cons (JE.var 3) JA.nil) (cj_of c_law_cut (hr.mono (by decide)) tk) T.g_law_cut T.k_law_cut)))))))) (JR.ret JE.bl hx) (JR.ifR (JT.bool (JW.or (JT.cmp (JE.call (JA.cons (JE.var 2) JA.nil) (cj_of c_law_place (hr.mono (by decide)) tk) T.g_law_place T.k_law_place) JE.int opj_ge) (JW.or1 (JT.cmp (JE.call (JA.cons (JE.var 3) JA.nil) (cj_of c_law_place (hr.mono (by decide)) tk) T.g_law_place T.k_law_place) JE.int opj_ge)))) (JR.ret JE.bl hx) (JR.seq (J1.cx (c' := fun v_law_first_128 => [some (SF.mk (fun I v x => (rdL K (rp rInt)) I H0 v x) p_law_script), some (SF.mk rInt v_law_choice_1), some (SF.mk (rL (rTu (aCons (rp rInt) (aCons (rp rInt) aNil)))) v_law_pairs_14), some (SF.mk (rL (rTu (aCons (rp rInt) (aCons (rp rInt) aNil)))) s35), none, some (SF.mk (r_Line K) v_law_first_128), none, none, none]) (J1.set 5 (JE.call (JA.cons (JE.sqL (JE.rd (JE.ofM (JM.lcT (r := (rNum K)) 6 (JI.list (JE.var 2)) (fun _ _ _ _ _ D acc i129 tk130 => (JE.at (c' := [some (SF.mk (fun I v x => (rdL K (rp rInt)) I H0 v x) p_law_script), some (SF.mk rInt v_law_choice_1), some (SF.mk (rL (rTu (aCons (rp rInt) (aCons (rp rInt) aNil)))) v_law_pairs_14), some (SF.mk (rL (rTu (aCons (rp rInt) (aCons (rp rInt) aNil)))) s35), none, none, some (SF.mk (rTu (aCons (rp rInt) (aCons (rp rInt) aNil))) i129), none, none]) (JE.call (JA.cons (JE.var 6) JA.nil) (cj_of c_law_handed (hr.mono (by decide)) tk130) T.g_law_handed T.k_law_handed))) sc_law.nd (blkok_of (by kernel_rfl)))))) JA.nil) (c_Line_1 _ _ rfl rfl rfl rfl rfl (hr.mono (by decide)) tk) T.g_Line T.mk_Line.kp) hx sc_law.nd)) fun v_law_first_128 => (JR.seq (J1.cx (c' := fun v_law_second_141 => [some (SF.mk (fun I v x => (rdL K (rp rInt)) I H0 v x) p_law_script), some (SF.mk rInt v_law_choice_1), some (SF.mk (rL (rTu (aCons (rp rInt) (aCons (rp rInt) aNil)))) v_law_pairs_14), some (SF.mk (rL (rTu (aCons (rp rInt) (aCons (rp rInt) aNil)))) s35), none, some (SF.mk (r_Line K) v_law_first_128), none, some (SF.mk (r_Line K) v_law_second_141), none]) (J1.set 7 (JE.call (JA.cons (JE.sqL (JE.rd (JE.ofM (JM.lcT (r := (rNum K)) 6 (JI.list (JE.var 3)) (fun _ _ _ _ _ D acc i142 tk143 => (JE.at (c' := [some (SF.mk (fun I v x => (rdL K (rp rInt)) I H0 v x) p_law_script), some (SF.mk rInt v_law_choice_1), some (SF.mk (rL (rTu (aCons (rp rInt) (aCons (rp rInt) aNil)))) v_law_pairs_14), some (SF.mk (rL (rTu (aCons (rp rInt) (aCons (rp rInt) aNil)))) s35), none, some (SF.mk (r_Line K) v_law_first_128), some (SF.mk (rTu (aCons (rp rInt) (aCons (rp rInt) aNil))) i142), none, none]) (JE.call (JA.cons (JE.var 6) JA.nil) (cj_of c_law_handed (hr.mono (by decide)) tk143) T.g_law_handed T.k_law_handed))) sc_law.nd (blkok_of (by kernel_rfl)))))) JA.nil) (c_Line_1 _ _ rfl rfl rfl rfl rfl (hr.mono (by decide)) tk) T.g_Line T.mk_Line.kp) hx sc_law.nd)) fun v_law_second_141 => (JR.seq (J1.cx (c' := fun v_law_same_154 => [some (SF.mk (fun I v x => (rdL K (rp rInt)) I H0 v x) p_law_script), some (SF.mk rInt v_law_choice_1), some (SF.mk (rL (rTu (aCons (rp rInt) (aCons (rp rInt) aNil)))) v_law_pairs_14), some (SF.mk (rL (rTu (aCons (rp rInt) (aCons (rp rInt) aNil)))) s35), none, some (SF.mk (r_Line K) v_law_first_128), none, some (SF.mk (r_Line K) v_law_second_141), some (SF.mk rBl v_law_same_154)]) (J1.set 8 (JE.call (JA.cons (JE.var 2) (JA.cons (JE.var 3) JA.nil)) (cj_of c_law_equal (hr.mono (by decide)) tk) T.g_law_equal T.k_law_equal) hx sc_law.nd)) fun v_law_same_154 => (JR.ret (JE.and (JE.cmp (JE.cmp (JE.var 5) (JE.var 7) (opj_cmp2 (op := .Eq) (fun _ _ => rfl) T.o_Line T.om_Line_eq hr.units0 T.nf_Line.1 insI insI (cj_of c_Line_eq (hr.mono (by decide)) tk))) (JE.var 8) opj_eqB) (JE.and (JE.cmp (JE.cmp (JE.var 5) (JE.var 7) (opj_neO2 T.o_Line T.om_Line_eq (hr.mono (by decide)) tk T.nf_Line.1 insI insI c_Line_eq)) (JE.var 8) opj_neB) (JE.and (JE.cmp (JE.var 5) (JE.var 5) (opj_cmp2 (op := .Eq) (fun _ _ => rfl) T.o_Line T.om_Line_eq hr.units0 T.nf_Line.1 insI insI (cj_of c_Line_eq (hr.mono (by decide)) tk))) (JE.one (JE.not (JE.cmp (JE.var 5) (JE.var 5) (opj_neO2 T.o_Line T.om_Line_eq (hr.mono (by decide)) tk T.nf_Line.1 insI insI c_Line_eq))))))) hx)))) hx) hx))))))⟩
end L2.Tr

namespace L2.Tr
open PySem PySem.Spec PyProof.Rows
theorem tryG_ok' {S L γ : Type} {x : Fl S L γ} {Ls : List (Str × Bool)} {h : Exn → Res (Fl S L γ)} : tryG (.ok x) Ls h = .ok x := by
  have k : ∀ m : Res (Fl S L γ), m = .ok x → tryG m Ls h = .ok x := fun m e => by subst e; rfl
  exact k _ rfl
theorem optM_no {α β : Type} {f1 : β} {f2 : α → β} : optM none f1 f2 = f1 := by
  have h : ∀ m : Option α, m = none → optM m f1 f2 = f1 := fun m e => by subst e; rfl
  exact h _ rfl
theorem optM_so {α β : Type} {y : α} {f1 : β} {f2 : α → β} : optM (some y) f1 f2 = f2 y := by
  have h : ∀ m : Option α, m = some y → optM m f1 f2 = f2 y := fun m e => by subst e; rfl
  exact h _ rfl

theorem cell_eq (ns : List Int) (k : Int) (hk : 0 ≤ k) : m_law_cell ns k = .ok (ns.getD k.toNat 0) := by
  unfold m_law_cell
  simp only [Res.okb]
  by_cases h : k < (ns.length : Int)
  · simp only [h, decide_true, if_true]
    have hl : k.toNat < ns.length := by omega
    have e : atM ns ((k.toNat : Nat) : Int) = .ok (ns.getD k.toNat 0) := atM_nat (by simp [List.getD, hl])
    rwa [Int.toNat_of_nonneg hk] at e
  · simp only [h, decide_false, Bool.false_eq_true, if_false]
    have : ns[k.toNat]? = none := List.getElem?_eq_none (by omega)
    simp [List.getD, this]

theorem row_ok (c s n : Int) (hs : 0 < s) (hs2 : s < 2 ^ 4000) (hn0 : 0 ≤ n) (hn : n ≤ 100) : Ok (m_law_row c s n) fun xs => xs.length = n.toNat ∧ ∀ x ∈ xs, 0 ≤ x ∧ x < s := by
  unfold m_law_row
  simp only [Res.okb, Res.bind_assoc]
  rw [show powI 10 18 = .ok (10 ^ 18) from rfl, Res.okb, rangeM1_ok ⟨by omega, by omega⟩, Res.okb]
  generalize hN : (if c < 0 then -c else c) = N
  have hN0 : 0 ≤ N := by rw [← hN]; split <;> omega
  have app : ∀ {xs : List Int} {i : Nat} {y : Int}, xs.length = i → i < 100 → (∀ x ∈ xs, 0 ≤ x ∧ x < s) → appM xs (y % s) = .ok (xs ++ [y % s]) ∧ (xs ++ [y % s]).length = i + 1 ∧ ∀ x ∈ xs ++ [y % s], 0 ≤ x ∧ x < s := fun {xs i y} h1 h2 h3 => by
    refine ⟨appM_ok (by omega), by rw [List.length_append, h1]; rfl, fun x hx => ?_⟩
    rcases List.mem_append.mp hx with h | h
    · exact h3 x h
    · rw [List.mem_singleton.mp h]; exact ⟨Int.emod_nonneg _ (by omega), Int.emod_lt_of_pos _ hs⟩
  refine Ok.bind (Ok.forS (fun i (st : Int × List Int) => 0 ≤ st.1 ∧ (N < 10 ^ 18 → st.1 = N) ∧ st.2.length = i ∧ ∀ x ∈ st.2, 0 ≤ x ∧ x < s) ⟨hN0, fun _ => rfl, rfl, by simp⟩ fun i x st e h => ?_) fun st h => .ok ⟨by rw [h.2.2.1, rngI_len], h.2.2.2⟩
  obtain ⟨ex, ei⟩ := rngI_get e
  obtain ⟨h1, h2, h3, h4⟩ := h
  have hi : i < 100 := by omega
  by_cases hg : N ≥ 10 ^ 18
  · rw [if_pos (decide_eq_true hg), modI_pos hs, Res.okb, (app h3 hi h4).1, Res.okb, fdivI_pos hs hs2]
    exact .ok ⟨Int.ediv_nonneg h1 (by omega), fun hh => by omega, (app h3 hi h4).2⟩
  · rw [if_neg (by simpa using hg)]
    have e1 := h2 (by omega)
    rw [mulI_le (s := 60) (t := 13) (by omega) (by decide) (by decide), Res.okb, mulI_le (s := 7) (t := 17) (by omega) (by decide) (by decide)]
    simp only [Res.okb]
    rw [show (3 : Int) = ((3 : Nat) : Int) from rfl, powI_le (s := 80) (by omega) (by decide), Res.okb, modI_pos (by decide), Res.okb]
    generalize hb : (st.1 * 7919 + x * 104729 + 13) ^ 3 % 2147483647 = b
    have hb0 : 0 ≤ b ∧ b < 2147483647 := by rw [← hb]; exact ⟨Int.emod_nonneg _ (by decide), Int.emod_lt_of_pos _ (by decide)⟩
    rw [mulI_le (s := 31) (t := 16) (by omega) (by decide) (by decide)]
    simp only [Res.okb]
    rw [mulI_le (s := 7) (t := 17) (by omega) (by decide) (by decide)]
    simp only [Res.okb]
    rw [show (2 : Int) = ((2 : Nat) : Int) from rfl, powI_le (s := 62) (by omega) (by decide), Res.okb, modI_pos (by decide), Res.okb, modI_pos hs, Res.okb, (app h3 hi h4).1]
    exact .ok ⟨h1, h2, (app h3 hi h4).2⟩

/-! loops that stop at the first item of a kind -/
theorem forS_find {β : Type} {f : β → Unit → Res Unit} {p : β → Bool} {er : β → Exn} {xs : List β} (hf : ∀ x, x ∈ xs → f x () = if p x = true then .err (er x) else .ok ()) : forS f xs () = (match xs.find? p with | some x => .err (er x) | none => .ok ()) := by
  induction xs with
  | nil => rfl
  | cons x xs ih =>
    unfold forS
    rw [hf x List.mem_cons_self, List.find?_cons]
    cases h : p x with
    | true => rfl
    | false =>
      rw [if_neg (by decide), Res.okb]
      exact ih fun y hy => hf y (List.mem_cons_of_mem _ hy)
theorem forG_find {β γ L : Type} {f : β → Unit → Res (Fl Unit Unit γ)} {p : β → Bool} {r : β → γ} {xs : List β} (hf : ∀ x, x ∈ xs → f x () = if p x = true then .ok (.rt (r x)) else .ok (.nx ())) : (forG f xs () : Res (Fl Unit L γ)) = .ok (match xs.find? p with | some x => .rt (r x) | none => .nx ()) := by
  induction xs with
  | nil => rfl
  | cons x xs ih =>
    unfold forG
    rw [hf x List.mem_cons_self, List.find?_cons]
    cases h : p x with
    | true => rfl
    | false =>
      rw [if_neg (by decide)]
      exact ih fun y hy => hf y (List.mem_cons_of_mem _ hy)
theorem find_rng {p : Int → Bool} {q : Nat → Bool} {n : Nat} (h : ∀ i, i < n → p (i : Int) = q i) : (rngI 0 n).find? p = ((List.range n).find? q).map fun (i : Nat) => (i : Int) := by
  rw [rngI_eq, List.find?_map]
  congr 1
  have : ∀ l : List Nat, (∀ i ∈ l, i < n) → l.find? (p ∘ fun (i : Nat) => (i : Int)) = l.find? q := fun l hl => by
    induction l with
    | nil => rfl
    | cons x l ih =>
      rw [List.find?_cons, List.find?_cons, show (p ∘ fun (i : Nat) => (i : Int)) x = q x from h x (hl x List.mem_cons_self), ih fun i hi => hl i (List.mem_cons_of_mem _ hi)]
  exact this _ fun i hi => List.mem_range.mp hi
theorem find_some {q : Nat → Bool} {n k : Nat} (h : (List.range n).find? q = some k) : k < n ∧ q k = true ∧ ∀ i, i < k → q i = false := by
  rw [List.find?_range_eq_some] at h
  exact ⟨List.mem_range.mp h.2.1, h.1, fun i hi => by simpa using h.2.2 i hi⟩
theorem find_none {q : Nat → Bool} {n : Nat} (h : (List.range n).find? q = none) : ∀ i, i < n → q i = false := fun i hi => by
  have := List.find?_eq_none.mp h i (List.mem_range.mpr hi)
  simpa using this

theorem pv_eq_iff {p q : Pr} (hp : 0 < p.2.1) (hq : 0 < q.2.1) : p.1 * q.2.1 = q.1 * p.2.1 ↔ pv p = pv q := (Rat.divInt_eq_divInt_iff (by omega) (by omega)).symm
theorem pv_lt1 {p : Pr} (h : 0 < p.2.1) : pv p < ((1 : Int) : Rat) ↔ p.1 < p.2.1 := by
  have := divs_lt (a := p.1) (b := p.2.1) (c := 1) (d := 1) h (by decide)
  rw [show Rat.divInt 1 1 = ((1 : Int) : Rat) from by decide] at this
  exact this.trans (by omega)
theorem pv_gt1 {p : Pr} (h : 0 < p.2.1) : ((1 : Int) : Rat) < pv p ↔ p.2.1 < p.1 := by
  have := divs_lt (a := 1) (b := 1) (c := p.1) (d := p.2.1) (by decide) h
  rw [show Rat.divInt 1 1 = ((1 : Int) : Rat) from by decide] at this
  exact this.trans (by omega)
theorem pv_lt0 {p : Pr} (h : 0 < p.2.1) : pv p < ((0 : Int) : Rat) ↔ p.1 < 0 := by
  have := divs_lt (a := p.1) (b := p.2.1) (c := 0) (d := 1) h (by decide)
  rw [show Rat.divInt 0 1 = ((0 : Int) : Rat) from by decide] at this
  exact this.trans (by omega)
theorem pv_gt0 {p : Pr} (h : 0 < p.2.1) : ((0 : Int) : Rat) < pv p ↔ 0 < p.1 := by
  have := divs_lt (a := 0) (b := 1) (c := p.1) (d := p.2.1) (by decide) h
  rw [show Rat.divInt 0 1 = ((0 : Int) : Rat) from by decide] at this
  exact this.trans (by omega)
theorem pv_is0 {p : Pr} (h : 0 < p.2.1) : pv p = ((0 : Int) : Rat) ↔ p.1 = 0 := pv_zero h
theorem pv_is1 {p : Pr} (h : 0 < p.2.1) : pv p = ((1 : Int) : Rat) ↔ p.1 = p.2.1 := by
  have := pv_eq_iff (p := p) (q := (1, 1, ())) h (by decide)
  rw [show pv (1, 1, ()) = ((1 : Int) : Rat) from by decide] at this
  exact this.symm.trans (by simp)
def inq (p : Pr) : Bool := decide (0 < p.1) && decide (p.1 < p.2.1)
def enq (p : Pr) : Bool := decide (p.1 = 0) || decide (p.1 = p.2.1)
def ouq (p : Pr) : Bool := decide (p.1 < 0) || decide (p.2.1 < p.1)
theorem inside_ok (p : Pr) : m_law_inside p = .ok (inq p) := by
  unfold m_law_inside inq
  simp only [Res.okb]
  by_cases h : 0 < p.1 <;> simp [h]
theorem at_end_ok (p : Pr) : m_law_at_end p = .ok (enq p) := by
  unfold m_law_at_end enq
  simp only [Res.okb]
  by_cases h : p.1 = 0 <;> simp [h]
abbrev d0 : Pr := (0, 1, ())
theorem at_d {ps : List Pr} {k : Nat} (h : k < ps.length) : atM ps (k : Int) = .ok (ps.getD k d0) := by
  rw [atM_lt (by omega) (by rw [Int.toNat_natCast]; exact h), List.getD_eq_getElem?_getD, List.getElem?_eq_getElem h]
  simp only [Int.toNat_natCast, Option.getD_some]
def plc (ps : List Pr) : Int := match (List.range (ps.length - 1)).find? (fun k => !inq (ps.getD k d0)) with
  | some k => (k : Int)
  | none => if ps.length = 0 then 0 else if enq (ps.getD (ps.length - 1) d0) = true then -1 else (ps.length : Int) - 1
theorem place_ok {ps : List Pr} (hl : ps.length ≤ 1000) : m_law_place ps = .ok (plc ps) := by
  unfold m_law_place
  simp only [Res.okb, Res.bind_assoc]
  rw [rangeM1_ok ⟨by omega, by omega⟩, Res.okb, show ((ps.length : Int) - 1).toNat = ps.length - 1 by omega]
  rw [forG_find (p := fun x : Int => !inq (ps.getD x.toNat d0)) (r := fun x => x) fun x hx => ?_, Res.okb, find_rng (q := fun k => !inq (ps.getD k d0)) fun i _ => by rw [Int.toNat_natCast]]
  · unfold plc
    cases h : (List.range (ps.length - 1)).find? fun k => !inq (ps.getD k d0) with
    | some k => rfl
    | none =>
      dsimp only [Option.map_none]
      rw [Fl.okb_out]
      by_cases hz : ps.length = 0
      · rw [if_pos (by rw [decide_eq_true_iff]; omega), if_pos hz]
      · rw [if_neg (by rw [decide_eq_true_iff]; omega), if_neg hz, show (ps.length : Int) - 1 = ((ps.length - 1 : Nat) : Int) by omega, at_d (by omega), Res.okb, at_end_ok, Res.okb]
        cases enq (ps.getD (ps.length - 1) d0) <;> rfl
  · obtain ⟨x1, x2⟩ := rngI_mem hx
    have e := at_d (ps := ps) (k := x.toNat) (by omega)
    rw [Int.toNat_of_nonneg x1] at e
    rw [e, Res.okb, inside_ok, Res.okb]
def mkL (ps : List Pr) : O_Line := ⟨ps.map pv, (pv (ps.getD (ps.length - 1) d0)).num, ((ps.length : Int) + (pv (ps.getD (ps.length - 1) d0)).num + 1) / 2, ((ps.length : Int) + (pv (ps.getD (ps.length - 1) d0)).num) / 2⟩
theorem at_v {ps : List Pr} {k : Nat} (h : k < ps.length) : atM (ps.map pv) (k : Int) = .ok (pv (ps.getD k d0)) := by
  rw [atM_lt (by omega) (by rw [Int.toNat_natCast, List.length_map]; exact h), List.getD_eq_getElem?_getD, List.getElem?_eq_getElem h]
  simp only [Int.toNat_natCast, Option.getD_some, List.getElem_map]
theorem at_l {ps : List Pr} (h : ps.length ≠ 0) : atM (ps.map pv) (-1) = .ok (pv (ps.getD (ps.length - 1) d0)) := by
  rw [atM_last (by rw [List.length_map]; omega), List.getD_eq_getElem?_getD, List.getElem?_eq_getElem (by omega)]
  simp only [List.length_map, Option.getD_some, List.getElem_map]
theorem fits_iv (n : Int) (h : n.natAbs ≤ 1) : fits (Num.i n).val := fits_int.mpr (show n.natAbs ≤ big from Nat.le_trans h (Nat.pow_pos (by decide)))
theorem getD_pb {ps : List Pr} {s : Nat} (h : ∀ p ∈ ps, PB s p) (k : Nat) : PB s (ps.getD k d0) := by
  by_cases hk : k < ps.length
  · rw [List.getD_eq_getElem?_getD, List.getElem?_eq_getElem hk]; exact h _ (List.getElem_mem hk)
  · rw [List.getD_eq_getElem?_getD, List.getElem?_eq_none (by omega)]; exact (show PB 0 d0 from ⟨by decide, by decide, by decide⟩).mono (Nat.zero_le s)
theorem init_line {g : List Num} {ps : List Pr} (hg : g.map Num.val = ps.map pv) (hB : ∀ p ∈ ps, PB 8 p) (hl : ps.length ≤ 100) : m_Line_init g = if 0 ≤ plc ps then .err ⟨"BadLine", [("place", Pay.int (plc ps))]⟩ else .ok (mkL ps) := by
  have lg : g.length = ps.length := by have := congrArg List.length hg; rwa [List.length_map, List.length_map] at this
  unfold m_Line_init
  simp only [Res.okb, Res.bind_assoc, Res.bind_ok]
  rw [lcR_eq (f := fun i => qAs i) (g := Num.val) (size_le (by omega)) fun x _ => rfl, Res.okb, hg, List.length_map]
  by_cases hz : ps.length = 0
  · have : ps = [] := List.eq_nil_of_length_eq_zero hz
    subst this
    rfl
  rw [if_neg (by rw [decide_eq_true_iff]; omega), rangeM1_ok ⟨by omega, by omega⟩, Res.okb, show ((ps.length : Int) - 1).toNat = ps.length - 1 by omega]
  rw [forS_find (p := fun x : Int => !inq (ps.getD x.toNat d0)) (er := fun x => ⟨"BadLine", [("place", Pay.int x)]⟩) fun x hx => ?_, find_rng (q := fun k => !inq (ps.getD k d0)) fun i _ => by rw [Int.toNat_natCast]]
  · have hlast := getD_pb hB (ps.length - 1)
    have e3 := at_l hz
    unfold plc
    cases h : (List.range (ps.length - 1)).find? fun k => !inq (ps.getD k d0) with
    | some k =>
      dsimp only [Option.map_some]
      rw [if_pos (by omega)]
      rfl
    | none =>
      dsimp only [Option.map_none]
      rw [Res.okb, if_neg hz, e3, Res.okb]
      unfold mkL
      generalize ps.getD (ps.length - 1) d0 = l at *
      have i0 := pv_is0 hlast.2.1
      have i1 := pv_is1 hlast.2.1
      unfold qEq enq
      rw [Res.okb]
      simp only [show (Num.i 0).val = ((0 : Int) : Rat) from rfl, show (Num.i 1).val = ((1 : Int) : Rat) from rfl, i0, i1, Res.okb]
      by_cases h0 : l.1 = 0
      · have ez : (pv l).num = 0 := by rw [i0.mpr h0]; rfl
        simp only [h0, decide_true, Bool.not_true, Bool.false_eq_true, if_false, Res.okb, Bool.true_or, if_true]
        rw [fdivI_pos (by decide) (by decide), Res.okb, fdivI_pos (by decide) (by decide), Res.okb, if_neg (by decide)]
      · simp only [h0, decide_false, Bool.not_false, if_true, Bool.false_or]
        by_cases h1 : l.1 = l.2.1
        · simp only [h1, decide_true, Bool.not_true, Bool.false_eq_true, if_false, Res.okb, if_true]
          rw [fdivI_pos (by decide) (by decide), Res.okb, fdivI_pos (by decide) (by decide), Res.okb, if_neg (by decide)]
        · simp only [h1, decide_false, Bool.not_false, Res.okb, if_true, Bool.false_eq_true, if_false]
          rw [if_pos (by omega)]
  · obtain ⟨x1, x2⟩ := rngI_mem hx
    have e := at_v (ps := ps) (k := x.toNat) (by omega)
    rw [Int.toNat_of_nonneg x1] at e
    have hb := getD_pb hB x.toNat
    generalize ps.getD x.toNat d0 = l at *
    have f := (hb.sz).fits (by decide)
    simp only [e, Res.okb]
    unfold qLe qGe gB
    rw [Res.guard_pos ⟨f, fits_iv 0 (by decide)⟩, Res.okb, Res.guard_pos ⟨f, fits_iv 1 (by decide)⟩]
    have g0 := pv_gt0 hb.2.1
    have g1 := pv_lt1 hb.2.1
    unfold inq
    simp only [show (Num.i 0).val = ((0 : Int) : Rat) from rfl, show (Num.i 1).val = ((1 : Int) : Rat) from rfl, ← Rat.not_lt, g0, g1]
    by_cases h0 : 0 < l.1 <;> by_cases h1 : l.1 < l.2.1 <;> simp [h0, h1, Res.okb]
theorem values_ok {ps : List Pr} {s : Nat} (h : ∀ p ∈ ps, PB s p) (hs : s ≤ 4000) (hl : ps.length ≤ 1000) : m_law_values (ps.map pv) ps = .ok true := by
  unfold m_law_values
  simp only [Res.okb, Res.bind_assoc, List.length_map, decide_true, Bool.not_true, Bool.false_eq_true, if_false]
  rw [rangeM1_ok ⟨by omega, by omega⟩, Res.okb, forG_all fun x hx => ?_, Res.okb, Fl.okb_out]
  obtain ⟨x1, x2⟩ := rngI_mem hx
  have h1 : x.toNat < ps.length := by omega
  have z := (h _ (List.getElem_mem h1)).sz
  have b := h _ (List.getElem_mem h1)
  rw [atM_lt x1 (by rw [List.length_map]; exact h1), Res.okb, atM_lt x1 h1]
  simp only [Res.okb, List.getElem_map]
  rw [mulI_le z.1 b.2.2 (by omega), Res.okb, mulI_le b.1 (by rw [Int.natAbs_natCast]; exact z.2) (by omega), Res.okb, pv_cross b.2.1, decide_eq_true rfl]
  rfl
theorem plc_end {ps : List Pr} (h : plc ps < 0) : ps.length ≠ 0 ∧ enq (ps.getD (ps.length - 1) d0) = true := by
  unfold plc at h
  cases e : (List.range (ps.length - 1)).find? fun k => !inq (ps.getD k d0) with
  | some k => rw [e] at h; dsimp only at h; omega
  | none =>
    rw [e] at h
    dsimp only at h
    by_cases hz : ps.length = 0
    · rw [if_pos hz] at h; omega
    · rw [if_neg hz] at h
      refine ⟨hz, ?_⟩
      cases e2 : enq (ps.getD (ps.length - 1) d0) with
      | true => rfl
      | false => rw [e2, if_neg (by decide)] at h; omega
theorem kept_ok {ps : List Pr} (hB : ∀ p ∈ ps, PB 8 p) (hl : ps.length ≤ 100) (hp : plc ps < 0) : m_law_kept (mkL ps) ps = .ok true := by
  obtain ⟨hz, he⟩ := plc_end hp
  have hlast := getD_pb hB (ps.length - 1)
  have v := values_ok hB (by decide) (by omega)
  have sh : m_Line_shares (mkL ps) = .ok (ps.map pv) := by unfold m_Line_shares; simp only [Res.okb]; rfl
  have ln : (m_Line_len (mkL ps)).bind lenG = .ok (ps.length : Int) := by
    unfold m_Line_len
    simp only [Res.okb]
    show lenG ((ps.map pv).length : Int) = _
    rw [List.length_map]
    exact lenG_ok (by omega)
  unfold m_law_kept
  have q2 : qMk 1 2 = .ok (Rat.divInt 1 2) := qMk_ok (by decide) (by decide)
  have q3 : qMk 1 3 = .ok (Rat.divInt 1 3) := qMk_ok (by decide) (by decide)
  simp only [Res.okb, Res.bind_assoc, sh, q2, q3]
  rw [appM_ok (by rw [List.length_map]; omega), Res.okb, putM_ok (by decide) (by simp), Res.okb, v]
  simp only [Res.okb, Bool.not_true, Bool.false_eq_true, if_false]
  rw [← Res.bind_assoc, ln, Res.okb, Res.okb, decide_eq_true rfl, if_neg (by decide), rangeM1_ok ⟨by omega, by omega⟩, Res.okb, lcR_rng (f := fun i => pv (ps.getD i d0)) (by omega) (by omega) fun i hi => ?_, Res.okb]
  · have ev : (vec ((ps.length : Int)).toNat fun i => pv (ps.getD i d0)) = ps.map pv := by
      rw [Int.toNat_natCast, ← vec_map pv, ← vec_of ps d0]
    rw [ev, v]
    simp only [Res.okb, Bool.not_true, Bool.false_eq_true, if_false]
    rw [show (ps.length : Int) - 1 = ((ps.length - 1 : Nat) : Int) by omega, at_d (by omega)]
    simp only [Res.okb]
    have en : (pv (ps.getD (ps.length - 1) d0)).num = if (!decide ((ps.getD (ps.length - 1) d0).1 = 0)) = true then 1 else 0 := by
      generalize ps.getD (ps.length - 1) d0 = l at *
      unfold enq at he
      by_cases h0 : l.1 = 0
      · rw [(pv_is0 hlast.2.1).mpr h0, decide_eq_true h0]; rfl
      · rw [decide_eq_false h0] at he ⊢
        have h1 : l.1 = l.2.1 := by simpa using he
        rw [(pv_is1 hlast.2.1).mpr h1]; rfl
    unfold mkL
    simp only [en]
    generalize (if (!decide ((ps.getD (ps.length - 1) d0).1 = 0)) = true then (1 : Int) else 0) = e
    rw [fdivI_pos (by decide) (by decide), Res.okb, decide_eq_true rfl, if_neg (by decide), fdivI_pos (by decide) (by decide), Res.okb, Res.okb, decide_eq_true rfl, if_neg (by decide)]
    rfl
  · unfold m_Line_getitem
    simp only [Res.okb]
    exact at_v (by rw [Int.toNat_natCast] at hi; exact hi)
theorem handed1_ok {p : Pr} (h : PB 4000 p) : Ok (m_law_handed p) fun x => x.val = pv p := by
  have hq : qMk p.1 p.2.1 = .ok (pv p) := qMk_ok (by have := h.2.1; omega) (by have := log_big h.2.2; omega)
  unfold m_law_handed
  simp only [Res.okb, Res.bind_assoc, hq]
  refine Ok.ite (fun e => .ok ?_) fun _ => .ok rfl
  have e := of_decide_eq_true e
  show (p.1 : Rat) = Rat.divInt p.1 p.2.1
  rw [e]; exact (Rat.num_divInt_den (p.1 : Rat)).symm
theorem given_ok {ps : List Pr} (hB : ∀ p ∈ ps, PB 8 p) (hl : ps.length ≤ 1000) : Ok (lcR (fun i => m_law_handed i) ps) fun g => g.length = ps.length ∧ g.map Num.val = ps.map pv := by
  refine (Ok.lcR (P := fun p x => Num.val x = pv p) (size_le (by omega)) fun p hp => handed1_ok ((hB p hp).mono (by decide))).mono fun g ⟨l, h⟩ => ⟨l, ?_⟩
  refine List.ext_getElem? fun i => ?_
  rw [List.getElem?_map, List.getElem?_map]
  cases e : g[i]? with
  | none =>
    have : ps[i]? = none := by rw [List.getElem?_eq_none_iff] at e ⊢; omega
    rw [this]; rfl
  | some x =>
    have hi : i < ps.length := by rw [← l]; exact (List.getElem?_eq_some_iff.mp e).1
    rw [List.getElem?_eq_getElem hi]
    simp only [Option.map_some]
    rw [h i _ x (List.getElem?_eq_getElem hi) e]
theorem nn_self (x : Num) : nnEq (fun d => qEq d.1 d.2.1) x x = .ok true := by
  cases x with
  | i n => show Res.ok _ = _; rw [decide_eq_true rfl]
  | q n => show Res.ok (decide (n = n)) = _; rw [decide_eq_true rfl]
theorem made_ok {ps : List Pr} (hB : ∀ p ∈ ps, PB 8 p) (hl : ps.length ≤ 100) : m_law_made ps = .ok true := by
  obtain ⟨g, eg, lg, vg⟩ := given_ok hB (by omega)
  have il := init_line vg hB hl
  unfold m_law_made
  simp only [Res.okb, Res.bind_assoc, Res.bind_ok, eg, place_ok (ps := ps) (by omega)]
  by_cases hp : 0 ≤ plc ps
  · rw [if_pos hp] at il
    rw [il]
    simp [tryG, pay1, dInt, Fl.get, Res.err_bind, hp, Fl.out, Res.bind]
  · rw [if_neg hp] at il
    rw [il, Res.okb, tryG_ok', Res.okb, Fl.okb_out, if_neg (by simp), rangeM1_ok ⟨by omega, by omega⟩, Res.okb, forG_all fun x hx => ?_, Res.okb, Fl.okb_out, appM_ok (by omega), Res.okb, qMk_ok (by decide) (by decide), Res.okb, putM_ok (by decide) (by simp), Res.okb, if_pos (by rw [decide_eq_true_iff]; omega)]
    · exact kept_ok hB hl (by omega)
    · obtain ⟨x1, x2⟩ := rngI_mem hx
      rw [atM_lt x1 (by omega)]
      simp only [Res.okb, nn_self, Bool.not_true, Bool.false_eq_true, if_false]
theorem cutL_toN {α : Type} {xs : List α} {k : Nat} : cutL xs none (some (k : Int)) = xs.take k := by
  unfold cutL
  rw [HT.sIx_nat]
  show (xs.drop 0).take (min k xs.length - 0) = _
  rw [List.drop_zero, Nat.sub_zero]
  by_cases h : k ≤ xs.length
  · rw [Nat.min_eq_left h]
  · rw [Nat.min_eq_right (by omega), List.take_of_length_le (by omega), List.take_of_length_le (by omega)]
theorem cutL_fromN {α : Type} {xs : List α} {k : Nat} : cutL xs (some (k : Int)) none = xs.drop k := by
  unfold cutL
  rw [HT.sIx_nat]
  show (xs.drop (min k xs.length)).take (xs.length - min k xs.length) = _
  by_cases h : k ≤ xs.length
  · rw [Nat.min_eq_left h, List.take_of_length_le (by rw [List.length_drop]; omega)]
  · rw [Nat.min_eq_right (by omega), List.drop_eq_nil_of_le (Nat.le_refl _), List.drop_eq_nil_of_le (by omega), List.take_nil]
theorem rngI_cons (lo : Int) (m : Nat) : rngI lo (m + 1) = lo :: rngI (lo + 1) m := by
  unfold rngI
  rw [List.range_succ_eq_map, List.map_cons, List.map_map]
  congr 1
  · simp
  · refine List.map_congr_left fun i _ => ?_
    simp only [Function.comp]
    omega
theorem forG_to {S γ L : Type} {F : Int → S → Res (Fl S S γ)} {V : Nat → S} {n k : Nat} (hk : k ≤ n) (h : ∀ i, i < k → F (i : Int) (V i) = .ok (.nx (V (i + 1)))) : (forG F (rngI 0 n) (V 0) : Res (Fl S L γ)) = forG F (rngI (k : Int) (n - k)) (V k) := by
  induction k with
  | zero => rfl
  | succ k ih =>
    rw [ih (by omega) fun i hi => h i (by omega), show n - k = (n - (k + 1)) + 1 by omega, rngI_cons]
    conv => lhs; unfold forG
    rw [h k (by omega)]
    rfl
def stq (p : Pr) : Bool := ouq p || enq p
theorem stq_in {p : Pr} (h : stq p = false) : inq p = true := by
  unfold stq ouq enq at h
  unfold inq
  simp only [Bool.or_eq_false_iff, decide_eq_false_iff_not] at h
  simp only [Bool.and_eq_true, decide_eq_true_iff]
  omega
theorem take_getD {ps : List Pr} {n k : Nat} (h : k < n) : (ps.take n).getD k d0 = ps.getD k d0 := by
  rw [List.getD_eq_getElem?_getD, List.getD_eq_getElem?_getD, List.getElem?_take_of_lt h]
theorem plc_cut {ps : List Pr} {k : Nat} (hk : k < ps.length) (hj : ∀ j, j < k → stq (ps.getD j d0) = false) (he : enq (ps.getD k d0) = true) : plc (ps.take (k + 1)) = -1 := by
  have l : (ps.take (k + 1)).length = k + 1 := by rw [List.length_take]; omega
  unfold plc
  have e : (List.range ((ps.take (k + 1)).length - 1)).find? (fun j => !inq ((ps.take (k + 1)).getD j d0)) = none := by
    rw [List.find?_eq_none]
    intro j hm
    rw [l, List.mem_range] at hm
    rw [take_getD (by omega), stq_in (hj j (by omega))]
    decide
  rw [e]
  dsimp only
  rw [l, if_neg (by omega), Nat.add_sub_cancel, take_getD (by omega), he, if_pos rfl]
theorem cut_line {g : List Num} {ps : List Pr} (hg : g.map Num.val = ps.map pv) (hB : ∀ p ∈ ps, PB 8 p) (hl : ps.length ≤ 100) :
    ((∀ k, k < ps.length → stq (ps.getD k d0) = false) → m_Line_cut () g = .err ⟨"BadLine", [("place", Pay.int (ps.length : Int))]⟩) ∧
    ∀ k, k < ps.length → (∀ j, j < k → stq (ps.getD j d0) = false) → (ouq (ps.getD k d0) = true → m_Line_cut () g = .err ⟨"BadLine", [("place", Pay.int (k : Int))]⟩) ∧
      (ouq (ps.getD k d0) = false → enq (ps.getD k d0) = true → m_Line_cut () g = .ok (mkL (ps.take (k + 1)))) := by
  have lg : g.length = ps.length := by have := congrArg List.length hg; rwa [List.length_map, List.length_map] at this
  have av : ∀ k, k < ps.length → ∃ y, atM g (k : Int) = .ok y ∧ y.val = pv (ps.getD k d0) := fun k hk => by
    refine ⟨g[k], by rw [atM_lt (by omega) (by rw [Int.toNat_natCast]; omega)]; simp only [Int.toNat_natCast], ?_⟩
    have := congrArg (fun l => l[k]?) hg
    simp only [List.getElem?_map, List.getElem?_eq_getElem hk, List.getElem?_eq_getElem (show k < g.length by omega), Option.map_some, Option.some.injEq] at this
    rw [this, List.getD_eq_getElem?_getD, List.getElem?_eq_getElem hk]; rfl
  unfold m_Line_cut
  simp only [Res.okb, Res.bind_assoc, Res.bind_ok, lg]
  rw [rangeM1_ok ⟨by omega, by omega⟩, Res.okb, Int.toNat_natCast]
  generalize hF : (fun (i : Int) (s : List Rat) => (atM g i).bind _) = F
  have hV : ∀ i, i < ps.length → (ps.take i).map pv ++ [pv (ps.getD i d0)] = (ps.take (i + 1)).map pv := fun i hi => by
    rw [List.take_add_one, List.map_append, List.getD_eq_getElem?_getD, List.getElem?_eq_getElem hi]; rfl
  have hst : ∀ i, i < ps.length → F (i : Int) ((ps.take i).map pv) = if ouq (ps.getD i d0) = true then .err ⟨"BadLine", [("place", Pay.int (i : Int))]⟩ else if enq (ps.getD i d0) = true then (m_Line_1 (((ps.take (i + 1)).map pv).map Num.q)).bind (fun r => .ok (Fl.rt r)) else .ok (Fl.nx ((ps.take (i + 1)).map pv)) := fun i hi => by
    obtain ⟨y, ey, vy⟩ := av i hi
    have hb := getD_pb hB i
    have f := hb.sz.fits (by decide)
    have hVi := hV i hi
    rw [← hF]
    dsimp only
    rw [ey, Res.okb, show qAs y = .ok y.val from rfl, Res.okb, vy]
    generalize ps.getD i d0 = l at *
    unfold qLt qGt gB
    rw [Res.guard_pos ⟨f, fits_iv 0 (by decide)⟩, Res.okb, Res.guard_pos ⟨f, fits_iv 1 (by decide)⟩]
    simp only [show (Num.i 0).val = ((0 : Int) : Rat) from rfl, show (Num.i 1).val = ((1 : Int) : Rat) from rfl, pv_lt0 hb.2.1, pv_gt1 hb.2.1]
    rw [appM_ok (by rw [List.length_map, List.length_take]; omega), Res.okb, hVi]
    unfold qEq
    simp only [show (Num.i 0).val = ((0 : Int) : Rat) from rfl, show (Num.i 1).val = ((1 : Int) : Rat) from rfl, pv_is0 hb.2.1, pv_is1 hb.2.1, Res.okb]
    unfold ouq enq
    generalize decide (l.1 < 0) = b1
    generalize decide (l.2.1 < l.1) = b2
    generalize decide (l.1 = 0) = b3
    generalize decide (l.1 = l.2.1) = b4
    cases b1 <;> cases b2 <;> cases b3 <;> cases b4 <;> rfl
  have hgo : ∀ i, i < ps.length → stq (ps.getD i d0) = false → F (i : Int) ((ps.take i).map pv) = .ok (.nx ((ps.take (i + 1)).map pv)) := fun i hi hs => by
    unfold stq at hs
    rw [Bool.or_eq_false_iff] at hs
    rw [hst i hi, hs.1, if_neg (by decide), hs.2, if_neg (by decide)]
  have e0 : ([] : List Rat) = (ps.take 0).map pv := rfl
  refine ⟨fun h => ?_, fun k hk hj => ⟨fun ho => ?_, fun ho he => ?_⟩⟩
  · rw [e0, forG_to (V := fun i => (ps.take i).map pv) (k := ps.length) (Nat.le_refl _) fun i hi => hgo i hi (h i hi), Nat.sub_self]
    rfl
  · rw [e0, forG_to (V := fun i => (ps.take i).map pv) (k := k) (by omega) fun i hi => hgo i (by omega) (hj i hi), show ps.length - k = (ps.length - k - 1) + 1 by omega, rngI_cons]
    unfold forG
    rw [hst k hk, ho, if_pos rfl]
    rfl
  · rw [e0, forG_to (V := fun i => (ps.take i).map pv) (k := k) (by omega) fun i hi => hgo i (by omega) (hj i hi), show ps.length - k = (ps.length - k - 1) + 1 by omega, rngI_cons]
    unfold forG
    have il := init_line (g := ((ps.take (k + 1)).map pv).map Num.q) (ps := ps.take (k + 1)) (by rw [List.map_map]; exact (List.map_congr_left fun q _ => rfl).trans (List.map_id _)) (fun p hp => hB p (List.mem_of_mem_take hp)) (by rw [List.length_take]; omega)
    rw [plc_cut hk hj he, if_neg (by decide)] at il
    rw [hst k hk, ho, if_neg (by decide), he, if_pos rfl, show m_Line_1 (((ps.take (k + 1)).map pv).map Num.q) = .ok (mkL (ps.take (k + 1))) from il]
    rfl
theorem cut_ok {ps : List Pr} (hB : ∀ p ∈ ps, PB 8 p) (hl : ps.length ≤ 100) : m_law_cut ps = .ok true := by
  obtain ⟨g, eg, lg, vg⟩ := given_ok hB (by omega)
  obtain ⟨cA, cB⟩ := cut_line vg hB hl
  unfold m_law_cut
  simp only [Res.okb, Res.bind_assoc, Res.bind_ok, eg]
  rw [rangeM1_ok ⟨by omega, by omega⟩, Res.okb, Int.toNat_natCast]
  refine Ok.eq (Ok.bind (Ok.forS (fun i (st : Int × Int) => ((∀ k, k < i → stq (ps.getD k d0) = false) ∧ st = (-1, (ps.length : Int))) ∨ ∃ k, k < i ∧ k < ps.length ∧ (∀ j, j < k → stq (ps.getD j d0) = false) ∧ ((ouq (ps.getD k d0) = true ∧ st = (-1, (k : Int))) ∨ (ouq (ps.getD k d0) = false ∧ enq (ps.getD k d0) = true ∧ st = ((k : Int), (ps.length : Int))))) (.inl ⟨fun k hk => absurd hk (Nat.not_lt_zero _), rfl⟩) fun i x st e hi => ?_) fun st hst => ?_)
  · obtain ⟨ex, hx⟩ := rngI_get e
    rw [Int.zero_add] at ex
    subst ex
    rcases hi with ⟨h1, rfl⟩ | ⟨k, k1, k2, k3, h⟩
    · rw [at_d hx]
      simp only [Res.okb, decide_true, if_true, show decide ((-1 : Int) < 0) = true from rfl, at_end_ok, Res.bind_assoc]
      have eo : ouq (ps.getD i d0) = (decide ((ps.getD i d0).1 < 0) || decide ((ps.getD i d0).2.1 < (ps.getD i d0).1)) := rfl
      generalize hd : ps.getD i d0 = l at *
      cases ho : ouq l with
      | true =>
        refine Ok.bindE (a := true) (by rw [ho] at eo; cases b1 : decide (l.1 < 0) <;> rw [b1] at eo <;> simp at eo ⊢ <;> exact eo) ?_
        exact .ok (.inr ⟨i, by omega, hx, h1, .inl ⟨by rw [hd]; exact ho, rfl⟩⟩)
      | false =>
        refine Ok.bindE (a := false) (by rw [ho] at eo; cases b1 : decide (l.1 < 0) <;> rw [b1] at eo <;> simp at eo ⊢ <;> exact eo) ?_
        cases he : enq l with
        | true => exact .ok (.inr ⟨i, by omega, hx, h1, .inr ⟨by rw [hd]; exact ho, by rw [hd]; exact he, rfl⟩⟩)
        | false =>
          refine .ok (.inl ⟨fun k hk => ?_, rfl⟩)
          by_cases hki : k = i
          · rw [hki, hd]; unfold stq; rw [ho, he]; rfl
          · exact h1 k (by omega)
    · refine Ok.bindE (a := false) ?_ (.ok (.inr ⟨k, by omega, k2, k3, h⟩))
      rcases h with ⟨_, rfl⟩ | ⟨_, _, rfl⟩
      · rw [if_neg (by rw [decide_eq_true_iff]; dsimp only; omega)]
      · rw [if_pos (by simp)]
        exact congrArg Res.ok (decide_eq_false (by dsimp only; omega))
  · rw [rngI_len] at hst
    rcases hst with ⟨h1, rfl⟩ | ⟨k, k1, k2, k3, ⟨ho, rfl⟩ | ⟨ho, he, rfl⟩⟩
    · rw [cA h1]
      simp [tryG, pay1, dInt, Fl.get, Res.err_bind, Fl.out, Res.bind]
      exact .ok rfl
    · rw [(cB k k2 k3).1 ho]
      simp [tryG, pay1, dInt, Fl.get, Res.err_bind, Fl.out, Res.bind]
      exact .ok rfl
    · rw [(cB k k2 k3).2 ho he, Res.okb, tryG_ok', Res.okb, Fl.okb_out, lg, decide_eq_true rfl, if_neg (by decide), Res.guard_pos trivial, Res.okb, if_neg (by decide), qMk_ok (by decide) (by decide), Res.okb, putM_ok (by decide) (by simp; omega), Res.okb, appM_ok (by rw [List.length_set]; omega), Res.okb, if_pos (by rw [decide_eq_true_iff]; omega), show ((k : Int) + 1) = ((k + 1 : Nat) : Int) from rfl, cutL_toN]
      exact .of (kept_ok (fun p hp => hB p (List.mem_of_mem_take hp)) (by rw [List.length_take]; omega) (by rw [plc_cut k2 k3 he]; decide)) rfl
theorem equal_ok {as bs : List Pr} (ha : ∀ p ∈ as, PB 8 p) (hb : ∀ p ∈ bs, PB 8 p) (la : as.length ≤ 100) (lb : bs.length ≤ 100) : m_law_equal as bs = .ok (decide (as.map pv = bs.map pv)) := by
  unfold m_law_equal
  simp only [Res.okb, Res.bind_assoc]
  by_cases hl : as.length = bs.length
  · rw [if_neg (by rw [decide_eq_true (show (as.length : Int) = (bs.length : Int) by omega)]; decide), rangeM1_ok ⟨by omega, by omega⟩, Res.okb, Int.toNat_natCast]
    rw [forG_find (p := fun x : Int => !decide (pv (as.getD x.toNat d0) = pv (bs.getD x.toNat d0))) (r := fun _ => false) fun x hx => ?_, Res.okb, find_rng (q := fun k => !decide (pv (as.getD k d0) = pv (bs.getD k d0))) fun i _ => by rw [Int.toNat_natCast]]
    · cases h : (List.range as.length).find? fun k => !decide (pv (as.getD k d0) = pv (bs.getD k d0)) with
      | some k =>
        obtain ⟨k1, k2, _⟩ := find_some h
        refine congrArg Res.ok (decide_eq_false fun e => ?_).symm
        have := congrArg (fun l => l[k]?) e
        simp only [List.getElem?_map, List.getElem?_eq_getElem k1, List.getElem?_eq_getElem (show k < bs.length by omega), Option.map_some, Option.some.injEq] at this
        rw [List.getD_eq_getElem?_getD, List.getD_eq_getElem?_getD, List.getElem?_eq_getElem k1, List.getElem?_eq_getElem (show k < bs.length by omega)] at k2
        simp only [Option.getD_some, this, decide_true, Bool.not_true, Bool.false_eq_true] at k2
      | none =>
        have hn := find_none h
        refine congrArg Res.ok (decide_eq_true ?_).symm
        refine List.ext_getElem (by rw [List.length_map, List.length_map, hl]) fun i h1 h2 => ?_
        rw [List.length_map] at h1 h2
        have := hn i h1
        rw [List.getD_eq_getElem?_getD, List.getD_eq_getElem?_getD, List.getElem?_eq_getElem h1, List.getElem?_eq_getElem h2] at this
        simp only [List.getElem_map]
        simpa using this
    · obtain ⟨x1, x2⟩ := rngI_mem hx
      have e1 := at_d (ps := as) (k := x.toNat) (by omega)
      have e2 := at_d (ps := bs) (k := x.toNat) (by omega)
      rw [Int.toNat_of_nonneg x1] at e1 e2
      have p1 := getD_pb ha x.toNat
      have p2 := getD_pb hb x.toNat
      generalize as.getD x.toNat d0 = a at *
      generalize bs.getD x.toNat d0 = b at *
      simp only [e1, e2, Res.okb]
      rw [mulI_le p1.1 p2.2.2 (by decide), Res.okb, mulI_le p2.1 p1.2.2 (by decide), Res.okb]
      simp only [pv_eq_iff p1.2.1 p2.2.1]
  · rw [if_pos (by rw [decide_eq_false (show ¬ (as.length : Int) = (bs.length : Int) by omega)]; rfl)]
    refine congrArg Res.ok (decide_eq_false fun e => hl ?_).symm
    have := congrArg List.length e
    rwa [List.length_map, List.length_map] at this
theorem leq_ok {a b : O_Line} (hl : a.f_kept.length ≤ 1000) : m_Line_eq a b = .ok (decide (a.f_kept = b.f_kept)) := by
  unfold m_Line_eq
  simp only [Res.okb, Bool.not_true, Bool.false_eq_true, if_false]
  by_cases e : a.f_kept.length = b.f_kept.length
  · rw [if_neg (by simp [e]), rangeM1_ok ⟨by omega, by omega⟩, Res.okb, lcR_rng (f := fun i => decide (a.f_kept.getD i 0 = b.f_kept.getD i 0)) (by omega) (by omega) fun i hi => ?_, Res.okb, Res.okb]
    · congr 1
      rw [Bool.eq_iff_iff, List.all_eq_true, decide_eq_true_iff]
      constructor
      · intro h
        refine List.ext_getElem e fun i h1 h2 => ?_
        have := h _ (mem_vec (f := fun i => decide (a.f_kept.getD i 0 = b.f_kept.getD i 0)) (n := ((a.f_kept.length : Int)).toNat) (by rw [Int.toNat_natCast]; exact h1))
        simp only [id, decide_eq_true_eq] at this
        rw [List.getD_eq_getElem?_getD, List.getD_eq_getElem?_getD, List.getElem?_eq_getElem h1, List.getElem?_eq_getElem h2] at this
        exact this
      · intro he x hx
        obtain ⟨i, _, rfl⟩ := vec_mem hx
        simp [he]
    · rw [Int.toNat_natCast] at hi
      rw [atM_lt (by omega) (by rw [Int.toNat_natCast]; exact hi), Res.okb, atM_lt (by omega) (by rw [Int.toNat_natCast]; omega), Res.okb]
      simp only [Int.toNat_natCast]
      unfold qEq
      congr 1
      rw [List.getD_eq_getElem?_getD, List.getD_eq_getElem?_getD, List.getElem?_eq_getElem hi, List.getElem?_eq_getElem (by omega)]
      rfl
  · rw [if_pos (by simp; omega)]
    congr 1
    exact (decide_eq_false fun h => e (by rw [h])).symm
theorem entry_ok {k t b : Int} (hk : 0 ≤ k ∧ k < 13) (ht : 0 ≤ t ∧ t < 1000) (hb : 0 ≤ b ∧ b < 11) : Ok (m_law_entry k t b) fun p => PB 5 p := by
  unfold m_law_entry
  simp only [Res.okb, Res.bind_assoc]
  refine Ok.ite (fun h => ?_) fun h => Ok.ite (fun h2 => ?_) fun h2 => Ok.ite (fun h3 => ?_) fun h3 => ?_
  · refine Ok.bindE (modI_pos (by omega)) (.ok ⟨?_, ?_, ?_⟩)
    · have h1 := Int.emod_nonneg t (show 1 + b ≠ 0 by omega); have h2 := Int.emod_lt_of_pos t (show 0 < 1 + b by omega); dsimp only; omega
    · dsimp only; omega
    · dsimp only; omega
  · simp only [decide_eq_true_iff] at h h2
    exact .ok ⟨by dsimp only; omega, by dsimp only; decide, by dsimp only; decide⟩
  · refine Ok.bindE (modI_pos (by decide)) (Ok.bindE (modI_pos (by decide)) (.ok ⟨by dsimp only; omega, by dsimp only; omega, by dsimp only; omega⟩))
  · refine Ok.bindE (modI_pos (by decide)) (Ok.bindE (modI_pos (by decide)) (.ok ⟨by dsimp only; omega, by dsimp only; omega, by dsimp only; omega⟩))
theorem list_ok (ns : List Int) : Ok (m_law_list ns 1) fun ps => ps.length ≤ 7 ∧ ∀ p ∈ ps, PB 5 p := by
  unfold m_law_list
  simp only [Res.okb, Res.bind_assoc, Res.bind_ok, cell_eq _ _ (show (0 : Int) ≤ 1 by decide), cell_eq _ _ (show (0 : Int) ≤ 1 + 1 by decide), cell_eq _ _ (show (0 : Int) ≤ 1 + 2 by decide), cell_eq _ _ (show (0 : Int) ≤ 1 + 3 by decide)]
  refine Ok.bind (row_ok _ 5040 2 (by decide) (by decide) (by decide) (by decide)) fun sh ⟨s1, s2⟩ => ?_
  have s1' : sh.length = 2 := s1
  obtain ⟨b0, b1⟩ := s2 _ (List.getElem_mem (show 1 < sh.length by omega))
  rw [show atM sh 0 = .ok sh[0] from atM_lt (by decide) (by simp; omega), show atM sh 1 = .ok sh[1] from atM_lt (by decide) (by simp; omega)]
  refine Ok.bindE rfl (Ok.bindE (modI_pos (by decide)) ?_)
  generalize hm : sh[0] % 7 = m
  have hm0 : 0 ≤ m ∧ m < 7 := by omega
  refine Ok.bind (row_ok _ 13 m (by decide) (by decide) hm0.1 (by omega)) fun kd ⟨k1, k2⟩ => ?_
  refine Ok.bind (row_ok _ 1000 m (by decide) (by decide) hm0.1 (by omega)) fun tp ⟨t1, t2⟩ => ?_
  refine Ok.bind (row_ok _ 11 m (by decide) (by decide) hm0.1 (by omega)) fun bt ⟨q1, q2⟩ => ?_
  refine Ok.bindE rfl (Ok.bindE (modI_pos (by decide)) ?_)
  refine Ok.bind (P := fun ks : List Int => ks.length = m.toNat ∧ ∀ x ∈ ks, 0 ≤ x ∧ x < 13) ?_ fun ks ⟨k3, k4⟩ => ?_
  · refine Ok.ite (fun _ => ?_) fun _ => .ok ⟨k1, k2⟩
    refine .of (lcR_eq (g := fun x => x % 9) (size_le (by omega)) fun x _ => modI_pos (by decide)) ⟨by rw [List.length_map]; exact k1, fun x hx => ?_⟩
    obtain ⟨y, hy, rfl⟩ := List.mem_map.mp hx
    omega
  rw [rangeM1_ok ⟨by omega, by omega⟩, Res.okb]
  refine Ok.bind (Ok.lcR (P := fun _ p => PB 5 p) (size_le (by rw [rngI_len]; omega)) fun x hx => ?_) fun ps ⟨l, h⟩ => ?_
  · obtain ⟨x1, x2⟩ := rngI_mem hx
    rw [atM_lt x1 (by omega), Res.okb, atM_lt x1 (by omega), Res.okb, atM_lt x1 (by omega), Res.okb]
    exact entry_ok (k4 _ (List.getElem_mem _)) (t2 _ (List.getElem_mem _)) (q2 _ (List.getElem_mem _))
  rw [rngI_len] at l
  have hp : ∀ p ∈ ps, PB 5 p := fun p hp => by
    obtain ⟨i, e⟩ := List.getElem?_of_mem hp
    have hi : i < (rngI 0 m.toNat).length := by rw [rngI_len, ← l]; exact (List.getElem?_eq_some_iff.mp e).1
    exact h i _ p (List.getElem?_eq_getElem hi) e
  refine Ok.bindE rfl (Ok.bindE (fdivI_pos (by decide) (by decide)) (Ok.bindE (modI_pos (by decide)) (Ok.ite (fun _ => ?_) fun _ => .ok ⟨by omega, hp⟩)))
  refine Ok.bindE rfl (Ok.bindE (fdivI_pos (by decide) (by decide)) (Ok.bindE (modI_pos (by decide)) ?_))
  rw [appM_ok (by omega)]
  refine .ok ⟨by rw [List.length_append]; simp; omega, fun p hq => ?_⟩
  rcases List.mem_append.mp hq with h | h
  · exact hp p h
  · rw [List.mem_singleton.mp h]
    exact ⟨by dsimp only; omega, by dsimp only; decide, by dsimp only; decide⟩
theorem law_ok (ns : List Int) (hl : ns.length ≤ 63) : m_law ns = .ok true := by
  refine Ok.eq ?_
  unfold m_law
  simp only [Res.okb, Res.bind_assoc, Res.bind_ok, cell_eq _ _ (show (0 : Int) ≤ 0 by decide), show powI 10 9 = .ok (10 ^ 9) from rfl]
  refine Ok.bindE (modI_pos (by decide)) ?_
  generalize hch : ns.getD (Int.toNat 0) 0 % 10 ^ 9 = ch
  have hc0 : 0 ≤ ch ∧ ch < 10 ^ 9 := by rw [← hch]; exact ⟨Int.emod_nonneg _ (by decide), Int.emod_lt_of_pos _ (by decide)⟩
  clear hch
  refine Ok.bind (list_ok ns) fun ps ⟨lp, hp5⟩ => ?_
  have hp : ∀ p ∈ ps, PB 8 p := fun p h => (hp5 p h).mono (by decide)
  refine Ok.bindE (modI_pos (by decide)) ?_
  refine Ok.bind (P := fun b => b = true → 0 < ps.length) ?_ fun b hb => ?_
  · refine Ok.ite (fun _ => .ok fun h => ?_) fun _ => .ok fun h => nomatch h
    have := of_decide_eq_true h
    omega
  refine Ok.bind (P := fun os : List Pr => os.length ≤ 7 ∧ ∀ p ∈ os, PB 8 p) ?_ fun os ⟨lo, ho⟩ => ?_
  · refine Ok.ite (fun h => ?_) fun _ => .ok ⟨lp, hp⟩
    have hn := hb h
    refine Ok.bindE (fdivI_pos (by decide) (by decide)) (Ok.bindE (modI_pos (by omega)) ?_)
    generalize hk : ch / 3 % (ps.length : Int) = k
    have k0 : 0 ≤ k := by rw [← hk]; exact Int.emod_nonneg _ (by omega)
    have k1 : k < (ps.length : Int) := by rw [← hk]; exact Int.emod_lt_of_pos _ (by omega)
    have ea := at_d (ps := ps) (k := k.toNat) (by omega)
    rw [Int.toNat_of_nonneg k0] at ea
    have pk := hp5 (ps.getD k.toNat d0) (by rw [List.getD_eq_getElem?_getD, List.getElem?_eq_getElem (show k.toNat < ps.length by omega)]; exact List.getElem_mem _)
    refine Ok.bindE (modI_pos (by decide)) ?_
    simp only [ea, Res.okb, inside_ok]
    refine Ok.bind (P := fun _ => True) (Ok.ite (fun _ => .ok trivial) fun _ => .ok trivial) fun b2 _ => ?_
    refine Ok.bind (P := fun os : List Pr => os.length ≤ 7 ∧ ∀ p ∈ os, PB 8 p) (Ok.ite (fun _ => ?_) fun _ => .ok ⟨lp, hp⟩) fun os ⟨lo, ho⟩ => ?_
    · rw [mulI_le pk.1 (show (2 : Int).natAbs ≤ 2 ^ 1 by decide) (by decide), Res.okb, mulI_le pk.2.2 (show (2 : Int).natAbs ≤ 2 ^ 1 by decide) (by decide), Res.okb, putM_ok k0 (by omega)]
      refine .ok ⟨by rw [List.length_set]; exact lp, fun p hq => ?_⟩
      rcases List.mem_or_eq_of_mem_set hq with h | h
      · exact hp p h
      · rw [h]
        have h1 := pk.1; have h2 := pk.2.1; have h3 := pk.2.2
        exact ⟨by dsimp only; omega, by dsimp only; omega, by dsimp only; omega⟩
    · refine Ok.bindE (modI_pos (by decide)) (Ok.ite (fun _ => .ok ?_) fun _ => .ok ⟨lo, ho⟩)
      rw [show k = ((k.toNat : Nat) : Int) by omega, cutL_fromN]
      exact ⟨by rw [List.length_drop]; omega, fun p hq => ho p (List.mem_of_mem_drop hq)⟩
  refine Ok.bindE (made_ok hp (by omega)) (Ok.bindE (a := false) ?_ ?_)
  · rw [if_neg (by decide), cut_ok hp (by omega), Res.okb, if_neg (by decide), made_ok ho (by omega), Res.okb, if_neg (by decide), cut_ok ho (by omega), Res.okb]
    rfl
  rw [if_neg (by decide), place_ok (by omega), Res.okb]
  by_cases h1 : 0 ≤ plc ps
  · rw [if_pos (by rw [decide_eq_true_iff]; omega), Res.okb, if_pos rfl]
    exact .ok rfl
  rw [if_neg (by rw [decide_eq_true_iff]; omega), place_ok (by omega), Res.okb, Res.okb]
  by_cases h2 : 0 ≤ plc os
  · rw [if_pos (by rw [decide_eq_true_iff]; omega)]
    exact .ok rfl
  rw [if_neg (by rw [decide_eq_true_iff]; omega)]
  refine Ok.bind (given_ok hp (by omega)) fun g1 ⟨_, v1⟩ => ?_
  refine Ok.bindE (show m_Line_1 g1 = .ok (mkL ps) by show m_Line_init g1 = _; rw [init_line v1 hp (by omega), if_neg h1]) ?_
  refine Ok.bind (given_ok ho (by omega)) fun g2 ⟨_, v2⟩ => ?_
  refine Ok.bindE (show m_Line_1 g2 = .ok (mkL os) by show m_Line_init g2 = _; rw [init_line v2 ho (by omega), if_neg h2]) ?_
  have ll : (mkL ps).f_kept.length ≤ 1000 := by show (ps.map pv).length ≤ 1000; rw [List.length_map]; omega
  rw [equal_ok hp ho (by omega) (by omega), Res.okb, leq_ok ll, Res.okb, show decide ((mkL ps).f_kept = (mkL os).f_kept) = decide (ps.map pv = os.map pv) from rfl]
  generalize decide (ps.map pv = os.map pv) = z
  rw [if_pos (by simp), Res.okb, if_pos (by cases z <;> rfl), leq_ok ll, Res.okb, decide_eq_true rfl, if_pos rfl, Res.okb]
  exact .ok rfl
end L2.Tr

namespace L2.Tr
open PySem PySem.Spec PyProof.Rows He
def fs : List FB := [fGlo "_law_cell", fKeep "_law_cell", fFree "int", fGlo "_law_list", fKeep "_law_list", fFree "list", fFree "len", fGlo "_law_inside", fKeep "_law_inside", fGlo "_law_made", fKeep "_law_made", fGlo "_law_cut", fKeep "_law_cut", fGlo "_law_place", fKeep "_law_place", fGlo "_law_handed", fKeep "_law_handed", fGlo "Line", fMkr "Line", fGlo "_law_equal", fKeep "_law_equal", fOcl "Line", fOMet "Line" "__eq__", fNf "Line", fGlo "_law_row", fKeep "_law_row", fFree "range", fGlo "_law_entry", fKeep "_law_entry", fFree "abs", fExcV "BadLine" ["place"], fGlo "TracerError", fKit "BadLine" "TracerError" true, fExcC "BadLine", fFree "isinstance", fExm "BadLine" "BadLine" true, fGlo "BadLine", fOcl "Fraction", fOMet "Fraction" "__eq__", fNf "Fraction", fGlo "Fraction", fMkr "Fraction", fGlo "_law_kept", fKeep "_law_kept", fGlo "_law_at_end", fKeep "_law_at_end", fGlo "as_fraction", fKeep "as_fraction", fOMet "Fraction" "__le__", fOMet "Fraction" "__ge__", fNoat "Line" "kept", fNoat "Fraction" "top", fNoat "Line" "end", fNoat "Line" "rooms", fNoat "Line" "passages", fKitI "int" "Fraction" false, fKit "Fraction" "Fraction" true, fNoat "Fraction" "bottom", fKitT "Fraction" "int" false, fMeth "Line" "shares", fGlo "_law_values", fKeep "_law_values", fOMet "Line" "__len__", fOMet "Line" "__getitem__", fFnIn "Line" "__getitem__", fFree "bool", fCmet "Line" "cut", fOMet "Fraction" "__lt__", fOMet "Fraction" "__gt__", fKit "Line" "Line" true, fFree "all", fGlo "law", fExc "BadFraction", fGlo "common_divisor", fKeep "common_divisor"]
def fnl : List DX := [⟨fun K => (He.ga K "_law_cell"), "_law_cell", "_law_cell", defArgs s_law_cell, defBody s_law_cell, defScope s_law_cell, [], []⟩,
  ⟨fun K => (He.ga K "_law_row"), "_law_row", "_law_row", defArgs s_law_row, defBody s_law_row, defScope s_law_row, [], []⟩,
  ⟨fun K => (He.ga K "_law_entry"), "_law_entry", "_law_entry", defArgs s_law_entry, defBody s_law_entry, defScope s_law_entry, [], []⟩,
  ⟨fun K => (He.ga K "_law_list"), "_law_list", "_law_list", defArgs s_law_list, defBody s_law_list, defScope s_law_list, [], []⟩,
  ⟨fun K => (He.ga K "_law_inside"), "_law_inside", "_law_inside", defArgs s_law_inside, defBody s_law_inside, defScope s_law_inside, [], []⟩,
  ⟨fun K => (He.ga K "common_divisor"), "common_divisor", "common_divisor", defArgs s_common_divisor, defBody s_common_divisor, defScope s_common_divisor, [], []⟩,
  ⟨fun K => (He.ga K "_law_handed"), "_law_handed", "_law_handed", defArgs s_law_handed, defBody s_law_handed, defScope s_law_handed, [], []⟩,
  ⟨fun K => (He.ga K "_law_at_end"), "_law_at_end", "_law_at_end", defArgs s_law_at_end, defBody s_law_at_end, defScope s_law_at_end, [], []⟩,
  ⟨fun K => (He.ga K "_law_place"), "_law_place", "_law_place", defArgs s_law_place, defBody s_law_place, defScope s_law_place, [], []⟩,
  ⟨fun K => (He.ga K "as_fraction"), "as_fraction", "as_fraction", defArgs s_as_fraction, defBody s_as_fraction, defScope s_as_fraction, [], []⟩,
  ⟨fun K => (He.ma K (He.ga K "BadLine") "__init__"), "__init__", "BadLine.__init__", defArgs s_BadLine_init, defBody s_BadLine_init, defScope s_BadLine_init, [], []⟩,
  ⟨fun K => (He.ma K (He.ga K "Fraction") "__le__"), "__le__", "Fraction.__le__", defArgs s_Fraction_le, defBody s_Fraction_le, defScope s_Fraction_le, [], []⟩,
  ⟨fun K => (He.ma K (He.ga K "Fraction") "__ge__"), "__ge__", "Fraction.__ge__", defArgs s_Fraction_ge, defBody s_Fraction_ge, defScope s_Fraction_ge, [], []⟩,
  ⟨fun K => (He.ma K (He.ga K "Fraction") "__eq__"), "__eq__", "Fraction.__eq__", defArgs s_Fraction_eq, defBody s_Fraction_eq, defScope s_Fraction_eq, [], []⟩,
  ⟨fun K => (He.ma K (He.ga K "Line") "__init__"), "__init__", "Line.__init__", defArgs s_Line_init, defBody s_Line_init, defScope s_Line_init, [], []⟩,
  ⟨fun K => (He.ma K (He.ga K "Line") "shares"), "shares", "Line.shares", defArgs s_Line_shares, defBody s_Line_shares, defScope s_Line_shares, [], []⟩,
  ⟨fun K => (He.ga K "_law_values"), "_law_values", "_law_values", defArgs s_law_values, defBody s_law_values, defScope s_law_values, [], []⟩,
  ⟨fun K => (He.ma K (He.ga K "Line") "__len__"), "__len__", "Line.__len__", defArgs s_Line_len, defBody s_Line_len, defScope s_Line_len, [], []⟩,
  ⟨fun K => (He.ma K (He.ga K "Line") "__getitem__"), "__getitem__", "Line.__getitem__", defArgs s_Line_getitem, defBody s_Line_getitem, defScope s_Line_getitem, [], []⟩,
  ⟨fun K => (He.ga K "_law_kept"), "_law_kept", "_law_kept", defArgs s_law_kept, defBody s_law_kept, defScope s_law_kept, [], []⟩,
  ⟨fun K => (He.ga K "_law_made"), "_law_made", "_law_made", defArgs s_law_made, defBody s_law_made, defScope s_law_made, [], []⟩,
  ⟨fun K => (He.ma K (He.ga K "Fraction") "__lt__"), "__lt__", "Fraction.__lt__", defArgs s_Fraction_lt, defBody s_Fraction_lt, defScope s_Fraction_lt, [], []⟩,
  ⟨fun K => (He.ma K (He.ga K "Fraction") "__gt__"), "__gt__", "Fraction.__gt__", defArgs s_Fraction_gt, defBody s_Fraction_gt, defScope s_Fraction_gt, [], []⟩,
  ⟨fun K => (wa K "classmethod" (He.ga K "Line") "cut"), "cut", "Line.cut", defArgs s_Line_cut, defBody s_Line_cut, defScope s_Line_cut, [], []⟩,
  ⟨fun K => (He.ga K "_law_cut"), "_law_cut", "_law_cut", defArgs s_law_cut, defBody s_law_cut, defScope s_law_cut, [], []⟩,
  ⟨fun K => (He.ga K "_law_equal"), "_law_equal", "_law_equal", defArgs s_law_equal, defBody s_law_equal, defScope s_law_equal, [], []⟩,
  ⟨fun K => (He.ma K (He.ga K "Line") "__eq__"), "__eq__", "Line.__eq__", defArgs s_Line_eq, defBody s_Line_eq, defScope s_Line_eq, [], []⟩,
  ⟨fun K => (He.ga K "law"), "law", "law", defArgs s_law, defBody s_law, defScope s_law, [], []⟩,
  ⟨fun K => (He.ma K (He.ga K "Fraction") "__init__"), "__init__", "Fraction.__init__", defArgs s_Fraction_init, defBody s_Fraction_init, defScope s_Fraction_init, [.int 1], []⟩]
theorem txt_of {K : PySem.W.Frag} {mg : Str → Option Value} {h : Heap} (KX : K.In h) (G : h.Ns mainGlobals mg) (c : SaysY fs fnl K) : Txt K mg where
  g_law_cell := glo_of KX G (c.fact 0)
  k_law_cell := (c.fact 1)
  n_int := free_of KX G (c.fact 2)
  g_law_list := glo_of KX G (c.fact 3)
  k_law_list := (c.fact 4)
  n_list := free_of KX G (c.fact 5)
  n_len := free_of KX G (c.fact 6)
  g_law_inside := glo_of KX G (c.fact 7)
  k_law_inside := (c.fact 8)
  g_law_made := glo_of KX G (c.fact 9)
  k_law_made := (c.fact 10)
  g_law_cut := glo_of KX G (c.fact 11)
  k_law_cut := (c.fact 12)
  g_law_place := glo_of KX G (c.fact 13)
  k_law_place := (c.fact 14)
  g_law_handed := glo_of KX G (c.fact 15)
  k_law_handed := (c.fact 16)
  g_Line := glo_of KX G (c.fact 17)
  mk_Line := mkr_of (c.fact 18)
  g_law_equal := glo_of KX G (c.fact 19)
  k_law_equal := (c.fact 20)
  o_Line := ocl_of (c.fact 21)
  om_Line_eq := omet_of (c.fact 22)
  nf_Line := nf_of (c.fact 23)
  F_law_cell := c.def_ 0
  g_law_row := glo_of KX G (c.fact 24)
  k_law_row := (c.fact 25)
  n_range := free_of KX G (c.fact 26)
  g_law_entry := glo_of KX G (c.fact 27)
  k_law_entry := (c.fact 28)
  n_abs := free_of KX G (c.fact 29)
  F_law_row := c.def_ 1
  F_law_entry := c.def_ 2
  F_law_list := c.def_ 3
  F_law_inside := c.def_ 4
  ev_BadLine := excV_of KX G (c.fact 30)
  g_TracerError := glo_of KX G (c.fact 31)
  kt_BadLine_TracerError := kit_of' (c.fact 32)
  xc_BadLine := excC_of (c.fact 33)
  n_isinstance := free_of KX G (c.fact 34)
  xm_BadLine_BadLine := exm_of (c.fact 35)
  g_BadLine := glo_of KX G (c.fact 36)
  o_Fraction := ocl_of (c.fact 37)
  om_Fraction_eq := omet_of (c.fact 38)
  nf_Fraction := nf_of (c.fact 39)
  g_Fraction := glo_of KX G (c.fact 40)
  mk_Fraction := mkr_of (c.fact 41)
  g_law_kept := glo_of KX G (c.fact 42)
  k_law_kept := (c.fact 43)
  F_common_divisor := c.def_ 5
  F_law_handed := c.def_ 6
  g_law_at_end := glo_of KX G (c.fact 44)
  k_law_at_end := (c.fact 45)
  F_law_at_end := c.def_ 7
  F_law_place := c.def_ 8
  g_as_fraction := glo_of KX G (c.fact 46)
  k_as_fraction := (c.fact 47)
  om_Fraction_le := omet_of (c.fact 48)
  om_Fraction_ge := omet_of (c.fact 49)
  na_Line_kept := noat_of (c.fact 50)
  na_Fraction_top := noat_of (c.fact 51)
  na_Line_end := noat_of (c.fact 52)
  na_Line_rooms := noat_of (c.fact 53)
  na_Line_passages := noat_of (c.fact 54)
  kI_int_Fraction := kitI_of (c.fact 55)
  kt_Fraction_Fraction := kit_of' (c.fact 56)
  F_as_fraction := c.def_ 9
  F_BadLine_init := c.def_ 10
  na_Fraction_bottom := noat_of (c.fact 57)
  kT_Fraction_int := kitT_of (c.fact 58)
  F_Fraction_le := c.def_ 11
  F_Fraction_ge := c.def_ 12
  F_Fraction_eq := c.def_ 13
  F_Line_init := c.def_ 14
  me_Line_shares := meth_of (c.fact 59)
  g_law_values := glo_of KX G (c.fact 60)
  k_law_values := (c.fact 61)
  om_Line_len := omet_of (c.fact 62)
  om_Line_getitem := omet_of (c.fact 63)
  fi_Line_getitem := fnIn_of (c.fact 64)
  n_bool := free_of KX G (c.fact 65)
  F_Line_shares := c.def_ 15
  F_law_values := c.def_ 16
  F_Line_len := c.def_ 17
  F_Line_getitem := c.def_ 18
  F_law_kept := c.def_ 19
  F_law_made := c.def_ 20
  cm_Line_cut := cmet_of (c.fact 66)
  om_Fraction_lt := omet_of (c.fact 67)
  om_Fraction_gt := omet_of (c.fact 68)
  F_Fraction_lt := c.def_ 21
  F_Fraction_gt := c.def_ 22
  F_Line_cut := c.def_ 23
  F_law_cut := c.def_ 24
  F_law_equal := c.def_ 25
  kt_Line_Line := kit_of' (c.fact 69)
  n_all := free_of KX G (c.fact 70)
  F_Line_eq := c.def_ 26
  F_law := c.def_ 27
  g_law := glo_of KX G (c.fact 71)
  F_Fraction_init := c.def_ 28
  ex_BadFraction := exc_of KX G (c.fact 72)
  g_common_divisor := glo_of KX G (c.fact 73)
  k_common_divisor := (c.fact 74)
theorem all_of {P : Program} {w : World} {K : PySem.W.Frag} {mg : Str → Option Value} {base : Heap} (T : Txt K mg) {fd : FuncData} (F : FunD K "law" "law" (defArgs s_law) (defBody s_law) (defScope s_law) [] [] (He.ga K "law") fd) : FnOk P w K mg base (L2.CX P w) 12 (He.ga K "law") fd ["_law_script"] (spF K (aCons (rdL K (rp rInt)) aNil) (fun d => m_law d.1) (rp rBl)) := by
  have c_law_cell : C_law_cell P w K mg base := fn_law_cell T
  have c_law_row : C_law_row P w K mg base := fn_law_row T
  have c_law_entry : C_law_entry P w K mg base := fn_law_entry T
  have c_law_list : C_law_list P w K mg base := fn_law_list T c_law_cell c_law_row c_law_entry
  have c_law_inside : C_law_inside P w K mg base := fn_law_inside T
  have c_common_divisor : C_common_divisor P w K mg base := FnR.nice (fn_common_divisor T) nice_common_divisor
  have c_Fraction_2 : C_Fraction_2 P w K mg base := fn_Fraction_2 T c_common_divisor
  have c_law_handed : C_law_handed P w K mg base := fn_law_handed T c_Fraction_2
  have c_law_at_end : C_law_at_end P w K mg base := fn_law_at_end T
  have c_law_place : C_law_place P w K mg base := fn_law_place T c_law_inside c_law_at_end
  have c_Fraction_1 : C_Fraction_1 P w K mg base := fn_Fraction_1 T c_common_divisor
  have c_as_fraction : C_as_fraction P w K mg base := FnR.nice (fn_as_fraction T c_Fraction_1) nice_as_fraction
  have c_err_BadLine : C_err_BadLine P w K mg base := fn_err_BadLine T
  have c_Fraction_le : C_Fraction_le P w K mg base := FnR.nice (fn_Fraction_le T) nice_Fraction_le
  have c_Fraction_ge : C_Fraction_ge P w K mg base := FnR.nice (fn_Fraction_ge T) nice_Fraction_ge
  have c_Fraction_eq : C_Fraction_eq P w K mg base := FnR.nice (fn_Fraction_eq T) nice_Fraction_eq
  have c_Line_0_shares : C_Line_0_shares P w K mg base := fn_Line_0_shares T c_as_fraction c_err_BadLine c_Fraction_le c_Fraction_ge c_Fraction_eq
  have c_Line_shares : C_Line_shares P w K mg base := fn_Line_shares T
  have c_law_values : C_law_values P w K mg base := fn_law_values T
  have c_Line_len : C_Line_len P w K mg base := fn_Line_len T
  have c_Line_getitem : C_Line_getitem P w K mg base := fn_Line_getitem T
  have c_law_kept : C_law_kept P w K mg base := fn_law_kept T c_Line_shares c_Fraction_2 c_law_values c_Line_len c_Line_getitem
  have c_law_made : C_law_made P w K mg base := fn_law_made T c_law_handed c_law_place c_Line_0_shares c_Fraction_eq c_Fraction_2 c_law_kept
  have c_Fraction_lt : C_Fraction_lt P w K mg base := FnR.nice (fn_Fraction_lt T) nice_Fraction_lt
  have c_Fraction_gt : C_Fraction_gt P w K mg base := FnR.nice (fn_Fraction_gt T) nice_Fraction_gt
  have c_Line_1 : C_Line_1 P w K mg base := fn_Line_1 T c_as_fraction c_err_BadLine c_Fraction_le c_Fraction_ge c_Fraction_eq
  have c_Line_cut : C_Line_cut P w K mg base := fn_Line_cut T c_as_fraction c_Fraction_lt c_Fraction_gt c_err_BadLine c_Fraction_eq c_Line_1
  have c_Line_cut_1_shares : C_Line_cut_1_shares P w K mg base := fn_Line_cut_1_shares T c_as_fraction c_Fraction_lt c_Fraction_gt c_err_BadLine c_Fraction_eq c_Line_1
  have c_law_cut : C_law_cut P w K mg base := fn_law_cut T c_law_at_end c_law_handed c_Line_cut_1_shares c_Fraction_eq c_Fraction_2 c_law_kept
  have c_law_equal : C_law_equal P w K mg base := fn_law_equal T
  have c_Line_eq : C_Line_eq P w K mg base := fn_Line_eq T c_Fraction_eq
  exact fn_law T c_law_cell c_law_list c_law_inside c_law_made c_law_cut c_law_place c_Line_1 c_law_handed c_law_equal c_Line_eq F
theorem law_end {P : Program} {w : World} {K : PySem.W.Frag} {mg : Str → Option Value} {h : Heap} {fa : Addr} (KX : K.In h) (hmg : mg ("law" : Str) = some (.ref fa)) (T : Txt K mg) :
    ∃ (K : PySem.W.Frag) (fd : FuncData) (sp : Sp), K.In h ∧ (∀ (s : Shared) (u : Value), BindsTo s fd ⟨[u], []⟩ [(("_law_script" : Str), u)]) ∧
        (∀ (H : Hp) (a : Addr) (ns : List Int), ns.length ≤ 63 → Only H → SqL K H a (ns.map V.int) → sp [.ref a] H (fun v _ => v = .bl true) fun _ _ _ => False) ∧
        ∀ base : Heap, K.In base → base.Ns mainGlobals mg → FnOk P w K mg base CX0 12 fa fd ["_law_script"] sp := by
  obtain ⟨fd, F⟩ := T.F_law
  have e := hmg.symm.trans T.g_law
  cases e
  have b := FunD.bindsA (ps := ["_law_script"]) F fun _ _ _ _ _ _ us hl => match us, hl with | [_], _ => rfl
  refine ⟨K, fd, (fun vs H Q _ => spF K (aCons (rdL K (rp rInt)) aNil) (fun d => m_law d.1) (rp rBl) vs H Q fun _ _ _ => False), KX, fun s u => b s [u] rfl, fun H a ns hl _ hS => ⟨fun _ => none, (ns, ()), (fun b o e => nomatch e), ⟨.ref a, [], rfl, ⟨a, ns.map V.int, rfl, hS, paired_ints _ _ ns⟩, rfl⟩, ?_⟩, fun base _ _ => FnOk.no (all_of T F)⟩
  show PostE K (m_law ns) _ _ _ _ _
  rw [law_ok ns hl]
  exact fun I' H' v _ r => r
abbrev RR : PySem.W.OpenRow := PySem.W.OpenLaw.row PySem.Challenge.rw_tracerline_k22_lists_that_are_lines
abbrev hk : PySem.W.Hook := hookY 5 fs fnl
def ob (s : PySem.W.SharedT) : AlX := obsYG 5 fs fnl (HandSHeadRun.getT s)
theorem ob_eq (s : PySem.W.SharedT) : ob s = hk.obs s.abs := obsYG_eq (HandSHeadRun.getT_eq s)
def names : List PySem.Str := ((["_wall", "__name__", "TracerError", "BadFraction", "BadTick", "BadLine", "common_divisor", "Fraction", "as_fraction", "entry", "product_entry", "Polynomial", "next_reading", "Line", "_law_cell", "_law_row", "_law_entry", "_law_list", "_law_inside", "_law_at_end", "_law_place", "_law_handed", "_law_values", "_law_kept", "_law_made", "_law_cut", "_law_equal"] : List PySem.Str))
set_option maxHeartbeats 0 in
theorem run (w : World) : HandSHeadRun.RunEq RR (PySem.W.view RR.prog [31]) hk ob 20000 names w := by
  intro os
  kernel_rfl
end L2.Tr
open PySem PySem.W PySem.Calls PyProof.Rows
set_option maxHeartbeats 0 in
theorem PySem.Challenge.cw_tracerline_k22_lists_that_are_lines_holds : PySem.Challenge.rw_tracerline_k22_lists_that_are_lines.Holds := by
  w_on; o_law
  refine HandSHeadRun.head_any (r := OpenLaw.row PySem.Challenge.rw_tracerline_k22_lists_that_are_lines) (q := view (OpenLaw.row PySem.Challenge.rw_tracerline_k22_lists_that_are_lines).prog [31]) (H := L2.Tr.hk) (ob := L2.Tr.ob) (M := 20000) (loose := L2.Tr.names) (d := HandSHeadRun.topDef (OpenLaw.row PySem.Challenge.rw_tracerline_k22_lists_that_are_lines).prog 31) (kwd := []) L2.Tr.ob_eq
    (by kernel_rfl) (fun s => by kernel_rfl) L2.Tr.run (by kernel_rfl) (by kernel_rfl) (by kernel_rfl) (by rfl) (by first | assumption | decide +kernel) (by decide +kernel) ⟨rfl, rfl, rfl, rfl, rfl, by decide +kernel⟩ ?hw ?hc
  case hw => w_witness2
  case hc =>
    refine L2.walk_ofE (l := PySem.Challenge.rw_tracerline_k22_lists_that_are_lines) (n := 63) (k := 12) (x := "_law_script") (CX := L2.CX0) rfl (by decide) (by kernel_rfl) ⟨rfl, by decide, by decide⟩ ?F (fun _ _ _ _ z => z)
    intro w mg fa h Y G hmg0
    obtain ⟨K, KX, c⟩ := Y
    have hmg : mg ("law" : PySem.Str) = some (.ref fa) := by
      have e : (HandSHeadRun.topDef (OpenLaw.row PySem.Challenge.rw_tracerline_k22_lists_that_are_lines).prog 31).name = ("law" : PySem.Str) := by kernel_rfl
      rw [← e]
      exact hmg0
    have T := L2.Tr.txt_of KX G c
    exact L2.Tr.law_end (P := (PySem.Challenge.rw_tracerline_k22_lists_that_are_lines).prog) (w := w) KX hmg T

