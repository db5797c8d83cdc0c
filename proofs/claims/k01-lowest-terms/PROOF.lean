import PyProof.Rows.All
import Wide.All
import OpenK.AllK
import Wide.FinOn
import HandS.ForMost
import HandS.ForExc
import HandS.More
import HandS.Wide
import HandS.Flow
import HandS.Defaults
import HandS.MakeKw
import HandS.CallSlots
import HandS.IsInst
import HandS.ExcIs
import HandS.OwnEq
import HandS.HeadHook1
import KE.KStateDown
import HandS.Head0
import HandS.Head1
import HandS.Head2
import HandS.HeadEnd
import HandS.HeadHook2
import HandS.MakeKwOnly
import PySem.Challenge.RW_tracerline_k01_lowest_terms
set_option Elab.async false
set_option linter.all false
set_option maxRecDepth 100000
namespace L2.Tr
open PySem PySem.Spec PyProof.Rows

/-! ### wishes: what must hold ahead of a piece of code -/
def wE (X : Cx) (e : Expr) : TE := fun σ H Q => ∀ (pins : List (Addr × Obj)) (s : Shared), Inv X pins σ H s → wpAny (model X.prog X.w) X.A (eval e X.env) (EP X pins σ Q) X.xe s
def wT (X : Cx) (e : Expr) : TT := fun σ H Q => ∀ (pins : List (Addr × Obj)) (s : Shared), Inv X pins σ H s → wpAny (model X.prog X.w) X.A (isTrue e X.env (eval e X.env)) (TP X pins σ Q) X.xe s
def wW (X : Cx) (e : Expr) : TT := fun σ H Q => ∀ (whole : Sem Value) (pins : List (Addr × Obj)) (s : Shared), Inv X pins σ H s → wpAny (model X.prog X.w) X.A (isTrue e X.env whole) (TP X pins σ Q) X.xe s
def wA (X : Cx) (es : List Expr) : TA := fun σ H Q => ∀ (pos : Pos) (pins : List (Addr × Obj)) (s : Shared), Inv X pins σ H s → wpAny (model X.prog X.w) X.A (spliced (backTo pos (starEach es X.env))) (AP X pins σ Q) X.xe s
def wS (X : Cx) (st : Stmt) : TS := fun D σ H => ∀ (pins : List (Addr × Obj)) (s : Shared), Inv X pins σ H s → wpAny (model X.prog X.w) X.A (exec st X.env) (SP X pins D) X.xe s
def wB (X : Cx) (st : List Stmt) : TS := fun D σ H => ∀ (pins : List (Addr × Obj)) (s : Shared), Inv X pins σ H s → wpAny (model X.prog X.w) X.A (execs st X.env) (SP X pins D) X.xe s
def opW (X : Cx) (f : Value → Value → Sem Value) (σ : St) (x y : V) (H : Hp) (Q : VK) : Prop := ∀ (pins : List (Addr × Obj)) (s : Shared) (v u : Value), Inv X pins σ H s → RelV x v → RelV y u → wpAny (model X.prog X.w) X.A (f v u) (EP X pins σ Q) X.xe s
def unW (X : Cx) (f : Value → Sem Value) (σ : St) (x : V) (H : Hp) (Q : VK) : Prop := ∀ (pins : List (Addr × Obj)) (s : Shared) (v : Value), Inv X pins σ H s → RelV x v → wpAny (model X.prog X.w) X.A (f v) (EP X pins σ Q) X.xe s
def callW (X : Cx) (f : Value) (σ : St) (xs : List V) (H : Hp) (Q : VK) : Prop := ∀ (pins : List (Addr × Obj)) (s : Shared) (us : List Value), Inv X pins σ H s → Vals xs us → wpAny (model X.prog X.w) X.A (call f us) (EP X pins σ Q) X.xe s
def truW (X : Cx) (σ : St) (x : V) (H : Hp) (Q : Bool → Hp → Prop) : Prop := ∀ (pins : List (Addr × Obj)) (s : Shared) (v : Value), Inv X pins σ H s → RelV x v → wpAny (model X.prog X.w) X.A (truthy v) (TP X pins σ Q) X.xe s

section
variable {X : Cx} {e a b c o : Expr} {es : List Expr} {st : Stmt} {ss : List Stmt} {σ : St} {H : Hp} {Q : VK} {D : Ends} {x y v : V} {pos pos' : Pos} {n : Str}
theorem pe_W : PE X e (wE X e) := ⟨fun pins s _ _ _ I h => h pins s I⟩
theorem pt_W : PT X e (wT X e) := ⟨fun pins s _ _ _ I h => h pins s I⟩
theorem pw_W : PW X e (wW X e) := ⟨fun wh pins s _ _ _ I h => h wh pins s I⟩
theorem pa_W : PA X es (wA X es) := ⟨fun pos pins s _ _ _ I h => h pos pins s I⟩
theorem ps_W : PS X st (wS X st) := ⟨fun pins s _ _ _ I h => h pins s I⟩
theorem pss_W : PSs X ss (wB X ss) := ⟨fun pins s _ _ _ I h => h pins s I⟩
theorem PE.w {t : TE} (p : PE X e t) (h : t σ H Q) : wE X e σ H Q := fun pins s I => p.run pins s σ H Q I h
theorem PT.w {t : TT} {Q : Bool → Hp → Prop} (p : PT X e t) (h : t σ H Q) : wT X e σ H Q := fun pins s I => p.run pins s σ H Q I h
theorem PW.w {t : TT} {Q : Bool → Hp → Prop} (p : PW X e t) (h : t σ H Q) : wW X e σ H Q := fun wh pins s I => p.run wh pins s σ H Q I h
theorem PA.w {t : TA} {Q : List V → Hp → Prop} (p : PA X es t) (h : t σ H Q) : wA X es σ H Q := fun pos pins s I => p.run pos pins s σ H Q I h
theorem PS.w {t : TS} (p : PS X st t) (h : t D σ H) : wS X st D σ H := fun pins s I => p.run pins s σ H D I h
theorem PSs.w {t : TS} (p : PSs X ss t) (h : t D σ H) : wB X ss D σ H := fun pins s I => p.run pins s σ H D I h
theorem OpR.w {f : Value → Value → Sem Value} {r : R2} (o : OpR X f r) (h : r x y H Q) : opW X f σ x y H Q := fun pins s v u I rx ry => o pins s σ H x y v u Q I rx ry h
theorem UnR.w {f : Value → Sem Value} {r : V → Hp → VK → Prop} (o : UnR X f r) (h : r x H Q) : unW X f σ x H Q := fun pins s v I rx => o pins s σ H x v Q I rx h
theorem CallR.w {f : Value} {r : List V → Hp → VK → Prop} {xs : List V} (o : CallR X f r) (h : r xs H Q) : callW X f σ xs H Q := fun pins s us I rx => o pins s σ H xs us Q I rx h
theorem TruR.w {r : V → Hp → (Bool → Hp → Prop) → Prop} {Q : Bool → Hp → Prop} (o : TruR X r) (h : r x H Q) : truW X σ x H Q := fun pins s v I rx => o pins s σ H x v Q I rx h

/-! ### expressions -/
theorem w_var (i : Nat) (h : Q v H) (hs : σ[i]? = some (some v) := by rfl) (hN : X.N[i]? = some n := by rfl) (hv : Vis X.env.scope n := by first | exact Or.inl rfl | exact Or.inr (Or.inl rfl) | exact Or.inr (Or.inr rfl)) (hd : (n == ("__debug__" : Str)) = false := by decide)
    (hcd : (n == ("__classdict__" : Str)) = false := by decide) : wE X (.Name n pos) σ H Q := PE.w (pe_var hN hv hd hcd) ⟨v, hs, h⟩
theorem w_int {i : Int} {j} (h : Q (.int i) H) : wE X (.Constant (.int i) j pos) σ H Q := PE.w pe_int h
theorem w_bl {i : Bool} {j} (h : Q (.bl i) H) : wE X (.Constant (.bool i) j pos) σ H Q := PE.w pe_bl h
theorem w_str {i : Str} {j} (h : Q (.str i) H) : wE X (.Constant (.str i) j pos) σ H Q := PE.w pe_str h
theorem w_non {j} (h : Q .non H) : wE X (.Constant .none j pos) σ H Q := PE.w pe_non h
theorem w_bin {op : Operator} (h : wE X a σ H fun x H1 => wE X b σ H1 fun y H2 => opW X (binaryOp op) σ x y H2 Q) : wE X (.BinOp a op b pos) σ H Q := fun pins s I =>
  wpAny_BinOp (thn (h pins s I) fun v s1 ⟨x, H1, I1, r1, q1⟩ => thn (q1 pins s1 I1) fun u s2 ⟨y, H2, I2, r2, q2⟩ => q2 pins s2 v u I2 r1 r2)
theorem w_un {op : UnaryOp} (h : wE X a σ H fun x H1 => unW X (unaryOp op) σ x H1 Q) : wE X (.UnaryOp op a pos) σ H Q := fun pins s I =>
  UnaryOp_ (thn (h pins s I) fun v s1 ⟨x, H1, I1, r1, q1⟩ => q1 pins s1 v I1 r1)
theorem w_cmp {op : CmpOp} (h : wE X a σ H fun x H1 => wE X b σ H1 fun y H2 => opW X (compareOp op) σ x y H2 Q) (hm : behindInMarks op b = false := by first | exact nomark _ | rfl) : wE X (.Compare a [op] [b] pos) σ H Q := fun pins s I =>
  wpAny_Compare1 (thn (h pins s I) fun v s1 ⟨x, H1, I1, r1, q1⟩ => thn (q1 pins s1 I1) fun u s2 ⟨y, H2, I2, r2, q2⟩ => q2 pins s2 v u I2 r1 r2) hm
/-- a test that is a comparison -/
theorem w_tcmp {op : CmpOp} {Q : Bool → Hp → Prop} (h : wE X a σ H fun x H1 => wE X b σ H1 fun y H2 => opW X (compareOp op) σ x y H2 fun z H3 => truW X σ z H3 Q) (hm : behindInMarks op b = false := by first | exact nomark _ | rfl) : wT X (.Compare a [op] [b] pos) σ H Q := fun pins s I =>
  wpAny_isTrue_Compare1 (thn (h pins s I) fun v s1 ⟨x, H1, I1, r1, q1⟩ => thn (q1 pins s1 I1) fun u s2 ⟨y, H2, I2, r2, q2⟩ => thn (q2 pins s2 v u I2 r1 r2) fun c s3 ⟨z, H3, I3, r3, q3⟩ => q3 pins s3 c I3 r3) hm
/-- a test of a plain form -/
theorem w_t {Q : Bool → Hp → Prop} (h : wE X e σ H fun x H1 => truW X σ x H1 Q) (he : ∀ whole, isTrue e X.env whole = (do let v ← whole; standAt e.pos; holding [v] (truthy v)) := by intro _; rfl) : wT X e σ H Q := fun pins s I =>
  isTrue_plain (thn (h pins s I) fun v s1 ⟨x, H1, I1, r1, q1⟩ => q1 pins s1 v I1 r1) (he _)
theorem tru_bl {k : Bool} {Q : Bool → Hp → Prop} (h : Q k H) : truW X σ (.bl k) H Q := fun pins s v I r => by
  cases (show v = Value.bool k from r)
  exact wpAny_truthy_bool ⟨H, I, h⟩
theorem tru_int {i : Int} {Q : Bool → Hp → Prop} (h : Q (i != 0) H) : truW X σ (.int i) H Q := TruR.w tru_ok ⟨_, rfl, h⟩
theorem w_not {Q : Bool → Hp → Prop} (h : wT X a σ H fun k H1 => Q (!k) H1) : wT X (.UnaryOp .Not a pos) σ H Q := PT.w (pt_not pt_W) h
/-- not as a value -/
theorem w_notV (h : wE X a σ H fun x H1 => ∃ k, x = .bl k ∧ Q (.bl (!k)) H1) : wE X (.UnaryOp .Not a pos) σ H Q := PE.w (pe_not pe_W) h
/-! ### and, or as tests -/
theorem w_tbool {Q : Bool → Hp → Prop} {op} (h : wW X (.BoolOp op es pos) σ H Q) : wT X (.BoolOp op es pos) σ H Q := fun pins s I => h _ pins s I
theorem w_and1 {Q : Bool → Hp → Prop} (h : wT X a σ H Q) : wW X (.BoolOp .And [a] pos) σ H Q := PW.w (pw_and1 pt_W) h
theorem w_or1 {Q : Bool → Hp → Prop} (h : wT X a σ H Q) : wW X (.BoolOp .Or [a] pos) σ H Q := PW.w (pw_or1 pt_W) h
theorem w_and {bs : List Expr} {Q : Bool → Hp → Prop} (h : wT X a σ H fun k H1 => if k = true then wW X (.BoolOp .And (b :: bs) pos) σ H1 Q else Q false H1) : wW X (.BoolOp .And (a :: b :: bs) pos) σ H Q := PW.w (pw_and pt_W pw_W) h
theorem w_or {bs : List Expr} {Q : Bool → Hp → Prop} (h : wT X a σ H fun k H1 => if k = true then Q true H1 else wW X (.BoolOp .Or (b :: bs) pos) σ H1 Q) : wW X (.BoolOp .Or (a :: b :: bs) pos) σ H Q := PW.w (pw_or pt_W pw_W) h
/-! ### and, or as values (bools) -/
theorem w_oneV {op} (h : wE X a σ H Q) : wE X (.BoolOp op [a] pos) σ H Q := PE.w (pe_one pe_W) h
theorem w_andV {bs : List Expr} (h : wE X a σ H fun x H1 => ∃ k, x = .bl k ∧ if k = true then wE X (.BoolOp .And (b :: bs) pos) σ H1 Q else Q (.bl false) H1) : wE X (.BoolOp .And (a :: b :: bs) pos) σ H Q := PE.w (pe_and pe_W pe_W) h
theorem w_orV {bs : List Expr} (h : wE X a σ H fun x H1 => ∃ k, x = .bl k ∧ if k = true then Q (.bl true) H1 else wE X (.BoolOp .Or (b :: bs) pos) σ H1 Q) : wE X (.BoolOp .Or (a :: b :: bs) pos) σ H Q := PE.w (pe_or pe_W pe_W) h
theorem w_ifx (h : wT X c σ H fun k H1 => if k = true then wE X a σ H1 Q else wE X b σ H1 Q) : wE X (.IfExp c a b pos) σ H Q := PE.w (pe_ifExp pt_W pe_W pe_W) h

/-! ### arguments, displays, calls -/
theorem w_nil {Q : List V → Hp → Prop} (h : Q [] H) : wA X [] σ H Q := PA.w pa_nil h
theorem w_cons {Q : List V → Hp → Prop} (h : wE X e σ H fun x H1 => wA X es σ H1 fun xs H2 => Q (x :: xs) H2) (hs : starEach (e :: es) X.env = (false, eval e X.env) :: starEach es X.env := by rfl) : wA X (e :: es) σ H Q := PA.w (pa_cons pe_W pa_W hs) h
theorem w_lst (h : wA X es σ H fun xs H1 => xs.length ≤ sizeLine ∧ ∀ p, H1 p = none → Q (.ref p) (upd H1 p (.lst xs))) : wE X (.List es pos) σ H Q := PE.w (pe_lst pa_W) h
theorem w_tup {x1} (h : wA X es σ H fun xs H1 => xs.length ≤ sizeLine ∧ ∀ p, H1 p = none → Q (.ref p) (upd H1 p (.tup xs))) : wE X (.Tuple es x1 pos) σ H Q := PE.w (pe_tup pa_W) h
theorem w_callB {id : String} (h : wA X (e :: es) σ H fun vs H1 => callW X (.builtin id) σ vs H1 Q) (hm : X.mg n = none) (hv : bootBuiltins n = some (.builtin id)) (hg : Gl X n := by rfl) (hn : n ≠ "__name__" := by decide) (hdb : (n == ("__debug__" : Str)) = false := by decide)
    (he : starEach (e :: es) X.env = (false, eval e X.env) :: starEach es X.env := by rfl) (hpl : (backTo pos (starEach es X.env)).any (·.1) = false := by rfl) : wE X (.Call (.Name n pos') (e :: es) [] pos) σ H Q := fun pins s I =>
  wpAny_Call_Name_kw (ld_blt I hg hm hv (PyProof.Rows.callWith_builtin1 (thn (h pos pins s I) fun us s1 ⟨vs, H1, I1, r1, q1⟩ => q1 pins s1 us I1 r1) he hpl) hn hdb)
theorem w_callTy {T : String} (h : wA X (e :: es) σ H fun vs H1 => callW X (.type T) σ vs H1 Q) (hm : X.mg n = none) (hv : bootBuiltins n = some (.type T)) (hg : Gl X n := by rfl) (hn : n ≠ "__name__" := by decide) (hdb : (n == ("__debug__" : Str)) = false := by decide)
    (he : starEach (e :: es) X.env = (false, eval e X.env) :: starEach es X.env := by rfl) (hpl : (backTo pos (starEach es X.env)).any (·.1) = false := by rfl) : wE X (.Call (.Name n pos') (e :: es) [] pos) σ H Q := fun pins s I =>
  wpAny_Call_Name_kw (ld_blt I hg hm hv (PyProof.Rows.callWith_type1 (thn (h pos pins s I) fun us s1 ⟨vs, H1, I1, r1, q1⟩ => q1 pins s1 us I1 r1) he hpl) hn hdb)
theorem w_bltn {u : Value} (h : Q v H) (hm : X.mg n = none) (hv : bootBuiltins n = some u) (r : RelV v u) (hg : Gl X n := by rfl) (hn : n ≠ "__name__" := by decide) (hd : (n == ("__debug__" : Str)) = false := by decide) : wE X (.Name n pos) σ H Q := PE.w (pe_bltn hg hm hv r hn hd) h
theorem w_glob {u : Value} (h : Q v H) (hm : X.mg n = some u) (r : RelV v u) (hg : Gl X n := by rfl) (hd : (n == ("__debug__" : Str)) = false := by decide) : wE X (.Name n pos) σ H Q := PE.w (pe_glob hg hm r hd) h

/-- the callee runs (a def, a class, a method with its self), the wish at these slots -/
theorem run_W {k : Nat} {f : Addr} {sp : Sp} {W : WX} {vs : List V} (F : FnR X.prog X.w X.K X.mg X.base (L2.CX X.prog X.w) k f sp) (hr : Room k X.A) (tk : Takes X W) (h : sp vs H Q fun cls d H' => W cls d σ H') : callW X (.ref f) σ vs H Q := fun pins s us I r => by
  refine wpAny_call (codeAny_mono (F X.A X.stack s H us vs Q _ hr I.env0 r h) fun r s' hq => ?_)
  cases r with
  | error e => exact passAt tk σ pins H s e s' I hq
  | ok fl =>
    cases fl with
    | ret u => exact I.after hq
    | next => exact False.elim hq
    | brk => exact False.elim hq
    | cont => exact False.elim hq
/-- f(e, ..), C(e, ..) by a global name -/
theorem w_call {f : Addr} (h : wA X (e :: es) σ H fun vs H1 => callW X (.ref f) σ vs H1 Q) (hm : X.mg n = some (.ref f)) (hk : PySem.W.keepIn X.K (.ref f) = true) (hg : Gl X n := by rfl) (hdb : (n == ("__debug__" : Str)) = false := by decide)
    (he : starEach (e :: es) X.env = (false, eval e X.env) :: starEach es X.env := by rfl) (hpl : (backTo pos (starEach es X.env)).any (·.1) = false := by rfl) : wE X (.Call (.Name n pos') (e :: es) [] pos) σ H Q := fun pins s I =>
  wpAny_Call_Name_kw (ld_glob I hg hm (PySem.W.callWith_K (h₀ := X.base) I.ok.mod.kin hk (thn (h pos pins s I) fun us s1 ⟨vs, H1, I1, r, q⟩ => ⟨I1.kIn, q pins s1 us I1 r⟩) he hpl) hdb)
theorem w_call0 {f : Addr} (h : callW X (.ref f) σ [] H Q) (hm : X.mg n = some (.ref f)) (hk : PySem.W.keepIn X.K (.ref f) = true) (hg : Gl X n := by rfl) (hdb : (n == ("__debug__" : Str)) = false := by decide) : wE X (.Call (.Name n pos') [] [] pos) σ H Q := fun pins s I =>
  wpAny_Call_Name_kw (ld_glob I hg hm (PySem.W.callWith_K0 I.kIn hk (h pins s [] I .nil)) hdb)
/-- o.m(e, ..) -/
theorem w_meth {pl : Sem Bool} {m : Str} {C f : Addr} {apos : Pos} (h : wE X o σ H fun x H1 => ∃ a dx fs, x = .ref a ∧ H1 a = some (.ins C dx fs) ∧ fs.lookup m = none ∧ wA X (e :: es) σ H1 fun vs H2 => callW X (.ref f) σ (x :: vs) H2 Q) (c : Cls X.K C) (hm : Meth X.K C m f)
    (hst : starEach (e :: es) X.env = (false, eval e X.env) :: starEach es X.env := by rfl) (hpl : (backTo pos (starEach es X.env)).any (·.1) = false := by rfl)
    (ht : eval (.Call (.Attribute o m apos) (e :: es) [] pos) X.env = (do
      let ov ← eval o X.env
      standAt apos.atName
      let (f, first) ← holding [ov] (getMethod ov m pl)
      callWith pos f first (backTo pos (starEach (e :: es) X.env)) (backToKw pos (keywordEach [] X.env))) := by rfl) : wE X (.Call (.Attribute o m apos) (e :: es) [] pos) σ H Q := fun pins s I => by
  refine PySem.W.methodCall_KW (pl := pl) (thn (h pins s I) fun u s1 ⟨x, H1, I1, rx, a, dx, fs, ex, ea, l, q⟩ => ?_) ht
  subst ex
  obtain rfl : u = Value.ref a := rx
  refine getmeth_ok I1 ea c hm l ?_
  exact PySem.W.callWith_K (first := [.ref a]) (h₀ := X.base) I.ok.mod.kin hm.kp (thn (q pos pins s1 I1) fun us s2 ⟨vs, H2, I2, r, q2⟩ => ⟨I2.kIn, q2 pins s2 (.ref a :: us) I2 (.cons rfl r)⟩) hst hpl
theorem w_meth0 {pl : Sem Bool} {m : Str} {C f : Addr} {apos : Pos} (h : wE X o σ H fun x H1 => ∃ a dx fs, x = .ref a ∧ H1 a = some (.ins C dx fs) ∧ fs.lookup m = none ∧ callW X (.ref f) σ [x] H1 Q) (c : Cls X.K C) (hm : Meth X.K C m f)
    (ht : eval (.Call (.Attribute o m apos) [] [] pos) X.env = (do
      let ov ← eval o X.env
      standAt apos.atName
      let (f, first) ← holding [ov] (getMethod ov m pl)
      callWith pos f first (backTo pos (starEach [] X.env)) (backToKw pos (keywordEach [] X.env))) := by rfl) : wE X (.Call (.Attribute o m apos) [] [] pos) σ H Q := fun pins s I => by
  refine PySem.W.methodCall_KW (pl := pl) (thn (h pins s I) fun u s1 ⟨x, H1, I1, rx, a, dx, fs, ex, ea, l, q⟩ => ?_) ht
  subst ex
  obtain rfl : u = Value.ref a := rx
  refine getmeth_ok I1 ea c hm l ?_
  exact PySem.W.callWith_K0 (first := [.ref a]) I1.kIn hm.kp (q pins s1 [.ref a] I1 (.cons rfl .nil))
/-- o.f -/
theorem w_fld {f : Str} (h : wE X o σ H fun x H1 => ∃ a C dx fs v, x = .ref a ∧ H1 a = some (.ins C dx fs) ∧ Cls X.K C ∧ NoAttr X.K C f ∧ fs.lookup f = some v ∧ Q v H1) (hb : attributeBase o f X.env (eval o X.env) = eval o X.env := by rfl) : wE X (.Attribute o f pos) σ H Q := PE.w (pe_fld pe_W hb) h

/-! ### statements -/
theorem b_nil (h : D.nx σ H) : wB X [] D σ H := PSs.w pss_nil h
theorem b_cons (h : wS X st { D with nx := fun σ' H' => wB X ss D σ' H' } σ H) : wB X (st :: ss) D σ H := PSs.w (pss_cons ps_W pss_W) h
theorem s_ret (h : wE X e σ H D.rt) : wS X (.Return (some e) pos) D σ H := PS.w (ps_ret pe_W) h
theorem s_retN (h : D.rt .non H) : wS X (.Return none pos) D σ H := PS.w ps_retN h
theorem s_expr (h : wE X e σ H fun _ H1 => D.nx σ H1) (hs : swapsWith e none pos.line X.env = pure false := by rfl) : wS X (.Expr e pos) D σ H := PS.w (ps_expr pe_W hs) h
theorem s_if {s1 s2 : List Stmt} (h : wT X c σ H fun k H1 => if k = true then wB X s1 D σ H1 else wB X s2 D σ H1) : wS X (.If c s1 s2 pos) D σ H := PS.w (ps_if pt_W pss_W pss_W) h
theorem s_pass (h : D.nx σ H) : wS X (.Pass pos) D σ H := PS.w ps_pass h
theorem s_set (i : Nat) (h : wE X e σ H fun x H1 => D.nx (σ.set i (some x)) H1) (hN : X.N.Nodup) (hi : X.N[i]? = some n := by rfl) (hx : Loc X.env.scope n := by first | exact Or.inl rfl | exact Or.inr rfl) (hs : swapsWith e (some (.Name n pos')) pos.line X.env = pure false := by rfl) (hf : X.fn n = true ∨ X.env.scope.names.lookup n = some .local := by first | exact .inl rfl | exact .inr rfl | assumption) :
    wS X (.Assign [.Name n pos'] e pos) D σ H := PS.w (ps_set hN hi hx pe_W hs hf) h
/-- o.f = e -/
theorem s_fld {f : Str} (h : wE X e σ H fun y H1 => wE X o σ H1 fun x H2 => ∃ a C dx fs, x = .ref a ∧ H2 a = some (.ins C dx fs) ∧ Cls X.K C ∧ NoAttr X.K C f ∧ fs.length < 1000 ∧ D.nx σ (upd H2 a (.ins C dx (putF f y fs))))
    (hs : swapsWith e (some (.Attribute o f pos')) pos.line X.env = pure false := by rfl) : wS X (.Assign [.Attribute o f pos'] e pos) D σ H := PS.w (ps_fld pe_W pe_W hs) h
theorem s_raise {W : WX} {t : L2.St → Hp → XK → Prop} (hc : X.calm = true) (tk : Takes X W) (he : PMk X e t) (h : t σ H fun cls d H' => W cls d σ H') : wS X (.Raise (some e) none pos) D σ H := PS.w (ps_raise hc tk he) h
theorem b_mono {D' : Ends} (h : wB X ss D σ H) (h1 : ∀ σ' H', D.nx σ' H' → D'.nx σ' H') (h2 : ∀ v H', D.rt v H' → D'.rt v H') (h3 : ∀ σ' H', D.bk σ' H' → D'.bk σ' H') (h4 : ∀ σ' H', D.ct σ' H' → D'.ct σ' H') : wB X ss D' σ H := fun pins s I =>
  thn (h pins s I) fun f s' q => by
    cases f with
    | next => obtain ⟨a, b, c, d⟩ := q; exact ⟨a, b, c, h1 _ _ d⟩
    | brk => obtain ⟨a, b, c, d⟩ := q; exact ⟨a, b, c, h3 _ _ d⟩
    | cont => obtain ⟨a, b, c, d⟩ := q; exact ⟨a, b, c, h4 _ _ d⟩
    | ret u => obtain ⟨v, a, b, c, r, d⟩ := q; exact ⟨v, a, b, c, r, h2 _ _ d⟩
theorem e_mono {Q' : VK} (h : wE X e σ H Q) (h1 : ∀ v H', Q v H' → Q' v H') : wE X e σ H Q' := fun pins s I => thn (h pins s I) fun u s' ⟨v, H', I', r, q⟩ => ⟨v, H', I', r, h1 _ _ q⟩
end
end L2.Tr

/-! operators of own classes -/
namespace PySem.W
open PySem PySem.Calls PyProof.Rows
section
variable {prog : Program} {w : World} {A : Around} {E : Value → Shared → Prop} {s : Shared} {K : Frag} {x C dx L f : Addr} {h₀ : Heap} {m : Str → Option Value} {ox : Obj} {od : Option Obj} {nm : String}
/-- int's own slot declines an instance -/
theorem tr_decl {name : Str} {sl id : String} {g : Int → Int → Sem Fin} {i : Int} {t : Tok} {Q : Value → Shared → Prop} (slot : Slot "int" name id) (entry : entryFor table id = some (Builtin.Int.intBinary sl g)) (args : ∀ a b, argsOk id ⟨[a, b], []⟩)
    (I : s.heap.get? x = some (instObj C dx)) (h : Q .notImplemented s) : wpAny (model prog w) A (call (.builtin id) [.int i t, .ref x]) Q E s := by
  refine GQ.call_here slot (typeIs_int s i t) entry (args _ _) ?_
  unfold Builtin.Int.intBinary slotArgs Builtin.Int.intOfSelf
  simp only [List.isEmpty_nil, Bool.not_true, Bool.false_eq_true, if_false, List.length_cons, List.length_nil, bne_self_eq_false, pure_bind, asInt?, List.headD_cons]
  refine wpAny_bind (wpAny_bind (wpAny_load I (wpAny_pure ?_)))
  obtain ⟨hp, g, d, tk, os⟩ := s
  wp_walk
  exact h
/-- n op x, n an int, x an instance whose class has the reflected method -/
theorem tr_binR {op : Operator} {sl id : String} {g : Int → Int → Sem Fin} {i : Int} {t : Tok} {fo : Value} {Q : Value → Shared → Prop} (X : K.In s.heap) (I : InstAt s.heap x (instObj C dx) C od) (hc : selfFirst K C = true)
    (hs : findIn K (.ref C) (PySem.dunder op.info.2) = some (some (.ref f))) (hr : findIn K (.ref C) (dunderR op.info.2) = some (some (.ref L))) (hf : isFn K (.ref L) = true)
    (fills : fillsNumberSlot (.type "int") op.info.2 = pure true) (hsub : subIn K (.ref C) (.type "int") = some false)
    (slot : Slot "int" (PySem.dunder op.info.2) id) (entry : entryFor table id = some (Builtin.Int.intBinary sl g)) (args : ∀ a b, argsOk id ⟨[a, b], []⟩)
    (h : wpAny (model prog w) A (call (.ref L) [.ref x, .int i t]) (CmpBack Q) E s) : wpAny (model prog w) A (binaryOp op (.int i t) (.ref x)) Q E s := by
  obtain ⟨cd, rest, hcd, hm⟩ := ksp_first hc
  rcases hi : op.info with ⟨sym, nm'⟩
  rw [hi] at hs hr fills slot
  dsimp only at hs hr fills slot
  have two := ksp_try X I hr hf h
  have one : ∀ {Q : Option Value → Shared → Prop}, Q none s → wpAny (model prog w) A (tryMethod (.int i t) (PySem.dunder nm') (.ref x)) Q E s := fun q =>
    wpAny_tryMethod_declines (typeIs_int s i t) slot (tr_decl slot entry args I.at_ ⟨rfl, q⟩)
  obtain ⟨hh, g', d, tt, os⟩ := s
  have L1 : Looks (model prog w) hh (typeOf (.int i t)) (.type "int") := Looks.of_pure rfl
  have L2 : Looks (model prog w) hh (typeOf (.ref x)) (.ref C) := I.type
  have L3 : Looks (model prog w) hh (fillsNumberSlot (.type "int") nm') true := Looks.of_pure fills
  have L4 : Looks (model prog w) hh (fillsNumberSlot (.ref C) nm') true := fills_K X hcd hm hs
  have L5 : Looks (model prog w) hh (isSubtype (.ref C) (.type "int")) false := looks_subIn X hsub
  have L6 : Looks (model prog w) hh (numberSlotInPython (.type "int") nm') false := Looks.of_pure rfl
  have hne : (Value.type "int" == Value.ref C) = false := Bool.eq_false_iff.mpr fun q => by cases beq_iff_eq.mp q
  simp only [binaryOp, hi]
  refine wpAny_holding (wpAny_bind ?_)
  unfold binaryOp1
  refine wpAny_bind (L1.at (wpAny_bind (L2.at (wpAny_bind (L3.at ?_)))))
  simp only [hne, Bool.false_eq_true, if_false]
  ksp_lk
  refine one ?_
  ksp_lk
  refine wpAny_mono two (fun r s' hr' => ?_) fun _ _ e => e
  obtain ⟨v, rfl, hq⟩ := hr'
  ksp_lk
  exact hq
/-- n op x, a comparison -/
theorem tr_cmpR {op : CmpOp} {sl id : String} {g : Int → Int → Sem Fin} {i : Int} {t : Tok} {Q : Value → Shared → Prop} (hu : A.units < cLine) (X : K.In s.heap) (I : InstAt s.heap x (instObj C dx) C od)
    (hr : findIn K (.ref C) (cmpInfo op).2.2 = some (some (.ref f))) (hf : isFn K (.ref f) = true) (hsub : subIn K (.ref C) (.type "int") = some false)
    (slot : Slot "int" (cmpInfo op).2.1 id) (entry : entryFor table id = some (Builtin.Int.intBinary sl g)) (args : ∀ a b, argsOk id ⟨[a, b], []⟩)
    (h : wpAny (model prog w) A (call (.ref f) [.ref x, .int i t]) (CmpBack Q) E s) : wpAny (model prog w) A (richCompare op (.int i t) (.ref x)) Q E s := by
  have two : wpAny (model prog w) A (tryCompare (.ref x) (cmpInfo op).2.2 (.int i t)) (fun r s' => ∃ v, r = some v ∧ Q v s') E s := by
    unfold tryCompare
    refine wpAny_bind (ifBound_K X I hr hf (wpAny_mono h (fun v s' hv => ?_) fun _ _ e => e))
    cases v <;> first | exact hv.elim | exact wpAny_pure ⟨_, rfl, hv⟩
  rcases hi : cmpInfo op with ⟨sym, f', r'⟩
  rw [hi] at two slot
  dsimp only at two slot
  have hne : (Value.type "int" != Value.ref C) = true := by
    have : (Value.type "int" == Value.ref C) = false := Bool.eq_false_iff.mpr fun q => by cases beq_iff_eq.mp q
    simp only [bne, this, Bool.not_false]
  simp only [richCompare, hi, (typeIs_int s i t).oneThing_none]
  refine wpAny_holding (wpAny_bind (wpAny_cRoomFor hu ?_))
  refine wpAny_bind (wpAny_typeOf (typeIs_int s i t) (wpAny_bind (I.type.here ?_)))
  simp only [hne, if_true]
  refine wpAny_bind ((looks_subIn X hsub).here ?_)
  simp only [Bool.false_eq_true, if_false, Bool.not_false, if_true]
  refine wpAny_bind (m := tryCompare (.int i t) _ (.ref x)) (wpAny_tryCompare_declines (typeIs_int s i t) slot (tr_decl slot entry args I.at_ ⟨rfl, ?_⟩))
  refine wpAny_bind (m := tryCompare (.ref x) _ (.int i t)) (wpAny_mono two (fun r s' z => ?_) fun _ _ e => e)
  obtain ⟨v, rfl, hq⟩ := z
  exact wpAny_pure hq
/-- object.__ne__ of an instance whose class has its own __eq__ -/
theorem tr_objNe {b : Value} {Q : Value → Shared → Prop} (hu : A.in1.units < cLine) (X : K.In s.heap) (I : InstAt s.heap x ox C od) (hm : mroIn K C (.type "object") = some true) (hr : findIn K (.ref C) "__eq__" = some (some (.ref f))) (hf : isFn K (.ref f) = true)
    (h : wpAny (model prog w) A.in1 (call (.ref f) [.ref x, b]) (fun v s' => ∃ k, v = .bool k ∧ Q (.bool (!k)) s') E s) : wpAny (model prog w) A (call (.builtin "object.__ne__") [.ref x, b]) Q E s := by
  refine wpAny_call (codeAny_call_builtin F.cmp_object.ne.plain F.cmpEntry_ne (check_slot (i := "object.__ne__") (owner := "object") (n := "__ne__") F.cmpKind_ne F.cmpSplit_ne (I.type.andThen (looks_mroIn X hm)) (F.cmpArgs_ne _ _) ?_))
  unfold Builtin.«object.__ne__»
  refine wpAny_bind (m := slotArgs "__ne__" 1 _) (wpAny_pure ?_)
  refine wpAny_bind (m := cRoomFor _ _) (wpAny_cRoomFor hu ?_)
  refine wpAny_bind (m := callSpecialIfBound? (.ref x) (Str.ofString "__eq__") _) (ifBound_K X I hr hf (wpAny_mono h (fun r s' hq => ?_) fun _ _ y => y))
  obtain ⟨k, rfl, hq⟩ := hq
  refine wpAny_bind (m := truthy (.bool k)) (wpAny_truthy_bool ?_)
  exact wpAny_pure hq
theorem tr_tryNe {b : Value} {Q : Option Value → Shared → Prop} (hu : A.in1.units < cLine) (X : K.In s.heap) (I : InstAt s.heap x ox C od) (hm : mroIn K C (.type "object") = some true) (hn : findIn K (.ref C) "__ne__" = some (some (.builtin "object.__ne__"))) (hr : findIn K (.ref C) "__eq__" = some (some (.ref f))) (hf : isFn K (.ref f) = true)
    (h : wpAny (model prog w) A.in1 (call (.ref f) [.ref x, b]) (fun v s' => ∃ k, v = .bool k ∧ Q (some (.bool (!k))) s') E s) : wpAny (model prog w) A (tryCompare (.ref x) "__ne__" b) Q E s := by
  unfold tryCompare
  simp only [callSpecialIfBound?, bindSpecialIfBound?]
  refine wpAny_bind (wpAny_holding (wpAny_bind (wpAny_bind (wpAny_bind (I.type.here ((looks_findIn X hn).here ?_))))))
  refine wpAny_bind (wpAny_askSetting (wpAny_ite ?_))
  have fin : wpAny (model prog w) A (call (.builtin "object.__ne__") ([.ref x] ++ [b]) >>= fun v => pure (some v)) (fun a s' => wpAny (model prog w) A (match a with | some .notImplemented => pure none | none => pure none | some v => pure (some v)) Q E s') E s :=
    wpAny_bind (tr_objNe hu X I hm hr hf (wpAny_mono h (fun v s' ⟨k, e, q⟩ => ⟨k, e, wpAny_pure (wpAny_pure q)⟩) fun _ _ h' => h'))
  simp only [F.cmp_object.ne.bind]
  split
  · exact wpAny_bind (wpAny_pure (wpAny_pure (by exact fin)))
  · exact wpAny_tryCatch (wpAny_bind (wpAny_pure (wpAny_pure (by exact fin))))
/-- x != b -/
theorem tr_ne {b tb : Value} {Q : Value → Shared → Prop} (hu : A.in1.units < cLine) (hu0 : A.units < cLine) (X : K.In s.heap) (I : InstAt s.heap x ox C od) (hb : Looks (model prog w) s.heap (typeOf b) tb) (hnf : notFirst K C tb = true) (hm : mroIn K C (.type "object") = some true)
    (hn : findIn K (.ref C) "__ne__" = some (some (.builtin "object.__ne__"))) (hr : findIn K (.ref C) "__eq__" = some (some (.ref f))) (hf : isFn K (.ref f) = true)
    (h : wpAny (model prog w) A.in1 (call (.ref f) [.ref x, b]) (fun v s' => ∃ k, v = .bool k ∧ Q (.bool (!k)) s') E s) : wpAny (model prog w) A (richCompare .NotEq (.ref x) b) Q E s := by
  have one : wpAny (model prog w) A (tryCompare (.ref x) "__ne__" b) (fun r s' => ∃ v, r = some v ∧ Q v s') E s := tr_tryNe hu X I hm hn hr hf (wpAny_mono h (fun v s' ⟨k, e, q⟩ => ⟨k, e, _, rfl, q⟩) fun _ _ h' => h')
  unfold richCompare
  simp only [oneThing_ref]
  refine wpAny_holding (wpAny_bind (wpAny_cRoomFor hu0 ?_))
  refine wpAny_bind (I.type.here (wpAny_bind (hb.here ?_)))
  split
  · rename_i q
    have e : subIn K tb (.ref C) = some false := by
      rcases Bool.or_eq_true_iff.mp hnf with e | e
      · rw [beq_iff_eq.mp e] at q; simp at q
      · exact beq_iff_eq.mp e
    refine wpAny_bind ((looks_subIn X e).here ?_)
    simp only [Bool.false_eq_true, if_false]
    refine wpAny_bind (m := tryCompare (.ref x) _ b) (wpAny_mono one (fun r s' z => ?_) fun _ _ e => e)
    obtain ⟨v, rfl, hq⟩ := z
    exact wpAny_pure hq
  · refine wpAny_bind (wpAny_pure ?_)
    simp only [Bool.false_eq_true, if_false]
    refine wpAny_bind (m := tryCompare (.ref x) _ b) (wpAny_mono one (fun r s' z => ?_) fun _ _ e => e)
    obtain ⟨v, rfl, hq⟩ := z
    exact wpAny_pure hq
/-- n != x -/
theorem tr_neR {sl id : String} {g : Int → Int → Sem Fin} {i : Int} {t : Tok} {Q : Value → Shared → Prop} (hu1 : A.in1.units < cLine) (hu : A.units < cLine) (X : K.In s.heap) (I : InstAt s.heap x (instObj C dx) C od) (hm : mroIn K C (.type "object") = some true)
    (hn : findIn K (.ref C) "__ne__" = some (some (.builtin "object.__ne__"))) (hr : findIn K (.ref C) "__eq__" = some (some (.ref f))) (hf : isFn K (.ref f) = true) (hsub : subIn K (.ref C) (.type "int") = some false)
    (h : wpAny (model prog w) A.in1 (call (.ref f) [.ref x, .int i t]) (fun v s' => ∃ k, v = .bool k ∧ Q (.bool (!k)) s') E s) : wpAny (model prog w) A (richCompare .NotEq (.int i t) (.ref x)) Q E s := by
  have two : wpAny (model prog w) A (tryCompare (.ref x) "__ne__" (.int i t)) (fun r s' => ∃ v, r = some v ∧ Q v s') E s := tr_tryNe hu1 X I hm hn hr hf (wpAny_mono h (fun v s' ⟨k, e, q⟩ => ⟨k, e, _, rfl, q⟩) fun _ _ h' => h')
  have hne : (Value.type "int" != Value.ref C) = true := by
    have : (Value.type "int" == Value.ref C) = false := Bool.eq_false_iff.mpr fun q => by cases beq_iff_eq.mp q
    simp only [bne, this, Bool.not_false]
  simp only [richCompare, cmpInfo, (typeIs_int s i t).oneThing_none]
  refine wpAny_holding (wpAny_bind (wpAny_cRoomFor hu ?_))
  refine wpAny_bind (wpAny_typeOf (typeIs_int s i t) (wpAny_bind (I.type.here ?_)))
  simp only [hne, if_true]
  refine wpAny_bind ((looks_subIn X hsub).here ?_)
  simp only [Bool.false_eq_true, if_false, Bool.not_false, if_true]
  refine wpAny_bind (m := tryCompare (.int i t) _ (.ref x)) (wpAny_tryCompare_declines (typeIs_int s i t) F.slot_int_ne (tr_decl (sl := "__ne__") F.slot_int_ne F.entry_int_ne F.args_int_ne_2 I.at_ ⟨rfl, ?_⟩))
  refine wpAny_bind (m := tryCompare (.ref x) _ (.int i t)) (wpAny_mono two (fun r s' z => ?_) fun _ _ e => e)
  obtain ⟨v, rfl, hq⟩ := z
  exact wpAny_pure hq
end
end PySem.W

namespace L2.Tr
open PySem PySem.Spec PyProof.Rows

/-! ### results of mirrors -/
inductive Pay where
  | int (i : Int) | str (s : Str) | bl (b : Bool) | non | frac (q : Rat) | obj (n : Nat) (xs : List Rat)
structure Exn where
  cls : Str
  pay : List (Str × Pay)
inductive Res (α : Type) where
  | ok (a : α) | err (e : Exn) | stuck
namespace Res
variable {α β γ : Type}
def bind (m : Res α) (f : α → Res β) : Res β := match m with
  | .ok a => f a
  | .err e => .err e
  | .stuck => .stuck
@[simp] theorem ok_bind (a : α) (f : α → Res β) : (ok a).bind f = f a := rfl
@[simp] theorem err_bind (e : Exn) (f : α → Res β) : (err e : Res α).bind f = err e := rfl
@[simp] theorem stuck_bind (f : α → Res β) : (stuck : Res α).bind f = stuck := rfl
theorem bind_assoc (m : Res α) (f : α → Res β) (g : β → Res γ) : (m.bind f).bind g = m.bind fun a => (f a).bind g := by cases m <;> rfl
theorem bind_ok (m : Res α) : (m.bind fun a => ok a) = m := by cases m <;> rfl
def guard (p : Prop) [Decidable p] (m : Res α) : Res α := if p then m else stuck
theorem guard_pos {p : Prop} [Decidable p] (h : p) (m : Res α) : guard p m = m := if_pos h
end Res

/-! ### representations -/
/-- by the frozen heap I and the heap H -/
abbrev Ra (α : Type) := Hp → Hp → V → α → Prop
/-- by the frozen heap alone -/
abbrev Rp (α : Type) := Hp → V → α → Prop
abbrev rp {α : Type} (r : Rp α) : Ra α := fun I _ v x => r I v x
class Mo {α : Type} (r : Rp α) : Prop where
  up : ∀ {I I' : Hp} {v : V} {x : α}, Same I I' → r I v x → r I' v x
class MoA {α : Type} (r : Ra α) : Prop where
  up : ∀ {I H I' H' : Hp} {v : V} {x : α}, Same I I' → Same H H' → r I H v x → r I' H' v x
instance {α : Type} {r : Rp α} [m : Mo r] : MoA (rp r) := ⟨fun a _ h => m.up a h⟩
instance {α : Type} {r : Ra α} {H0 : Hp} [m : MoA r] : Mo (fun I v x => r I H0 v x) := ⟨fun a h => m.up a (Same.refl _) h⟩

def rInt : Rp Int := fun _ v x => v = .int x
def rBl : Rp Bool := fun _ v x => v = .bl x
def rStr : Rp Str := fun _ v x => v = .str x
def rNon : Rp Unit := fun _ v _ => v = .non
instance : Mo rInt := ⟨fun _ h => h⟩
instance : Mo rBl := ⟨fun _ h => h⟩
instance : Mo rStr := ⟨fun _ h => h⟩
instance : Mo rNon := ⟨fun _ h => h⟩
/-- a Fraction -/
def frF (q : Rat) : List (Str × V) := [("top", .int q.num), ("bottom", .int (q.den : Int))]
def rFrac (K : PySem.W.Frag) : Rp Rat := fun I v q => ∃ a dx, v = .ref a ∧ I a = some (.ins (He.ga K "Fraction") dx (frF q))
instance {K : PySem.W.Frag} : Mo (rFrac K) := ⟨fun s ⟨a, dx, e, h⟩ => ⟨a, dx, e, s _ _ h⟩⟩
/-- an int or a Fraction -/
inductive Num where
  | i (n : Int) | q (r : Rat)
def Num.val : Num → Rat
  | .i n => (n : Rat)
  | .q r => r
def rNum (K : PySem.W.Frag) : Rp Num := fun I v x => match x with
  | .i n => v = .int n
  | .q r => rFrac K I v r
instance {K : PySem.W.Frag} : Mo (rNum K) := ⟨fun {I I' v x} s h => by
  cases x with
  | i n => exact h
  | q r => exact Mo.up (r := rFrac K) s h⟩
theorem Paired.mapQ {α β : Type} {F G : α → β → Prop} {l₁ : List α} {l₂ : List β} (h : Paired F l₁ l₂) (f : ∀ a b, F a b → G a b) : Paired G l₁ l₂ := Paired.mapP h f
/-- a frozen list -/
def rL {α : Type} (r : Rp α) : Rp (List α) := fun I v xs => ∃ l vs, v = .ref l ∧ I l = some (.lst vs) ∧ Paired (r I) vs xs
instance {α : Type} {r : Rp α} [m : Mo r] : Mo (rL r) := ⟨fun s ⟨l, vs, e, h, p⟩ => ⟨l, vs, e, s _ _ h, Paired.mapP p fun _ _ q => m.up s q⟩⟩
/-- a frozen tuple (of one kind) -/
def rT {α : Type} (r : Rp α) : Rp (List α) := fun I v xs => ∃ l vs, v = .ref l ∧ I l = some (.tup vs) ∧ Paired (r I) vs xs
instance {α : Type} {r : Rp α} [m : Mo r] : Mo (rT r) := ⟨fun s ⟨l, vs, e, h, p⟩ => ⟨l, vs, e, s _ _ h, Paired.mapP p fun _ _ q => m.up s q⟩⟩
/-- a list that can be read (frozen or not), or the script -/
def rdL {α : Type} (K : PySem.W.Frag) (r : Ra α) : Ra (List α) := fun I H v xs => ∃ l vs, v = .ref l ∧ SqL K H l vs ∧ Paired (r I H) vs xs
instance {α : Type} {K : PySem.W.Frag} {r : Ra α} [m : MoA r] : MoA (rdL K r) := ⟨fun s t ⟨l, vs, e, h, p⟩ => ⟨l, vs, e, t.seq h, Paired.mapP p fun _ _ q => m.up s t q⟩⟩

/-! ### exceptions -/
def PayR (K : PySem.W.Frag) (I : Hp) (v : V) : Pay → Prop
  | .int i => v = .int i
  | .str s => v = .str s
  | .bl b => v = .bl b
  | .non => v = .non
  | .frac q => rFrac K I v q
  | .obj _ _ => True
def ExR (K : PySem.W.Frag) (I H : Hp) (e : Exn) (cls : Value) (d : Option Addr) : Prop := cls = .ref (He.ga K e.cls) ∧ (match d with
  | none => e.pay = []
  | some a => e.pay ≠ [] ∧ ∃ fs : List (Str × V), H a = some (.xd fs) ∧ I a = none ∧ Paired (fun (p : Str × V) (q : Str × Pay) => p.1 = q.1 ∧ PayR K I p.2 q.2) fs e.pay)

/-! ### frames -/
/-- from (I, H) to (I', H') nothing that stood has changed -/
structure Fm (I H I' H' : Hp) : Prop where
  i : Same I I'
  h : Same H H'
  ih : Same I' H'
  mu : ∀ l, I l = none → H l ≠ none → I' l = none
theorem Fm.refl {I H : Hp} (h : Same I H) : Fm I H I H := ⟨Same.refl _, Same.refl _, h, fun _ e _ => e⟩
theorem Fm.trans {I H I1 H1 I2 H2 : Hp} (a : Fm I H I1 H1) (b : Fm I1 H1 I2 H2) : Fm I H I2 H2 :=
  ⟨a.i.trans b.i, a.h.trans b.h, b.ih, fun l e n => b.mu l (a.mu l e n) fun q => by
    cases z : H l with
    | none => exact n z
    | some o => rw [a.h l o z] at q; cases q⟩
/-- a new frozen object -/
theorem Fm.new {I H : Hp} {p : Addr} {o : HO} (s : Same I H) (h : H p = none) : Fm I H (upd I p o) (upd H p o) :=
  ⟨fun b u e => by rw [upd_ne (ne_of_none (s _ _ e) h)]; exact e, fun b u e => by rw [upd_ne (ne_of_none e h)]; exact e, fun b u e => by
    by_cases hb : b = p
    · subst hb; rw [upd_same] at e ⊢; exact e
    · rw [upd_ne hb] at e ⊢; exact s _ _ e, fun l e n => by
    have : l ≠ p := fun q => n (q ▸ h)
    rw [upd_ne this]; exact e⟩
/-- a new object that may still be changed -/
theorem Fm.newM {I H : Hp} {p : Addr} {o : HO} (s : Same I H) (h : H p = none) : Fm I H I (upd H p o) :=
  ⟨Same.refl _, fun b u e => by rw [upd_ne (ne_of_none e h)]; exact e, fun b u e => by rw [upd_ne (ne_of_none (s _ _ e) h)]; exact s _ _ e, fun l e n => e⟩

/-- the error's own dict is new -/
def Fr (H : Hp) (d : Option Addr) : Prop := ∀ a, d = some a → H a = none
theorem Fr.back {H H' : Hp} {d : Option Addr} (f : Fr H' d) (s : Same H H') : Fr H d := fun a e => s.free (f a e)
def PostE {α : Type} (K : PySem.W.Frag) (m : Res α) (r : Ra α) (I H : Hp) (E : XK) (Q : VK) : Prop := match m with
  | .ok a => ∀ I' H' v, Fm I H I' H' → r I' H' v a → Q v H'
  | .err e => ∀ I' H' cls d, Fm I H I' H' → Fr H d ∧ ExR K I' H' e cls d → E cls d H'
  | .stuck => False
theorem PostE.up {α : Type} {K : PySem.W.Frag} {m : Res α} {r : Ra α} {I H I1 H1 : Hp} {E : XK} {Q : VK} (h : PostE K m r I H E Q) (f : Fm I H I1 H1) : PostE K m r I1 H1 E Q := by
  cases m with
  | ok a => exact fun I' H' v g => h I' H' v (f.trans g)
  | err e => exact fun I' H' c d g x => h I' H' c d (f.trans g) ⟨x.1.back f.h, x.2⟩
  | stuck => exact h
theorem PostE.imp {α : Type} {K : PySem.W.Frag} {m : Res α} {r : Ra α} {I H : Hp} {E : XK} {Q Q' : VK} (h : PostE K m r I H E Q) (g : ∀ v H', Q v H' → Q' v H') : PostE K m r I H E Q' := by
  cases m with
  | ok a => exact fun I' H' v f r => g _ _ (h I' H' v f r)
  | err e => exact h
  | stuck => exact h

/-! ### environments -/
structure SF where
  {α : Type}
  r : Rp α
  [mo : Mo r]
  x : α
/-- an object of the call's own that may still be changed -/
structure MF where
  l : Addr
  P : Hp → HO → Prop
  mo : ∀ {I I' : Hp} {o : HO}, Same I I' → P I o → P I' o
def MF.lst {α : Type} (l : Addr) (r : Rp α) [m : Mo r] (xs : List α) : MF := ⟨l, fun I o => ∃ vs, o = .lst vs ∧ Paired (r I) vs xs, fun s ⟨vs, e, p⟩ => ⟨vs, e, Paired.mapP p fun _ _ q => m.up s q⟩⟩
def FldR (I : Hp) : List (Str × V) → List (Str × SF) → Prop
  | [], [] => True
  | p :: fs, q :: gs => p.1 = q.1 ∧ q.2.r I p.2 q.2.x ∧ FldR I fs gs
  | _, _ => False
theorem FldR.up {I I' : Hp} (s : Same I I') : ∀ {fs : List (Str × V)} {gs : List (Str × SF)}, FldR I fs gs → FldR I' fs gs
  | [], [], h => h
  | _ :: _, q :: _, ⟨a, b, c⟩ => ⟨a, q.2.mo.up s b, FldR.up s c⟩
  | [], _ :: _, h => h
  | _ :: _, [], h => h
def MF.ins (l C dx : Addr) (gs : List (Str × SF)) : MF := ⟨l, fun I o => ∃ fs, o = .ins C dx fs ∧ FldR I fs gs, fun s ⟨fs, e, p⟩ => ⟨fs, e, FldR.up s p⟩⟩
structure Stt (I0 H0 : Hp) (ctx : List (Option SF)) (mem : List MF) (I H : Hp) (σ : St) : Prop where
  fm : Fm I0 H0 I H
  len : σ.length = ctx.length
  sl : ∀ (i : Nat) (sf : SF), ctx[i]? = some (some sf) → ∃ v, σ[i]? = some (some v) ∧ sf.r I v sf.x
  me : ∀ c : MF, c ∈ mem → H0 c.l = none ∧ I c.l = none ∧ ∃ o, H c.l = some o ∧ c.P I o
  nd : (mem.map (·.l)).Nodup
section
variable {I0 H0 I H I' H' : Hp} {ctx : List (Option SF)} {mem : List MF} {σ : St}
theorem Stt.same (s : Stt I0 H0 ctx mem I H σ) : Same I H := s.fm.ih
theorem Stt.step (s : Stt I0 H0 ctx mem I H σ) (f : Fm I H I' H') : Stt I0 H0 ctx mem I' H' σ := by
  refine ⟨s.fm.trans f, s.len, fun i sf e => ?_, fun c hc => ?_, s.nd⟩
  · obtain ⟨v, e1, h⟩ := s.sl i sf e
    exact ⟨v, e1, sf.mo.up f.i h⟩
  · obtain ⟨a, b, o, e, p⟩ := s.me c hc
    exact ⟨a, f.mu _ b (by rw [e]; intro z; cases z), o, f.h _ _ e, c.mo f.i p⟩
theorem Stt.set (s : Stt I0 H0 ctx mem I H σ) (i : Nat) {α : Type} {r : Rp α} [mo : Mo r] {x : α} {v : V} (h : r I v x) : Stt I0 H0 (ctx.set i (some ⟨r, x⟩)) mem I H (σ.set i (some v)) := by
  refine ⟨s.fm, by rw [List.length_set, List.length_set]; exact s.len, fun j sf e => ?_, s.me, s.nd⟩
  by_cases hj : j = i
  · subst hj
    rw [List.getElem?_set] at e
    by_cases hl : j < ctx.length
    · simp only [hl, if_true] at e
      cases e
      exact ⟨v, by rw [List.getElem?_set]; simp [s.len, hl], h⟩
    · simp only [hl, if_true, if_false] at e
      cases e
  · rw [List.getElem?_set_ne (Ne.symm hj)] at e
    obtain ⟨w, e1, q⟩ := s.sl j sf e
    exact ⟨w, by rw [List.getElem?_set_ne (Ne.symm hj)]; exact e1, q⟩
end
/-! ### expressions -/
section
variable {α β γ δ : Type}
def JE (X : Cx) (I0 H0 : Hp) (W : WX) (ctx : List (Option SF)) (mem : List MF) (e : Expr) (m : Res α) (r : Ra α) : Prop :=
  ∀ (I H : Hp) (σ : St) (Q : VK), Stt I0 H0 ctx mem I H σ → PostE X.K m r I H (fun cls d H' => W cls d σ H') Q → wE X e σ H Q
def JT (X : Cx) (I0 H0 : Hp) (W : WX) (ctx : List (Option SF)) (mem : List MF) (e : Expr) (m : Res Bool) : Prop :=
  ∀ (I H : Hp) (σ : St) (Q : Bool → Hp → Prop), Stt I0 H0 ctx mem I H σ → PostE X.K m (rp rBl) I H (fun cls d H' => W cls d σ H') (fun v H' => ∀ b, v = .bl b → Q b H') → wT X e σ H Q
def OpJ (X : Cx) (W : WX) (f : Value → Value → Sem Value) (ra : Ra α) (rb : Ra β) (g : α → β → Res γ) (rc : Ra γ) : Prop :=
  ∀ (I H : Hp) (σ : St) (Q : VK) (u v : V) (x : α) (y : β), Same I H → ra I H u x → rb I H v y → PostE X.K (g x y) rc I H (fun cls d H' => W cls d σ H') Q → opW X f σ u v H Q
def UnJ (X : Cx) (W : WX) (f : Value → Sem Value) (ra : Ra α) (g : α → Res γ) (rc : Ra γ) : Prop :=
  ∀ (I H : Hp) (σ : St) (Q : VK) (u : V) (x : α), Same I H → ra I H u x → PostE X.K (g x) rc I H (fun cls d H' => W cls d σ H') Q → unW X f σ u H Q
def CallJ (X : Cx) (W : WX) (f : Value) (R : Hp → Hp → List V → δ → Prop) (g : δ → Res γ) (rc : Ra γ) : Prop :=
  ∀ (I H : Hp) (σ : St) (Q : VK) (vs : List V) (x : δ), Same I H → R I H vs x → PostE X.K (g x) rc I H (fun cls d H' => W cls d σ H') Q → callW X f σ vs H Q
/-- argument lists -/
def JA (X : Cx) (I0 H0 : Hp) (W : WX) (ctx : List (Option SF)) (mem : List MF) (es : List Expr) (m : Res δ) (R : Hp → Hp → List V → δ → Prop) : Prop :=
  ∀ (I H : Hp) (σ : St) (Q : List V → Hp → Prop), Stt I0 H0 ctx mem I H σ → (match m with
    | .ok a => ∀ I' H' vs, Fm I H I' H' → R I' H' vs a → Q vs H'
    | .err e => ∀ I' H' cls d, Fm I H I' H' → Fr H d ∧ ExR X.K I' H' e cls d → W cls d σ H'
    | .stuck => False) → wA X es σ H Q
def aNil : Hp → Hp → List V → Unit → Prop := fun _ _ vs _ => vs = []
def aCons (r : Ra α) (R : Hp → Hp → List V → δ → Prop) : Hp → Hp → List V → α × δ → Prop := fun I H vs x => ∃ v ws, vs = v :: ws ∧ r I H v x.1 ∧ R I H ws x.2

variable {X : Cx} {I0 H0 : Hp} {W : WX} {ctx : List (Option SF)} {mem : List MF} {e a b c o : Expr} {es : List Expr} {pos pos' : Pos} {n : Str} {ra : Ra α} {rb : Ra β} {rc : Ra γ} {ma : Res α} {mb : Res β}

theorem JE.co {m : Res α} {r : Ra α} {r' : Ra α} (j : JE X I0 H0 W ctx mem e m r) (c : ∀ I H v x, Same I H → r I H v x → r' I H v x) : JE X I0 H0 W ctx mem e m r' := fun I H σ Q st p => j I H σ Q st (by
  cases m with
  | ok a => exact fun I' H' v f q => p I' H' v f (c _ _ _ _ f.ih q)
  | err e => exact p
  | stuck => exact p)
theorem JE.map {m : Res α} {r : Ra α} {r' : Ra β} {g : α → β} (j : JE X I0 H0 W ctx mem e m r) (c : ∀ I H v x, Same I H → r I H v x → r' I H v (g x)) : JE X I0 H0 W ctx mem e (m.bind fun x => .ok (g x)) r' := fun I H σ Q st p => j I H σ Q st (by
  cases m with
  | ok a => exact fun I' H' v f q => p I' H' v f (c _ _ _ _ f.ih q)
  | err e => exact p
  | stuck => exact p)
theorem JE.num {m : Res Int} {K : PySem.W.Frag} (j : JE X I0 H0 W ctx mem e m (rp rInt)) : JE X I0 H0 W ctx mem e (m.bind fun x => .ok (Num.i x)) (rp (rNum K)) := j.map fun _ _ _ _ _ h => h
theorem JE.numq {m : Res Rat} {K : PySem.W.Frag} (j : JE X I0 H0 W ctx mem e m (rp (rFrac K))) : JE X I0 H0 W ctx mem e (m.bind fun x => .ok (Num.q x)) (rp (rNum K)) := j.map fun _ _ _ _ _ h => h
/-- a name in slot i -/
theorem JE.var (i : Nat) {r : Rp α} {mo : Mo r} {x : α} (hc : ctx[i]? = some (some (@SF.mk α r mo x)) := by rfl) (hN : X.N[i]? = some n := by rfl) (hv : Vis X.env.scope n := by first | exact Or.inl rfl | exact Or.inr (Or.inl rfl) | exact Or.inr (Or.inr rfl)) (hd : (n == ("__debug__" : Str)) = false := by decide)
    (hcd : (n == ("__classdict__" : Str)) = false := by decide) : JE X I0 H0 W ctx mem (.Name n pos) (.ok x) (rp r) := fun I H σ Q st p => by
  obtain ⟨v, e, h⟩ := st.sl i _ hc
  exact w_var i (p I H v (Fm.refl st.same) h) e hN hv hd hcd
/-- .. a parameter whose worth may lean on the heap at the entry -/
theorem JE.varP (i : Nat) {r : Ra α} {mo : Mo (fun I v x => r I H0 v x)} {x : α} [m : MoA r] (hc : ctx[i]? = some (some (@SF.mk α (fun I v x => r I H0 v x) mo x)) := by rfl) (hN : X.N[i]? = some n := by rfl) (hv : Vis X.env.scope n := by first | exact Or.inl rfl | exact Or.inr (Or.inl rfl) | exact Or.inr (Or.inr rfl)) (hd : (n == ("__debug__" : Str)) = false := by decide)
    (hcd : (n == ("__classdict__" : Str)) = false := by decide) : JE X I0 H0 W ctx mem (.Name n pos) (.ok x) r := fun I H σ Q st p => by
  obtain ⟨v, e, h⟩ := st.sl i _ hc
  exact w_var i (p I H v (Fm.refl st.same) (m.up (Same.refl _) st.fm.h h)) e hN hv hd hcd
theorem JE.int {i : Int} {j} : JE X I0 H0 W ctx mem (.Constant (.int i) j pos) (.ok i) (rp rInt) := fun I H σ Q st p => w_int (p I H _ (Fm.refl st.same) rfl)
theorem JE.bl {i : Bool} {j} : JE X I0 H0 W ctx mem (.Constant (.bool i) j pos) (.ok i) (rp rBl) := fun I H σ Q st p => w_bl (p I H _ (Fm.refl st.same) rfl)
theorem JE.str {i : Str} {j} : JE X I0 H0 W ctx mem (.Constant (.str i) j pos) (.ok i) (rp rStr) := fun I H σ Q st p => w_str (p I H _ (Fm.refl st.same) rfl)
theorem JE.non {j} : JE X I0 H0 W ctx mem (.Constant .none j pos) (.ok ()) (rp rNon) := fun I H σ Q st p => w_non (p I H _ (Fm.refl st.same) rfl)
theorem JE.bin {op : Operator} {g : α → β → Res γ} [MoA ra] (ja : JE X I0 H0 W ctx mem a ma ra) (jb : JE X I0 H0 W ctx mem b mb rb) (o : OpJ X W (binaryOp op) ra rb g rc) : JE X I0 H0 W ctx mem (.BinOp a op b pos) (ma.bind fun x => mb.bind fun y => g x y) rc := fun I H σ Q st p => by
  refine w_bin (ja I H σ _ st ?_)
  cases ma with
  | ok x =>
    intro I1 H1 u f1 r1
    refine jb I1 H1 σ _ (st.step f1) ?_
    have p1 := PostE.up p f1
    cases mb with
    | ok y => exact fun I2 H2 v f2 r2 => o I2 H2 σ Q u v x y f2.ih (MoA.up f2.i f2.h r1) r2 (PostE.up p1 f2)
    | err e => exact p1
    | stuck => exact p1
  | err e => exact p
  | stuck => exact p
theorem JE.cmp {op : CmpOp} {g : α → β → Res γ} [MoA ra] (ja : JE X I0 H0 W ctx mem a ma ra) (jb : JE X I0 H0 W ctx mem b mb rb) (o : OpJ X W (compareOp op) ra rb g rc) (hm : behindInMarks op b = false := by first | exact nomark _ | rfl) : JE X I0 H0 W ctx mem (.Compare a [op] [b] pos) (ma.bind fun x => mb.bind fun y => g x y) rc := fun I H σ Q st p => by
  refine w_cmp (ja I H σ _ st ?_) hm
  cases ma with
  | ok x =>
    intro I1 H1 u f1 r1
    refine jb I1 H1 σ _ (st.step f1) ?_
    have p1 := PostE.up p f1
    cases mb with
    | ok y => exact fun I2 H2 v f2 r2 => o I2 H2 σ Q u v x y f2.ih (MoA.up f2.i f2.h r1) r2 (PostE.up p1 f2)
    | err e => exact p1
    | stuck => exact p1
  | err e => exact p
  | stuck => exact p
theorem JT.cmp {op : CmpOp} {g : α → β → Res Bool} [MoA ra] (ja : JE X I0 H0 W ctx mem a ma ra) (jb : JE X I0 H0 W ctx mem b mb rb) (o : OpJ X W (compareOp op) ra rb g (rp rBl)) (hm : behindInMarks op b = false := by first | exact nomark _ | rfl) : JT X I0 H0 W ctx mem (.Compare a [op] [b] pos) (ma.bind fun x => mb.bind fun y => g x y) := fun I H σ Q st p => by
  refine w_tcmp (ja I H σ _ st ?_) hm
  cases ma with
  | ok x =>
    intro I1 H1 u f1 r1
    refine jb I1 H1 σ _ (st.step f1) ?_
    have p1 := PostE.up p f1
    cases mb with
    | ok y =>
      intro I2 H2 v f2 r2
      refine o I2 H2 σ _ u v x y f2.ih (MoA.up f2.i f2.h r1) r2 ?_
      have p2 := PostE.up p1 f2
      revert p2
      show PostE X.K (g x y) _ _ _ _ _ → _
      generalize g x y = z
      intro p2
      cases z with
      | ok k => intro I3 H3 v3 f3 r3; cases r3; exact tru_bl (p2 I3 H3 _ f3 rfl k rfl)
      | err e => exact p2
      | stuck => exact p2
    | err e => exact p1
    | stuck => exact p1
  | err e => exact p
  | stuck => exact p
theorem JE.un {op : UnaryOp} {g : α → Res γ} (ja : JE X I0 H0 W ctx mem a ma ra) (o : UnJ X W (unaryOp op) ra g rc) : JE X I0 H0 W ctx mem (.UnaryOp op a pos) (ma.bind fun x => g x) rc := fun I H σ Q st p => by
  refine w_un (ja I H σ _ st ?_)
  cases ma with
  | ok x => exact fun I1 H1 u f1 r1 => o I1 H1 σ Q u x f1.ih r1 (PostE.up p f1)
  | err e => exact p
  | stuck => exact p
/-- a test of a plain form whose value is a bool -/
theorem JT.of {m : Res Bool} (j : JE X I0 H0 W ctx mem e m (rp rBl)) (he : ∀ whole, isTrue e X.env whole = (do let v ← whole; standAt e.pos; holding [v] (truthy v)) := by intro _; rfl) : JT X I0 H0 W ctx mem e m := fun I H σ Q st p => by
  refine w_t (j I H σ _ st ?_) he
  cases m with
  | ok k => intro I1 H1 v f1 r1; cases r1; exact tru_bl (p I1 H1 _ f1 rfl k rfl)
  | err e => exact p
  | stuck => exact p
theorem JT.not {m : Res Bool} (j : JT X I0 H0 W ctx mem e m) : JT X I0 H0 W ctx mem (.UnaryOp .Not e pos) (m.bind fun b => .ok (!b)) := fun I H σ Q st p => by
  refine w_not (j I H σ _ st ?_)
  cases m with
  | ok k => exact fun I1 H1 v f1 r1 b hb => by cases r1; cases hb; exact p I1 H1 _ f1 rfl _ rfl
  | err e => exact p
  | stuck => exact p
theorem JE.not {m : Res Bool} (j : JE X I0 H0 W ctx mem e m (rp rBl)) : JE X I0 H0 W ctx mem (.UnaryOp .Not e pos) (m.bind fun b => .ok (!b)) (rp rBl) := fun I H σ Q st p => by
  refine w_notV (j I H σ _ st ?_)
  cases m with
  | ok k => exact fun I1 H1 v f1 r1 => ⟨k, r1, p I1 H1 _ f1 rfl⟩
  | err e => exact p
  | stuck => exact p
end
end L2.Tr

namespace L2.Tr
open PySem PySem.Spec PyProof.Rows
section
variable {α β γ δ S : Type}
def JW (X : Cx) (I0 H0 : Hp) (W : WX) (ctx : List (Option SF)) (mem : List MF) (e : Expr) (m : Res Bool) : Prop :=
  ∀ (I H : Hp) (σ : St) (Q : Bool → Hp → Prop), Stt I0 H0 ctx mem I H σ → PostE X.K m (rp rBl) I H (fun cls d H' => W cls d σ H') (fun v H' => ∀ b, v = .bl b → Q b H') → wW X e σ H Q
variable {X : Cx} {I0 H0 : Hp} {W : WX} {ctx : List (Option SF)} {mem : List MF} {e a b c o : Expr} {es bs : List Expr} {pos pos' : Pos} {n : Str} {ra : Ra α} {rb : Ra β} {rc : Ra γ} {ma : Res α} {mb : Res β} {m1 m2 mc : Res Bool}
theorem JT.bool {op} (j : JW X I0 H0 W ctx mem (.BoolOp op es pos) m1) : JT X I0 H0 W ctx mem (.BoolOp op es pos) m1 := fun I H σ Q st p => w_tbool (j I H σ Q st p)
theorem JW.and1 (j : JT X I0 H0 W ctx mem a m1) : JW X I0 H0 W ctx mem (.BoolOp .And [a] pos) m1 := fun I H σ Q st p => w_and1 (j I H σ Q st p)
theorem JW.or1 (j : JT X I0 H0 W ctx mem a m1) : JW X I0 H0 W ctx mem (.BoolOp .Or [a] pos) m1 := fun I H σ Q st p => w_or1 (j I H σ Q st p)
theorem JW.and (j : JT X I0 H0 W ctx mem a m1) (k : JW X I0 H0 W ctx mem (.BoolOp .And (b :: bs) pos) m2) : JW X I0 H0 W ctx mem (.BoolOp .And (a :: b :: bs) pos) (m1.bind fun x => if x = true then m2 else .ok false) := fun I H σ Q st p => by
  refine w_and (j I H σ _ st ?_)
  cases m1 with
  | ok x =>
    intro I1 H1 v f r y hy
    cases r; cases hy
    have p1 := PostE.up p f
    cases x with
    | true => exact iteT (k I1 H1 σ Q (st.step f) p1)
    | false => exact iteF (p1 I1 H1 _ (Fm.refl f.ih) rfl _ rfl)
  | err e => exact p
  | stuck => exact p
theorem JW.or (j : JT X I0 H0 W ctx mem a m1) (k : JW X I0 H0 W ctx mem (.BoolOp .Or (b :: bs) pos) m2) : JW X I0 H0 W ctx mem (.BoolOp .Or (a :: b :: bs) pos) (m1.bind fun x => if x = true then .ok true else m2) := fun I H σ Q st p => by
  refine w_or (j I H σ _ st ?_)
  cases m1 with
  | ok x =>
    intro I1 H1 v f r y hy
    cases r; cases hy
    have p1 := PostE.up p f
    cases x with
    | true => exact iteT (p1 I1 H1 _ (Fm.refl f.ih) rfl _ rfl)
    | false => exact iteF (k I1 H1 σ Q (st.step f) p1)
  | err e => exact p
  | stuck => exact p
theorem JE.one {op} {m : Res Bool} (j : JE X I0 H0 W ctx mem a m (rp rBl)) : JE X I0 H0 W ctx mem (.BoolOp op [a] pos) m (rp rBl) := fun I H σ Q st p => w_oneV (j I H σ Q st p)
theorem JE.and (j : JE X I0 H0 W ctx mem a m1 (rp rBl)) (k : JE X I0 H0 W ctx mem (.BoolOp .And (b :: bs) pos) m2 (rp rBl)) : JE X I0 H0 W ctx mem (.BoolOp .And (a :: b :: bs) pos) (m1.bind fun x => if x = true then m2 else .ok false) (rp rBl) := fun I H σ Q st p => by
  refine w_andV (j I H σ _ st ?_)
  cases m1 with
  | ok x =>
    intro I1 H1 v f r
    have p1 := PostE.up p f
    refine ⟨x, r, ?_⟩
    cases x with
    | true => exact iteT (k I1 H1 σ Q (st.step f) p1)
    | false => exact iteF (p1 I1 H1 _ (Fm.refl f.ih) rfl)
  | err e => exact p
  | stuck => exact p
theorem JE.or (j : JE X I0 H0 W ctx mem a m1 (rp rBl)) (k : JE X I0 H0 W ctx mem (.BoolOp .Or (b :: bs) pos) m2 (rp rBl)) : JE X I0 H0 W ctx mem (.BoolOp .Or (a :: b :: bs) pos) (m1.bind fun x => if x = true then .ok true else m2) (rp rBl) := fun I H σ Q st p => by
  refine w_orV (j I H σ _ st ?_)
  cases m1 with
  | ok x =>
    intro I1 H1 v f r
    have p1 := PostE.up p f
    refine ⟨x, r, ?_⟩
    cases x with
    | true => exact iteT (p1 I1 H1 _ (Fm.refl f.ih) rfl)
    | false => exact iteF (k I1 H1 σ Q (st.step f) p1)
  | err e => exact p
  | stuck => exact p
theorem JE.ifx {m m' : Res α} {r : Ra α} (j : JT X I0 H0 W ctx mem c mc) (k1 : JE X I0 H0 W ctx mem a m r) (k2 : JE X I0 H0 W ctx mem b m' r) : JE X I0 H0 W ctx mem (.IfExp c a b pos) (mc.bind fun x => if x = true then m else m') r := fun I H σ Q st p => by
  refine w_ifx (j I H σ _ st ?_)
  cases mc with
  | ok x =>
    intro I1 H1 v f r y hy
    cases r; cases hy
    have p1 := PostE.up p f
    cases x with
    | true => exact iteT (k1 I1 H1 σ Q (st.step f) p1)
    | false => exact iteF (k2 I1 H1 σ Q (st.step f) p1)
  | err e => exact p
  | stuck => exact p
/-! ### arguments and calls -/
theorem JA.nil : JA X I0 H0 W ctx mem [] (.ok ()) aNil := fun I H σ Q st p => w_nil (p I H [] (Fm.refl st.same) rfl)
theorem JA.cons {R : Hp → Hp → List V → δ → Prop} {m : Res δ} [MoA ra] (j : JE X I0 H0 W ctx mem e ma ra) (k : JA X I0 H0 W ctx mem es m R) (hs : starEach (e :: es) X.env = (false, eval e X.env) :: starEach es X.env := by rfl) :
    JA X I0 H0 W ctx mem (e :: es) (ma.bind fun x => m.bind fun y => .ok (x, y)) (aCons ra R) := fun I H σ Q st p => by
  refine Tr.w_cons (j I H σ _ st ?_) hs
  cases ma with
  | ok x =>
    intro I1 H1 v f1 r1
    refine k I1 H1 σ _ (st.step f1) ?_
    cases m with
    | ok y => exact fun I2 H2 vs f2 r2 => p I2 H2 _ (f1.trans f2) ⟨v, vs, rfl, MoA.up f2.i f2.h r1, r2⟩
    | err e => exact fun I2 H2 c d f2 x => p I2 H2 c d (f1.trans f2) ⟨x.1.back f1.h, x.2⟩
    | stuck => exact p
  | err e => exact p
  | stuck => exact p
variable {R : Hp → Hp → List V → δ → Prop} {md : Res δ} {g : δ → Res γ}
theorem JA.call (k : JA X I0 H0 W ctx mem es md R) {f : Value} (cj : CallJ X W f R g rc) {I H : Hp} {σ : St} {Q : VK} (st : Stt I0 H0 ctx mem I H σ) (p : PostE X.K (md.bind g) rc I H (fun cls d H' => W cls d σ H') Q) : wA X es σ H fun vs H1 => callW X f σ vs H1 Q := by
  refine k I H σ _ st ?_
  cases md with
  | ok x => exact fun I1 H1 vs f1 r1 => cj I1 H1 σ Q vs x f1.ih r1 (PostE.up p f1)
  | err e => exact p
  | stuck => exact p
/-- f(..), C(..) by a global name -/
theorem JE.call {f : Addr} (k : JA X I0 H0 W ctx mem (e :: es) md R) (cj : CallJ X W (.ref f) R g rc) (hm : X.mg n = some (.ref f)) (hk : PySem.W.keepIn X.K (.ref f) = true) (hg : Gl X n := by rfl) (hdb : (n == ("__debug__" : Str)) = false := by decide)
    (he : starEach (e :: es) X.env = (false, eval e X.env) :: starEach es X.env := by rfl) (hpl : (backTo pos (starEach es X.env)).any (·.1) = false := by rfl) : JE X I0 H0 W ctx mem (.Call (.Name n pos') (e :: es) [] pos) (md.bind g) rc := fun I H σ Q st p =>
  w_call (k.call cj st p) hm hk hg hdb he hpl
theorem JE.call0 {f : Addr} {g : Unit → Res γ} (cj : CallJ X W (.ref f) aNil g rc) (hm : X.mg n = some (.ref f)) (hk : PySem.W.keepIn X.K (.ref f) = true) (hg : Gl X n := by rfl) (hdb : (n == ("__debug__" : Str)) = false := by decide) : JE X I0 H0 W ctx mem (.Call (.Name n pos') [] [] pos) (g ()) rc := fun I H σ Q st p =>
  w_call0 (cj I H σ Q [] () st.same rfl p) hm hk hg hdb
/-- a built-in by its name -/
theorem JE.callB {id : String} (k : JA X I0 H0 W ctx mem (e :: es) md R) (cj : CallJ X W (.builtin id) R g rc) (hm : X.mg n = none) (hv : bootBuiltins n = some (.builtin id)) (hg : Gl X n := by rfl) (hn : n ≠ "__name__" := by decide) (hdb : (n == ("__debug__" : Str)) = false := by decide)
    (he : starEach (e :: es) X.env = (false, eval e X.env) :: starEach es X.env := by rfl) (hpl : (backTo pos (starEach es X.env)).any (·.1) = false := by rfl) : JE X I0 H0 W ctx mem (.Call (.Name n pos') (e :: es) [] pos) (md.bind g) rc := fun I H σ Q st p =>
  w_callB (k.call cj st p) hm hv hg hn hdb he hpl
theorem JE.callTy {T : String} (k : JA X I0 H0 W ctx mem (e :: es) md R) (cj : CallJ X W (.type T) R g rc) (hm : X.mg n = none) (hv : bootBuiltins n = some (.type T)) (hg : Gl X n := by rfl) (hn : n ≠ "__name__" := by decide) (hdb : (n == ("__debug__" : Str)) = false := by decide)
    (he : starEach (e :: es) X.env = (false, eval e X.env) :: starEach es X.env := by rfl) (hpl : (backTo pos (starEach es X.env)).any (·.1) = false := by rfl) : JE X I0 H0 W ctx mem (.Call (.Name n pos') (e :: es) [] pos) (md.bind g) rc := fun I H σ Q st p =>
  w_callTy (k.call cj st p) hm hv hg hn hdb he hpl
/-- what an instance must be for its methods -/
def InsOf (C : Addr) (r : Ra α) (m : Str) : Prop := ∀ I H v x, Same I H → r I H v x → ∃ a dx fs, v = .ref a ∧ H a = some (.ins C dx fs) ∧ fs.lookup m = none
theorem JE.meth {pl : Sem Bool} {m : Str} {C f : Addr} {apos : Pos} {g : α × δ → Res γ} [MoA ra] (j : JE X I0 H0 W ctx mem o ma ra) (hi : InsOf C ra m) (k : JA X I0 H0 W ctx mem (e :: es) md R) (cj : CallJ X W (.ref f) (aCons ra R) g rc) (c : Cls X.K C) (hm : Meth X.K C m f)
    (hst : starEach (e :: es) X.env = (false, eval e X.env) :: starEach es X.env := by rfl) (hpl : (backTo pos (starEach es X.env)).any (·.1) = false := by rfl)
    (ht : eval (.Call (.Attribute o m apos) (e :: es) [] pos) X.env = (do
      let ov ← eval o X.env
      standAt apos.atName
      let (f, first) ← holding [ov] (getMethod ov m pl)
      callWith pos f first (backTo pos (starEach (e :: es) X.env)) (backToKw pos (keywordEach [] X.env))) := by rfl) : JE X I0 H0 W ctx mem (.Call (.Attribute o m apos) (e :: es) [] pos) (ma.bind fun x => md.bind fun y => g (x, y)) rc := fun I H σ Q st p => by
  refine w_meth (j I H σ _ st ?_) c hm hst hpl ht
  cases ma with
  | ok x =>
    intro I1 H1 v f1 r1
    obtain ⟨a, dx, fs, ev, ha, hl⟩ := hi I1 H1 v x f1.ih r1
    refine ⟨a, dx, fs, ev, ha, hl, k I1 H1 σ _ (st.step f1) ?_⟩
    have p1 := PostE.up p f1
    cases md with
    | ok y => exact fun I2 H2 vs f2 r2 => cj I2 H2 σ Q (v :: vs) (x, y) f2.ih ⟨v, vs, rfl, MoA.up f2.i f2.h r1, r2⟩ (PostE.up p1 f2)
    | err e => exact p1
    | stuck => exact p1
  | err e => exact p
  | stuck => exact p
theorem JE.meth0 {pl : Sem Bool} {m : Str} {C f : Addr} {apos : Pos} {g : α × Unit → Res γ} (j : JE X I0 H0 W ctx mem o ma ra) (hi : InsOf C ra m) (cj : CallJ X W (.ref f) (aCons ra aNil) g rc) (c : Cls X.K C) (hm : Meth X.K C m f)
    (ht : eval (.Call (.Attribute o m apos) [] [] pos) X.env = (do
      let ov ← eval o X.env
      standAt apos.atName
      let (f, first) ← holding [ov] (getMethod ov m pl)
      callWith pos f first (backTo pos (starEach [] X.env)) (backToKw pos (keywordEach [] X.env))) := by rfl) : JE X I0 H0 W ctx mem (.Call (.Attribute o m apos) [] [] pos) (ma.bind fun x => g (x, ())) rc := fun I H σ Q st p => by
  refine w_meth0 (j I H σ _ st ?_) c hm ht
  cases ma with
  | ok x =>
    intro I1 H1 v f1 r1
    obtain ⟨a, dx, fs, ev, ha, hl⟩ := hi I1 H1 v x f1.ih r1
    exact ⟨a, dx, fs, ev, ha, hl, cj I1 H1 σ Q [v] (x, ()) f1.ih ⟨v, [], rfl, r1, rfl⟩ (PostE.up p f1)⟩
  | err e => exact p
  | stuck => exact p
/-- what a field is worth -/
def FldOf (K : PySem.W.Frag) (C : Addr) (r : Ra α) (f : Str) (get : α → β) (rf : Ra β) : Prop := ∀ I H v x, Same I H → r I H v x → ∃ a dx fs w, v = .ref a ∧ H a = some (.ins C dx fs) ∧ fs.lookup f = some w ∧ rf I H w (get x)
theorem JE.fld {C : Addr} {f : Str} {get : α → β} (j : JE X I0 H0 W ctx mem o ma ra) (hf : FldOf X.K C ra f get rb) (c : Cls X.K C) (hn : NoAttr X.K C f) (hb : attributeBase o f X.env (eval o X.env) = eval o X.env := by rfl) :
    JE X I0 H0 W ctx mem (.Attribute o f pos) (ma.bind fun x => .ok (get x)) rb := fun I H σ Q st p => by
  refine w_fld (j I H σ _ st ?_) hb
  cases ma with
  | ok x =>
    intro I1 H1 v f1 r1
    obtain ⟨a, dx, fs, w, ev, ha, hl, hw⟩ := hf I1 H1 v x f1.ih r1
    exact ⟨a, C, dx, fs, w, ev, ha, c, hn, hl, p I1 H1 w f1 hw⟩
  | err e => exact p
  | stuck => exact p
end

/-! ### statements -/
section
variable {α β γ δ S : Type}
abbrev Knows := Hp → Hp → St → Prop
abbrev KnowsX := Hp → Hp → St → Option Addr → Prop
def PostB (X : Cx) (W : WX) (Kx : KnowsX) (m : Res S) (G : S → Knows) (D : Ends) : Prop := match m with
  | .ok s => ∀ I' H' σ', G s I' H' σ' → D.nx σ' H'
  | .err e => ∀ I' H' σ' cls d, Kx I' H' σ' d → ExR X.K I' H' e cls d → W cls d σ' H'
  | .stuck => False
def PostR (X : Cx) (I0 H0 : Hp) (W : WX) (Kx : KnowsX) (m : Res γ) (r : Ra γ) (D : Ends) : Prop := match m with
  | .ok y => ∀ I' H' v, Fm I0 H0 I' H' → r I' H' v y → D.rt v H'
  | .err e => ∀ I' H' σ' cls d, Kx I' H' σ' d → ExR X.K I' H' e cls d → W cls d σ' H'
  | .stuck => False
/-- one statement that goes on -/
def J1 (X : Cx) (W : WX) (Kx : KnowsX) (G : Knows) (st : Stmt) (m : Res S) (G' : S → Knows) : Prop := ∀ (I H : Hp) (σ : St) (D : Ends), G I H σ → PostB X W Kx m G' D → wS X st D σ H
/-- a block that goes on -/
def JN (X : Cx) (W : WX) (Kx : KnowsX) (G : Knows) (ss : List Stmt) (m : Res S) (G' : S → Knows) : Prop := ∀ (I H : Hp) (σ : St) (D : Ends), G I H σ → PostB X W Kx m G' D → wB X ss D σ H
/-- a block that ends the def -/
def JR (X : Cx) (I0 H0 : Hp) (W : WX) (Kx : KnowsX) (G : Knows) (ss : List Stmt) (m : Res γ) (r : Ra γ) : Prop := ∀ (I H : Hp) (σ : St) (D : Ends), G I H σ → PostR X I0 H0 W Kx m r D → wB X ss D σ H
variable {X : Cx} {I0 H0 : Hp} {W : WX} {Kx : KnowsX} {G : Knows} {ctx : List (Option SF)} {mem : List MF} {e a b c o : Expr} {es bs : List Expr} {st : Stmt} {ss s1 s2 : List Stmt} {pos pos' : Pos} {n : Str} {ra : Ra α} {rr : Ra γ} {ma : Res α} {mc : Res Bool}
theorem JN.nil {s : S} {G' : S → Knows} (h : ∀ I H σ, G I H σ → G' s I H σ) : JN X W Kx G [] (.ok s) G' := fun I H σ D g p => b_nil (p I H σ (h _ _ _ g))
theorem JN.seq {T : Type} {m : Res S} {G1 : S → Knows} {f : S → Res T} {G2 : T → Knows} (j : J1 X W Kx G st m G1) (k : ∀ s, JN X W Kx (G1 s) ss (f s) G2) : JN X W Kx G (st :: ss) (m.bind f) G2 := fun I H σ D g p => by
  refine b_cons (j I H σ _ g ?_)
  cases m with
  | ok s => exact fun I' H' σ' g' => k s I' H' σ' D g' p
  | err e => exact p
  | stuck => exact p
theorem JN.last {m : Res S} {G1 : S → Knows} (j : J1 X W Kx G st m G1) : JN X W Kx G [st] m G1 := fun I H σ D g p => by
  refine b_cons (j I H σ _ g ?_)
  cases m with
  | ok s => exact fun I' H' σ' g' => b_nil (p I' H' σ' g')
  | err e => exact p
  | stuck => exact p
theorem JR.seq {m : Res S} {G1 : S → Knows} {f : S → Res γ} (j : J1 X W Kx G st m G1) (k : ∀ s, JR X I0 H0 W Kx (G1 s) ss (f s) rr) : JR X I0 H0 W Kx G (st :: ss) (m.bind f) rr := fun I H σ D g p => by
  refine b_cons (j I H σ _ g ?_)
  cases m with
  | ok s => exact fun I' H' σ' g' => k s I' H' σ' D g' p
  | err e => exact p
  | stuck => exact p
theorem JR.ret {m : Res γ} (j : JE X I0 H0 W ctx mem e m rr) (hx : ∀ I H σ d, Stt I0 H0 ctx mem I H σ → Fr H0 d → Kx I H σ d) : JR X I0 H0 W Kx (Stt I0 H0 ctx mem) (.Return (some e) pos :: ss) m rr := fun I H σ D g p => by
  refine b_cons (s_ret (j I H σ _ g ?_))
  cases m with
  | ok y => exact fun I' H' v f r => p I' H' v (g.fm.trans f) r
  | err e => exact fun I' H' c d f x => p I' H' σ c d (hx _ _ _ _ (g.step f) (x.1.back g.fm.h)) x.2
  | stuck => exact p
theorem JR.retN : JR X I0 H0 W Kx (Stt I0 H0 ctx mem) (.Return none pos :: ss) (.ok ()) (rp rNon) := fun I H σ D g p => b_cons (s_retN (p I H _ g.fm rfl))
theorem JR.ifR {m1 m2 : Res γ} (j : JT X I0 H0 W ctx mem c mc) (k1 : JR X I0 H0 W Kx (Stt I0 H0 ctx mem) s1 m1 rr) (k2 : JR X I0 H0 W Kx (Stt I0 H0 ctx mem) ss m2 rr) (hx : ∀ I H σ d, Stt I0 H0 ctx mem I H σ → Fr H0 d → Kx I H σ d) :
    JR X I0 H0 W Kx (Stt I0 H0 ctx mem) (.If c s1 [] pos :: ss) (mc.bind fun x => if x = true then m1 else m2) rr := fun I H σ D g p => by
  refine b_cons (s_if (j I H σ _ g ?_))
  cases mc with
  | ok x =>
    intro I1 H1 v f r y hy
    cases r; cases hy
    cases x with
    | true =>
      refine iteT (b_mono (k1 I1 H1 σ { D with nx := fun _ _ => False } (g.step f) ?_) (fun _ _ z => z.elim) (fun _ _ z => z) (fun _ _ z => z) (fun _ _ z => z))
      exact p
    | false => exact iteF (b_nil (k2 I1 H1 σ D (g.step f) p))
  | err e => exact fun I' H' c d f x => p I' H' σ c d (hx _ _ _ _ (g.step f) (x.1.back g.fm.h)) x.2
  | stuck => exact p
theorem JR.if2 {m1 m2 : Res γ} (j : JT X I0 H0 W ctx mem c mc) (k1 : JR X I0 H0 W Kx (Stt I0 H0 ctx mem) s1 m1 rr) (k2 : JR X I0 H0 W Kx (Stt I0 H0 ctx mem) s2 m2 rr) (hx : ∀ I H σ d, Stt I0 H0 ctx mem I H σ → Fr H0 d → Kx I H σ d) :
    JR X I0 H0 W Kx (Stt I0 H0 ctx mem) (.If c s1 s2 pos :: ss) (mc.bind fun x => if x = true then m1 else m2) rr := fun I H σ D g p => by
  refine b_cons (s_if (j I H σ _ g ?_))
  cases mc with
  | ok x =>
    intro I1 H1 v f r y hy
    cases r; cases hy
    cases x with
    | true => exact iteT (b_mono (k1 I1 H1 σ { D with nx := fun _ _ => False } (g.step f) p) (fun _ _ z => z.elim) (fun _ _ z => z) (fun _ _ z => z) (fun _ _ z => z))
    | false => exact iteF (b_mono (k2 I1 H1 σ { D with nx := fun _ _ => False } (g.step f) p) (fun _ _ z => z.elim) (fun _ _ z => z) (fun _ _ z => z) (fun _ _ z => z))
  | err e => exact fun I' H' c d f x => p I' H' σ c d (hx _ _ _ _ (g.step f) (x.1.back g.fm.h)) x.2
  | stuck => exact p
theorem J1.if {m1 m2 : Res S} {G' : S → Knows} (j : JT X I0 H0 W ctx mem c mc) (k1 : JN X W Kx (Stt I0 H0 ctx mem) s1 m1 G') (k2 : JN X W Kx (Stt I0 H0 ctx mem) s2 m2 G') (hx : ∀ I H σ d, Stt I0 H0 ctx mem I H σ → Fr H0 d → Kx I H σ d) :
    J1 X W Kx (Stt I0 H0 ctx mem) (.If c s1 s2 pos) (mc.bind fun x => if x = true then m1 else m2) G' := fun I H σ D g p => by
  refine s_if (j I H σ _ g ?_)
  cases mc with
  | ok x =>
    intro I1 H1 v f r y hy
    cases r; cases hy
    cases x with
    | true => exact iteT (k1 I1 H1 σ D (g.step f) p)
    | false => exact iteF (k2 I1 H1 σ D (g.step f) p)
  | err e => exact fun I' H' c d f x => p I' H' σ c d (hx _ _ _ _ (g.step f) (x.1.back g.fm.h)) x.2
  | stuck => exact p
theorem J1.set (i : Nat) {r : Rp α} [Mo r] {m : Res α} (j : JE X I0 H0 W ctx mem e m (rp r)) (hx : ∀ I H σ d, Stt I0 H0 ctx mem I H σ → Fr H0 d → Kx I H σ d) (hN : X.N.Nodup) (hi : X.N[i]? = some n := by rfl) (hl : Loc X.env.scope n := by first | exact Or.inl rfl | exact Or.inr rfl) (hs : swapsWith e (some (.Name n pos')) pos.line X.env = pure false := by rfl)
    (hf : X.fn n = true ∨ X.env.scope.names.lookup n = some .local := by first | exact .inl rfl | exact .inr rfl | assumption) : J1 X W Kx (Stt I0 H0 ctx mem) (.Assign [.Name n pos'] e pos) m (fun x => Stt I0 H0 (ctx.set i (some ⟨r, x⟩)) mem) := fun I H σ D g p => by
  refine s_set i (j I H σ _ g ?_) hN hi hl hs hf
  cases m with
  | ok x => exact fun I' H' v f h => p I' H' _ ((g.step f).set i h)
  | err e => exact fun I' H' c d f x => p I' H' σ c d (hx _ _ _ _ (g.step f) (x.1.back g.fm.h)) x.2
  | stuck => exact p
theorem J1.expr {m : Res α} (j : JE X I0 H0 W ctx mem e m ra) (hx : ∀ I H σ d, Stt I0 H0 ctx mem I H σ → Fr H0 d → Kx I H σ d) (hs : swapsWith e none pos.line X.env = pure false := by rfl) : J1 X W Kx (Stt I0 H0 ctx mem) (.Expr e pos) m (fun _ => Stt I0 H0 ctx mem) := fun I H σ D g p => by
  refine s_expr (j I H σ _ g ?_) hs
  cases m with
  | ok x => exact fun I' H' v f h => p I' H' σ (g.step f)
  | err e => exact fun I' H' c d f x => p I' H' σ c d (hx _ _ _ _ (g.step f) (x.1.back g.fm.h)) x.2
  | stuck => exact p
/-- a block that ends by itself: the def hands back None -/
theorem JR.end {m : Res S} {G' : S → Knows} {f : S → Res γ} (j : JN X W Kx G ss m G') : True := trivial
end
end L2.Tr

namespace L2.Tr
open PySem PySem.Spec PyProof.Rows
section
variable {α β γ δ S : Type} {X : Cx} {W : WX}
/-! ### ints -/
def mulI (x y : Int) : Res Int := Res.guard (x.natAbs.log2 + y.natAbs.log2 < 1000000) (.ok (x * y))
def modI (x y : Int) : Res Int := Res.guard (y ≠ 0) (.ok (x.fmod y))
def fdivI (x y : Int) : Res Int := Res.guard (y ≠ 0 ∧ y.natAbs.log2 < 9000) (.ok (x.fdiv y))
def powI (x y : Int) : Res Int := Res.guard (0 ≤ y ∧ y ≤ 1000000 ∧ x.natAbs < 2 ^ 64) (.ok (x ^ y.toNat))
theorem post_guard {p : Prop} [Decidable p] {m : Res α} {K : PySem.W.Frag} {r : Ra α} {I H : Hp} {E : XK} {Q : VK} (h : PostE K (Res.guard p m) r I H E Q) : p ∧ PostE K m r I H E Q := by
  unfold Res.guard at h
  by_cases q : p
  · rw [if_pos q] at h; exact ⟨q, h⟩
  · rw [if_neg q] at h; exact False.elim h
theorem op_fdivV : OpR X (binaryOp .FloorDiv) (rI (fun _ j => j ≠ 0 ∧ j.natAbs.log2 < 9000) fun i j => .int (i.fdiv j)) := opI fun i j _ _ _ _ _ hc q => floordiv_int hc.1 q (.inl (PyProof.noPylong_of_log2 hc.2))
theorem opj_add : OpJ X W (binaryOp .Add) (rp rInt) (rp rInt) (fun x y => .ok (x + y)) (rp rInt) := fun I H σ Q u v x y s a b p => OpR.w op_add ⟨x, y, a, b, p I H _ (Fm.refl s) rfl⟩
theorem opj_sub : OpJ X W (binaryOp .Sub) (rp rInt) (rp rInt) (fun x y => .ok (x - y)) (rp rInt) := fun I H σ Q u v x y s a b p => OpR.w op_sub ⟨x, y, a, b, p I H _ (Fm.refl s) rfl⟩
theorem opj_mul : OpJ X W (binaryOp .Mult) (rp rInt) (rp rInt) (fun x y => mulI x y) (rp rInt) := fun I H σ Q u v x y s a b p => OpR.w op_mulW ⟨x, y, a, b, (post_guard p).1, (post_guard p).2 I H _ (Fm.refl s) rfl⟩
theorem opj_mod : OpJ X W (binaryOp .Mod) (rp rInt) (rp rInt) (fun x y => modI x y) (rp rInt) := fun I H σ Q u v x y s a b p => OpR.w op_modN ⟨x, y, a, b, (post_guard p).1, (post_guard p).2 I H _ (Fm.refl s) rfl⟩
theorem opj_fdiv : OpJ X W (binaryOp .FloorDiv) (rp rInt) (rp rInt) (fun x y => fdivI x y) (rp rInt) := fun I H σ Q u v x y s a b p => OpR.w op_fdivV ⟨x, y, a, b, (post_guard p).1, (post_guard p).2 I H _ (Fm.refl s) rfl⟩
theorem opj_pow : OpJ X W (binaryOp .Pow) (rp rInt) (rp rInt) (fun x y => powI x y) (rp rInt) := fun I H σ Q u v x y s a b p => OpR.w op_pow ⟨x, y, a, b, (post_guard p).1, (post_guard p).2 I H _ (Fm.refl s) rfl⟩
theorem opj_lt : OpJ X W (compareOp .Lt) (rp rInt) (rp rInt) (fun x y => .ok (decide (x < y))) (rp rBl) := fun I H σ Q u v x y s a b p => OpR.w op_lt ⟨x, y, a, b, p I H _ (Fm.refl s) rfl⟩
theorem opj_le : OpJ X W (compareOp .LtE) (rp rInt) (rp rInt) (fun x y => .ok (decide (x ≤ y))) (rp rBl) := fun I H σ Q u v x y s a b p => OpR.w op_le ⟨x, y, a, b, p I H _ (Fm.refl s) rfl⟩
theorem opj_gt : OpJ X W (compareOp .Gt) (rp rInt) (rp rInt) (fun x y => .ok (decide (y < x))) (rp rBl) := fun I H σ Q u v x y s a b p => OpR.w op_gt ⟨x, y, a, b, p I H _ (Fm.refl s) rfl⟩
theorem opj_ge : OpJ X W (compareOp .GtE) (rp rInt) (rp rInt) (fun x y => .ok (decide (y ≤ x))) (rp rBl) := fun I H σ Q u v x y s a b p => OpR.w op_ge ⟨x, y, a, b, p I H _ (Fm.refl s) rfl⟩
theorem decV {a b : Int} : decide (V.int a = V.int b) = decide (a = b) := by by_cases h : a = b <;> simp [h]
theorem decB {a b : Bool} : decide (V.bl a = V.bl b) = decide (a = b) := by by_cases h : a = b <;> simp [h]
theorem decS {a b : Str} : decide (V.str a = V.str b) = decide (a = b) := by by_cases h : a = b <;> simp [h]
theorem opj_eq : OpJ X W (compareOp .Eq) (rp rInt) (rp rInt) (fun x y => .ok (decide (x = y))) (rp rBl) := fun I H σ Q u v x y s a b p => by
  cases a; cases b
  exact OpR.w op_eq ⟨rfl, p I H _ (Fm.refl s) (by rw [decV]; rfl)⟩
theorem opj_ne : OpJ X W (compareOp .NotEq) (rp rInt) (rp rInt) (fun x y => .ok (!decide (x = y))) (rp rBl) := fun I H σ Q u v x y s a b p => by
  cases a; cases b
  exact OpR.w op_ne ⟨rfl, p I H _ (Fm.refl s) (by rw [decV]; rfl)⟩
theorem opj_eqB : OpJ X W (compareOp .Eq) (rp rBl) (rp rBl) (fun x y => .ok (decide (x = y))) (rp rBl) := fun I H σ Q u v x y s a b p => by
  cases a; cases b
  exact OpR.w op_eq ⟨rfl, p I H _ (Fm.refl s) (by rw [decB]; rfl)⟩
theorem opj_neB : OpJ X W (compareOp .NotEq) (rp rBl) (rp rBl) (fun x y => .ok (!decide (x = y))) (rp rBl) := fun I H σ Q u v x y s a b p => by
  cases a; cases b
  exact OpR.w op_ne ⟨rfl, p I H _ (Fm.refl s) (by rw [decB]; rfl)⟩
theorem opj_eqS : OpJ X W (compareOp .Eq) (rp rStr) (rp rStr) (fun x y => .ok (decide (x = y))) (rp rBl) := fun I H σ Q u v x y s a b p => by
  cases a; cases b
  exact OpR.w op_eq ⟨rfl, p I H _ (Fm.refl s) (by rw [decS]; rfl)⟩
theorem opj_neS : OpJ X W (compareOp .NotEq) (rp rStr) (rp rStr) (fun x y => .ok (!decide (x = y))) (rp rBl) := fun I H σ Q u v x y s a b p => by
  cases a; cases b
  exact OpR.w op_ne ⟨rfl, p I H _ (Fm.refl s) (by rw [decS]; rfl)⟩
theorem unj_neg : UnJ X W (unaryOp .USub) (rp rInt) (fun x => .ok (-x)) (rp rInt) := fun I H σ Q u x s a p => UnR.w un_neg ⟨x, a, p I H _ (Fm.refl s) rfl⟩
abbrev R1 (r : Ra α) := aCons r aNil
abbrev R2' (r : Ra α) (r' : Ra β) := aCons r (aCons r' aNil)
theorem cj_abs : CallJ X W (.builtin "abs") (R1 (rp rInt)) (fun d => .ok (if d.1 < 0 then -d.1 else d.1)) (rp rInt) := fun I H σ Q vs x s a p => by
  obtain ⟨v, ws, rfl, h, rfl⟩ := a
  exact CallR.w call_abs ⟨x.1, by rw [show v = _ from h], p I H _ (Fm.refl s) rfl⟩
theorem cj_int : CallJ X W (.type "int") (R1 (rp rInt)) (fun d => .ok d.1) (rp rInt) := fun I H σ Q vs x s a p => by
  obtain ⟨v, ws, rfl, h, rfl⟩ := a
  exact CallR.w call_int1 (.inl ⟨x.1, by rw [show v = _ from h], p I H _ (Fm.refl s) rfl⟩)
theorem cj_intB : CallJ X W (.type "int") (R1 (rp rBl)) (fun d => .ok (if d.1 = true then 1 else 0)) (rp rInt) := fun I H σ Q vs x s a p => by
  obtain ⟨v, ws, rfl, h, rfl⟩ := a
  exact CallR.w call_int1 (.inr ⟨x.1, by rw [show v = _ from h], p I H _ (Fm.refl s) rfl⟩)
theorem cj_bool : CallJ X W (.type "bool") (R1 (rp rBl)) (fun d => .ok d.1) (rp rBl) := fun I H σ Q vs x s a p => by
  obtain ⟨v, ws, rfl, h, rfl⟩ := a
  exact CallR.w call_bool1 (.inr ⟨x.1, by rw [show v = _ from h], p I H _ (Fm.refl s) rfl⟩)
theorem cj_max (hc : X.calm = true) : CallJ X W (.builtin "max") (R2' (rp rInt) (rp rInt)) (fun d => .ok (if d.2.1 > d.1 then d.2.1 else d.1)) (rp rInt) := fun I H σ Q vs x s a p => by
  obtain ⟨v, ws, rfl, h, v', ws', rfl, h', rfl⟩ := a
  exact CallR.w (call_max2 hc) ⟨x.1, x.2.1, by rw [show v = _ from h, show v' = _ from h'], p I H _ (Fm.refl s) rfl⟩
theorem cj_min (hc : X.calm = true) : CallJ X W (.builtin "min") (R2' (rp rInt) (rp rInt)) (fun d => .ok (if d.2.1 < d.1 then d.2.1 else d.1)) (rp rInt) := fun I H σ Q vs x s a p => by
  obtain ⟨v, ws, rfl, h, v', ws', rfl, h', rfl⟩ := a
  exact CallR.w (call_min2 hc) ⟨x.1, x.2.1, by rw [show v = _ from h, show v' = _ from h'], p I H _ (Fm.refl s) rfl⟩
theorem cj_len {r : Ra α} : CallJ X W (.builtin "len") (R1 (rdL X.K r)) (fun d => .ok (d.1.length : Int)) (rp rInt) := fun I H σ Q vs x s a p => by
  obtain ⟨v, ws, rfl, ⟨l, vs, rfl, hl, pr⟩, rfl⟩ := a
  exact CallR.w call_len ⟨_, vs.length, rfl, .inl ⟨vs, hl, rfl⟩, by rw [Paired.length pr]; exact p I H _ (Fm.refl s) rfl⟩

/-! ### lists -/
/-- a frozen list, a parameter's list: readable -/
theorem rL_rd {r : Rp α} {K : PySem.W.Frag} {I H : Hp} {v : V} {xs : List α} (s : Same I H) (h : rL r I v xs) : rdL K (rp r) I H v xs := by
  obtain ⟨l, vs, rfl, e, p⟩ := h
  exact ⟨l, vs, rfl, SqL.of (s _ _ e), p⟩
/-- the index i of a list, any sign -/
def atM (xs : List α) (i : Int) : Res α := match atI xs i with
  | some x => .ok x
  | none => .stuck
theorem paired_get {F : α → β → Prop} : ∀ {xs : List α} {ys : List β} {i : Nat} {y : β}, Paired F xs ys → ys[i]? = some y → ∃ x, xs[i]? = some x ∧ F x y
  | _, _, _, _, .nil, e => by simp at e
  | _, _, 0, _, .cons r _, e => by simp at e; subst e; exact ⟨_, rfl, r⟩
  | _, _, i + 1, y, .cons _ t, e => by
    obtain ⟨u, h1, h2⟩ := paired_get (i := i) (y := y) t (by simpa using e)
    exact ⟨u, by simpa using h1, h2⟩
end
end L2.Tr

namespace L2.Tr
open PySem PySem.Spec PyProof.Rows
section
variable {α β γ δ S : Type} {X : Cx} {I0 H0 : Hp} {W : WX} {ctx : List (Option SF)} {mem : List MF} {e a b c o : Expr} {es bs : List Expr} {pos pos' : Pos} {n : Str} {ra : Ra α} {rb : Ra β} {rc : Ra γ} {ma : Res α} {mb : Res β}
/-! ### subscripts, displays -/
theorem atI_pair {F : α → β → Prop} {xs : List α} {ys : List β} {i : Int} {y : β} (p : Paired F xs ys) (h : atI ys i = some y) : ∃ x, atI xs i = some x ∧ F x y := by
  unfold atI at h ⊢
  rw [Paired.length p]
  cases e : ixN ys.length i with
  | none => rw [e] at h; cases h
  | some j => rw [e] at h; exact paired_get p h
theorem JE.ix {r : Ra α} {m : Res (List α)} {mi : Res Int} [MoA r] (ja : JE X I0 H0 W ctx mem a m (rdL X.K r)) (jb : JE X I0 H0 W ctx mem b mi (rp rInt)) (hs : PlainIx b := by exact fun _ _ => rfl) :
    JE X I0 H0 W ctx mem (.Subscript a b pos) (m.bind fun xs => mi.bind fun i => atM xs i) r := fun I H σ Q st p => by
  refine PE.w (pe_ix ix_list pe_W pe_W hs) (ja I H σ _ st ?_)
  cases m with
  | ok xs =>
    intro I1 H1 u f1 r1
    refine jb I1 H1 σ _ (st.step f1) ?_
    have p1 := PostE.up p f1
    cases mi with
    | ok i =>
      intro I2 H2 v f2 r2
      obtain ⟨l, vs, rfl, hl, pr⟩ := MoA.up (r := rdL X.K r) f2.i f2.h r1
      have p2 : PostE X.K (atM xs i) r I2 H2 _ Q := PostE.up p1 f2
      unfold atM at p2
      cases e : atI xs i with
      | none => rw [e] at p2; exact p2.elim
      | some x =>
        rw [e] at p2
        obtain ⟨w, ew, hw⟩ := atI_pair pr e
        exact ⟨l, vs, i, w, rfl, r2, hl, ew, p2 I2 H2 w (Fm.refl f2.ih) hw⟩
    | err e => exact p1
    | stuck => exact p1
  | err e => exact p
  | stuck => exact p
def lR (n : Nat) (r : Ra α) : Hp → Hp → List V → List α → Prop := fun I H vs xs => vs.length = n ∧ Paired (r I H) vs xs
theorem JA.nilL {r : Ra α} : JA X I0 H0 W ctx mem [] (.ok []) (lR 0 r) := fun I H σ Q st p => w_nil (p I H [] (Fm.refl st.same) ⟨rfl, .nil⟩)
theorem JA.consL {k : Nat} {r : Ra α} {m : Res (List α)} [MoA r] (j : JE X I0 H0 W ctx mem e ma r) (jk : JA X I0 H0 W ctx mem es m (lR k r)) (hs : starEach (e :: es) X.env = (false, eval e X.env) :: starEach es X.env := by rfl) :
    JA X I0 H0 W ctx mem (e :: es) (ma.bind fun x => m.bind fun y => .ok (x :: y)) (lR (k + 1) r) := fun I H σ Q st p => by
  refine Tr.w_cons (j I H σ _ st ?_) hs
  cases ma with
  | ok x =>
    intro I1 H1 v f1 r1
    refine jk I1 H1 σ _ (st.step f1) ?_
    cases m with
    | ok y => exact fun I2 H2 vs f2 r2 => p I2 H2 _ (f1.trans f2) ⟨by rw [List.length_cons, r2.1], .cons (MoA.up f2.i f2.h r1) r2.2⟩
    | err e => exact fun I2 H2 c d f2 x => p I2 H2 c d (f1.trans f2) ⟨x.1.back f1.h, x.2⟩
    | stuck => exact p
  | err e => exact p
  | stuck => exact p
/-- [..], frozen at once -/
theorem JE.lst {k : Nat} {r : Rp α} {m : Res (List α)} [mo : Mo r] (j : JA X I0 H0 W ctx mem es m (lR k (rp r))) (hk : k ≤ sizeLine := by decide) : JE X I0 H0 W ctx mem (.List es pos) m (rp (rL r)) := fun I H σ Q st p => by
  refine w_lst (j I H σ _ st ?_)
  cases m with
  | ok xs => exact fun I1 H1 vs f1 r1 => ⟨by rw [r1.1]; exact hk, fun q hq => p _ _ _ (f1.trans (Fm.new f1.ih hq)) ⟨q, vs, rfl, upd_same, Paired.mapP r1.2 fun _ _ z => mo.up (Fm.new (o := .lst vs) f1.ih hq).i z⟩⟩
  | err e => exact p
  | stuck => exact p
theorem JE.tup {k : Nat} {r : Rp α} {m : Res (List α)} {x1} [mo : Mo r] (j : JA X I0 H0 W ctx mem es m (lR k (rp r))) (hk : k ≤ sizeLine := by decide) : JE X I0 H0 W ctx mem (.Tuple es x1 pos) m (rp (rT r)) := fun I H σ Q st p => by
  refine w_tup (j I H σ _ st ?_)
  cases m with
  | ok xs => exact fun I1 H1 vs f1 r1 => ⟨by rw [r1.1]; exact hk, fun q hq => p _ _ _ (f1.trans (Fm.new f1.ih hq)) ⟨q, vs, rfl, upd_same, Paired.mapP r1.2 fun _ _ z => mo.up (Fm.new (o := .tup vs) f1.ih hq).i z⟩⟩
  | err e => exact p
  | stuck => exact p
/-- a frozen list as a readable one -/
theorem JE.rd {r : Rp α} {m : Res (List α)} (j : JE X I0 H0 W ctx mem e m (rp (rL r))) : JE X I0 H0 W ctx mem e m (rdL X.K (rp r)) := j.co fun _ _ _ _ s h => rL_rd s h
/-! ### lists of ints compared -/
theorem eqvAll_ints : ∀ xs ys : List Int, PyData.eqvAll (xs.map .int) (ys.map .int) = decide (xs = ys)
  | [], [] => rfl
  | [], _ :: _ => rfl
  | _ :: _, [] => rfl
  | x :: xs, y :: ys => by
    show (PyData.eqv (.int x) (.int y) && PyData.eqvAll (xs.map .int) (ys.map .int)) = _
    rw [eqvAll_ints xs ys]
    show ((x == y) && _) = _
    by_cases h : x = y <;> by_cases h' : xs = ys <;> simp [h, h']
theorem dpAll_ints {K : PySem.W.Frag} {I H : Hp} : ∀ {vs : List V} {xs : List Int}, Paired (rp rInt I H) vs xs → DpAll K H vs (xs.map .int)
  | _, _, .nil => .nil
  | _, _, .cons h t => .cons (by rw [show _ = V.int _ from h]; exact .int _) (dpAll_ints t)
theorem shaped_ints (xs : List Int) : SeqAt.shaped (.list (xs.map .int)) = true := by
  have h1 : ∀ xs : List Int, PyData.canLayAll0 (xs.map .int) = true := fun xs => by
    induction xs with
    | nil => rfl
    | cons x xs ih => show (true && _) = true; rw [ih]; rfl
  have h2 : PyData.depth (.list (xs.map .int)) ≤ 64 := by
    have : ∀ xs : List Int, PyData.depthAll (xs.map .int) ≤ 1 := fun xs => by
      induction xs with
      | nil => exact Nat.zero_le _
      | cons x xs ih =>
        show max _ _ ≤ 1
        exact Nat.max_le.mpr ⟨by first | exact Nat.le_refl _ | exact Nat.zero_le _ | (simp [PyData.depth]), ih⟩
    have := this xs
    first | (show _ + 1 ≤ 64; omega) | (simp [PyData.depth]; omega)
  unfold SeqAt.shaped
  rw [decide_eq_true h2]
  show (PyData.canLayAll0 _ && true) = true
  rw [h1]; rfl
end
end L2.Tr

namespace L2.Tr
open PySem PySem.Spec PyProof.Rows
section
variable {α β γ δ S : Type} {X : Cx} {I0 H0 : Hp} {W : WX} {ctx : List (Option SF)} {mem : List MF} {e a b c o : Expr} {es bs : List Expr} {pos pos' : Pos} {n : Str} {ra : Ra α} {rb : Ra β} {rc : Ra γ} {ma : Res α} {mb : Res β}
theorem opj_eqL (hu : X.A.units + 64 < cLine) : OpJ X W (compareOp .Eq) (rdL X.K (rp rInt)) (rdL X.K (rp rInt)) (fun x y => .ok (decide (x = y))) (rp rBl) := fun I H σ Q u v x y s ⟨l, vs, e1, h1, p1⟩ ⟨l', vs', e2, h2, p2⟩ p => by
  subst e1; subst e2
  exact OpR.w (op_eqD hu) ⟨.list (x.map .int), .list (y.map .int), .lst h1 (dpAll_ints p1), .lst h2 (dpAll_ints p2), shaped_ints _, shaped_ints _, p I H _ (Fm.refl s) (by show V.bl (PyData.eqvAll _ _) = _; rw [eqvAll_ints])⟩
theorem opj_neL (hu : X.A.units + 64 < cLine) : OpJ X W (compareOp .NotEq) (rdL X.K (rp rInt)) (rdL X.K (rp rInt)) (fun x y => .ok (!decide (x = y))) (rp rBl) := fun I H σ Q u v x y s ⟨l, vs, e1, h1, p1⟩ ⟨l', vs', e2, h2, p2⟩ p => by
  subst e1; subst e2
  exact OpR.w (op_neD hu) ⟨.list (x.map .int), .list (y.map .int), .lst h1 (dpAll_ints p1), .lst h2 (dpAll_ints p2), shaped_ints _, shaped_ints _, p I H _ (Fm.refl s) (by show V.bl (!PyData.eqvAll _ _) = _; rw [eqvAll_ints])⟩

/-! ### own operators -/
/-- facts of an own class for its operators and isinstance -/
structure OCls (K : PySem.W.Frag) (C : Addr) : Prop where
  cl : Cls K C
  sf : PySem.W.selfFirst K C = true
  ca : PySem.W.findIn K (.ref C) "__class__" = some (some (.builtin "object.__class__"))
  cn : PySem.W.specialIn K (.builtin "object.__class__") "__get__" = some (some (.builtin "getset_descriptor.__get__"))
  ct : PySem.W.takesIn K (.builtin "object.__class__") = some true
  cm : PySem.W.mroIn K C (.type "object") = some true
  ni : PySem.W.subIn K (.ref C) (.type "int") = some false
  in_ : PySem.W.subIn K (.type "int") (.ref C) = some false
  ne : PySem.W.findIn K (.ref C) "__ne__" = some (some (.builtin "object.__ne__"))
structure OMet (K : PySem.W.Frag) (C : Addr) (m : Str) (f : Addr) : Prop where
  at_ : PySem.W.findIn K (.ref C) m = some (some (.ref f))
  fn : PySem.W.isFn K (.ref f) = true
def InsR (C : Addr) (r : Ra α) : Prop := ∀ I H v x, Same I H → r I H v x → ∃ a dx fs, v = .ref a ∧ H a = some (.ins C dx fs)
theorem insAt {pins : List (Addr × Obj)} {σ : St} {H : Hp} {s : Shared} {x C dx : Addr} {fs : List (Str × V)} (I : Inv X pins σ H s) (h : H x = some (.ins C dx fs)) : ∃ od, PySem.W.InstAt s.heap x (PySem.W.instObj C dx) C (some od) := by
  obtain ⟨mA, O, _⟩ := ins_get I.hok h
  obtain ⟨od, J, _⟩ := O.look
  exact ⟨od, J⟩
theorem cmpback' {v : V} {u : Value} {s : Shared} {Q : Value → Shared → Prop} (r : RelV v u) (h : Q u s) : PySem.W.CmpBack Q u s := by
  cases v with
  | non => cases (show u = Value.none from r); exact h
  | bl b => cases (show u = Value.bool b from r); exact h
  | int i => obtain ⟨t, e⟩ := (show ∃ t, u = Value.int i t from r); cases e; exact h
  | str x => obtain ⟨t, e⟩ := (show ∃ t, u = Value.str x t from r); cases e; exact h
  | byt b => obtain ⟨t, e⟩ := (show ∃ t, u = Value.bytes b t from r); cases e; exact h
  | flt b => obtain ⟨t, e⟩ := (show ∃ t, u = Value.float b t from r); cases e; exact h
  | ref a => cases (show u = Value.ref a from r); exact h
  | ty n => cases (show u = Value.type n from r); exact h
theorem back_W {f : Addr} {σ : St} {vs : List V} {H : Hp} {Q : VK} (h : callW X (.ref f) σ vs H Q) {pins : List (Addr × Obj)} {s : Shared} {us : List Value} (I : Inv X pins σ H s) (r : Vals vs us) :
    wpAny (model X.prog X.w) X.A (call (.ref f) us) (PySem.W.CmpBack (EP X pins σ Q)) X.xe s := thn (h pins s us I r) fun u s' ⟨v, H', I', rv, q⟩ => cmpback' rv ⟨v, H', I', rv, q⟩
/-- x op y, both of the class -/
theorem opj_own {op : Operator} {C f : Addr} {g : α × β × Unit → Res γ} (hc : OCls X.K C) (hm : OMet X.K C (PySem.dunder op.info.2) f) (ia : InsR C ra) (ib : InsR C rb) (cj : CallJ X W (.ref f) (R2' ra rb) g rc) :
    OpJ X W (binaryOp op) ra rb (fun x y => g (x, y, ())) rc := fun I H σ Q u v x y s a b p pins sh uu vv Iv ru rv => by
  obtain ⟨au, dx, fs, rfl, hu⟩ := ia I H u x s a
  obtain ⟨av, dy, gs, rfl, hv⟩ := ib I H v y s b
  cases (show uu = Value.ref au from ru)
  cases (show vv = Value.ref av from rv)
  obtain ⟨od, J⟩ := insAt Iv hu
  obtain ⟨od', J'⟩ := insAt Iv hv
  obtain ⟨m, hF⟩ := Iv.fr
  exact PySem.W.binop_K hF Iv.ok.mod.kin J J'.type hc.sf hm.at_ hm.fn (back_W (cj I H σ Q [.ref au, .ref av] (x, y, ()) s ⟨_, _, rfl, a, _, _, rfl, b, rfl⟩ p) Iv (.cons rfl (.cons rfl .nil)))
/-- x op n, n an int -/
theorem opj_ownI {op : Operator} {C f f' : Addr} {g : α × Int × Unit → Res γ} {fo ro : Option Value} (hc : OCls X.K C) (hm : OMet X.K C (PySem.dunder op.info.2) f) (hr : OMet X.K C (dunderR op.info.2) f') (h1 : PySem.W.findIn X.K (.type "int") (PySem.dunder op.info.2) = some fo) (h2 : PySem.W.findIn X.K (.type "int") (dunderR op.info.2) = some ro)
    (ia : InsR C ra) (cj : CallJ X W (.ref f) (R2' ra (rp rInt)) g rc) : OpJ X W (binaryOp op) ra (rp rInt) (fun x y => g (x, y, ())) rc := fun I H σ Q u v x y s a b p pins sh uu vv Iv ru rv => by
  obtain ⟨au, dx, fs, rfl, hu⟩ := ia I H u x s a
  cases (show uu = Value.ref au from ru)
  cases (show v = V.int y from b)
  obtain ⟨t, e⟩ := (show ∃ t, vv = Value.int y t from rv)
  cases e
  obtain ⟨od, J⟩ := insAt Iv hu
  obtain ⟨m, hF⟩ := Iv.fr
  exact PySem.W.ksp_binT (T := "int") hF Iv.ok.mod.kin J rfl hc.sf hm.at_ hm.fn hr.at_ (.inr ⟨_, rfl⟩) h1 h2 hc.in_ (back_W (cj I H σ Q [.ref au, .int y] (x, y, ()) s ⟨_, _, rfl, a, _, _, rfl, rfl, rfl⟩ p) Iv (.cons rfl (.cons ⟨_, rfl⟩ .nil)))
/-- n op x, n an int: the reflected method -/
theorem opj_ownR {op : Operator} {C f f' : Addr} {g : α × Int × Unit → Res γ} {sl id : String} {gi : Int → Int → Sem Fin} (hc : OCls X.K C) (hm : OMet X.K C (PySem.dunder op.info.2) f) (hr : OMet X.K C (dunderR op.info.2) f')
    (fills : fillsNumberSlot (.type "int") op.info.2 = pure true) (slot : Slot "int" (PySem.dunder op.info.2) id) (entry : entryFor table id = some (Builtin.Int.intBinary sl gi)) (args : ∀ a b, argsOk id ⟨[a, b], []⟩)
    (ia : InsR C ra) (cj : CallJ X W (.ref f') (R2' ra (rp rInt)) g rc) : OpJ X W (binaryOp op) (rp rInt) ra (fun x y => g (y, x, ())) rc := fun I H σ Q u v x y s a b p pins sh uu vv Iv ru rv => by
  obtain ⟨av, dx, fs, rfl, hv⟩ := ia I H v y s b
  cases (show vv = Value.ref av from rv)
  cases (show u = V.int x from a)
  obtain ⟨t, e⟩ := (show ∃ t, uu = Value.int x t from ru)
  cases e
  obtain ⟨od, J⟩ := insAt Iv hv
  exact PySem.W.tr_binR (fo := .none) Iv.kIn J hc.sf hm.at_ hr.at_ hr.fn fills hc.ni slot entry args (back_W (cj I H σ Q [.ref av, .int x] (y, x, ()) s ⟨_, _, rfl, b, _, _, rfl, rfl, rfl⟩ p) Iv (.cons rfl (.cons ⟨_, rfl⟩ .nil)))
theorem opj_addR {C f f' : Addr} {g : α × Int × Unit → Res γ} (hc : OCls X.K C) (hm : OMet X.K C "__add__" f) (hr : OMet X.K C "__radd__" f') (ia : InsR C ra) (cj : CallJ X W (.ref f') (R2' ra (rp rInt)) g rc) : OpJ X W (binaryOp .Add) (rp rInt) ra (fun x y => g (y, x, ())) rc :=
  opj_ownR (op := .Add) (sl := "__add__") hc hm hr F.fills_int_add F.slot_int_add F.entry_int_add F.args_int_add_2 ia cj
theorem opj_subR {C f f' : Addr} {g : α × Int × Unit → Res γ} (hc : OCls X.K C) (hm : OMet X.K C "__sub__" f) (hr : OMet X.K C "__rsub__" f') (ia : InsR C ra) (cj : CallJ X W (.ref f') (R2' ra (rp rInt)) g rc) : OpJ X W (binaryOp .Sub) (rp rInt) ra (fun x y => g (y, x, ())) rc :=
  opj_ownR (op := .Sub) (sl := "__sub__") hc hm hr F.fills_int_sub F.slot_int_sub F.entry_int_sub F.args_int_sub_2 ia cj
theorem opj_mulR {C f f' : Addr} {g : α × Int × Unit → Res γ} (hc : OCls X.K C) (hm : OMet X.K C "__mul__" f) (hr : OMet X.K C "__rmul__" f') (ia : InsR C ra) (cj : CallJ X W (.ref f') (R2' ra (rp rInt)) g rc) : OpJ X W (binaryOp .Mult) (rp rInt) ra (fun x y => g (y, x, ())) rc :=
  opj_ownR (op := .Mult) (sl := "__mul__") hc hm hr F.fills_int_mul F.slot_int_mul F.entry_int_mul F.args_int_mul_2 ia cj
/-! comparisons -/
theorem opj_cmp {op : CmpOp} {C f : Addr} {g : α × β × Unit → Res γ} (hop : ∀ a b, compareOp op a b = richCompare op a b) (hc : OCls X.K C) (hm : OMet X.K C (cmpInfo op).2.1 f) (hu : X.A.units < cLine) (hn : PySem.W.notFirst X.K C (.ref C) = true) (ia : InsR C ra) (ib : InsR C rb) (cj : CallJ X W (.ref f) (R2' ra rb) g rc) :
    OpJ X W (compareOp op) ra rb (fun x y => g (x, y, ())) rc := fun I H σ Q u v x y s a b p pins sh uu vv Iv ru rv => by
  obtain ⟨au, dx, fs, rfl, hu'⟩ := ia I H u x s a
  obtain ⟨av, dy, gs, rfl, hv⟩ := ib I H v y s b
  cases (show uu = Value.ref au from ru)
  cases (show vv = Value.ref av from rv)
  obtain ⟨od, J⟩ := insAt Iv hu'
  obtain ⟨od', J'⟩ := insAt Iv hv
  obtain ⟨m, hF⟩ := Iv.fr
  rw [hop]
  exact PySem.W.cmp_K hu hF Iv.ok.mod.kin J J'.type hn hm.at_ hm.fn (back_W (cj I H σ Q [.ref au, .ref av] (x, y, ()) s ⟨_, _, rfl, a, _, _, rfl, b, rfl⟩ p) Iv (.cons rfl (.cons rfl .nil)))
theorem opj_cmpI {op : CmpOp} {C f : Addr} {g : α × Int × Unit → Res γ} (hop : ∀ a b, compareOp op a b = richCompare op a b) (hc : OCls X.K C) (hm : OMet X.K C (cmpInfo op).2.1 f) (hu : X.A.units < cLine) (hn : PySem.W.notFirst X.K C (.type "int") = true) (ia : InsR C ra) (cj : CallJ X W (.ref f) (R2' ra (rp rInt)) g rc) :
    OpJ X W (compareOp op) ra (rp rInt) (fun x y => g (x, y, ())) rc := fun I H σ Q u v x y s a b p pins sh uu vv Iv ru rv => by
  obtain ⟨au, dx, fs, rfl, hu'⟩ := ia I H u x s a
  cases (show uu = Value.ref au from ru)
  cases (show v = V.int y from b)
  obtain ⟨t, e⟩ := (show ∃ t, vv = Value.int y t from rv)
  cases e
  obtain ⟨od, J⟩ := insAt Iv hu'
  obtain ⟨m, hF⟩ := Iv.fr
  rw [hop]
  exact PySem.W.cmp_K (tb := .type "int") hu hF Iv.ok.mod.kin J (PySem.W.Looks.of_pure rfl) hn hm.at_ hm.fn (back_W (cj I H σ Q [.ref au, .int y] (x, y, ()) s ⟨_, _, rfl, a, _, _, rfl, rfl, rfl⟩ p) Iv (.cons rfl (.cons ⟨_, rfl⟩ .nil)))
theorem opj_cmpR {op : CmpOp} {C f : Addr} {g : α × Int × Unit → Res γ} {sl id : String} {gi : Int → Int → Sem Fin} (hop : ∀ a b, compareOp op a b = richCompare op a b) (hc : OCls X.K C) (hr : OMet X.K C (cmpInfo op).2.2 f) (hu : X.A.units < cLine)
    (slot : Slot "int" (cmpInfo op).2.1 id) (entry : entryFor table id = some (Builtin.Int.intBinary sl gi)) (args : ∀ a b, argsOk id ⟨[a, b], []⟩) (ia : InsR C ra) (cj : CallJ X W (.ref f) (R2' ra (rp rInt)) g rc) :
    OpJ X W (compareOp op) (rp rInt) ra (fun x y => g (y, x, ())) rc := fun I H σ Q u v x y s a b p pins sh uu vv Iv ru rv => by
  obtain ⟨av, dx, fs, rfl, hv⟩ := ia I H v y s b
  cases (show vv = Value.ref av from rv)
  cases (show u = V.int x from a)
  obtain ⟨t, e⟩ := (show ∃ t, uu = Value.int x t from ru)
  cases e
  obtain ⟨od, J⟩ := insAt Iv hv
  rw [hop]
  exact PySem.W.tr_cmpR hu Iv.kIn J hr.at_ hr.fn hc.ni slot entry args (back_W (cj I H σ Q [.ref av, .int x] (y, x, ()) s ⟨_, _, rfl, b, _, _, rfl, rfl, rfl⟩ p) Iv (.cons rfl (.cons ⟨_, rfl⟩ .nil)))
/-- the callee at one level below -/
theorem run_W1 {k : Nat} {f : Addr} {sp : Sp} {vs : List V} {H : Hp} {σ : St} {Q : VK} (F : FnR X.prog X.w X.K X.mg X.base (L2.CX X.prog X.w) k f sp) (hr : Room (k + 1) X.A) (tk : Takes X W) (h : sp vs H Q fun cls d H' => W cls d σ H') {pins : List (Addr × Obj)} {s : Shared} {us : List Value} (I : Inv X pins σ H s) (r : Vals vs us) :
    wpAny (model X.prog X.w) X.A.in1 (call (.ref f) us) (EP X pins σ Q) X.xe s := by
  refine wpAny_call (codeAny_mono (F X.A.in1 X.stack s H us vs Q _ hr.in1 I.env0.in1 r h) fun r s' hq => ?_)
  cases r with
  | error e => exact passAt tk σ pins H s e s' I hq
  | ok fl =>
    cases fl with
    | ret u => exact I.after hq
    | next => exact False.elim hq
    | brk => exact False.elim hq
    | cont => exact False.elim hq
end
end L2.Tr

namespace L2.Tr
open PySem PySem.Spec PyProof.Rows
section
variable {α β γ δ S : Type} {X : Cx} {I0 H0 : Hp} {W : WX} {Kx : KnowsX} {G : Knows} {ctx : List (Option SF)} {mem : List MF} {e a b c o : Expr} {es bs : List Expr} {st : Stmt} {ss s1 s2 : List Stmt} {pos pos' : Pos} {n : Str} {ra : Ra α} {rb : Ra β} {rc : Ra γ} {ma : Res α} {mb : Res β}

/-! ### promises -/
def spF (K : PySem.W.Frag) (R : Hp → Hp → List V → δ → Prop) (m : δ → Res γ) (r : Ra γ) : Sp := fun vs H Q E => ∃ I d, Same I H ∧ R I H vs d ∧ PostE K (m d) r I H E Q
theorem cj_of {k : Nat} {f : Addr} {R : Hp → Hp → List V → δ → Prop} {m : δ → Res γ} (F : FnR X.prog X.w X.K X.mg X.base (L2.CX X.prog X.w) k f (spF X.K R m rc)) (hr : Room k X.A) (tk : Takes X W) : CallJ X W (.ref f) R m rc := fun I H σ Q vs d s h p => run_W F hr tk ⟨I, d, s, h, p⟩
/-- arguments by another reading -/
theorem CallJ.co {δ' : Type} {f : Value} {R : Hp → Hp → List V → δ → Prop} {R' : Hp → Hp → List V → δ' → Prop} {m : δ → Res γ} {h : δ' → δ} (cj : CallJ X W f R m rc) (c : ∀ I H vs x, Same I H → R' I H vs x → R I H vs (h x)) : CallJ X W f R' (fun x => m (h x)) rc := fun I H σ Q vs x s r p => cj I H σ Q vs (h x) s (c I H vs x s r) p

/-! ### x != y by an own __eq__ -/
theorem opj_neO {k : Nat} {C f : Addr} {g : α × β × Unit → Res Bool} (hc : OCls X.K C) (hm : OMet X.K C "__eq__" f) (hr : Room (k + 1) X.A) (tk : Takes X W) (hn : PySem.W.notFirst X.K C (.ref C) = true) (ia : InsR C ra) (ib : InsR C rb)
    (F : FnR X.prog X.w X.K X.mg X.base (L2.CX X.prog X.w) k f (spF X.K (R2' ra rb) g (rp rBl))) : OpJ X W (compareOp .NotEq) ra rb (fun x y => (g (x, y, ())).bind fun z => .ok (!z)) (rp rBl) := fun I H σ Q u v x y s a b p pins sh uu vv Iv ru rv => by
  obtain ⟨au, dx, fs, rfl, hu'⟩ := ia I H u x s a
  obtain ⟨av, dy, gs, rfl, hv⟩ := ib I H v y s b
  cases (show uu = Value.ref au from ru)
  cases (show vv = Value.ref av from rv)
  obtain ⟨od, J⟩ := insAt Iv hu'
  obtain ⟨od', J'⟩ := insAt Iv hv
  show wpAny _ _ (richCompare .NotEq _ _) _ _ _
  have hu1 : X.A.in1.units < cLine := by have := hr.un; show X.A.units + 1 < _; omega
  refine PySem.W.tr_ne hu1 hr.units0 Iv.kIn J J'.type hn hc.cm hc.ne hm.at_ hm.fn (thn (run_W1 (vs := [.ref au, .ref av]) (Q := fun z H' => ∃ k, z = .bl k ∧ Q (.bl (!k)) H') F hr tk ⟨I, (x, y, ()), s, ⟨_, _, rfl, a, _, _, rfl, b, rfl⟩, ?_⟩ Iv (.cons rfl (.cons rfl .nil))) fun w s' ⟨z, H', I', rz, k, ez, q⟩ => ?_)
  · show PostE _ (g (x, y, ())) _ _ _ _ _
    revert p
    show PostE _ ((g (x, y, ())).bind _) _ _ _ _ _ → _
    generalize g (x, y, ()) = z
    intro p
    cases z with
    | ok k => exact fun I' H' v f r => ⟨k, r, p I' H' _ f rfl⟩
    | err e => exact p
    | stuck => exact p
  · subst ez
    cases (show w = Value.bool k from rz)
    exact ⟨k, rfl, .bl (!k), H', I', rfl, q⟩
theorem opj_neI {k : Nat} {C f : Addr} {g : α × Int × Unit → Res Bool} (hc : OCls X.K C) (hm : OMet X.K C "__eq__" f) (hr : Room (k + 1) X.A) (tk : Takes X W) (hn : PySem.W.notFirst X.K C (.type "int") = true) (ia : InsR C ra)
    (F : FnR X.prog X.w X.K X.mg X.base (L2.CX X.prog X.w) k f (spF X.K (R2' ra (rp rInt)) g (rp rBl))) : OpJ X W (compareOp .NotEq) ra (rp rInt) (fun x y => (g (x, y, ())).bind fun z => .ok (!z)) (rp rBl) := fun I H σ Q u v x y s a b p pins sh uu vv Iv ru rv => by
  obtain ⟨au, dx, fs, rfl, hu'⟩ := ia I H u x s a
  cases (show uu = Value.ref au from ru)
  cases (show v = V.int y from b)
  obtain ⟨t, e⟩ := (show ∃ t, vv = Value.int y t from rv)
  cases e
  obtain ⟨od, J⟩ := insAt Iv hu'
  show wpAny _ _ (richCompare .NotEq _ _) _ _ _
  have hu1 : X.A.in1.units < cLine := by have := hr.un; show X.A.units + 1 < _; omega
  refine PySem.W.tr_ne (tb := .type "int") hu1 hr.units0 Iv.kIn J (PySem.W.Looks.of_pure rfl) hn hc.cm hc.ne hm.at_ hm.fn (thn (run_W1 (vs := [.ref au, .int y]) (Q := fun z H' => ∃ k, z = .bl k ∧ Q (.bl (!k)) H') F hr tk ⟨I, (x, y, ()), s, ⟨_, _, rfl, a, _, _, rfl, rfl, rfl⟩, ?_⟩ Iv (.cons rfl (.cons ⟨_, rfl⟩ .nil))) fun w s' ⟨z, H', I', rz, k, ez, q⟩ => ?_)
  · show PostE _ (g (x, y, ())) _ _ _ _ _
    revert p
    show PostE _ ((g (x, y, ())).bind _) _ _ _ _ _ → _
    generalize g (x, y, ()) = z
    intro p
    cases z with
    | ok k => exact fun I' H' v f r => ⟨k, r, p I' H' _ f rfl⟩
    | err e => exact p
    | stuck => exact p
  · subst ez
    cases (show w = Value.bool k from rz)
    exact ⟨k, rfl, .bl (!k), H', I', rfl, q⟩
theorem opj_neRI {k : Nat} {C f : Addr} {g : α × Int × Unit → Res Bool} (hc : OCls X.K C) (hm : OMet X.K C "__eq__" f) (hr : Room (k + 1) X.A) (tk : Takes X W) (ia : InsR C ra)
    (F : FnR X.prog X.w X.K X.mg X.base (L2.CX X.prog X.w) k f (spF X.K (R2' ra (rp rInt)) g (rp rBl))) : OpJ X W (compareOp .NotEq) (rp rInt) ra (fun x y => (g (y, x, ())).bind fun z => .ok (!z)) (rp rBl) := fun I H σ Q u v x y s a b p pins sh uu vv Iv ru rv => by
  obtain ⟨av, dx, fs, rfl, hv⟩ := ia I H v y s b
  cases (show vv = Value.ref av from rv)
  cases (show u = V.int x from a)
  obtain ⟨t, e⟩ := (show ∃ t, uu = Value.int x t from ru)
  cases e
  obtain ⟨od, J⟩ := insAt Iv hv
  show wpAny _ _ (richCompare .NotEq _ _) _ _ _
  have hu1 : X.A.in1.units < cLine := by have := hr.un; show X.A.units + 1 < _; omega
  refine PySem.W.tr_neR (sl := "") (id := "") (g := fun _ _ => pure default) hu1 hr.units0 Iv.kIn J hc.cm hc.ne hm.at_ hm.fn hc.ni (thn (run_W1 (vs := [.ref av, .int x]) (Q := fun z H' => ∃ k, z = .bl k ∧ Q (.bl (!k)) H') F hr tk ⟨I, (y, x, ()), s, ⟨_, _, rfl, b, _, _, rfl, rfl, rfl⟩, ?_⟩ Iv (.cons rfl (.cons ⟨_, rfl⟩ .nil))) fun w s' ⟨z, H', I', rz, k, ez, q⟩ => ?_)
  · show PostE _ (g (y, x, ())) _ _ _ _ _
    revert p
    show PostE _ ((g (y, x, ())).bind _) _ _ _ _ _ → _
    generalize g (y, x, ()) = z
    intro p
    cases z with
    | ok k => exact fun I' H' v f r => ⟨k, r, p I' H' _ f rfl⟩
    | err e => exact p
    | stuck => exact p
  · subst ez
    cases (show w = Value.bool k from rz)
    exact ⟨k, rfl, .bl (!k), H', I', rfl, q⟩
/-- -x -/
theorem unj_own {C f : Addr} {g : α × Unit → Res γ} (hm : OMet X.K C "__neg__" f) (ia : InsR C ra) (cj : CallJ X W (.ref f) (R1 ra) g rc) : UnJ X W (unaryOp .USub) ra (fun x => g (x, ())) rc := fun I H σ Q u x s a p pins sh uu Iv ru => by
  obtain ⟨au, dx, fs, rfl, hu'⟩ := ia I H u x s a
  cases (show uu = Value.ref au from ru)
  obtain ⟨od, J⟩ := insAt Iv hu'
  obtain ⟨m, hF⟩ := Iv.fr
  exact PySem.W.ksp_neg hF Iv.ok.mod.kin J hm.at_ hm.fn (cj I H σ Q [.ref au] (x, ()) s ⟨_, _, rfl, a, rfl⟩ p pins sh _ Iv (.cons rfl .nil))
/-- isinstance(x, T) -/
def TyR (K : PySem.W.Frag) (r : Ra α) (u : Value) (g : α → Bool) : Prop := ∀ I H v x, Same I H → r I H v x → ∃ t, TyX K H v t ∧ PySem.W.kitOne K t u = some (g x)
theorem JE.isi {u : Value} {cv : V} {g : α → Bool} [MoA ra] (j : JE X I0 H0 W ctx mem a ma ra) (jc : ∀ σ H Q, Q cv H → wE X b σ H Q) (hc : ClsV cv u) (ty : TyR X.K ra u g) (hm : X.mg "isinstance" = none) (hg : Gl X "isinstance" := by rfl)
    (hs : starEach [a, b] X.env = (false, eval a X.env) :: starEach [b] X.env := by rfl) (hs2 : starEach [b] X.env = (false, eval b X.env) :: starEach [] X.env := by rfl) (hpl : (backTo pos (starEach [b] X.env)).any (·.1) = false := by rfl) :
    JE X I0 H0 W ctx mem (.Call (.Name "isinstance" pos') [a, b] [] pos) (ma.bind fun x => .ok (g x)) (rp rBl) := fun I H σ Q st p => by
  refine w_callB (id := "isinstance") (Tr.w_cons (j I H σ _ st ?_) hs) hm (by decide +kernel) hg (by decide) (by decide) hs hpl
  cases ma with
  | ok x =>
    intro I1 H1 v f1 r1
    refine Tr.w_cons (jc σ H1 _ (w_nil ?_)) hs2
    obtain ⟨t, ty1, k⟩ := ty I1 H1 v x f1.ih r1
    exact CallR.w call_isi ⟨v, cv, t, u, g x, rfl, hc, ty1, k, p I1 H1 _ f1 rfl⟩
  | err e => exact p
  | stuck => exact p
/-- raise X('..'), an own class without __init__ over ValueError -/
structure ExcP (K : PySem.W.Frag) (mg : Str → Option Value) (x : Str) : Prop where
  ex : PySem.W.excIn K (He.ga K x) He.veBase "ValueError.__new__" = true
  kp : PySem.W.keepIn K (.ref (He.ga K x)) = true
  bs : PySem.W.subIn K (.ref (He.ga K x)) (.type "BaseException") = some true
  ty : PySem.W.typeIn K (.ref (He.ga K x)) = some (.type "type")
  gl : mg x = some (.ref (He.ga K x))
theorem JR.raiseP {x m : Str} {j : Nat} {p1 p2 p3 : Pos} (hc : X.calm = true) (tk : Takes X W) (ep : ExcP X.K X.mg x) (hx : ∀ I H σ d, Stt I0 H0 ctx mem I H σ → Fr H0 d → Kx I H σ d) (hg : Gl X x := by rfl) (hdb : (x == ("__debug__" : Str)) = false := by decide) :
    JR X I0 H0 W Kx (Stt I0 H0 ctx mem) (.Raise (some (.Call (.Name x p1) [.Constant (.str m) j p2] [] p3)) none pos :: ss) (.err ⟨x, []⟩ : Res γ) rc := fun I H σ D g p => by
  refine b_cons (s_raise hc tk (pmk_own PySem.F.excBase_ValueError ep.ex ep.gl ep.kp (raises_own ep.bs ep.ty) hg hdb) ?_)
  exact p I H σ _ none (hx _ _ _ _ g fun _ z => nomatch z) ⟨rfl, rfl⟩
/-! ### while -/
def whileM (c : S → Res Bool) (f : S → Res S) : Nat → S → Res S
  | 0, _ => .stuck
  | n + 1, s => (c s).bind fun b => if b = true then (f s).bind fun s' => whileM c f n s' else .ok s
theorem J1.while {fuel : Nat} {s0 : S} {cx : S → List (Option SF)} {me : S → List MF} {mc : S → Res Bool} {mf : S → Res S} (hp : PassesOwn (model X.prog X.w) X.A X.env X.xe) (jc : ∀ s, JT X I0 H0 W (cx s) (me s) c (mc s)) (jb : ∀ s, JN X W Kx (Stt I0 H0 (cx s) (me s)) ss (mf s) fun s' => Stt I0 H0 (cx s') (me s'))
    (hx : ∀ s I H σ d, Stt I0 H0 (cx s) (me s) I H σ → Fr H0 d → Kx I H σ d) : J1 X W Kx (Stt I0 H0 (cx s0) (me s0)) (.While c ss [] pos) (whileM mc mf fuel s0) (fun s => Stt I0 H0 (cx s) (me s)) := fun I H σ D g p => by
  refine PS.w (ps_while hp pt_W pss_W) ⟨fun k σ' H' => ∃ I' s, Stt I0 H0 (cx s) (me s) I' H' σ' ∧ PostB X W Kx (whileM mc mf k s) (fun s => Stt I0 H0 (cx s) (me s)) D, ⟨fuel, I, s0, g, p⟩, ?_⟩
  rintro k σ' H' ⟨I', s, g', p'⟩
  cases k with
  | zero => exact p'.elim
  | succ k =>
    refine jc s I' H' σ' _ g' ?_
    have p2 : PostB X W Kx ((mc s).bind fun b => if b = true then (mf s).bind fun s' => whileM mc mf k s' else .ok s) _ D := p'
    revert p2
    generalize mc s = z
    intro p2
    cases z with
    | ok x =>
      intro I1 H1 v f r y hy
      cases r; cases hy
      cases x with
      | true =>
        refine iteT ⟨fun σ2 H2 => ∃ I2 s', Stt I0 H0 (cx s') (me s') I2 H2 σ2 ∧ PostB X W Kx (whileM mc mf k s') (fun s => Stt I0 H0 (cx s) (me s)) D, fun σ2 H2 h => ⟨k, Nat.lt_succ_self _, h⟩, ?_⟩
        refine jb s I1 H1 σ' _ (g'.step f) ?_
        have p3 : PostB X W Kx ((mf s).bind fun s' => whileM mc mf k s') _ D := p2
        revert p3
        generalize mf s = z
        intro p3
        cases z with
        | ok s' => exact fun I2 H2 σ2 g2 => ⟨I2, s', g2, p3⟩
        | err e => exact p3
        | stuck => exact p3
      | false => exact iteF (p2 I1 H1 σ' (g'.step f))
    | err e => exact fun I' H' c d f x => p2 I' H' σ' c d (hx _ _ _ _ _ (g'.step f) (x.1.back g'.fm.h)) x.2
    | stuck => exact p2.elim
/-- a, b = e1, e2 -/
theorem J1.par (i j : Nat) {x y : Str} {r1 : Rp α} {r2 : Rp β} [Mo r1] [mo : Mo r2] {px py pt : Pos} {kt k2 pt2} (ja : JE X I0 H0 W ctx mem a ma (rp r1)) (jb : JE X I0 H0 W ctx mem b mb (rp r2)) (hx : ∀ I H σ d, Stt I0 H0 ctx mem I H σ → Fr H0 d → Kx I H σ d)
    (hN : X.N.Nodup) (hc : X.calm = true := by rfl) (hi : X.N[i]? = some x := by rfl) (hj : X.N[j]? = some y := by rfl) (hij : i ≠ j := by decide) (hlx : X.env.scope.names.lookup x = some .local := by rfl) (hly : X.env.scope.names.lookup y = some .local := by rfl)
    (hw : swappedStores [.Tuple [.Name x px, .Name y py] kt pt] (.Tuple [a, b] k2 pt2) X.env = pure (some [x, y]) := by rfl)
    (hs : swapsWithSole [.Tuple [.Name x px, .Name y py] kt pt] (.Tuple [a, b] k2 pt2) pos.line X.env = pure false := by rfl)
    (e1 : starEach [a, b] X.env = (false, eval a X.env) :: starEach [b] X.env := by rfl) (e2 : starEach [b] X.env = (false, eval b X.env) :: starEach [] X.env := by rfl) :
    J1 X W Kx (Stt I0 H0 ctx mem) (.Assign [.Tuple [.Name x px, .Name y py] kt pt] (.Tuple [a, b] k2 pt2) pos) (ma.bind fun u => mb.bind fun v => .ok (u, v)) (fun s => Stt I0 H0 ((ctx.set i (some ⟨r1, s.1⟩)).set j (some ⟨r2, s.2⟩)) mem) := fun I H σ D g p => by
  refine PS.w (ps_par hc hN hi hj hij hlx hly pa_W hw hs) (Tr.w_cons (ja I H σ _ g ?_) e1)
  cases ma with
  | ok u =>
    intro I1 H1 v1 f1 h1
    refine Tr.w_cons (jb I1 H1 σ _ (g.step f1) ?_) e2
    cases mb with
    | ok v => exact fun I2 H2 v2 f2 h2 => w_nil ⟨v1, v2, rfl, p I2 H2 _ ((((g.step f1).step f2).set i (Mo.up f2.i h1)).set j h2)⟩
    | err e => exact fun I' H' c d f x => p I' H' σ c d (hx _ _ _ _ ((g.step f1).step f) (x.1.back (g.step f1).fm.h)) x.2
    | stuck => exact p.elim
  | err e => exact fun I' H' c d f x => p I' H' σ c d (hx _ _ _ _ (g.step f) (x.1.back g.fm.h)) x.2
  | stuck => exact p.elim
end
/-! ### defs -/
section
variable {γ δ : Type} {P : Program} {w : World} {K : PySem.W.Frag} {mg : Str → Option Value} {base : Heap} {x qual : Str} {params : Arguments} {body : List Stmt} {scope : Scope} {dvs : List V} {kws : List (Str × V)} {f : Addr} {fd : FuncData} {N ps : List Str} {k : Nat} {R : Hp → Hp → List V → δ → Prop} {m : δ → Res γ} {r : Ra γ}
abbrev bx (P : Program) (w : World) (K : PySem.W.Frag) (mg : Str → Option Value) (base : Heap) (N : List Str) (qual : Str) (scope : Scope) (f : Addr) (cdv : Value) (A : Around) (outer : List Env) (s : Shared) (H : Hp) (E : XK) : Cx := cxOf (L2.CX P w) P w K mg base N qual scope f cdv A outer s H E
abbrev bW (E : XK) : WX := fun cls d _ H => E cls d H
abbrev bK (I0 H0 : Hp) : KnowsX := fun I H _ d => Fm I0 H0 I H ∧ Fr H0 d
theorem FunD.fn (F : FunD K x qual params body scope dvs kws f fd) (S : FnScope N ps scope) (len : ∀ I H vs d, R I H vs d → vs.length = ps.length)
    (hb : ∀ (cdv : Value) (A : Around) (outer : List Env) (s : Shared) (I0 H0 : Hp) (E : XK) (vs : List V) (d : δ), Room k (A.deeper (envOfC qual scope s.heap.objs.size f cdv)) → Same I0 H0 → R I0 H0 vs d →
      ∃ G : Knows, G I0 H0 (start N vs) ∧ JR (bx P w K mg base N qual scope f cdv A outer s H0 E) I0 H0 (bW E) (bK I0 H0) G body (m d) r) : FnOk P w K mg base (L2.CX P w) (k + 1) f fd ps (spF K R m r) := by
  refine F.ok S (fun vs H Q E ⟨I, d, _, h, _⟩ => len I H vs d h) fun cdv A outer s H vs Q E hr ⟨I, d, sm, h, p⟩ => ⟨_, pss_W, ?_⟩
  obtain ⟨G, g, j⟩ := hb cdv A outer s I H E vs d hr sm h
  refine j I H _ _ g ?_
  revert p
  show PostE K (m d) r I H E Q → PostR _ _ _ _ _ (m d) _ _
  generalize m d = z
  intro p
  cases z with
  | ok y => exact p
  | err e => exact fun I' H' _ c d f x => p I' H' c d f.1 ⟨f.2, x⟩
  | stuck => exact p
end
end L2.Tr

namespace L2.Tr
open PySem PySem.Spec PyProof.Rows
section
variable {α β γ δ S : Type} {X : Cx} {I0 H0 : Hp} {W : WX} {Kx : KnowsX} {G : Knows} {ctx : List (Option SF)} {mem : List MF} {e a b c o : Expr} {es bs : List Expr} {st : Stmt} {ss s1 s2 : List Stmt} {pos pos' : Pos} {n : Str} {ra : Ra α} {rb : Ra β} {rc : Ra γ} {ma : Res α} {mb : Res β}
def rRef (x : Addr) : Rp Unit := fun _ v _ => v = .ref x
instance {x : Addr} : Mo (rRef x) := ⟨fun _ h => h⟩
def putG (f : Str) (s : SF) : List (Str × SF) → List (Str × SF)
  | [] => [(f, s)]
  | q :: gs => if q.1 = f then (f, s) :: gs else q :: putG f s gs
theorem FldR.put {I : Hp} {f : Str} {v : V} {s : SF} (h : s.r I v s.x) : ∀ {fs : List (Str × V)} {gs : List (Str × SF)}, FldR I fs gs → FldR I (putF f v fs) (putG f s gs)
  | [], [], _ => ⟨rfl, h, True.intro⟩
  | p :: fs, q :: gs, ⟨a, b, c⟩ => by
    show FldR I (if p.1 = f then _ else _) (if q.1 = f then _ else _)
    rw [← a]
    by_cases e : p.1 = f
    · rw [if_pos e, if_pos e]; exact ⟨e, h, c⟩
    · rw [if_neg e, if_neg e]; exact ⟨a, b, FldR.put h c⟩
  | [], _ :: _, h => h.elim
  | _ :: _, [], h => h.elim
theorem FldR.length {I : Hp} : ∀ {fs : List (Str × V)} {gs : List (Str × SF)}, FldR I fs gs → fs.length = gs.length
  | [], [], _ => rfl
  | _ :: _, _ :: _, ⟨_, _, c⟩ => congrArg Nat.succ (FldR.length c)
  | [], _ :: _, h => h.elim
  | _ :: _, [], h => h.elim
/-- the cell at the head of mem is changed -/
theorem Stt.cell {I0 H0 I H : Hp} {c c' : MF} {o : HO} {σ : St} (s : Stt I0 H0 ctx (c :: mem) I H σ) (hl : c'.l = c.l) (h : c'.P I o) : Stt I0 H0 ctx (c' :: mem) I (upd H c.l o) σ := by
  obtain ⟨z0, zI, oo, zH, zP⟩ := s.me c List.mem_cons_self
  refine ⟨⟨s.fm.i, fun b u e => ?_, fun b u e => ?_, s.fm.mu⟩, s.len, s.sl, fun d hd => ?_, by rw [List.map_cons, hl]; exact s.nd⟩
  · have : b ≠ c.l := fun q => by rw [q, z0] at e; cases e
    rw [upd_ne this]; exact s.fm.h _ _ e
  · have : b ≠ c.l := fun q => by rw [q, zI] at e; cases e
    rw [upd_ne this]; exact s.fm.ih _ _ e
  · rcases List.mem_cons.mp hd with rfl | hd
    · rw [hl]; exact ⟨z0, zI, o, upd_same, h⟩
    · obtain ⟨a, b, od, e, p⟩ := s.me d (List.mem_cons_of_mem _ hd)
      have nn := s.nd
      rw [List.map_cons, List.nodup_cons] at nn
      have : d.l ≠ c.l := fun q => nn.1 (q ▸ List.mem_map_of_mem hd)
      exact ⟨a, b, od, by rw [upd_ne this]; exact e, p⟩
/-- self.f = e within __init__ -/
theorem J1.sfld (i : Nat) {x C dx : Addr} {f sn : Str} {p1 : Pos} {gs : List (Str × SF)} {r : Rp α} [mo : Mo r] {m : Res α} (j : JE X I0 H0 W ctx (.ins x C dx gs :: mem) e m (rp r)) (cl : Cls X.K C) (hn : NoAttr X.K C f) (hg : gs.length < 1000) (hx : ∀ I H σ d, Stt I0 H0 ctx (.ins x C dx gs :: mem) I H σ → Fr H0 d → Kx I H σ d)
    (hc : ctx[i]? = some (some (SF.mk (rRef x) ())) := by rfl) (hN : X.N[i]? = some sn := by rfl) (hv : Vis X.env.scope sn := by first | exact Or.inl rfl | exact Or.inr (Or.inl rfl) | exact Or.inr (Or.inr rfl)) (hd : (sn == ("__debug__" : Str)) = false := by decide)
    (hcd : (sn == ("__classdict__" : Str)) = false := by decide) (hs : swapsWith e (some (.Attribute (.Name sn p1) f pos')) pos.line X.env = pure false := by rfl) :
    J1 X W Kx (Stt I0 H0 ctx (.ins x C dx gs :: mem)) (.Assign [.Attribute (.Name sn p1) f pos'] e pos) m (fun y => Stt I0 H0 ctx (.ins x C dx (putG f ⟨r, y⟩ gs) :: mem)) := fun I H σ D g p => by
  refine s_fld (j I H σ _ g ?_) hs
  cases m with
  | ok y =>
    intro I1 H1 v f1 h1
    have g1 := g.step f1
    obtain ⟨u, eu, hu⟩ := g1.sl i _ hc
    cases (show u = V.ref x from hu)
    obtain ⟨_, _, oo, zH, fs, eo, hf⟩ := g1.me _ List.mem_cons_self
    subst eo
    refine w_var i ⟨x, C, dx, fs, rfl, zH, cl, hn, ?_, ?_⟩ eu hN hv hd hcd
    · rw [hf.length]; exact hg
    · exact p I1 _ σ (g1.cell (c' := .ins x C dx (putG f ⟨r, y⟩ gs)) rfl ⟨_, rfl, hf.put h1⟩)
  | err e => exact fun I' H' c d f x => p I' H' σ c d (hx _ _ _ _ (g.step f) (x.1.back g.fm.h)) x.2
  | stuck => exact p
/-- the object at the head of mem is frozen -/
theorem Stt.freeze {I0 H0 I H : Hp} {c : MF} {σ : St} (s : Stt I0 H0 ctx (c :: mem) I H σ) : ∃ o, H c.l = some o ∧ c.P I o ∧ Stt I0 H0 ctx mem (upd I c.l o) H σ ∧ Same I (upd I c.l o) := by
  obtain ⟨z0, zI, oo, zH, zP⟩ := s.me c List.mem_cons_self
  have sm : Same I (upd I c.l oo) := fun b u e => by
    have : b ≠ c.l := fun q => by rw [q, zI] at e; cases e
    rw [upd_ne this]; exact e
  refine ⟨oo, zH, zP, ⟨⟨s.fm.i.trans sm, s.fm.h, fun b u e => ?_, fun l e nn => ?_⟩, s.len, fun i sf e => ?_, fun d hd => ?_, (List.nodup_cons.mp s.nd).2⟩, sm⟩
  · by_cases hb : b = c.l
    · subst hb; rw [upd_same] at e; cases e; exact zH
    · rw [upd_ne hb] at e; exact s.fm.ih _ _ e
  · have : l ≠ c.l := fun q => nn (q ▸ z0)
    rw [upd_ne this]; exact s.fm.mu l e nn
  · obtain ⟨v, e1, q⟩ := s.sl i sf e
    exact ⟨v, e1, sf.mo.up sm q⟩
  · obtain ⟨a, b, od, e, p⟩ := s.me d (List.mem_cons_of_mem _ hd)
    have nn := s.nd
    rw [List.map_cons, List.nodup_cons] at nn
    have : d.l ≠ c.l := fun q => nn.1 (q ▸ List.mem_map_of_mem hd)
    exact ⟨a, by rw [upd_ne this]; exact b, od, e, d.mo sm p⟩

/-! ### C(..) -/
def spI (K : PySem.W.Frag) (C : Addr) (R : Hp → Hp → List V → δ → Prop) (m : δ → Res γ) (r : Ra γ) : Sp := fun vs H Q E => ∃ x dx ws H0 I d, vs = .ref x :: ws ∧ H0 x = none ∧ H0 dx = none ∧ dx ≠ x ∧ H = upd (upd H0 dx (.own x)) x (.ins C dx []) ∧ Same I H0 ∧ R I H0 ws d ∧
  PostE K (m d) r I H0 E (fun u H2 => u = .ref x → Q .non H2)
theorem cj_make {k : Nat} {C f : Addr} {fd : FuncData} {ps : List Str} {ds : List Value} {dvs : List V} {R R' : Hp → Hp → List V → δ → Prop} {m : δ → Res γ} (M : Mk X.K C f) (F : FnOk X.prog X.w X.K X.mg X.base (L2.CX X.prog X.w) k f fd ps (spI X.K C R m rc)) (hr : Room (k + 1) X.A) (hb : Binds X.K fd ps ds) (hd : Vals dvs ds) (tk : Takes X W)
    (hR : ∀ I H vs d, R' I H vs d → R I H (vs ++ dvs) d) : CallJ X W (.ref C) R' m rc := fun I H σ Q vs d sm h p pins s us Iv r => by
  have n1 := Iv.hok.fresh (Nat.le_succ s.heap.objs.size)
  have n2 := Iv.hok.fresh (Nat.le_refl s.heap.objs.size)
  have n3 := Nat.ne_of_lt (Nat.lt_succ_self s.heap.objs.size)
  have hq : spI X.K C R m rc (.ref (s.heap.objs.size + 1) :: (vs ++ dvs)) (upd (upd H s.heap.objs.size (.own (s.heap.objs.size + 1))) (s.heap.objs.size + 1) (.ins C s.heap.objs.size [])) (fun v H2 => v = .non ∧ Q (.ref (s.heap.objs.size + 1)) H2) (fun cls d H' => W cls d σ H') :=
    ⟨s.heap.objs.size + 1, s.heap.objs.size, vs ++ dvs, H, I, d, rfl, n1, n2, n3, rfl, sm, hR _ _ _ _ h, p.imp fun v H' q e => ⟨rfl, e ▸ q⟩⟩
  have I2 := Inv.made (C := C) Iv
  have r2 : Vals (V.ref (s.heap.objs.size + 1) :: (vs ++ dvs)) (Value.ref (s.heap.objs.size + 1) :: (us ++ ds)) := .cons rfl (r.append hd)
  have hl : (Value.ref (s.heap.objs.size + 1) :: us ++ ds).length = ps.length := by
    have e := r2.length
    rw [F.len _ _ _ _ hq] at e
    exact e.symm
  refine wpAny_call (make_map (f := f) Iv.kIn M.makes M.init (beq_iff_eq.mp M.fn) (codeAny_mono (F.run _ X.stack _ _ ⟨Value.ref (s.heap.objs.size + 1) :: us, []⟩ (Value.ref (s.heap.objs.size + 1) :: (us ++ ds)) _ _ _ (hr.make C us [])
    (I2.env0.make C us []) (hb _ (Value.ref (s.heap.objs.size + 1) :: us) I2.kIn hl) r2 hq) fun r s' hq' => ?_))
  cases r with
  | error e => exact passAt tk σ pins _ _ e s' I2 hq'
  | ok fl =>
    cases fl with
    | ret u =>
      obtain ⟨v, H', I3, rv, ev, q3⟩ := I2.after hq'
      subst ev
      exact ⟨rv, ⟨V.ref (s.heap.objs.size + 1), H', I3, rfl, q3⟩⟩
    | next => exact False.elim hq'
    | brk => exact False.elim hq'
    | cont => exact False.elim hq'
end
section
variable {γ δ : Type} {P : Program} {w : World} {K : PySem.W.Frag} {mg : Str → Option Value} {base : Heap} {x qual : Str} {params : Arguments} {body : List Stmt} {scope : Scope} {dvs : List V} {kws : List (Str × V)} {f C : Addr} {fd : FuncData} {N ps : List Str} {k : Nat} {R : Hp → Hp → List V → δ → Prop} {m : δ → Res γ} {r : Ra γ}
/-- the cell of a new instance -/
theorem Stt.fresh {I0 H0 : Hp} {y dx : Addr} {σ : St} {ctx : List (Option SF)} (sm : Same I0 H0) (n1 : H0 y = none) (n2 : H0 dx = none) (n3 : dx ≠ y) (hl : σ.length = ctx.length) (hs : ∀ (i : Nat) (sf : SF), ctx[i]? = some (some sf) → ∃ v, σ[i]? = some (some v) ∧ sf.r I0 v sf.x) :
    Stt I0 H0 ctx [.ins y C dx []] I0 (upd (upd H0 dx (.own y)) y (.ins C dx [])) σ := by
  have e1 : Same H0 (upd (upd H0 dx (.own y)) y (.ins C dx [])) := fun b u e => by rw [upd_ne (ne_of_none e n1), upd_ne (ne_of_none e n2)]; exact e
  exact ⟨⟨Same.refl _, e1, sm.trans e1, fun _ e _ => e⟩, hl, hs, fun c hc => by
    cases List.mem_singleton.mp hc
    exact ⟨n1, sm.free n1, _, upd_same, [], rfl, True.intro⟩, by simp⟩
/-- an __init__ that makes its object whole -/
theorem FunD.init {S : Type} (F : FunD K x qual params body scope dvs kws f fd) (Sc : FnScope N ps scope) (len : ∀ I H vs d, R I H vs d → vs.length + 1 = ps.length)
    (hb : ∀ (cdv : Value) (A : Around) (outer : List Env) (s : Shared) (I0 H0 H1 : Hp) (E : XK) (vs : List V) (d : δ) (y dx : Addr), Room k (A.deeper (envOfC qual scope s.heap.objs.size f cdv)) → Same I0 H0 → R I0 H0 vs d → H0 y = none → H0 dx = none → dx ≠ y → H1 = upd (upd H0 dx (.own y)) y (.ins C dx []) →
      ∃ (G : Knows) (S : Type) (mm : Res S) (G' : S → Knows), G I0 H1 (start N (.ref y :: vs)) ∧ JN (bx P w K mg base N qual scope f cdv A outer s H1 E) (bW E) (bK I0 H0) G body mm G' ∧
        (match mm with
         | .ok s => ∃ z, m d = .ok z ∧ ∀ I' H' σ', G' s I' H' σ' → ∃ I'', Fm I0 H0 I'' H' ∧ r I'' H' (.ref y) z
         | .err e => m d = .err e
         | .stuck => m d = .stuck)) : FnOk P w K mg base (L2.CX P w) (k + 1) f fd ps (spI K C R m r) := by
  refine F.ok Sc (fun vs H Q E ⟨y, dx, ws, H0, I, d, e, _, _, _, _, _, h, _⟩ => by rw [e, List.length_cons]; exact len I H0 ws d h) fun cdv A outer s H vs Q E hr ⟨y, dx, ws, H0, I, d, e, n1, n2, n3, eH, sm, h, p⟩ => ⟨_, pss_W, ?_⟩
  subst e
  obtain ⟨G, S, mm, G', g, j, fin⟩ := hb cdv A outer s I H0 H E ws d y dx hr sm h n1 n2 n3 eH
  refine j I H _ _ g ?_
  cases mm with
  | ok z =>
    obtain ⟨y', e1, h1⟩ := fin
    intro I' H' σ' g'
    obtain ⟨I'', f1, r1⟩ := h1 I' H' σ' g'
    rw [e1] at p
    exact p I'' H' _ f1 r1 rfl
  | err e =>
    rw [show m d = _ from fin] at p
    exact fun I' H' _ c d f x => p I' H' c d f.1 ⟨f.2, x⟩
  | stuck =>
    rw [show m d = _ from fin] at p
    exact p
end
end L2.Tr

namespace L2.Tr
open PySem PySem.Spec PyProof.Rows He
/-! ### the head's facts -/
abbrev FB := PySem.W.Frag → Bool
abbrev AlX : Type := Bool × List FnW
def obsX (fs : List FB) (fn : List DefD) (K : PySem.W.Frag) : AlX := ((fs.all fun f => f K) && fn.all fun d => d.ok K, fn.map fun d => fnW K d.at_)
def valX (fn : List DefD) : AlX := (true, fn.map DefD.val)
def SaysX (fs : List FB) (fn : List DefD) (K : PySem.W.Frag) : Prop := obsX fs fn K = valX fn
def obsXG (n : Nat) (fs : List FB) (fn : List DefD) (g : Addr → Option Obj) : AlX := obsX fs fn (frG g (asD g n))
def hookX (n : Nat) (fs : List FB) (fn : List DefD) : PySem.W.Hook where
  α := AlX
  obs := fun s => obsXG n fs fn s.heap.get?
  val := fun _ => valX fn
  says := fun _ h => ∃ K : PySem.W.Frag, K.In h ∧ SaysX fs fn K
  of := fun _ _ e => ⟨_, frG_in, e⟩
  keeps := fun _ _ _ ⟨K, hK, c⟩ k => ⟨K, PySem.W.Frag.In.keeps hK k, c⟩
theorem obsXG_eq {n : Nat} {fs : List FB} {fn : List DefD} {g : Addr → Option Obj} {s : Shared} (h : ∀ a, g a = s.heap.get? a) : obsXG n fs fn g = (hookX n fs fn).obs s := by
  have e : g = s.heap.get? := funext h
  rw [e] <;> rfl
section
variable {fs : List FB} {fn : List DefD} {K : PySem.W.Frag} {mg : Str → Option Value} {h : Heap}
theorem SaysX.fact (c : SaysX fs fn K) (i : Nat) {f : FB} (h : fs[i]? = some f := by rfl) : f K = true := by
  have c1 := (ba (show ((fs.all fun f => f K) && fn.all fun d => d.ok K) = true from congrArg (fun z : AlX => z.1) c)).1
  exact List.all_eq_true.mp c1 f (List.mem_of_getElem? h)
theorem SaysX.def_ (c : SaysX fs fn K) (i : Nat) {d : DefD} (h : fn[i]? = some d := by rfl) : ∃ fd, FunD K d.name d.qual d.params d.body d.scope (d.dvs K) (d.kws K) (fAd K d.at_) fd := by
  have c2 := (ba (show ((fs.all fun f => f K) && fn.all fun d => d.ok K) = true from congrArg (fun z : AlX => z.1) c)).2
  have e : fn.map (fun d => fnW K d.at_) = fn.map DefD.val := congrArg (fun z : AlX => z.2) c
  have e2 : (fn.map fun d => fnW K d.at_)[i]? = (fn.map DefD.val)[i]? := by rw [e]
  rw [List.getElem?_map, List.getElem?_map, h] at e2
  exact DefD.funD (Option.some.inj e2) (List.all_eq_true.mp c2 d (List.mem_of_getElem? h))
def fGlo (x : Str) : FB := fun K => (Fa.glo x).ok K
def fFree (x : Str) : FB := fun K => (Fa.free x).ok K
def fKeep (x : Str) : FB := fun K => PySem.W.keepIn K (.ref (ga K x))
def fCls (x : Str) : FB := fun K => (Fa.cls x).ok K
def fNoat (x f : Str) : FB := fun K => (Fa.noat x f).ok K
def fMeth (x m : Str) : FB := fun K => (Fa.meth x m).ok K
def fMkr (x : Str) : FB := fun K => (Fa.mkr x).ok K
def fExc (x : Str) : FB := fun K => (Fa.exc x).ok K && (Fa.glo x).ok K
def fOcl (x : Str) : FB := fun K => (Fa.cls x).ok K && (PySem.W.selfFirst K (ga K x) && (eqO (PySem.W.findIn K (.ref (ga K x)) "__class__") (some (some (.builtin "object.__class__"))) && (eqO (PySem.W.specialIn K (.builtin "object.__class__") "__get__") (some (some (.builtin "getset_descriptor.__get__"))) &&
  (decide (PySem.W.takesIn K (.builtin "object.__class__") = some true) && (decide (PySem.W.mroIn K (ga K x) (.type "object") = some true) && (decide (PySem.W.subIn K (.ref (ga K x)) (.type "int") = some false) && (decide (PySem.W.subIn K (.type "int") (.ref (ga K x)) = some false) &&
  eqO (PySem.W.findIn K (.ref (ga K x)) "__ne__") (some (some (.builtin "object.__ne__"))))))))))
def fOMet (x m : Str) : FB := fun K => eqO (PySem.W.findIn K (.ref (ga K x)) m) (some (some (.ref (ma K (ga K x) m)))) && PySem.W.isFn K (.ref (ma K (ga K x) m))
def fNf (x : Str) : FB := fun K => PySem.W.notFirst K (ga K x) (.ref (ga K x)) && PySem.W.notFirst K (ga K x) (.type "int")
def fIntM (m : Str) : FB := fun K => (PySem.W.findIn K (.type "int") m).isSome
def fKit (x y : Str) (b : Bool) : FB := fun K => decide (PySem.W.kitOne K (.ref (ga K x)) (.ref (ga K y)) = some b)
def fKitT (x : Str) (t : String) (b : Bool) : FB := fun K => decide (PySem.W.kitOne K (.ref (ga K x)) (.type t) = some b)
def fKitI (t : String) (x : Str) (b : Bool) : FB := fun K => decide (PySem.W.kitOne K (.type t) (.ref (ga K x)) = some b)
theorem glo_of (X : K.In h) (G : h.Ns mainGlobals mg) {x : Str} (c : fGlo x K = true) : mg x = some (.ref (ga K x)) := glo_ok X G c
theorem free_of (X : K.In h) (G : h.Ns mainGlobals mg) {x : Str} (c : fFree x K = true) : mg x = none := free_ok X G c
theorem cls_of {x : Str} (c : fCls x K = true) : Cls K (ga K x) := cls_ok c
theorem noat_of {x f : Str} (c : fNoat x f K = true) : NoAttr K (ga K x) f := noat_ok c
theorem meth_of {x m : Str} (c : fMeth x m K = true) : Meth K (ga K x) m (ma K (ga K x) m) := meth_ok c
theorem mkr_of {x : Str} (c : fMkr x K = true) : Mk K (ga K x) (ma K (ga K x) "__init__") := mkr_ok c
theorem exc_of (X : K.In h) (G : h.Ns mainGlobals mg) {x : Str} (c : fExc x K = true) : ExcP K mg x := by
  obtain ⟨c1, c2⟩ := ba c
  obtain ⟨a, b, d, e⟩ := exc_ok c1
  exact ⟨a, b, d, e, glo_ok X G c2⟩
theorem ocl_of {x : Str} (c : fOcl x K = true) : OCls K (ga K x) := by
  obtain ⟨c0, c⟩ := ba c
  obtain ⟨c1, c⟩ := ba c
  obtain ⟨c2, c⟩ := ba c
  obtain ⟨c3, c⟩ := ba c
  obtain ⟨c4, c⟩ := ba c
  obtain ⟨c5, c⟩ := ba c
  obtain ⟨c6, c⟩ := ba c
  obtain ⟨c7, c8⟩ := ba c
  exact ⟨cls_ok c0, c1, eqO_ok c2, eqO_ok c3, of_decide_eq_true c4, of_decide_eq_true c5, of_decide_eq_true c6, of_decide_eq_true c7, eqO_ok c8⟩
theorem omet_of {x m : Str} (c : fOMet x m K = true) : OMet K (ga K x) m (ma K (ga K x) m) := by
  obtain ⟨a, b⟩ := ba c
  exact ⟨eqO_ok a, b⟩
theorem nf_of {x : Str} (c : fNf x K = true) : PySem.W.notFirst K (ga K x) (.ref (ga K x)) = true ∧ PySem.W.notFirst K (ga K x) (.type "int") = true := ba c
theorem intM_of {m : Str} (c : fIntM m K = true) : ∃ fo, PySem.W.findIn K (.type "int") m = some fo := Option.isSome_iff_exists.mp c
theorem kit_of' {x y : Str} {b : Bool} (c : fKit x y b K = true) : PySem.W.kitOne K (.ref (ga K x)) (.ref (ga K y)) = some b := of_decide_eq_true c
theorem kitT_of {x : Str} {t : String} {b : Bool} (c : fKitT x t b K = true) : PySem.W.kitOne K (.ref (ga K x)) (.type t) = some b := of_decide_eq_true c
theorem kitI_of {x : Str} {t : String} {b : Bool} (c : fKitI t x b K = true) : PySem.W.kitOne K (.type t) (.ref (ga K x)) = some b := of_decide_eq_true c
end
end L2.Tr

namespace L2.Tr
open PySem PySem.Spec PyProof.Rows
section
variable {α β γ δ S : Type} {X : Cx} {I0 H0 : Hp} {W : WX} {Kx : KnowsX} {G : Knows} {ctx cw : List (Option SF)} {mem : List MF} {e a b c o : Expr} {es bs : List Expr} {st b₀ : Stmt} {ss s1 s2 body suite : List Stmt} {pos pos' np : Pos} {n x : Str} {ra : Ra α} {rb : Ra β} {rr : Ra γ} {ma : Res α} {mb : Res β}
/-- what is known of fewer slots -/
def weakC : List (Option SF) → List (Option SF) → Prop
  | [], [] => True
  | _ :: c, none :: d => weakC c d
  | a :: c, some b :: d => a = some b ∧ weakC c d
  | _, _ => False
theorem weakC.len : ∀ {c d : List (Option SF)}, weakC c d → c.length = d.length
  | [], [], _ => rfl
  | _ :: _, none :: _, h => congrArg Nat.succ (weakC.len (c := _) h)
  | _ :: _, some _ :: _, h => congrArg Nat.succ (weakC.len (c := _) h.2)
  | [], _ :: _, h => h.elim
  | _ :: _, [], h => h.elim
theorem weakC.get : ∀ {c d : List (Option SF)} {i : Nat} {sf : SF}, weakC c d → d[i]? = some (some sf) → c[i]? = some (some sf)
  | [], [], _, _, _, e => by simp at e
  | _ :: _, none :: _, 0, _, _, e => by simp at e
  | _ :: c, none :: d, i + 1, sf, h, e => by
    have e' : d[i]? = some (some sf) := by simpa using e
    have := weakC.get (c := c) h e'
    simpa using this
  | _ :: _, some _ :: _, 0, _, h, e => by
    have e' : some _ = some (some _) := e
    rw [h.1]; simpa using e
  | _ :: c, some _ :: d, i + 1, sf, h, e => by
    have e' : d[i]? = some (some sf) := by simpa using e
    have := weakC.get (c := c) h.2 e'
    simpa using this
  | [], _ :: _, _, _, h, _ => h.elim
  | _ :: _, [], _, _, h, _ => h.elim
theorem Stt.weak {I H : Hp} {σ : St} (s : Stt I0 H0 ctx mem I H σ) (h : weakC ctx cw) : Stt I0 H0 cw mem I H σ := ⟨s.fm, by rw [s.len, h.len], fun i sf e => s.sl i sf (h.get e), s.me, s.nd⟩
/-- the slots that a reading leaves out -/
theorem Stt.weakM {I H : Hp} {σ : St} {me : List MF} (s : Stt I0 H0 ctx (me ++ mem) I H σ) : Stt I0 H0 ctx mem I H σ := ⟨s.fm, s.len, s.sl, fun c hc => s.me c (List.mem_append_right _ hc), by
  have := s.nd
  rw [List.map_append] at this
  exact (List.nodup_append.mp this).2.1⟩
theorem Stt.unset {I H : Hp} {σ : St} (s : Stt I0 H0 ctx mem I H σ) (i : Nat) {u : Option V} : Stt I0 H0 (ctx.set i none) mem I H (σ.set i u) := by
  refine ⟨s.fm, by rw [List.length_set, List.length_set]; exact s.len, fun j sf e => ?_, s.me, s.nd⟩
  by_cases hj : j = i
  · subst hj
    rw [List.getElem?_set] at e
    by_cases hl : j < ctx.length
    · simp [hl] at e
    · simp [hl] at e
  · rw [List.getElem?_set_ne (Ne.symm hj)] at e
    obtain ⟨w, e1, q⟩ := s.sl j sf e
    exact ⟨w, by rw [List.getElem?_set_ne (Ne.symm hj)]; exact e1, q⟩

/-! ### try -/
def tryM (m : Res S) (L : List (Str × Bool)) (h : Exn → Res γ) (f : S → Res γ) : Res γ := match m with
  | .ok s => f s
  | .err e => (match L.lookup e.cls with
    | some true => (match h e with
      | .ok y => .ok y
      | _ => .stuck)
    | some false => .err e
    | none => .stuck)
  | .stuck => .stuck
theorem lookup_mem {L : List (Str × Bool)} {x : Str} {b : Bool} (h : L.lookup x = some b) : (x, b) ∈ L := by
  induction L with
  | nil => cases h
  | cons p L ih =>
    obtain ⟨y, c⟩ := p
    have h' : (match x == y with | true => some c | false => L.lookup x) = some b := h
    cases q : (x == y) with
    | true =>
      rw [q] at h'
      cases h'
      rw [beq_iff_eq.mp q]; exact List.mem_cons_self
    | false => rw [q] at h'; exact List.mem_cons_of_mem _ (ih h')
def rExc (a : Addr) : Rp Unit := fun _ v _ => v = .ref a
instance {a : Addr} : Mo (rExc a) := ⟨fun _ h => h⟩
def MF.xd (K : PySem.W.Frag) (l : Addr) (ps : List (Str × Pay)) : MF := ⟨l, fun I o => ∃ fs, o = .xd fs ∧ Paired (fun (p : Str × V) (q : Str × Pay) => p.1 = q.1 ∧ PayR K I p.2 q.2) fs ps, fun s ⟨fs, e, p⟩ => ⟨fs, e, Paired.mapP p fun _ q h => ⟨h.1, by
  obtain ⟨h1, h2⟩ := h
  cases hq : q.2 with
  | int i => rw [hq] at h2; exact h2
  | str i => rw [hq] at h2; exact h2
  | bl i => rw [hq] at h2; exact h2
  | non => rw [hq] at h2; exact h2
  | frac i => rw [hq] at h2; exact Mo.up (r := rFrac K) s h2
  | obj i j => exact True.intro⟩⟩⟩
def exm (K : PySem.W.Frag) (d : Option Addr) (e : Exn) : List MF := match d with
  | none => []
  | some a => [.xd K a e.pay]
theorem Stt.exm {K : PySem.W.Frag} {I H : Hp} {σ : St} {ee : Exn} {cls : Value} {d : Option Addr} (s : Stt I0 H0 ctx mem I H σ) (f : Fr H0 d) (x : ExR K I H ee cls d) (hm : ∀ c ∈ mem, ∀ I o fs, c.P I o → o ≠ .xd fs) : Stt I0 H0 ctx (Tr.exm K d ee ++ mem) I H σ := by
  cases d with
  | none => exact s
  | some a =>
    obtain ⟨_, _, fs, e1, e2, pr⟩ := x
    refine ⟨s.fm, s.len, s.sl, fun c hc => ?_, ?_⟩
    · rcases List.mem_cons.mp hc with rfl | hc
      · exact ⟨f a rfl, e2, _, e1, fs, rfl, pr⟩
      · exact s.me c hc
    · show (a :: mem.map (·.l)).Nodup
      refine List.nodup_cons.mpr ⟨fun hh => ?_, s.nd⟩
      obtain ⟨c, hc, e3⟩ := List.mem_map.mp hh
      obtain ⟨_, _, o, e4, p4⟩ := s.me c hc
      rw [e3, e1] at e4
      cases e4
      exact hm c hc I _ fs p4 rfl
/-- try: body except x as n: suite; the suite ends the def -/
theorem JR.tryAs (i : Nat) {cv : Value} {L : List (Str × Bool)} {mb : Res S} {G' : S → Knows} {f : S → Res γ} {mh : Exn → Res γ} (tk : Takes X W)
    (jb : ∀ (W' : WX) (pn : List (Addr × Obj)) (xe : Value → Shared → Prop), Takes (X.tr pn xe) W' → PassesOwn (model X.prog X.w) X.A X.env xe → JN (X.tr pn xe) W' (fun I H σ d => Stt I0 H0 cw mem I H σ ∧ Fr H0 d) (Stt I0 H0 ctx mem) body mb G')
    (js : ∀ (a : Addr) (oe : Obj) (ee : Exn) (d : Option Addr) (pn : List (Addr × Obj)), Zc (.ref (He.ga X.K ee.cls)) d oe → (∃ vs, oe.data = .fields vs) → (ee.cls, true) ∈ L → (d = none → ee.pay = []) → (∀ q, d = some q → ee.pay ≠ []) → JR (X.suite a ((a, oe) :: pn)) I0 H0 (fun _ _ _ _ => False) (fun _ _ _ _ => True) (Stt I0 H0 (cw.set i (some ⟨rExc a, ()⟩)) (exm X.K d ee ++ mem)) (b₀ :: suite) (mh ee) rr)
    (k : ∀ s, JR X I0 H0 W Kx (G' s) ss (f s) rr) (hL : ∀ y b, (y, b) ∈ L → PySem.W.exmOne X.K (.ref (He.ga X.K y)) cv = some b) (hc : Names X x cv) (hx : ∀ I H σ d, Stt I0 H0 cw mem I H σ → Fr H0 d → Kx I H σ d) (hN : X.N.Nodup)
    (hs : X.stack = X.env :: X.outer := by rfl) (hf : X.env.frame = some X.env.locals := by rfl) (hi : X.N[i]? = some n := by rfl) (hln : X.env.kindOf n = some .local := by rfl) (hmx : ∀ c ∈ mem, ∀ I o fs, c.P I o → o ≠ .xd fs := by intro c hc; cases hc) :
    JR X I0 H0 W Kx (Stt I0 H0 ctx mem) (.Try body [.ExceptHandler (some (.Name x np)) (some n) (b₀ :: suite) pos'] [] [] pos :: ss) (tryM mb L mh f) rr := fun I H σ D g p => by
  refine b_cons (PS.w (ps_try_as (i := i) (tb := fun W' D σ H => ∀ pn xe, Takes (X.tr pn xe) W' → PassesOwn (model X.prog X.w) X.A X.env xe → wB (X.tr pn xe) body D σ H) (ts := fun a cls d D σ H => ∀ oe pn, Zc cls d oe → (∃ vs, oe.data = .fields vs) → wB (X.suite a ((a, oe) :: pn)) (b₀ :: suite) D σ H) hs hf hN hi hln hc tk
    (fun W' pn xe t1 t2 => ⟨fun pins s σ H D Iv h => h pn xe t1 t2 pins s Iv⟩) (fun a oe cls d pn hz hf => ⟨fun pins s σ H D Iv h => h oe pn hz hf pins s Iv⟩)) ?_)
  intro pn xe t1 t2
  refine jb _ pn xe t1 t2 I H σ _ g ?_
  cases mb with
  | ok s => exact fun I' H' σ' g' => k s I' H' σ' D g' p
  | stuck => exact p.elim
  | err ee =>
    intro I' H' σ' cls d hk hxr
    obtain ⟨g1, fr⟩ := hk
    obtain ⟨ec, hxr2⟩ := id hxr
    have p1 : PostR X I0 H0 W Kx (match L.lookup ee.cls with
      | some true => (match mh ee with
        | .ok y => .ok y
        | _ => .stuck)
      | some false => .err ee
      | none => .stuck) rr D := p
    cases hl : L.lookup ee.cls with
    | none => rw [hl] at p1; exact p1.elim
    | some bb =>
      rw [hl] at p1
      refine ⟨bb, by rw [ec]; exact hL _ _ (lookup_mem hl), fun hb a ha oe pn' hz hf' => ?_, fun hb => ?_⟩
      · subst hb
        rw [ec] at hz
        refine b_mono (js a oe ee d pn' hz hf' (lookup_mem hl) (fun z => by subst z; exact hxr2) (fun q z => by subst z; exact hxr2.1) I' H' _ { nx := fun _ _ => False, rt := D.rt } ((g1.set i (r := rExc a) (x := ()) rfl).exm fr hxr hmx) ?_) (fun _ _ z => z.elim) (fun _ _ z => z) (fun _ _ z => z.elim) (fun _ _ z => z.elim)
        have p2 : PostR X I0 H0 W Kx (match mh ee with
          | .ok y => .ok y
          | _ => .stuck) rr D := p1
        revert p2
        generalize mh ee = z
        intro p2
        cases z with
        | ok y => exact p2
        | err _ => exact p2.elim
        | stuck => exact p2.elim
      · subst hb
        exact p1 I' H' σ' cls d (hx _ _ _ _ g1 fr) hxr
theorem JR.tryOnly {cv : Value} {L : List (Str × Bool)} {mb : Res S} {G' : S → Knows} {f : S → Res γ} {mh : Exn → Res γ} (tk : Takes X W)
    (jb : ∀ (W' : WX) (pn : List (Addr × Obj)) (xe : Value → Shared → Prop), Takes (X.tr pn xe) W' → PassesOwn (model X.prog X.w) X.A X.env xe → JN (X.tr pn xe) W' (fun I H σ d => Stt I0 H0 cw mem I H σ ∧ Fr H0 d) (Stt I0 H0 ctx mem) body mb G')
    (js : ∀ (a : Addr) (oe : Obj) (ee : Exn) (d : Option Addr) (pn : List (Addr × Obj)), Zc (.ref (He.ga X.K ee.cls)) d oe → (∃ vs, oe.data = .fields vs) → (ee.cls, true) ∈ L → (d = none → ee.pay = []) → (∀ q, d = some q → ee.pay ≠ []) → JR (X.suite a ((a, oe) :: pn)) I0 H0 (fun _ _ _ _ => False) (fun _ _ _ _ => True) (Stt I0 H0 cw (exm X.K d ee ++ mem)) (b₀ :: suite) (mh ee) rr)
    (k : ∀ s, JR X I0 H0 W Kx (G' s) ss (f s) rr) (hL : ∀ y b, (y, b) ∈ L → PySem.W.exmOne X.K (.ref (He.ga X.K y)) cv = some b) (hc : Names X x cv) (hx : ∀ I H σ d, Stt I0 H0 cw mem I H σ → Fr H0 d → Kx I H σ d)
    (hs : X.stack = X.env :: X.outer := by rfl) (hf : X.env.frame = some X.env.locals := by rfl) (hmx : ∀ c ∈ mem, ∀ I o fs, c.P I o → o ≠ .xd fs := by intro c hc; cases hc) :
    JR X I0 H0 W Kx (Stt I0 H0 ctx mem) (.Try body [.ExceptHandler (some (.Name x np)) none (b₀ :: suite) pos'] [] [] pos :: ss) (tryM mb L mh f) rr := fun I H σ D g p => by
  refine b_cons (PS.w (ps_try_only (tb := fun W' D σ H => ∀ pn xe, Takes (X.tr pn xe) W' → PassesOwn (model X.prog X.w) X.A X.env xe → wB (X.tr pn xe) body D σ H) (ts := fun a cls d D σ H => ∀ oe pn, Zc cls d oe → (∃ vs, oe.data = .fields vs) → wB (X.suite a ((a, oe) :: pn)) (b₀ :: suite) D σ H) hs hf hc tk
    (fun W' pn xe t1 t2 => ⟨fun pins s σ H D Iv h => h pn xe t1 t2 pins s Iv⟩) (fun a oe cls d pn hz hf => ⟨fun pins s σ H D Iv h => h oe pn hz hf pins s Iv⟩)) ?_)
  intro pn xe t1 t2
  refine jb _ pn xe t1 t2 I H σ _ g ?_
  cases mb with
  | ok s => exact fun I' H' σ' g' => k s I' H' σ' D g' p
  | stuck => exact p.elim
  | err ee =>
    intro I' H' σ' cls d hk hxr
    obtain ⟨g1, fr⟩ := hk
    obtain ⟨ec, hxr2⟩ := id hxr
    have p1 : PostR X I0 H0 W Kx (match L.lookup ee.cls with
      | some true => (match mh ee with
        | .ok y => .ok y
        | _ => .stuck)
      | some false => .err ee
      | none => .stuck) rr D := p
    cases hl : L.lookup ee.cls with
    | none => rw [hl] at p1; exact p1.elim
    | some bb =>
      rw [hl] at p1
      refine ⟨bb, by rw [ec]; exact hL _ _ (lookup_mem hl), fun hb a ha oe pn' hz hf' => ?_, fun hb => ?_⟩
      · subst hb
        rw [ec] at hz
        refine b_mono (js a oe ee d pn' hz hf' (lookup_mem hl) (fun z => by subst z; exact hxr2) (fun q z => by subst z; exact hxr2.1) I' H' _ { nx := fun _ _ => False, rt := D.rt } (g1.exm fr hxr hmx) ?_) (fun _ _ z => z.elim) (fun _ _ z => z) (fun _ _ z => z.elim) (fun _ _ z => z.elim)
        have p2 : PostR X I0 H0 W Kx (match mh ee with
          | .ok y => .ok y
          | _ => .stuck) rr D := p1
        revert p2
        generalize mh ee = z
        intro p2
        cases z with
        | ok y => exact p2
        | err _ => exact p2.elim
        | stuck => exact p2.elim
      · subst hb
        exact p1 I' H' σ' cls d (hx _ _ _ _ g1 fr) hxr
/-- .. where the errors have no fields -/
theorem JR.tryAsP (i : Nat) {cv : Value} {L : List (Str × Bool)} {mb : Res S} {G' : S → Knows} {f : S → Res γ} {mh : Str → Res γ} (tk : Takes X W)
    (jb : ∀ (W' : WX) (pn : List (Addr × Obj)) (xe : Value → Shared → Prop), Takes (X.tr pn xe) W' → PassesOwn (model X.prog X.w) X.A X.env xe → JN (X.tr pn xe) W' (fun I H σ d => Stt I0 H0 cw mem I H σ ∧ Fr H0 d) (Stt I0 H0 ctx mem) body mb G')
    (js : ∀ cls, (cls, true) ∈ L → ∀ (a : Addr) (oe : Obj) (pn : List (Addr × Obj)), Zc (.ref (He.ga X.K cls)) none oe → (∃ vs, oe.data = .fields vs) → JR (X.suite a ((a, oe) :: pn)) I0 H0 (fun _ _ _ _ => False) (fun _ _ _ _ => True) (Stt I0 H0 (cw.set i (some ⟨rExc a, ()⟩)) mem) (b₀ :: suite) (mh cls) rr)
    (k : ∀ s, JR X I0 H0 W Kx (G' s) ss (f s) rr) (hL : ∀ y b, (y, b) ∈ L → PySem.W.exmOne X.K (.ref (He.ga X.K y)) cv = some b) (hc : Names X x cv) (hx : ∀ I H σ d, Stt I0 H0 cw mem I H σ → Fr H0 d → Kx I H σ d) (hN : X.N.Nodup)
    (hs : X.stack = X.env :: X.outer := by rfl) (hf : X.env.frame = some X.env.locals := by rfl) (hi : X.N[i]? = some n := by rfl) (hln : X.env.kindOf n = some .local := by rfl) (hmx : ∀ c ∈ mem, ∀ I o fs, c.P I o → o ≠ .xd fs := by intro c hc; cases hc) :
    JR X I0 H0 W Kx (Stt I0 H0 ctx mem) (.Try body [.ExceptHandler (some (.Name x np)) (some n) (b₀ :: suite) pos'] [] [] pos :: ss) (tryM mb L (fun ee => if ee.pay.isEmpty = true then mh ee.cls else .stuck) f) rr :=
  JR.tryAs i tk jb (fun a oe ee d pn hz hf hm h0 h1 => by
    cases d with
    | none =>
      have e : ee.pay.isEmpty = true := by rw [h0 rfl]; rfl
      rw [if_pos e]
      exact js ee.cls hm a oe pn hz hf
    | some q =>
      have e : ¬ ee.pay.isEmpty = true := fun z => h1 q rfl (List.isEmpty_iff.mp z)
      rw [if_neg e]
      exact fun _ _ _ _ _ p => p.elim) k hL hc hx hN hs hf hi hln hmx
theorem JR.tryOnlyP {cv : Value} {L : List (Str × Bool)} {mb : Res S} {G' : S → Knows} {f : S → Res γ} {mh : Str → Res γ} (tk : Takes X W)
    (jb : ∀ (W' : WX) (pn : List (Addr × Obj)) (xe : Value → Shared → Prop), Takes (X.tr pn xe) W' → PassesOwn (model X.prog X.w) X.A X.env xe → JN (X.tr pn xe) W' (fun I H σ d => Stt I0 H0 cw mem I H σ ∧ Fr H0 d) (Stt I0 H0 ctx mem) body mb G')
    (js : ∀ cls, (cls, true) ∈ L → ∀ (a : Addr) (oe : Obj) (pn : List (Addr × Obj)), Zc (.ref (He.ga X.K cls)) none oe → (∃ vs, oe.data = .fields vs) → JR (X.suite a ((a, oe) :: pn)) I0 H0 (fun _ _ _ _ => False) (fun _ _ _ _ => True) (Stt I0 H0 cw mem) (b₀ :: suite) (mh cls) rr)
    (k : ∀ s, JR X I0 H0 W Kx (G' s) ss (f s) rr) (hL : ∀ y b, (y, b) ∈ L → PySem.W.exmOne X.K (.ref (He.ga X.K y)) cv = some b) (hc : Names X x cv) (hx : ∀ I H σ d, Stt I0 H0 cw mem I H σ → Fr H0 d → Kx I H σ d)
    (hs : X.stack = X.env :: X.outer := by rfl) (hf : X.env.frame = some X.env.locals := by rfl) (hmx : ∀ c ∈ mem, ∀ I o fs, c.P I o → o ≠ .xd fs := by intro c hc; cases hc) :
    JR X I0 H0 W Kx (Stt I0 H0 ctx mem) (.Try body [.ExceptHandler (some (.Name x np)) none (b₀ :: suite) pos'] [] [] pos :: ss) (tryM mb L (fun ee => if ee.pay.isEmpty = true then mh ee.cls else .stuck) f) rr :=
  JR.tryOnly tk jb (fun a oe ee d pn hz hf hm h0 h1 => by
    cases d with
    | none =>
      have e : ee.pay.isEmpty = true := by rw [h0 rfl]; rfl
      rw [if_pos e]
      exact js ee.cls hm a oe pn hz hf
    | some q =>
      have e : ¬ ee.pay.isEmpty = true := fun z => h1 q rfl (List.isEmpty_iff.mp z)
      rw [if_neg e]
      exact fun _ _ _ _ _ p => p.elim) k hL hc hx hs hf hmx
end
end L2.Tr

namespace L2.Tr
open PySem PySem.Spec PyProof.Rows
section
variable {α β γ δ S : Type} {X : Cx} {I0 H0 : Hp} {W : WX} {Kx : KnowsX} {G : Knows} {ctx cw : List (Option SF)} {mem : List MF} {e a b c o : Expr} {es bs : List Expr} {pos pos' np : Pos} {n x : Str} {ra : Ra α} {rb : Ra β} {rc : Ra γ} {ma : Res α} {mb : Res β}
/-! ### the start of a def -/
def IniR (I : Hp) : List V → List (Option SF) → Prop
  | [], c => ∀ (i : Nat) (sf : SF), c[i]? ≠ some (some sf)
  | v :: vs, some sf :: c => sf.r I v sf.x ∧ IniR I vs c
  | _ :: _, _ => False
theorem IniR.get {I : Hp} : ∀ {vs : List V} {c : List (Option SF)} {n : Nat}, IniR I vs c → ∀ (i : Nat) (sf : SF), c[i]? = some (some sf) → ∃ v, (vs.map some ++ List.replicate n none)[i]? = some (some v) ∧ sf.r I v sf.x
  | [], c, n, h, i, sf, e => (h i sf e).elim
  | v :: vs, some sf' :: c, n, ⟨a, b⟩, 0, sf, e => by
    have e' : sf' = sf := by simpa using e
    subst e'
    exact ⟨v, by simp, a⟩
  | v :: vs, some sf' :: c, n, ⟨a, b⟩, i + 1, sf, e => by
    have e' : c[i]? = some (some sf) := by simpa using e
    obtain ⟨u, h1, h2⟩ := IniR.get (n := n) b i sf e'
    exact ⟨u, by simpa using h1, h2⟩
  | _ :: _, none :: _, _, h, _, _, _ => h.elim
  | _ :: _, [], _, h, _, _, _ => h.elim
theorem Stt.start {N : List Str} {vs : List V} (sm : Same I0 H0) (h : IniR I0 vs ctx) (hl : ctx.length = N.length) (hv : vs.length ≤ N.length) : Stt I0 H0 ctx [] I0 H0 (L2.start N vs) := by
  refine ⟨Fm.refl sm, ?_, fun i sf e => IniR.get h i sf e, fun _ z => (nomatch z), List.nodup_nil⟩
  unfold L2.start
  rw [List.length_append, List.length_map, List.length_replicate, hl]
  omega
theorem ini_nil {I : Hp} {c : List (Option SF)} (h : c.all (·.isNone) = true) : IniR I [] c := fun i sf e => by
  have := List.all_eq_true.mp h _ (List.mem_of_getElem? e)
  cases this
/-! ### promises, once more -/
theorem FnR.nice {P : Program} {w : World} {K : PySem.W.Frag} {mg : Str → Option Value} {base : Heap} {k : Nat} {f : Addr} {R : Hp → Hp → List V → δ → Prop} {m m' : δ → Res γ} (F : FnR P w K mg base (L2.CX P w) k f (spF K R m rc)) (h : ∀ d, m' d = .stuck ∨ m' d = m d) :
    FnR P w K mg base (L2.CX P w) k f (spF K R m' rc) := F.imp fun vs H Q E ⟨I, d, s, r, p⟩ => ⟨I, d, s, r, by
  rcases h d with e | e
  · rw [show m' d = _ from e] at p; exact p.elim
  · rw [← e]; exact p⟩
theorem FnOk.fr {P : Program} {w : World} {K : PySem.W.Frag} {mg : Str → Option Value} {base : Heap} {k : Nat} {f : Addr} {fd : FuncData} {ps : List Str} {ds : List Value} {dvs : List V} {δ' : Type} {R : Hp → Hp → List V → δ → Prop} {R' : Hp → Hp → List V → δ' → Prop} {m : δ → Res γ} {h : δ' → δ} (F : FnOk P w K mg base (L2.CX P w) k f fd ps (spF K R m rc)) (hb : Binds K fd ps ds) (hd : Vals dvs ds)
    (hR : ∀ I H vs d, R' I H vs d → R I H (vs ++ dvs) (h d)) : FnR P w K mg base (L2.CX P w) k f (spF K R' (fun d => m (h d)) rc) := (FnOk.raw F hb hd).imp fun vs H Q E ⟨I, d, s, r, p⟩ => ⟨I, h d, s, hR _ _ _ _ r, p⟩
theorem FnOk.fr0 {P : Program} {w : World} {K : PySem.W.Frag} {mg : Str → Option Value} {base : Heap} {k : Nat} {f : Addr} {fd : FuncData} {ps : List Str} {R : Hp → Hp → List V → δ → Prop} {m : δ → Res γ} (F : FnOk P w K mg base (L2.CX P w) k f fd ps (spF K R m rc)) (hb : Binds K fd ps []) :
    FnR P w K mg base (L2.CX P w) k f (spF K R m rc) := (FnOk.raw F hb .nil).imp fun vs H Q E h => by rw [List.append_nil]; exact h
/-! ### the types of things -/
theorem tyr_int {K : PySem.W.Frag} {t : String} {g : Bool} (h : kitB "int" t = some g) : TyR K (rp rInt) (.type t) (fun _ => g) := fun I H v x _ e => ⟨.type "int", by rw [show v = _ from e]; exact .base (.int _), kit_ty h⟩
theorem tyr_intC {K : PySem.W.Frag} {C : Addr} {g : Bool} (h : PySem.W.kitOne K (.type "int") (.ref C) = some g) : TyR K (rp rInt) (.ref C) (fun _ => g) := fun I H v x _ e => ⟨.type "int", by rw [show v = _ from e]; exact .base (.int _), h⟩
theorem tyr_ins {K : PySem.W.Frag} {C : Addr} {u : Value} {g : Bool} (hc : OCls K C) (ia : InsR C ra) (h : PySem.W.kitOne K (.ref C) u = some g) : TyR K ra u (fun _ => g) := fun I H v x s e => by
  obtain ⟨a, dx, fs, rfl, ha⟩ := ia I H v x s e
  exact ⟨.ref C, .base (.ins ha hc.cl hc.ca hc.cn hc.ct hc.cm), h⟩
theorem insF {K : PySem.W.Frag} : InsR (He.ga K "Fraction") (rp (rFrac K)) := fun I H v x s ⟨a, dx, e, h⟩ => ⟨a, dx, _, e, s _ _ h⟩
theorem tyr_num {K : PySem.W.Frag} {u : Value} {g1 g2 : Bool} (h1 : TyR K (rp rInt) u fun _ => g1) (h2 : TyR K (rp (rFrac K)) u fun _ => g2) : TyR K (rp (rNum K)) u (fun x => match x with | .i _ => g1 | .q _ => g2) := fun I H v x s e => by
  cases x with
  | i n => exact h1 I H v n s e
  | q r => exact h2 I H v r s e
theorem w_glob_at {C : Addr} (hm : X.mg n = some (.ref C)) (hg : Gl X n) (hd : (n == ("__debug__" : Str)) = false) (σ : St) (H : Hp) (Q : VK) (h : Q (.ref C) H) : wE X (.Name n pos) σ H Q := w_glob h hm rfl hg hd
theorem w_type_at {t : String} (hm : X.mg n = none) (hv : bootBuiltins n = some (.type t)) (hg : Gl X n) (hn : n ≠ "__name__") (hd : (n == ("__debug__" : Str)) = false) (σ : St) (H : Hp) (Q : VK) (h : Q (.ty t) H) : wE X (.Name n pos) σ H Q := w_bltn h hm hv rfl hg hn hd
/-! ### fields of a Fraction -/
theorem fld_top {K : PySem.W.Frag} : FldOf K (He.ga K "Fraction") (rp (rFrac K)) "top" (fun q => q.num) (rp rInt) := fun I H v x s ⟨a, dx, e, h⟩ => ⟨a, dx, _, .int x.num, e, s _ _ h, rfl, rfl⟩
theorem fld_bottom {K : PySem.W.Frag} : FldOf K (He.ga K "Fraction") (rp (rFrac K)) "bottom" (fun q => (q.den : Int)) (rp rInt) := fun I H v x s ⟨a, dx, e, h⟩ => ⟨a, dx, _, .int (x.den : Int), e, s _ _ h, rfl, rfl⟩
theorem insOfF {K : PySem.W.Frag} {m : Str} (h1 : (m == ("top" : Str)) = false := by decide +kernel) (h2 : (m == ("bottom" : Str)) = false := by decide +kernel) : InsOf (He.ga K "Fraction") (rp (rFrac K)) m := fun I H v x s ⟨a, dx, e, h⟩ => ⟨a, dx, _, e, s _ _ h, by
  show (match m == ("top" : Str) with | true => _ | false => (match m == ("bottom" : Str) with | true => _ | false => none)) = none
  rw [h1, h2]⟩
/-! ### operators of Fractions, ints and both -/
variable {f f' : Addr} {k k' : Nat} {g : Rat × Num × Unit → Res γ} {g' : Rat × Int × Unit → Res γ}
theorem opj_qq {op : Operator} (hc : OCls X.K (He.ga X.K "Fraction")) (hm : OMet X.K (He.ga X.K "Fraction") (PySem.dunder op.info.2) f) (F : FnR X.prog X.w X.K X.mg X.base (L2.CX X.prog X.w) k f (spF X.K (R2' (rp (rFrac X.K)) (rp (rNum X.K))) g rc)) (hr : Room k X.A) (tk : Takes X W) :
    OpJ X W (binaryOp op) (rp (rFrac X.K)) (rp (rFrac X.K)) (fun x y => g (x, .q y, ())) rc := opj_own (g := fun d => g (d.1, .q d.2.1, ())) hc hm insF insF ((cj_of F hr tk).co fun I H vs d _ h => h)
theorem opj_qi {op : Operator} {fo ro : Option Value} (hc : OCls X.K (He.ga X.K "Fraction")) (hm : OMet X.K (He.ga X.K "Fraction") (PySem.dunder op.info.2) f) (hm' : OMet X.K (He.ga X.K "Fraction") (dunderR op.info.2) f') (h1 : PySem.W.findIn X.K (.type "int") (PySem.dunder op.info.2) = some fo) (h2 : PySem.W.findIn X.K (.type "int") (dunderR op.info.2) = some ro)
    (F : FnR X.prog X.w X.K X.mg X.base (L2.CX X.prog X.w) k f (spF X.K (R2' (rp (rFrac X.K)) (rp (rNum X.K))) g rc)) (hr : Room k X.A) (tk : Takes X W) :
    OpJ X W (binaryOp op) (rp (rFrac X.K)) (rp rInt) (fun x y => g (x, .i y, ())) rc := opj_ownI (g := fun d => g (d.1, .i d.2.1, ())) hc hm hm' h1 h2 insF ((cj_of F hr tk).co fun I H vs d _ h => h)
theorem opj_qn {f : Value → Value → Sem Value} {g : Rat × Num × Unit → Res γ} (h1 : OpJ X W f (rp (rFrac X.K)) (rp (rFrac X.K)) (fun x y => g (x, .q y, ())) rc) (h2 : OpJ X W f (rp (rFrac X.K)) (rp rInt) (fun x y => g (x, .i y, ())) rc) :
    OpJ X W f (rp (rFrac X.K)) (rp (rNum X.K)) (fun x y => g (x, y, ())) rc := fun I H σ Q u v x y s a b p => by
  cases y with
  | i n => exact h2 I H σ Q u v x n s a b p
  | q r => exact h1 I H σ Q u v x r s a b p
theorem opj_cqq {op : CmpOp} (hop : ∀ a b, compareOp op a b = richCompare op a b) (hc : OCls X.K (He.ga X.K "Fraction")) (hm : OMet X.K (He.ga X.K "Fraction") (cmpInfo op).2.1 f) (hn : PySem.W.notFirst X.K (He.ga X.K "Fraction") (.ref (He.ga X.K "Fraction")) = true) (F : FnR X.prog X.w X.K X.mg X.base (L2.CX X.prog X.w) k f (spF X.K (R2' (rp (rFrac X.K)) (rp (rNum X.K))) g rc)) (hr : Room k X.A) (tk : Takes X W) :
    OpJ X W (compareOp op) (rp (rFrac X.K)) (rp (rFrac X.K)) (fun x y => g (x, .q y, ())) rc := opj_cmp (g := fun d => g (d.1, .q d.2.1, ())) hop hc hm hr.units0 hn insF insF ((cj_of F hr tk).co fun I H vs d _ h => h)
theorem opj_cqi {op : CmpOp} (hop : ∀ a b, compareOp op a b = richCompare op a b) (hc : OCls X.K (He.ga X.K "Fraction")) (hm : OMet X.K (He.ga X.K "Fraction") (cmpInfo op).2.1 f) (hn : PySem.W.notFirst X.K (He.ga X.K "Fraction") (.type "int") = true) (F : FnR X.prog X.w X.K X.mg X.base (L2.CX X.prog X.w) k f (spF X.K (R2' (rp (rFrac X.K)) (rp (rNum X.K))) g rc)) (hr : Room k X.A) (tk : Takes X W) :
    OpJ X W (compareOp op) (rp (rFrac X.K)) (rp rInt) (fun x y => g (x, .i y, ())) rc := opj_cmpI (g := fun d => g (d.1, .i d.2.1, ())) hop hc hm hr.units0 hn insF ((cj_of F hr tk).co fun I H vs d _ h => h)
theorem opj_ciq {op : CmpOp} {sl id : String} {gi : Int → Int → Sem Fin} (hop : ∀ a b, compareOp op a b = richCompare op a b) (hc : OCls X.K (He.ga X.K "Fraction")) (hm : OMet X.K (He.ga X.K "Fraction") (cmpInfo op).2.2 f) (slot : Slot "int" (cmpInfo op).2.1 id) (entry : entryFor table id = some (Builtin.Int.intBinary sl gi)) (args : ∀ a b, argsOk id ⟨[a, b], []⟩)
    (F : FnR X.prog X.w X.K X.mg X.base (L2.CX X.prog X.w) k f (spF X.K (R2' (rp (rFrac X.K)) (rp (rNum X.K))) g rc)) (hr : Room k X.A) (tk : Takes X W) :
    OpJ X W (compareOp op) (rp rInt) (rp (rFrac X.K)) (fun x y => g (y, .i x, ())) rc := opj_cmpR (g := fun d => g (d.1, .i d.2.1, ())) hop hc hm hr.units0 slot entry args insF ((cj_of F hr tk).co fun I H vs d _ h => h)
variable {gb : Rat × Num × Unit → Res Bool}
theorem opj_neqq (hc : OCls X.K (He.ga X.K "Fraction")) (hm : OMet X.K (He.ga X.K "Fraction") "__eq__" f) (hn : PySem.W.notFirst X.K (He.ga X.K "Fraction") (.ref (He.ga X.K "Fraction")) = true) (F : FnR X.prog X.w X.K X.mg X.base (L2.CX X.prog X.w) k f (spF X.K (R2' (rp (rFrac X.K)) (rp (rNum X.K))) gb (rp rBl))) (hr : Room (k + 1) X.A) (tk : Takes X W) :
    OpJ X W (compareOp .NotEq) (rp (rFrac X.K)) (rp (rFrac X.K)) (fun x y => (gb (x, .q y, ())).bind fun z => .ok (!z)) (rp rBl) := opj_neO (g := fun d => gb (d.1, .q d.2.1, ())) hc hm hr tk hn insF insF (F.imp fun vs H Q E ⟨I, d, s, r, p⟩ => ⟨I, (d.1, .q d.2.1, ()), s, r, p⟩)
theorem opj_neqi (hc : OCls X.K (He.ga X.K "Fraction")) (hm : OMet X.K (He.ga X.K "Fraction") "__eq__" f) (hn : PySem.W.notFirst X.K (He.ga X.K "Fraction") (.type "int") = true) (F : FnR X.prog X.w X.K X.mg X.base (L2.CX X.prog X.w) k f (spF X.K (R2' (rp (rFrac X.K)) (rp (rNum X.K))) gb (rp rBl))) (hr : Room (k + 1) X.A) (tk : Takes X W) :
    OpJ X W (compareOp .NotEq) (rp (rFrac X.K)) (rp rInt) (fun x y => (gb (x, .i y, ())).bind fun z => .ok (!z)) (rp rBl) := opj_neI (g := fun d => gb (d.1, .i d.2.1, ())) hc hm hr tk hn insF (F.imp fun vs H Q E ⟨I, d, s, r, p⟩ => ⟨I, (d.1, .i d.2.1, ()), s, r, p⟩)
theorem opj_neiq (hc : OCls X.K (He.ga X.K "Fraction")) (hm : OMet X.K (He.ga X.K "Fraction") "__eq__" f) (F : FnR X.prog X.w X.K X.mg X.base (L2.CX X.prog X.w) k f (spF X.K (R2' (rp (rFrac X.K)) (rp (rNum X.K))) gb (rp rBl))) (hr : Room (k + 1) X.A) (tk : Takes X W) :
    OpJ X W (compareOp .NotEq) (rp rInt) (rp (rFrac X.K)) (fun x y => (gb (y, .i x, ())).bind fun z => .ok (!z)) (rp rBl) := opj_neRI (g := fun d => gb (d.1, .i d.2.1, ())) hc hm hr tk insF (F.imp fun vs H Q E ⟨I, d, s, r, p⟩ => ⟨I, (d.1, .i d.2.1, ()), s, r, p⟩)
/-! ### isinstance of a caught error without fields, within the suite -/
theorem JE.isE {ad : Addr} {oe : Obj} {pn : List (Addr × Obj)} {D : Addr} {u : Value} {cv : V} {bb : Bool} (hz : Zc (.ref D) none oe) (hf : ∃ vs, oe.data = .fields vs) (C : ExcC X.K D) (hk : PySem.W.kitOne X.K (.ref D) u = some bb) (j : JE (X.suite ad ((ad, oe) :: pn)) I0 H0 W ctx mem a (.ok ()) (rp (rExc ad))) (jc : ∀ σ H Q, Q cv H → wE (X.suite ad ((ad, oe) :: pn)) b σ H Q) (hc : ClsV cv u) (hm : X.mg "isinstance" = none) (hg : Gl (X.suite ad ((ad, oe) :: pn)) "isinstance" := by rfl)
    (hs : starEach [a, b] X.env = (false, eval a X.env) :: starEach [b] X.env := by rfl) (hs2 : starEach [b] X.env = (false, eval b X.env) :: starEach [] X.env := by rfl) (hpl : (backTo pos (starEach [b] X.env)).any (·.1) = false := by rfl) :
    JE (X.suite ad ((ad, oe) :: pn)) I0 H0 W ctx mem (.Call (.Name "isinstance" pos') [a, b] [] pos) (.ok bb) (rp rBl) := fun I H σ Q st p => by
  refine w_callB (id := "isinstance") (Tr.w_cons (j I H σ _ st ?_) hs) hm (by decide +kernel) hg (by decide) (by decide) hs hpl
  intro I1 H1 v f1 r1
  cases (show v = V.ref ad from r1)
  refine Tr.w_cons (jc σ H1 _ (w_nil ?_)) hs2
  exact CallR.w (call_isE C hz hf) ⟨cv, u, bb, rfl, fun w hw => hc.eq hw, hk, p I1 H1 _ f1 rfl⟩
end
/-! ### C(..) as a promise -/
def MkR {γ δ : Type} (P : Program) (w : World) (K : PySem.W.Frag) (mg : Str → Option Value) (base : Heap) (k : Nat) (C : Addr) (R : Hp → Hp → List V → δ → Prop) (m : δ → Res γ) (r : Ra γ) : Prop :=
  ∀ (X : Cx) (W : WX), X.prog = P → X.w = w → X.K = K → X.mg = mg → X.base = base → Room k X.A → Takes X W → CallJ X W (.ref C) R m r
theorem MkR.nice {γ δ : Type} {P : Program} {w : World} {K : PySem.W.Frag} {mg : Str → Option Value} {base : Heap} {k : Nat} {C : Addr} {R : Hp → Hp → List V → δ → Prop} {m m' : δ → Res γ} {r : Ra γ} (F : MkR P w K mg base k C R m r) (h : ∀ d, m' d = .stuck ∨ m' d = m d) : MkR P w K mg base k C R m' r := fun X W e1 e2 e3 e4 e5 hr tk I H σ Q vs d s a p => by
  refine F X W e1 e2 e3 e4 e5 hr tk I H σ Q vs d s a ?_
  rcases h d with e | e
  · rw [show m' d = _ from e] at p; exact p.elim
  · rw [← e]; exact p
theorem MkR.mono {γ δ : Type} {P : Program} {w : World} {K : PySem.W.Frag} {mg : Str → Option Value} {base : Heap} {j k : Nat} {C : Addr} {R : Hp → Hp → List V → δ → Prop} {m : δ → Res γ} {r : Ra γ} (F : MkR P w K mg base j C R m r) (h : j ≤ k) : MkR P w K mg base k C R m r := fun X W e1 e2 e3 e4 e5 hr tk => F X W e1 e2 e3 e4 e5 (hr.mono h) tk
theorem mkR_of {γ δ δ' : Type} {P : Program} {w : World} {K : PySem.W.Frag} {mg : Str → Option Value} {base : Heap} {k : Nat} {C f : Addr} {fd : FuncData} {ps : List Str} {ds : List Value} {dvs : List V} {R : Hp → Hp → List V → δ → Prop} {R' : Hp → Hp → List V → δ' → Prop} {m : δ → Res γ} {h : δ' → δ} {r : Ra γ} (M : Mk K C f) (F : FnOk P w K mg base (L2.CX P w) k f fd ps (spI K C R m r)) (hb : Binds K fd ps ds) (hd : Vals dvs ds)
    (hR : ∀ I H vs d, R' I H vs d → R I H (vs ++ dvs) (h d)) : MkR P w K mg base (k + 1) C R' (fun d => m (h d)) r := fun X W e1 e2 e3 e4 e5 hr tk => by
  subst e1; subst e2; subst e3; subst e4; subst e5
  exact cj_make (R' := R') (m := fun d => m (h d)) (R := fun I H vs d => R I H vs (h d)) M (F.imp fun vs H Q E ⟨x, dx, ws, H0, I, d, a1, a2, a3, a4, a5, a6, a7, a8⟩ => ⟨x, dx, ws, H0, I, h d, a1, a2, a3, a4, a5, a6, a7, a8⟩) hr hb hd tk hR
def fExm (x y : Str) (b : Bool) : FB := fun K => (He.Fa.exm x y b).ok K
theorem exm_of {K : PySem.W.Frag} {x y : Str} {b : Bool} (c : fExm x y b K = true) : PySem.W.exmOne K (.ref (He.ga K x)) (.ref (He.ga K y)) = some b := He.exm_ok c
def fExcC (x : Str) : FB := fun K => He.eqO (PySem.W.findIn K (.ref (He.ga K x)) "__getattribute__") (some (some (.builtin "BaseException.__getattribute__"))) && (He.eqO (PySem.W.findIn K (.ref (He.ga K x)) "__getattr__") (some none) && (decide (PySem.W.subIn K (.ref (He.ga K x)) (.type "BaseException") = some true) && (PySem.W.hasDictIn K (He.ga K x) &&
  (He.eqO (PySem.W.findIn K (.ref (He.ga K x)) "__class__") (some (some (.builtin "object.__class__"))) && (He.eqO (PySem.W.specialIn K (.builtin "object.__class__") "__get__") (some (some (.builtin "getset_descriptor.__get__"))) && (decide (PySem.W.takesIn K (.builtin "object.__class__") = some true) && decide (PySem.W.mroIn K (He.ga K x) (.type "object") = some true)))))))
theorem excC_of {K : PySem.W.Frag} {x : Str} (c : fExcC x K = true) : ExcC K (He.ga K x) := by
  obtain ⟨c1, c⟩ := He.ba c
  obtain ⟨c2, c⟩ := He.ba c
  obtain ⟨c3, c⟩ := He.ba c
  obtain ⟨c4, c⟩ := He.ba c
  obtain ⟨c5, c⟩ := He.ba c
  obtain ⟨c6, c⟩ := He.ba c
  obtain ⟨c7, c8⟩ := He.ba c
  exact ⟨He.eqO_ok c1, He.eqO_ok c2, of_decide_eq_true c3, c4, He.eqO_ok c5, He.eqO_ok c6, of_decide_eq_true c7, of_decide_eq_true c8⟩
section
variable {S γ : Type} {X : Cx} {I0 H0 : Hp} {W : WX} {Kx : KnowsX} {ctx : List (Option SF)} {mem : List MF} {pos : Pos}
theorem J1.raiseP {x m : Str} {j : Nat} {p1 p2 p3 : Pos} {G' : S → Knows} (hc : X.calm = true) (tk : Takes X W) (ep : ExcP X.K X.mg x) (hx : ∀ I H σ d, Stt I0 H0 ctx mem I H σ → Fr H0 d → Kx I H σ d) (hg : Gl X x := by rfl) (hdb : (x == ("__debug__" : Str)) = false := by decide) :
    J1 X W Kx (Stt I0 H0 ctx mem) (.Raise (some (.Call (.Name x p1) [.Constant (.str m) j p2] [] p3)) none pos) (.err ⟨x, []⟩ : Res S) G' := fun I H σ D g p => by
  refine s_raise hc tk (pmk_own PySem.F.excBase_ValueError ep.ex ep.gl ep.kp (raises_own ep.bs ep.ty) hg hdb) ?_
  exact p I H σ _ none (hx _ _ _ _ g fun _ z => nomatch z) ⟨rfl, rfl⟩
end
end L2.Tr

namespace L2.Tr
open PySem PySem.Spec PyProof.Rows
section
variable {α β γ δ ε : Type} {X : Cx} {I0 H0 : Hp} {W : WX} {ctx : List (Option SF)} {mem : List MF} {e a b c o : Expr} {es bs : List Expr} {kws : List Keyword} {pos pos' kpos : Pos} {n x : Str} {nm : Option Str} {ra : Ra α} {rb : Ra β} {rc : Ra γ} {ma : Res α} {mb : Res β}
/-! ### keywords -/
def JK (X : Cx) (I0 H0 : Hp) (W : WX) (ctx : List (Option SF)) (mem : List MF) (kws : List Keyword) (m : Res δ) (R : Hp → Hp → List V → δ → Prop) : Prop :=
  ∀ (pos : Pos) (I H : Hp) (σ : St) (Q : List V → Hp → Prop), Stt I0 H0 ctx mem I H σ → (match m with
    | .ok a => ∀ I' H' vs, Fm I H I' H' → R I' H' vs a → Q vs H'
    | .err e => ∀ I' H' cls d, Fm I H I' H' → Fr H d ∧ ExR X.K I' H' e cls d → W cls d σ H'
    | .stuck => False) → ∀ (pins : List (Addr × Obj)) (s : Shared), Inv X pins σ H s → wpAny (model X.prog X.w) X.A (evalAll ((backToKw pos (keywordEach kws X.env)).map (·.2))) (AP X pins σ Q) X.xe s
theorem JK.nil : JK X I0 H0 W ctx mem [] (.ok ()) aNil := fun pos I H σ Q st p pins s Iv => wpAny_evalAll_nil ⟨[], H, Iv, .nil, p I H [] (Fm.refl st.same) rfl⟩
theorem JK.cons {R : Hp → Hp → List V → δ → Prop} {m : Res δ} [MoA ra] (j : JE X I0 H0 W ctx mem e ma ra) (k : JK X I0 H0 W ctx mem kws m R) : JK X I0 H0 W ctx mem (⟨nm, e, kpos⟩ :: kws) (ma.bind fun x => m.bind fun y => .ok (x, y)) (aCons ra R) := fun pos I H σ Q st p pins s Iv => by
  show wpAny _ _ (evalAll ((do let v ← eval e X.env; standAt pos; pure v) :: (backToKw pos (keywordEach kws X.env)).map (·.2))) _ _ s
  refine wpAny_evalAll_cons (wpAny_bind (thn (j I H σ (fun v H1 => ∀ pins s1 u, Inv X pins σ H1 s1 → RelV v u → wpAny (model X.prog X.w) X.A (evalAll ((backToKw pos (keywordEach kws X.env)).map (·.2))) (fun us s2 => AP X pins σ Q (u :: us) s2) X.xe s1) st ?_ pins s Iv) fun u s1 ⟨v, H1, I1, r1, q1⟩ => wpAny_bind (wpAny_standAt (wpAny_pure (q1 pins s1 u I1 r1)))))
  cases ma with
  | ok x =>
    intro I1 H1 v f1 r1 pins s1 u Iv1 ru
    refine thn (k pos I1 H1 σ (fun vs H2 => Q (v :: vs) H2) (st.step f1) ?_ pins s1 Iv1) fun us s2 ⟨vs, H2, I2, r2, q2⟩ => ⟨v :: vs, H2, I2, .cons ru r2, q2⟩
    cases m with
    | ok y => exact fun I2 H2 vs f2 r2 => p I2 H2 _ (f1.trans f2) ⟨v, vs, rfl, MoA.up f2.i f2.h r1, r2⟩
    | err e => exact fun I2 H2 c d f2 x => p I2 H2 c d (f1.trans f2) ⟨x.1.back f1.h, x.2⟩
    | stuck => exact p
  | err e => exact p
  | stuck => exact p
def callKW (X : Cx) (f : Value) (ks : List Str) (σ : St) (xs zs : List V) (H : Hp) (Q : VK) : Prop := ∀ (pins : List (Addr × Obj)) (s : Shared) (us ws : List Value), Inv X pins σ H s → Vals xs us → Vals zs ws → wpAny (model X.prog X.w) X.A (call f us (ks.zip ws)) (EP X pins σ Q) X.xe s
def CallKJ (X : Cx) (W : WX) (f : Value) (ks : List Str) (R : Hp → Hp → List V → δ → Prop) (R' : Hp → Hp → List V → ε → Prop) (g : δ → ε → Res γ) (rc : Ra γ) : Prop :=
  ∀ (I H : Hp) (σ : St) (Q : VK) (vs zs : List V) (x : δ) (y : ε), Same I H → R I H vs x → R' I H zs y → PostE X.K (g x y) rc I H (fun cls d H' => W cls d σ H') Q → callKW X f ks σ vs zs H Q
class MoR {δ : Type} (R : Hp → Hp → List V → δ → Prop) : Prop where
  up : ∀ {I H I' H' : Hp} {vs : List V} {x : δ}, Same I I' → Same H H' → R I H vs x → R I' H' vs x
instance : MoR aNil := ⟨fun _ _ h => h⟩
instance {r : Ra α} {R : Hp → Hp → List V → δ → Prop} [m : MoA r] [m' : MoR R] : MoR (aCons r R) := ⟨fun a b ⟨v, ws, e, h, h'⟩ => ⟨v, ws, e, m.up a b h, m'.up a b h'⟩⟩
variable {R : Hp → Hp → List V → δ → Prop} {R' : Hp → Hp → List V → ε → Prop} {md : Res δ} {me : Res ε} {g : δ → ε → Res γ} {ks : List Str}
theorem JE.callK {f : Addr} [MoR R] (ja : JA X I0 H0 W ctx mem (e :: es) md R) (jk : JK X I0 H0 W ctx mem kws me R') (cj : CallKJ X W (.ref f) ks R R' g rc) (hm : X.mg n = some (.ref f)) (hk : PySem.W.keepIn X.K (.ref f) = true) (hg : Gl X n := by rfl) (hdb : (n == ("__debug__" : Str)) = false := by decide)
    (hall : (backToKw pos (keywordEach kws X.env)).all (·.1.isSome) = true := by rfl) (hks : (backToKw pos (keywordEach kws X.env)).filterMap (·.1) = ks := by rfl) (he : starEach (e :: es) X.env = (false, eval e X.env) :: starEach es X.env := by rfl)
    (hpl : ((backTo pos (starEach (e :: es) X.env)).any (·.1) || (backToKw pos (keywordEach kws X.env)).any (·.1.isNone)) = false := by rfl) : JE X I0 H0 W ctx mem (.Call (.Name n pos') (e :: es) kws pos) (md.bind fun x => me.bind fun y => g x y) rc := fun I H σ Q st p pins s Iv => by
  refine wpAny_Call_Name_kw (ld_glob Iv hg hm ?_ hdb)
  refine PySem.W.callWith_KW (h₀ := X.base) Iv.ok.mod.kin hk hall (thn (ja I H σ (fun vs H1 => ∀ pins s1 us, Inv X pins σ H1 s1 → Vals vs us → wpAny (model X.prog X.w) X.A (evalAll ((backToKw pos (keywordEach kws X.env)).map (·.2))) (fun ws s2 => X.K.In s2.heap ∧ wpAny (model X.prog X.w) X.A (PySem.call (.ref f) us (ks.zip ws)) (EP X pins σ Q) X.xe s2) X.xe s1) st ?_ pos pins s Iv) fun us s1 ⟨vs, H1, I1, r1, q1⟩ => ?_) hpl he
  · cases md with
    | ok x =>
      intro I1 H1 vs f1 r1 pins s1 us Iv1 ru
      have p1 := PostE.up p f1
      refine thn (jk pos I1 H1 σ (fun zs H2 => callKW X (.ref f) ks σ vs zs H2 Q) (st.step f1) ?_ pins s1 Iv1) fun ws s2 ⟨zs, H2, I2, r2, q2⟩ => ⟨I2.kIn, q2 pins s2 us ws I2 ru r2⟩
      cases me with
      | ok y => exact fun I2 H2 zs f2 r2 => cj I2 H2 σ Q vs zs x y f2.ih (MoR.up f2.i f2.h r1) r2 (PostE.up p1 f2)
      | err e => exact p1
      | stuck => exact p1
    | err e => exact p
    | stuck => exact p
  · refine thn (q1 pins s1 us I1 r1) fun ws s2 h => ?_
    rw [hks]
    exact h
theorem JE.callK0 {f : Addr} {g : Unit → ε → Res γ} (jk : JK X I0 H0 W ctx mem kws me R') (cj : CallKJ X W (.ref f) ks aNil R' g rc) (hm : X.mg n = some (.ref f)) (hk : PySem.W.keepIn X.K (.ref f) = true) (hg : Gl X n := by rfl) (hdb : (n == ("__debug__" : Str)) = false := by decide)
    (hall : (backToKw pos (keywordEach kws X.env)).all (·.1.isSome) = true := by rfl) (hks : (backToKw pos (keywordEach kws X.env)).filterMap (·.1) = ks := by rfl)
    (hpl : ((backTo pos (starEach [] X.env)).any (·.1) || (backToKw pos (keywordEach kws X.env)).any (·.1.isNone)) = false := by rfl) : JE X I0 H0 W ctx mem (.Call (.Name n pos') [] kws pos) (me.bind fun y => g () y) rc := fun I H σ Q st p pins s Iv => by
  refine wpAny_Call_Name_kw (ld_glob Iv hg hm ?_ hdb)
  refine PySem.W.callWith_KW0 (h₀ := X.base) Iv.ok.mod.kin hk hall ?_ hpl
  rw [hks]
  refine thn (jk pos I H σ (fun zs H2 => callKW X (.ref f) ks σ [] zs H2 Q) st ?_ pins s Iv) fun ws s2 ⟨zs, H2, I2, r2, q2⟩ => ⟨I2.kIn, q2 pins s2 [] ws I2 .nil r2⟩
  cases me with
  | ok y => exact fun I2 H2 zs f2 r2 => cj I2 H2 σ Q [] zs () y f2.ih rfl r2 (PostE.up p f2)
  | err e => exact p
  | stuck => exact p
/-- C(.., k = v): how it binds gives the promise of __init__ -/
theorem cjk_make {k n : Nat} {C f : Addr} {fd : FuncData} {ps : List Str} {gg : List Value → List Value → List Value} {gV : List V → List V → List V} {η : Type} {Ri : Hp → Hp → List V → η → Prop} {m : η → Res γ} {h : δ → ε → η} (M : Mk X.K C f) (F : FnOk X.prog X.w X.K X.mg X.base (L2.CX X.prog X.w) k f fd ps (spI X.K C Ri m rc)) (hr : Room (k + 1) X.A)
    (hb : KBn X.K fd ps (n + 1) ks gg gV) (tk : Takes X W) (hR : ∀ I H vs zs x y, R I H vs x → R' I H zs y → vs.length = n ∧ zs.length = ks.length ∧ ∀ v, ∃ ws, gV (v :: vs) zs = v :: ws ∧ Ri I H ws (h x y)) : CallKJ X W (.ref C) ks R R' (fun x y => m (h x y)) rc := fun I H σ Q vs zs x y sm r r' p pins s us ws Iv rv rz => by
  obtain ⟨l1, l2, hw⟩ := hR I H vs zs x y r r'
  have n1 := Iv.hok.fresh (Nat.le_succ s.heap.objs.size)
  have n2 := Iv.hok.fresh (Nat.le_refl s.heap.objs.size)
  have n3 := Nat.ne_of_lt (Nat.lt_succ_self s.heap.objs.size)
  obtain ⟨wv, ew, hRi⟩ := hw (.ref (s.heap.objs.size + 1))
  have hq : spI X.K C Ri m rc (gV (.ref (s.heap.objs.size + 1) :: vs) zs) (upd (upd H s.heap.objs.size (.own (s.heap.objs.size + 1))) (s.heap.objs.size + 1) (.ins C s.heap.objs.size [])) (fun v H2 => v = .non ∧ Q (.ref (s.heap.objs.size + 1)) H2) (fun cls d H' => W cls d σ H') :=
    ⟨s.heap.objs.size + 1, s.heap.objs.size, wv, H, I, h x y, ew, n1, n2, n3, rfl, sm, hRi, p.imp fun v H' q e => ⟨rfl, e ▸ q⟩⟩
  have I2 := Inv.made (C := C) Iv
  have r1 : Vals (V.ref (s.heap.objs.size + 1) :: vs) (Value.ref (s.heap.objs.size + 1) :: us) := .cons rfl rv
  have r2 := hb.rel r1 rz
  have nl : (Value.ref (s.heap.objs.size + 1) :: us).length = n + 1 := by rw [List.length_cons, ← rv.length, l1]
  refine wpAny_call (make_map (f := f) Iv.kIn M.makes M.init (beq_iff_eq.mp M.fn) (codeAny_mono (F.run _ X.stack _ _ ⟨Value.ref (s.heap.objs.size + 1) :: us, ks.zip ws⟩ (gg (Value.ref (s.heap.objs.size + 1) :: us) ws) _ _ _ (hr.make C us (ks.zip ws))
    (I2.env0.make C us (ks.zip ws)) (hb.to _ (Value.ref (s.heap.objs.size + 1) :: us) ws I2.kIn nl (rz.length.symm.trans l2)) r2 hq) fun r s' hq' => ?_))
  cases r with
  | error e => exact passAt tk σ pins _ _ e s' I2 hq'
  | ok fl =>
    cases fl with
    | ret u =>
      obtain ⟨v, H', I3, rv, ev, q3⟩ := I2.after hq'
      subst ev
      exact ⟨rv, ⟨V.ref (s.heap.objs.size + 1), H', I3, rfl, q3⟩⟩
    | next => exact False.elim hq'
    | brk => exact False.elim hq'
    | cont => exact False.elim hq'
theorem cx_false {P : Program} {w : World} {l : List Env} {H : Hp} {s : Shared} {e : Value} {s' : Shared} (h : L2.CX P w l H s (fun _ _ _ => False) e s') : False := by
  obtain ⟨_, _, _, _, _, _, _, _, _, _, _, _, z⟩ := h
  exact z.elim
end
def MkK {γ δ ε : Type} (P : Program) (w : World) (K : PySem.W.Frag) (mg : Str → Option Value) (base : Heap) (k : Nat) (C : Addr) (ks : List Str) (R : Hp → Hp → List V → δ → Prop) (R' : Hp → Hp → List V → ε → Prop) (m : δ → ε → Res γ) (r : Ra γ) : Prop :=
  ∀ (X : Cx) (W : WX), X.prog = P → X.w = w → X.K = K → X.mg = mg → X.base = base → Room k X.A → Takes X W → CallKJ X W (.ref C) ks R R' m r
theorem MkK.nice {γ δ ε : Type} {P : Program} {w : World} {K : PySem.W.Frag} {mg : Str → Option Value} {base : Heap} {k : Nat} {C : Addr} {ks : List Str} {R : Hp → Hp → List V → δ → Prop} {R' : Hp → Hp → List V → ε → Prop} {m m' : δ → ε → Res γ} {r : Ra γ} (F : MkK P w K mg base k C ks R R' m r) (h : ∀ d e, m' d e = .stuck ∨ m' d e = m d e) : MkK P w K mg base k C ks R R' m' r := fun X W e1 e2 e3 e4 e5 hr tk I H σ Q vs zs d ee s a b p => by
  refine F X W e1 e2 e3 e4 e5 hr tk I H σ Q vs zs d ee s a b ?_
  rcases h d ee with e | e
  · rw [show m' d ee = _ from e] at p; exact p.elim
  · rw [← e]; exact p
end L2.Tr

namespace L2.Tr
open PySem PySem.Spec PyProof.Rows
/-! ### the greatest common divisor -/
abbrev absI (x : Int) : Int := if x < 0 then -x else x
theorem absI_eq (x : Int) : absI x = (x.natAbs : Int) := by unfold absI; split <;> omega
theorem modI_ok {x y : Int} (h : y ≠ 0) : modI x y = .ok (x.fmod y) := Res.guard_pos h _
theorem cd_loop {c : Int × Int → Res Bool} {f : Int × Int → Res (Int × Int)} (hc : ∀ s, c s = .ok (!decide (s.2 = 0))) (hf : ∀ s, s.2 ≠ 0 → f s = .ok (s.2, s.1.fmod s.2)) : ∀ (k : Nat) (a b : Nat), b < k → whileM c f k ((a : Int), (b : Int)) = .ok ((Nat.gcd b a : Int), 0)
  | 0, _, _, h => by omega
  | k + 1, a, b, h => by
    show (c _).bind _ = _
    rw [hc]
    by_cases hb : b = 0
    · subst hb
      simp
    · have hb' : ¬ ((b : Int) = 0) := by omega
      simp only [Res.ok_bind, decide_eq_false hb', Bool.not_false, if_true]
      rw [hf _ hb', Int.fmod_eq_emod_of_nonneg _ (by omega)]
      show whileM c f k (((b : Nat) : Int), (((a % b : Nat)) : Int)) = _
      rw [cd_loop hc hf k b (a % b) (by have := Nat.mod_lt a (Nat.pos_of_ne_zero hb); omega)]
      rw [Nat.gcd_rec b a]
/-! ### Fraction(t, b) -/
def eBF : Exn := ⟨"BadFraction", []⟩
def qRaw (t b : Int) : Res Rat := if b = 0 then .err eBF else Res.guard ((Int.gcd t b).log2 < 9000) (.ok (Rat.divInt t b))
def qMk (t b : Int) : Res Rat := if b = 0 then .err eBF else Res.guard (b.natAbs.log2 < 9000) (.ok (Rat.divInt t b))
theorem log2_mono {a b : Nat} (h : a ≤ b) : a.log2 ≤ b.log2 := by
  by_cases ha : a = 0
  · subst ha; simp
  · have hb : b ≠ 0 := by omega
    exact (Nat.le_log2 hb).mpr (Nat.le_trans (Nat.log2_self_le ha) h)
theorem qMk_raw (t b : Int) : qMk t b = .stuck ∨ qMk t b = qRaw t b := by
  unfold qMk qRaw
  by_cases hb : b = 0
  · simp [hb]
  · rw [if_neg hb, if_neg hb]
    by_cases h : b.natAbs.log2 < 9000
    · right
      have : (Int.gcd t b).log2 ≤ b.natAbs.log2 := log2_mono (Int.gcd_le_natAbs_right t hb)
      rw [Res.guard_pos h, Res.guard_pos (by omega)]
    · left; unfold Res.guard; rw [if_neg h]
theorem div_num {t b : Int} (hb : b ≠ 0) (dv : Int) (hd : dv = if b < 0 then -(Int.gcd t b : Int) else (Int.gcd t b : Int)) : t.fdiv dv = (Rat.divInt t b).num ∧ b.fdiv dv = ((Rat.divInt t b).den : Int) := by
  have hg : (Int.gcd t b : Int) ≠ 0 := by
    intro h
    have := Int.gcd_eq_zero_iff.mp (by exact_mod_cast h : Int.gcd t b = 0)
    exact hb this.2
  obtain ⟨x, hx⟩ : (Int.gcd t b : Int) ∣ t := Int.gcd_dvd_left t b
  obtain ⟨y, hy⟩ : (Int.gcd t b : Int) ∣ b := Int.gcd_dvd_right t b
  have hgp : (0 : Int) < (Int.gcd t b : Int) := by omega
  rw [Rat.num_divInt, Rat.den_divInt, if_neg hb, Int.gcd_comm b t]
  generalize hG : (Int.gcd t b) = G at *
  have e1 : ∀ z : Int, ((G : Int) * z).fdiv G = z := fun z => by rw [Int.mul_comm]; exact Int.mul_fdiv_cancel z hg
  have e2 : ∀ z : Int, ((G : Int) * z).fdiv (-G) = -z := fun z => by
    have : (G : Int) * z = (-z) * (-(G : Int)) := by rw [Int.neg_mul_neg, Int.mul_comm]
    rw [this]; exact Int.mul_fdiv_cancel _ (by omega)
  have e3 : ∀ z : Int, ((G : Int) * z) / G = z := fun z => Int.mul_ediv_cancel_left z hg
  by_cases h : b < 0
  · rw [if_pos h] at hd
    subst hd
    have sg : b.sign = -1 := Int.sign_eq_neg_one_of_neg h
    refine ⟨?_, ?_⟩
    · rw [sg, hx, e2, show (-1 : Int) * ((G : Int) * x) = (G : Int) * (-x) from by rw [Int.mul_neg, Int.neg_mul, Int.one_mul], e3]
    · have e4 : ((b.natAbs / G : Nat) : Int) = -y := by
        rw [Int.natCast_ediv, show (b.natAbs : Int) = (G : Int) * (-y) from by rw [Int.mul_neg, ← hy]; omega, e3]
      rw [e4]
      conv => lhs; rw [hy]
      exact e2 y
  · rw [if_neg h] at hd
    subst hd
    have sg : b.sign = 1 := Int.sign_eq_one_of_pos (by omega)
    refine ⟨?_, ?_⟩
    · rw [sg, Int.one_mul]
      conv => lhs; rw [hx]
      conv => rhs; rw [hx]
      rw [e1, e3]
    · have e4 : ((b.natAbs / G : Nat) : Int) = y := by
        rw [Int.natCast_ediv, show (b.natAbs : Int) = (G : Int) * y from by rw [← hy]; omega, e3]
      rw [e4]
      conv => lhs; rw [hy]
      exact e1 y
theorem frF_of {I : Hp} {fs : List (Str × V)} {q : Rat} {n d : Int} (hn : n = q.num) (hd : d = q.den) (h : FldR I fs [("top", ⟨rInt, n⟩), ("bottom", ⟨rInt, d⟩)]) : fs = frF q := by
  subst hn; subst hd
  match fs, h with
  | [(a, u), (b, v)], ⟨e1, e2, e3, e4, _⟩ =>
    cases (show a = _ from e1); cases (show u = _ from e2); cases (show b = _ from e3); cases (show v = _ from e4)
    rfl
/-! ### the defs of exact.py -/
def n_cd (a b : Int) : Res Int := .ok (Int.gcd a b : Int)
def qInt (n : Int) : Res Rat := .ok (n : Rat)
theorem qInt_raw (n : Int) : qInt n = .stuck ∨ qInt n = qRaw n 1 := by
  right
  unfold qInt qRaw
  rw [if_neg (by decide), Res.guard_pos (by rw [Int.gcd_one]; decide)]
  congr 1
  exact Rat.ext (by rw [Rat.num_divInt]; simp) (by rw [Rat.den_divInt]; simp)
theorem vals_rev : ∀ {vs : List V} {us : List Value}, Vals vs us → Vals vs.reverse us.reverse
  | _, _, .nil => .nil
  | _, _, .cons a b => by
    rw [List.reverse_cons, List.reverse_cons]
    exact (vals_rev b).append (.cons a .nil)
theorem weak_refl : ∀ c : List (Option SF), weakC c c
  | [] => True.intro
  | none :: c => weak_refl c
  | some _ :: c => ⟨rfl, weak_refl c⟩
theorem weak_nil : weakC [] [] := True.intro
theorem weak_some {a : SF} {c d : List (Option SF)} (h : weakC c d) : weakC (some a :: c) (some a :: d) := ⟨rfl, h⟩
theorem weak_none {a : Option SF} {c d : List (Option SF)} (h : weakC c d) : weakC (a :: c) (none :: d) := h
theorem Stt.recast {I0 H0 I H : Hp} {ctx : List (Option SF)} {mem : List MF} {σ : L2.St} (s : Stt I0 H0 ctx mem I H σ) (i : Nat) {a b : SF} (hc : ctx[i]? = some (some a)) (h : ∀ v, a.r I v a.x → b.r I v b.x) : Stt I0 H0 (ctx.set i (some b)) mem I H σ := by
  refine ⟨s.fm, by rw [List.length_set]; exact s.len, fun j sf e => ?_, s.me, s.nd⟩
  by_cases hj : j = i
  · subst hj
    rw [List.getElem?_set] at e
    have hl : j < ctx.length := (List.getElem?_eq_some_iff.mp hc).1
    simp only [hl, if_true] at e
    cases e
    obtain ⟨v, e1, q⟩ := s.sl j a hc
    exact ⟨v, e1, h v q⟩
  · rw [List.getElem?_set_ne (Ne.symm hj)] at e
    exact s.sl j sf e
theorem JR.num {γ : Type} {X : Cx} {I0 H0 : Hp} {W : WX} {Kx : KnowsX} {ctx : List (Option SF)} {mem : List MF} {ss : List Stmt} {rr : Ra γ} {K : PySem.W.Frag} (i : Nat) {x : Num} {f1 : Int → Res γ} {f2 : Rat → Res γ} (k1 : ∀ n, JR X I0 H0 W Kx (Stt I0 H0 (ctx.set i (some ⟨rInt, n⟩)) mem) ss (f1 n) rr) (k2 : ∀ r, JR X I0 H0 W Kx (Stt I0 H0 (ctx.set i (some ⟨rFrac K, r⟩)) mem) ss (f2 r) rr)
    (hc : ctx[i]? = some (some ⟨rNum K, x⟩) := by rfl) : JR X I0 H0 W Kx (Stt I0 H0 ctx mem) ss (match x with | .i n => f1 n | .q r => f2 r) rr := fun I H σ D g p => by
  cases x with
  | i n => exact k1 n I H σ D (g.recast i (b := ⟨rInt, n⟩) hc fun v h => h) p
  | q r => exact k2 r I H σ D (g.recast i (b := ⟨rFrac K, r⟩) hc fun v h => h) p
theorem JR.dead {γ : Type} {X : Cx} {I0 H0 : Hp} {W : WX} {Kx : KnowsX} {G : Knows} {ss : List Stmt} {rr : Ra γ} : JR X I0 H0 W Kx G ss (.stuck : Res γ) rr := fun _ _ _ _ _ p => p.elim
theorem JN.dead {S : Type} {X : Cx} {W : WX} {Kx : KnowsX} {G : Knows} {ss : List Stmt} {G' : S → Knows} : JN X W Kx G ss (.stuck : Res S) G' := fun _ _ _ _ _ p => p.elim
theorem paired_ints (I H : Hp) : ∀ ns : List Int, Paired (rp rInt I H) (ns.map V.int) ns
  | [] => .nil
  | _ :: ns => .cons rfl (paired_ints I H ns)
/-! ### a law's cell -/
def cellAt (ns : List Int) (k : Nat) : Int := ns.getD k 0
theorem atM_nat {α : Type} {xs : List α} {k : Nat} {x : α} (h : xs[k]? = some x) : atM xs (k : Int) = .ok x := by unfold atM; rw [atI_nat h]
theorem powI_ok {x : Int} {y : Nat} (h1 : y ≤ 1000000) (h2 : x.natAbs < 2 ^ 64) : powI x (y : Int) = .ok (x ^ y) := by
  unfold powI; rw [Res.guard_pos ⟨by omega, by omega, h2⟩]; rfl
theorem mulI_ok {x y : Int} (h : x.natAbs.log2 + y.natAbs.log2 < 1000000) : mulI x y = .ok (x * y) := Res.guard_pos h _
theorem fdivI_ok {x y : Int} (h0 : y ≠ 0) (h : y.natAbs.log2 < 9000) : fdivI x y = .ok (x.fdiv y) := Res.guard_pos ⟨h0, h⟩ _
theorem log2_lt {x n : Nat} (h : x < 2 ^ (n + 1)) : x.log2 < n + 1 := by
  by_cases hx : x = 0
  · subst hx; simp
  · exact (Nat.log2_lt hx).mpr h
theorem FnOk.no {P : Program} {w : World} {K : PySem.W.Frag} {mg : Str → Option Value} {base : Heap} {k : Nat} {f : Addr} {fd : FuncData} {ps : List Str} {sp : Sp} (F : FnOk P w K mg base (L2.CX P w) k f fd ps sp) : FnOk P w K mg base CX0 k f fd ps (fun vs H Q _ => sp vs H Q fun _ _ _ => False) :=
  ⟨fun vs H Q _ h => F.len vs H Q _ h, fun A outer s H args us vs Q E hr e0 hb hv h => codeAny_mono (F.run A outer s H args us vs Q _ hr e0 hb hv h) fun r s' hq => by
    cases r with
    | error e => exact cx_false hq
    | ok fl => cases fl <;> exact hq⟩
end L2.Tr

namespace L2.Tr
open PySem PySem.Spec PyProof.Rows
def top (i : Nat) : Stmt := PySem.Challenge.pw_tracerline_k01_lowest_terms.main.body.getD i (.Pass ⟨0, 0, 0, 0⟩)
abbrev s_law_cell : Stmt := top 8
abbrev s_law_size : Stmt := top 9
abbrev s_common_divisor : Stmt := top 5
abbrev s_Fraction_init : Stmt := inClass (top 6) 0
abbrev s_law_integer : Stmt := top 11
abbrev s_law_divisor : Stmt := top 10
abbrev s_Fraction_eq : Stmt := inClass (top 6) 10
abbrev s_law_refused : Stmt := top 12
abbrev s_law : Stmt := top 13
structure Txt (K : PySem.W.Frag) (mg : Str → Option Value) : Prop where
  g_law_cell : mg "_law_cell" = some (.ref (He.ga K "_law_cell"))
  k_law_cell : PySem.W.keepIn K (.ref (He.ga K "_law_cell")) = true
  n_int : mg "int" = none
  g_law_size : mg "_law_size" = some (.ref (He.ga K "_law_size"))
  k_law_size : PySem.W.keepIn K (.ref (He.ga K "_law_size")) = true
  g_Fraction : mg "Fraction" = some (.ref (He.ga K "Fraction"))
  mk_Fraction : Mk K (He.ga K "Fraction") (He.ma K (He.ga K "Fraction") "__init__")
  o_Fraction : OCls K (He.ga K "Fraction")
  na_Fraction_top : NoAttr K (He.ga K "Fraction") "top"
  g_law_integer : mg "_law_integer" = some (.ref (He.ga K "_law_integer"))
  k_law_integer : PySem.W.keepIn K (.ref (He.ga K "_law_integer")) = true
  na_Fraction_bottom : NoAttr K (He.ga K "Fraction") "bottom"
  g_law_divisor : mg "_law_divisor" = some (.ref (He.ga K "_law_divisor"))
  k_law_divisor : PySem.W.keepIn K (.ref (He.ga K "_law_divisor")) = true
  om_Fraction_eq : OMet K (He.ga K "Fraction") "__eq__" (He.ma K (He.ga K "Fraction") "__eq__")
  nf_Fraction : PySem.W.notFirst K (He.ga K "Fraction") (.ref (He.ga K "Fraction")) = true ∧ PySem.W.notFirst K (He.ga K "Fraction") (.type "int") = true
  g_law_refused : mg "_law_refused" = some (.ref (He.ga K "_law_refused"))
  k_law_refused : PySem.W.keepIn K (.ref (He.ga K "_law_refused")) = true
  n_len : mg "len" = none
  F_law_cell : ∃ fd, FunD K "_law_cell" "_law_cell" (defArgs s_law_cell) (defBody s_law_cell) (defScope s_law_cell) [] [] (He.ga K "_law_cell") fd
  F_law_size : ∃ fd, FunD K "_law_size" "_law_size" (defArgs s_law_size) (defBody s_law_size) (defScope s_law_size) [] [] (He.ga K "_law_size") fd
  n_abs : mg "abs" = none
  F_common_divisor : ∃ fd, FunD K "common_divisor" "common_divisor" (defArgs s_common_divisor) (defBody s_common_divisor) (defScope s_common_divisor) [] [] (He.ga K "common_divisor") fd
  n_isinstance : mg "isinstance" = none
  n_bool : mg "bool" = none
  F_law_integer : ∃ fd, FunD K "_law_integer" "_law_integer" (defArgs s_law_integer) (defBody s_law_integer) (defScope s_law_integer) [] [] (He.ga K "_law_integer") fd
  F_law_divisor : ∃ fd, FunD K "_law_divisor" "_law_divisor" (defArgs s_law_divisor) (defBody s_law_divisor) (defScope s_law_divisor) [] [] (He.ga K "_law_divisor") fd
  kT_Fraction_int : PySem.W.kitOne K (.ref (He.ga K "Fraction")) (.type "int") = some false
  kt_Fraction_Fraction : PySem.W.kitOne K (.ref (He.ga K "Fraction")) (.ref (He.ga K "Fraction")) = some true
  F_Fraction_eq : ∃ fd, FunD K "__eq__" "Fraction.__eq__" (defArgs s_Fraction_eq) (defBody s_Fraction_eq) (defScope s_Fraction_eq) [] [] (He.ma K (He.ga K "Fraction") "__eq__") fd
  g_TracerError : mg "TracerError" = some (.ref (He.ga K "TracerError"))
  kt_BadFraction_TracerError : PySem.W.kitOne K (.ref (He.ga K "BadFraction")) (.ref (He.ga K "TracerError")) = some true
  xc_BadFraction : ExcC K (He.ga K "BadFraction")
  n_ValueError : mg "ValueError" = none
  kT_BadFraction_ValueError : PySem.W.kitOne K (.ref (He.ga K "BadFraction")) (.type "ValueError") = some true
  xm_BadFraction_BadFraction : PySem.W.exmOne K (.ref (He.ga K "BadFraction")) (.ref (He.ga K "BadFraction")) = some true
  g_BadFraction : mg "BadFraction" = some (.ref (He.ga K "BadFraction"))
  F_law_refused : ∃ fd, FunD K "_law_refused" "_law_refused" (defArgs s_law_refused) (defBody s_law_refused) (defScope s_law_refused) [] [] (He.ga K "_law_refused") fd
  F_law : ∃ fd, FunD K "law" "law" (defArgs s_law) (defBody s_law) (defScope s_law) [] [] (He.ga K "law") fd
  g_law : mg "law" = some (.ref (He.ga K "law"))
  F_Fraction_init : ∃ fd, FunD K "__init__" "Fraction.__init__" (defArgs s_Fraction_init) (defBody s_Fraction_init) (defScope s_Fraction_init) [.int 1] [] (He.ma K (He.ga K "Fraction") "__init__") fd
  ex_BadFraction : ExcP K mg "BadFraction"
  g_common_divisor : mg "common_divisor" = some (.ref (He.ga K "common_divisor"))
  k_common_divisor : PySem.W.keepIn K (.ref (He.ga K "common_divisor")) = true
theorem sc_law_cell : FnScope ["_law_script", "_law_k"] ["_law_script", "_law_k"] (defScope s_law_cell) := ⟨rfl, rfl, rfl, by decide +kernel, rfl, by decide +kernel, by decide +kernel⟩
def m_law_cell (p_law_script : (List Int)) (p_law_k : Int) : Res Int :=
  (((Res.ok p_law_k).bind fun a189 => (((Res.ok p_law_script).bind fun a187 => (Res.ok ()).bind fun b188 => .ok (a187, b188)).bind (fun d => .ok (d.1.length : Int))).bind fun b190 => .ok (decide (a189 < b190))).bind fun x191 => if x191 = true then ((Res.ok p_law_script).bind fun a192 => (Res.ok p_law_k).bind fun b193 => atM a192 b193) else (Res.ok (0 : Int)))
abbrev C_law_cell (P : Program) (w : World) (K : PySem.W.Frag) (mg : Str → Option Value) (base : Heap) : Prop := FnR P w K mg base (L2.CX P w) 1 (He.ga K "_law_cell") (spF K (aCons (rdL K (rp rInt)) (aCons (rp rInt) aNil)) (fun d => m_law_cell d.1 d.2.1) (rp rInt))
theorem fn_law_cell {P : Program} {w : World} {K : PySem.W.Frag} {mg : Str → Option Value} {base : Heap} (T : Txt K mg) : FnR P w K mg base (L2.CX P w) 1 (He.ga K "_law_cell") (spF K (aCons (rdL K (rp rInt)) (aCons (rp rInt) aNil)) (fun d => m_law_cell d.1 d.2.1) (rp rInt)) := by
  obtain ⟨fd, F⟩ := T.F_law_cell
  refine FnOk.fr0 (FunD.fn (k := 0) (N := ["_law_script", "_law_k"]) (ps := ["_law_script", "_law_k"]) F sc_law_cell (fun I H vs d h => ?_) (fun cdv A outer s I0 H0 E vs d hr sm h => ?_)) (F.bindsN fun _ _ _ _ _ _ us hl => match us, hl with | [_, _], _ => rfl)
  · obtain ⟨v0, _, rfl, h0, v1, _, rfl, h1, rfl⟩ := h; rfl
  obtain ⟨v0, _, rfl, h0, v1, _, rfl, h1, rfl⟩ := h
  have hx : ∀ {ctx : List (Option SF)} {mem : List MF} (I H : Hp) (σ : St) (d : Option Addr), Stt I0 H0 ctx mem I H σ → Fr H0 d → bK I0 H0 I H σ d := fun _ _ _ _ s f => ⟨s.fm, f⟩
  have tk : Takes (bx P w K mg base ["_law_script", "_law_k"] "_law_cell" (defScope s_law_cell) (He.ga K "_law_cell") cdv A outer s H0 E) (bW E) := takes_of rfl rfl rfl rfl
  obtain ⟨p_law_script, p_law_k, _⟩ := d
  exact ⟨Stt I0 H0 [some (SF.mk (fun I v x => (rdL K (rp rInt)) I H0 v x) p_law_script), some (SF.mk rInt p_law_k)] [], Stt.start sm ⟨h0, h1, ini_nil rfl⟩ rfl (by simp), (JR.ifR (JT.cmp (JE.var 1) (JE.callB (JA.cons (JE.varP 0 (r := (rdL K (rp rInt)))) JA.nil) cj_len T.n_len boot_len) opj_lt) (JR.ret (JE.ix (JE.varP 0 (r := (rdL K (rp rInt)))) (JE.var 1)) hx) (JR.ret JE.int hx) hx)⟩
theorem sc_law_size : FnScope ["_law_cell_here", "_law_choice"] ["_law_cell_here", "_law_choice"] (defScope s_law_size) := ⟨rfl, rfl, rfl, by decide +kernel, rfl, by decide +kernel, by decide +kernel⟩
def m_law_size (p_law_cell_here : Int) (p_law_choice : Int) : Res Int :=
  ((((Res.ok p_law_cell_here).bind fun a194 => (Res.ok ()).bind fun b195 => .ok (a194, b195)).bind (fun d => .ok d.1)).bind fun a214 => (((Res.ok (40 : Int)).bind fun a208 => (((Res.ok (10 : Int)).bind fun a196 => (Res.ok (6 : Int)).bind fun b197 => powI a196 b197).bind fun a206 => ((((Res.ok (10 : Int)).bind fun a198 => (Res.ok (50 : Int)).bind fun b199 => powI a198 b199).bind fun a202 => ((Res.ok (10 : Int)).bind fun a200 => (Res.ok (50 : Int)).bind fun b201 => powI a200 b201).bind fun b203 => mulI a202 b203).bind fun a204 => (Res.ok []).bind fun b205 => .ok (a204 :: b205)).bind fun b207 => .ok (a206 :: b207)).bind fun b209 => .ok (a208 :: b209)).bind fun a212 => ((Res.ok p_law_choice).bind fun a210 => (Res.ok (3 : Int)).bind fun b211 => modI a210 b211).bind fun b213 => atM a212 b213).bind fun b215 => modI a214 b215)
abbrev C_law_size (P : Program) (w : World) (K : PySem.W.Frag) (mg : Str → Option Value) (base : Heap) : Prop := FnR P w K mg base (L2.CX P w) 1 (He.ga K "_law_size") (spF K (aCons (rp rInt) (aCons (rp rInt) aNil)) (fun d => m_law_size d.1 d.2.1) (rp rInt))
theorem fn_law_size {P : Program} {w : World} {K : PySem.W.Frag} {mg : Str → Option Value} {base : Heap} (T : Txt K mg) : FnR P w K mg base (L2.CX P w) 1 (He.ga K "_law_size") (spF K (aCons (rp rInt) (aCons (rp rInt) aNil)) (fun d => m_law_size d.1 d.2.1) (rp rInt)) := by
  obtain ⟨fd, F⟩ := T.F_law_size
  refine FnOk.fr0 (FunD.fn (k := 0) (N := ["_law_cell_here", "_law_choice"]) (ps := ["_law_cell_here", "_law_choice"]) F sc_law_size (fun I H vs d h => ?_) (fun cdv A outer s I0 H0 E vs d hr sm h => ?_)) (F.bindsN fun _ _ _ _ _ _ us hl => match us, hl with | [_, _], _ => rfl)
  · obtain ⟨v0, _, rfl, h0, v1, _, rfl, h1, rfl⟩ := h; rfl
  obtain ⟨v0, _, rfl, h0, v1, _, rfl, h1, rfl⟩ := h
  have hx : ∀ {ctx : List (Option SF)} {mem : List MF} (I H : Hp) (σ : St) (d : Option Addr), Stt I0 H0 ctx mem I H σ → Fr H0 d → bK I0 H0 I H σ d := fun _ _ _ _ s f => ⟨s.fm, f⟩
  have tk : Takes (bx P w K mg base ["_law_cell_here", "_law_choice"] "_law_size" (defScope s_law_size) (He.ga K "_law_size") cdv A outer s H0 E) (bW E) := takes_of rfl rfl rfl rfl
  obtain ⟨p_law_cell_here, p_law_choice, _⟩ := d
  exact ⟨Stt I0 H0 [some (SF.mk rInt p_law_cell_here), some (SF.mk rInt p_law_choice)] [], Stt.start sm ⟨h0, h1, ini_nil rfl⟩ rfl (by simp), (JR.ret (JE.bin (JE.callTy (JA.cons (JE.var 0) JA.nil) cj_int T.n_int boot_int) (JE.ix (JE.rd (JE.lst (JA.consL JE.int (JA.consL (JE.bin JE.int JE.int opj_pow) (JA.consL (JE.bin (JE.bin JE.int JE.int opj_pow) (JE.bin JE.int JE.int opj_pow) opj_mul) JA.nilL))))) (JE.bin (JE.var 1) JE.int opj_mod)) opj_mod) hx)⟩
theorem sc_common_divisor : FnScope ["first", "second"] ["first", "second"] (defScope s_common_divisor) := ⟨rfl, rfl, rfl, by decide +kernel, rfl, by decide +kernel, by decide +kernel⟩
def m_common_divisor (p_first : Int) (p_second : Int) : Res Int :=
  ((((Res.ok p_first).bind fun a216 => (Res.ok ()).bind fun b217 => .ok (a216, b217)).bind (fun d => .ok (if d.1 < 0 then -d.1 else d.1))).bind fun v_first_218 => ((((Res.ok p_second).bind fun a219 => (Res.ok ()).bind fun b220 => .ok (a219, b220)).bind (fun d => .ok (if d.1 < 0 then -d.1 else d.1))).bind fun v_second_221 => ((whileM (fun s222 : (Int × Int) => ((Res.ok s222.2).bind fun a223 => (Res.ok (0 : Int)).bind fun b224 => .ok (!decide (a223 = b224)))) (fun s222 => (((Res.ok s222.2).bind fun a228 => ((Res.ok s222.1).bind fun a225 => (Res.ok s222.2).bind fun b226 => modI a225 b226).bind fun b229 => .ok (a228, b229)).bind fun v227 => (Res.ok (v227.1, v227.2)))) ((v_second_221).toNat + 1) (v_first_218, v_second_221)).bind fun s222 => (Res.ok s222.1))))
abbrev C_common_divisor (P : Program) (w : World) (K : PySem.W.Frag) (mg : Str → Option Value) (base : Heap) : Prop := FnR P w K mg base (L2.CX P w) 1 (He.ga K "common_divisor") (spF K (aCons (rp rInt) (aCons (rp rInt) aNil)) (fun d => n_cd d.1 d.2.1) (rp rInt))
theorem fn_common_divisor {P : Program} {w : World} {K : PySem.W.Frag} {mg : Str → Option Value} {base : Heap} (T : Txt K mg) : FnR P w K mg base (L2.CX P w) 1 (He.ga K "common_divisor") (spF K (aCons (rp rInt) (aCons (rp rInt) aNil)) (fun d => m_common_divisor d.1 d.2.1) (rp rInt)) := by
  obtain ⟨fd, F⟩ := T.F_common_divisor
  refine FnOk.fr0 (FunD.fn (k := 0) (N := ["first", "second"]) (ps := ["first", "second"]) F sc_common_divisor (fun I H vs d h => ?_) (fun cdv A outer s I0 H0 E vs d hr sm h => ?_)) (F.bindsN fun _ _ _ _ _ _ us hl => match us, hl with | [_, _], _ => rfl)
  · obtain ⟨v0, _, rfl, h0, v1, _, rfl, h1, rfl⟩ := h; rfl
  obtain ⟨v0, _, rfl, h0, v1, _, rfl, h1, rfl⟩ := h
  have hx : ∀ {ctx : List (Option SF)} {mem : List MF} (I H : Hp) (σ : St) (d : Option Addr), Stt I0 H0 ctx mem I H σ → Fr H0 d → bK I0 H0 I H σ d := fun _ _ _ _ s f => ⟨s.fm, f⟩
  have tk : Takes (bx P w K mg base ["first", "second"] "common_divisor" (defScope s_common_divisor) (He.ga K "common_divisor") cdv A outer s H0 E) (bW E) := takes_of rfl rfl rfl rfl
  have hp : PassesOwn (model P w) (bx P w K mg base ["first", "second"] "common_divisor" (defScope s_common_divisor) (He.ga K "common_divisor") cdv A outer s H0 E).A (bx P w K mg base ["first", "second"] "common_divisor" (defScope s_common_divisor) (He.ga K "common_divisor") cdv A outer s H0 E).env (bx P w K mg base ["first", "second"] "common_divisor" (defScope s_common_divisor) (He.ga K "common_divisor") cdv A outer s H0 E).xe := passes_of rfl
  obtain ⟨p_first, p_second, _⟩ := d
  exact ⟨Stt I0 H0 [some (SF.mk rInt p_first), some (SF.mk rInt p_second)] [], Stt.start sm ⟨h0, h1, ini_nil rfl⟩ rfl (by simp), (JR.seq (J1.set 0 (JE.callB (JA.cons (JE.var 0) JA.nil) cj_abs T.n_abs boot_abs) hx sc_common_divisor.nd) fun v_first_218 => (JR.seq (J1.set 1 (JE.callB (JA.cons (JE.var 1) JA.nil) cj_abs T.n_abs boot_abs) hx sc_common_divisor.nd) fun v_second_221 => (JR.seq (J1.while (S := (Int × Int)) (cx := fun s222 => [some (SF.mk rInt s222.1), some (SF.mk rInt s222.2)]) (me := fun _ => []) (s0 := (v_first_218, v_second_221)) (fuel := (v_second_221).toNat + 1) hp (fun s222 => (JT.cmp (JE.var 1) JE.int opj_ne)) (fun s222 => (JN.seq (J1.par 0 1 (JE.var 1) (JE.bin (JE.var 0) (JE.var 1) opj_mod) hx sc_common_divisor.nd) fun v227 => (JN.nil fun _ _ _ h => h))) fun _ => hx) fun s222 => (JR.ret (JE.var 0) hx))))⟩
theorem nice_common_divisor : ∀ d : Int × Int × Unit, n_cd d.1 d.2.1 = .stuck ∨ n_cd d.1 d.2.1 = m_common_divisor d.1 d.2.1 := fun ⟨a, b, _⟩ => by
  right
  show Res.ok _ = m_common_divisor a b
  have e : m_common_divisor a b = (whileM _ _ ((absI b).toNat + 1) (absI a, absI b)).bind fun s => .ok s.1 := rfl
  rw [e, absI_eq a, absI_eq b]
  simp only [Res.ok_bind]
  rw [cd_loop (fun s => rfl) (fun s h => by simp only [Res.ok_bind, modI_ok h]) _ _ _ (by omega)]
  simp only [Res.ok_bind, Int.gcd, Nat.gcd_comm b.natAbs]
theorem sc_Fraction_init : FnScope ["self", "top", "bottom", "divisor"] ["self", "top", "bottom"] (defScope s_Fraction_init) := ⟨rfl, rfl, rfl, by decide +kernel, rfl, by decide +kernel, by decide +kernel⟩
def mi_Fraction (top bottom : Int) : Res (Int × Int) :=
  (((Res.ok bottom).bind fun a => (Res.ok (0 : Int)).bind fun b => .ok (decide (a = b))).bind fun x => if x = true then (Res.err eBF : Res Unit) else .ok ()).bind fun _ =>
  (((Res.ok top).bind fun a => ((Res.ok bottom).bind fun b => (Res.ok ()).bind fun c => .ok (b, c)).bind fun d => .ok (a, d)).bind fun d => n_cd d.1 d.2.1).bind fun dv =>
  (((Res.ok bottom).bind fun a => (Res.ok (0 : Int)).bind fun b => .ok (decide (a < b))).bind fun x => if x = true then ((Res.ok dv).bind fun a => .ok (-a)).bind fun v => (Res.ok v) else .ok dv).bind fun s =>
  ((Res.ok top).bind fun a => (Res.ok s).bind fun b => fdivI a b).bind fun x =>
  ((Res.ok bottom).bind fun a => (Res.ok s).bind fun b => fdivI a b).bind fun y => .ok (x, y)
theorem mi_Fraction_eq (t b : Int) : mi_Fraction t b = (qRaw t b).bind fun q => .ok (q.num, (q.den : Int)) := by
  unfold mi_Fraction qRaw
  simp only [Res.ok_bind, n_cd]
  by_cases hb : b = 0
  · simp [hb]
  · simp only [hb, decide_false, Bool.false_eq_true, if_false, Res.ok_bind]
    have key : ∀ dv : Int, dv = (if b < 0 then -(Int.gcd t b : Int) else (Int.gcd t b : Int)) → (fdivI t dv).bind (fun x => (fdivI b dv).bind fun y => .ok (x, y)) = (Res.guard ((Int.gcd t b).log2 < 9000) (.ok (Rat.divInt t b))).bind fun q => .ok (q.num, (q.den : Int)) := fun dv hd => by
      obtain ⟨e1, e2⟩ := div_num hb dv hd
      have hg : Int.gcd t b ≠ 0 := fun h => hb (Int.gcd_eq_zero_iff.mp h).2
      have na : dv.natAbs = Int.gcd t b := by rw [hd]; split <;> omega
      have nz : dv ≠ 0 := by omega
      unfold fdivI
      rw [na]
      by_cases hl : (Int.gcd t b).log2 < 9000
      · rw [Res.guard_pos ⟨nz, hl⟩, Res.guard_pos ⟨nz, hl⟩, Res.guard_pos hl, e1, e2]; rfl
      · unfold Res.guard; rw [if_neg (fun h => hl h.2), if_neg hl]; rfl
    by_cases hlt : b < 0
    · simp only [hlt, decide_true, if_true, Res.ok_bind]
      exact key _ (by rw [if_pos hlt])
    · simp only [hlt, decide_false, Bool.false_eq_true, if_false, Res.ok_bind]
      exact key _ (by rw [if_neg hlt])
theorem in_Fraction {P : Program} {w : World} {K : PySem.W.Frag} {mg : Str → Option Value} {base : Heap} (T : Txt K mg) (c_common_divisor : C_common_divisor P w K mg base) {fd : FuncData} (F : FunD K "__init__" "Fraction.__init__" (defArgs s_Fraction_init) (defBody s_Fraction_init) (defScope s_Fraction_init) [.int 1] [] (He.ma K (He.ga K "Fraction") "__init__") fd) :
    FnOk P w K mg base (L2.CX P w) 2 (He.ma K (He.ga K "Fraction") "__init__") fd ["self", "top", "bottom"] (spI K (He.ga K "Fraction") (aCons (rp rInt) (aCons (rp rInt) aNil)) (fun d => qRaw d.1 d.2.1) (rp (rFrac K))) := by
  refine FunD.init (k := 1) (N := ["self", "top", "bottom", "divisor"]) (S := Int × Int) F sc_Fraction_init (fun I H vs d h => ?_) (fun cdv A outer s I0 H0 H1 E vs d y dx hr sm h n1 n2 n3 eH => ?_)
  · obtain ⟨v0, _, rfl, h0, v1, _, rfl, h1, rfl⟩ := h; rfl
  obtain ⟨v0, _, rfl, h0, v1, _, rfl, h1, rfl⟩ := h
  obtain ⟨t, b, _⟩ := d
  have hx : ∀ {ctx : List (Option SF)} {mem : List MF} (I H : Hp) (σ : St) (d : Option Addr), Stt I0 H0 ctx mem I H σ → Fr H0 d → bK I0 H0 I H σ d := fun _ _ _ _ s f => ⟨s.fm, f⟩
  have tk : Takes (bx P w K mg base ["self", "top", "bottom", "divisor"] "Fraction.__init__" (defScope s_Fraction_init) (He.ma K (He.ga K "Fraction") "__init__") cdv A outer s H1 E) (bW E) := takes_of rfl rfl rfl rfl
  refine ⟨Stt I0 H0 [some ⟨rRef y, ()⟩, some ⟨rInt, t⟩, some ⟨rInt, b⟩, none] [.ins y (He.ga K "Fraction") dx []], Int × Int, mi_Fraction t b, fun s I H σ => ∃ ctx, Stt I0 H0 ctx [.ins y (He.ga K "Fraction") dx [("top", ⟨rInt, s.1⟩), ("bottom", ⟨rInt, s.2⟩)]] I H σ, ?_, ?_, ?_⟩
  · subst eH
    exact Stt.fresh sm n1 n2 n3 rfl fun i sf e => IniR.get (n := 1) (vs := [.ref y, v0, v1]) (c := [some ⟨rRef y, ()⟩, some ⟨rInt, t⟩, some ⟨rInt, b⟩, none]) ⟨rfl, h0, h1, ini_nil rfl⟩ i sf e
  · exact JN.seq (J1.if (S := Unit) (G' := fun _ => Stt I0 H0 [some ⟨rRef y, ()⟩, some ⟨rInt, t⟩, some ⟨rInt, b⟩, none] [.ins y (He.ga K "Fraction") dx []]) (JT.cmp (JE.var 2) JE.int opj_eq) (JN.last (J1.raiseP rfl tk T.ex_BadFraction hx)) (JN.nil fun _ _ _ h => h) hx) fun _ =>
      JN.seq (J1.set 3 (JE.call (JA.cons (JE.var 1) (JA.cons (JE.var 2) JA.nil)) (cj_of c_common_divisor (hr.mono (by decide)) tk) T.g_common_divisor T.k_common_divisor) hx sc_Fraction_init.nd) fun dv =>
      JN.seq (J1.if (S := Int) (G' := fun s => Stt I0 H0 [some ⟨rRef y, ()⟩, some ⟨rInt, t⟩, some ⟨rInt, b⟩, some ⟨rInt, s⟩] [.ins y (He.ga K "Fraction") dx []]) (JT.cmp (JE.var 2) JE.int opj_lt) (JN.seq (J1.set 3 (JE.un (JE.var 3) unj_neg) hx sc_Fraction_init.nd) fun v => JN.nil fun _ _ _ h => h) (JN.nil fun _ _ _ h => h) hx) fun s =>
      JN.seq (J1.sfld 0 (JE.bin (JE.var 1) (JE.var 3) opj_fdiv) T.o_Fraction.cl T.na_Fraction_top (by decide) hx) fun x =>
      JN.seq (J1.sfld 0 (JE.bin (JE.var 2) (JE.var 3) opj_fdiv) T.o_Fraction.cl T.na_Fraction_bottom (by simp [putG]) hx) fun y' => JN.nil fun _ _ _ h => ⟨_, h⟩
  · rw [mi_Fraction_eq]
    dsimp only
    generalize qRaw t b = z
    cases z with
    | err e => rfl
    | stuck => rfl
    | ok q =>
      refine ⟨q, rfl, fun I' H' σ' ⟨ctx, g⟩ => ?_⟩
      obtain ⟨o, e1, ⟨fs, e2, hf⟩, g2, sm2⟩ := g.freeze
      exact ⟨_, g2.fm, y, dx, rfl, by show upd I' y o y = _; rw [upd_same, e2, frF_of rfl rfl hf]⟩
abbrev C_Fraction_2 (P : Program) (w : World) (K : PySem.W.Frag) (mg : Str → Option Value) (base : Heap) : Prop := MkR P w K mg base 3 (He.ga K "Fraction") (aCons (rp rInt) (aCons (rp rInt) aNil)) (fun d => qMk d.1 d.2.1) (rp (rFrac K))
theorem fn_Fraction_2 {P : Program} {w : World} {K : PySem.W.Frag} {mg : Str → Option Value} {base : Heap} (T : Txt K mg) (c_common_divisor : C_common_divisor P w K mg base) : C_Fraction_2 P w K mg base := by
  obtain ⟨fd, F⟩ := T.F_Fraction_init
  obtain ⟨ds, hd, hb⟩ := FunD.binds1 (ps := ["self", "top", "bottom"]) F 3 1 (by simp) rfl fun T kV doc pm an cdv ct us its hl hi => match us, hl, its, hi with | [_, _, _], _, [_], _ => ⟨_, rfl, rfl⟩
  exact MkR.nice (mkR_of (h := fun d => d) T.mk_Fraction (in_Fraction T c_common_divisor F) hb hd fun I H vs d h => by rw [show List.drop 1 [V.int 1] = [] from rfl, List.append_nil]; exact h) fun d => qMk_raw d.1 d.2.1
abbrev C_Fraction_1 (P : Program) (w : World) (K : PySem.W.Frag) (mg : Str → Option Value) (base : Heap) : Prop := MkR P w K mg base 3 (He.ga K "Fraction") (aCons (rp rInt) aNil) (fun d => qInt d.1) (rp (rFrac K))
theorem fn_Fraction_1 {P : Program} {w : World} {K : PySem.W.Frag} {mg : Str → Option Value} {base : Heap} (T : Txt K mg) (c_common_divisor : C_common_divisor P w K mg base) : C_Fraction_1 P w K mg base := by
  obtain ⟨fd, F⟩ := T.F_Fraction_init
  obtain ⟨ds, hd, hb⟩ := FunD.binds1 (ps := ["self", "top", "bottom"]) F 2 0 (by simp) rfl fun T kV doc pm an cdv ct us its hl hi => match us, hl, its, hi with | [_, _], _, [_], _ => ⟨_, rfl, rfl⟩
  exact MkR.nice (mkR_of (h := fun d : Int × Unit => (d.1, 1, ())) T.mk_Fraction (in_Fraction T c_common_divisor F) hb hd fun I H vs d h => by
    obtain ⟨v0, _, rfl, h0, rfl⟩ := h
    exact ⟨v0, _, rfl, h0, _, _, rfl, rfl, rfl⟩) fun d => qInt_raw d.1
abbrev C_Fraction_bt (P : Program) (w : World) (K : PySem.W.Frag) (mg : Str → Option Value) (base : Heap) : Prop := MkK P w K mg base 3 (He.ga K "Fraction") ["bottom", "top"] aNil (aCons (rp rInt) (aCons (rp rInt) aNil)) (fun _ d => qMk d.2.1 d.1) (rp (rFrac K))
theorem fn_Fraction_bt {P : Program} {w : World} {K : PySem.W.Frag} {mg : Str → Option Value} {base : Heap} (T : Txt K mg) (c_common_divisor : C_common_divisor P w K mg base) : C_Fraction_bt P w K mg base := by
  obtain ⟨fd, F⟩ := T.F_Fraction_init
  obtain ⟨its, hb⟩ := FunD.kbindsD (ps := ["self", "top", "bottom"]) F 1 ["bottom", "top"] (fun vs _ zs => vs ++ zs.reverse) (by simp) (fun a _ c => a.append (vals_rev c)) fun T kV doc pm an cdv ct us its ws hl hi hw => match us, hl, its, hi, ws, hw with | [_], _, [_], _, [_, _], _ => ⟨_, rfl, rfl⟩
  exact MkK.nice (m := fun (_ : Unit) (d : Int × Int × Unit) => qRaw d.2.1 d.1) (fun X W e1 e2 e3 e4 e5 hr tk => by
    subst e1; subst e2; subst e3; subst e4; subst e5
    exact cjk_make (n := 0) (R := aNil) (R' := aCons (rp rInt) (aCons (rp rInt) aNil)) (h := fun (_ : Unit) (d : Int × Int × Unit) => (d.2.1, d.1, ())) T.mk_Fraction (in_Fraction T c_common_divisor F) hr hb tk fun I H vs zs x y r r' => by
      obtain rfl := r
      obtain ⟨v0, _, rfl, h0, v1, _, rfl, h1, rfl⟩ := r'
      exact ⟨rfl, rfl, fun v => ⟨[v1, v0], rfl, v1, _, rfl, h1, v0, _, rfl, h0, rfl⟩⟩) fun _ d => qMk_raw d.2.1 d.1

theorem sc_law_integer : FnScope ["_law_number"] ["_law_number"] (defScope s_law_integer) := ⟨rfl, rfl, rfl, by decide +kernel, rfl, by decide +kernel, by decide +kernel⟩
def m_law_integer (p_law_number : Int) : Res Bool :=
  (((Res.ok p_law_number).bind fun a230 => .ok true).bind fun a233 => if a233 = true then (((Res.ok p_law_number).bind fun a231 => .ok false).bind fun a232 => .ok (!a232)) else .ok false)
abbrev C_law_integer (P : Program) (w : World) (K : PySem.W.Frag) (mg : Str → Option Value) (base : Heap) : Prop := FnR P w K mg base (L2.CX P w) 1 (He.ga K "_law_integer") (spF K (aCons (rp rInt) aNil) (fun d => m_law_integer d.1) (rp rBl))
theorem fn_law_integer {P : Program} {w : World} {K : PySem.W.Frag} {mg : Str → Option Value} {base : Heap} (T : Txt K mg) : FnR P w K mg base (L2.CX P w) 1 (He.ga K "_law_integer") (spF K (aCons (rp rInt) aNil) (fun d => m_law_integer d.1) (rp rBl)) := by
  obtain ⟨fd, F⟩ := T.F_law_integer
  refine FnOk.fr0 (FunD.fn (k := 0) (N := ["_law_number"]) (ps := ["_law_number"]) F sc_law_integer (fun I H vs d h => ?_) (fun cdv A outer s I0 H0 E vs d hr sm h => ?_)) (F.bindsN fun _ _ _ _ _ _ us hl => match us, hl with | [_], _ => rfl)
  · obtain ⟨v0, _, rfl, h0, rfl⟩ := h; rfl
  obtain ⟨v0, _, rfl, h0, rfl⟩ := h
  have hx : ∀ {ctx : List (Option SF)} {mem : List MF} (I H : Hp) (σ : St) (d : Option Addr), Stt I0 H0 ctx mem I H σ → Fr H0 d → bK I0 H0 I H σ d := fun _ _ _ _ s f => ⟨s.fm, f⟩
  have tk : Takes (bx P w K mg base ["_law_number"] "_law_integer" (defScope s_law_integer) (He.ga K "_law_integer") cdv A outer s H0 E) (bW E) := takes_of rfl rfl rfl rfl
  obtain ⟨p_law_number, _⟩ := d
  exact ⟨Stt I0 H0 [some (SF.mk rInt p_law_number)] [], Stt.start sm ⟨h0, ini_nil rfl⟩ rfl (by simp), (JR.ret (JE.and (JE.isi (JE.var 0) (w_type_at T.n_int (by decide +kernel) rfl (by decide) (by decide)) (.ty _) (tyr_int (t := "int") (by decide +kernel)) T.n_isinstance) (JE.one (JE.not (JE.isi (JE.var 0) (w_type_at T.n_bool (by decide +kernel) rfl (by decide) (by decide)) (.ty _) (tyr_int (t := "bool") (by decide +kernel)) T.n_isinstance)))) hx)⟩
theorem sc_law_divisor : FnScope ["_law_first", "_law_second", "_law_rest"] ["_law_first", "_law_second"] (defScope s_law_divisor) := ⟨rfl, rfl, rfl, by decide +kernel, rfl, by decide +kernel, by decide +kernel⟩
def m_law_divisor (p_law_first : Int) (p_law_second : Int) : Res Int :=
  ((((Res.ok p_law_first).bind fun a234 => (Res.ok ()).bind fun b235 => .ok (a234, b235)).bind (fun d => .ok (if d.1 < 0 then -d.1 else d.1))).bind fun v_law_first_236 => ((((Res.ok p_law_second).bind fun a237 => (Res.ok ()).bind fun b238 => .ok (a237, b238)).bind (fun d => .ok (if d.1 < 0 then -d.1 else d.1))).bind fun v_law_second_239 => ((whileM (fun s240 : (Int × Int) => ((Res.ok s240.2).bind fun a241 => (Res.ok (0 : Int)).bind fun b242 => .ok (!decide (a241 = b242)))) (fun s240 => (((Res.ok s240.1).bind fun a243 => (Res.ok s240.2).bind fun b244 => modI a243 b244).bind fun v_law_rest_245 => ((Res.ok s240.2).bind fun v_law_first_246 => ((Res.ok v_law_rest_245).bind fun v_law_second_247 => (Res.ok (v_law_first_246, v_law_second_247)))))) ((v_law_second_239).toNat + 1) (v_law_first_236, v_law_second_239)).bind fun s240 => (Res.ok s240.1))))
abbrev C_law_divisor (P : Program) (w : World) (K : PySem.W.Frag) (mg : Str → Option Value) (base : Heap) : Prop := FnR P w K mg base (L2.CX P w) 1 (He.ga K "_law_divisor") (spF K (aCons (rp rInt) (aCons (rp rInt) aNil)) (fun d => m_law_divisor d.1 d.2.1) (rp rInt))
theorem fn_law_divisor {P : Program} {w : World} {K : PySem.W.Frag} {mg : Str → Option Value} {base : Heap} (T : Txt K mg) : FnR P w K mg base (L2.CX P w) 1 (He.ga K "_law_divisor") (spF K (aCons (rp rInt) (aCons (rp rInt) aNil)) (fun d => m_law_divisor d.1 d.2.1) (rp rInt)) := by
  obtain ⟨fd, F⟩ := T.F_law_divisor
  refine FnOk.fr0 (FunD.fn (k := 0) (N := ["_law_first", "_law_second", "_law_rest"]) (ps := ["_law_first", "_law_second"]) F sc_law_divisor (fun I H vs d h => ?_) (fun cdv A outer s I0 H0 E vs d hr sm h => ?_)) (F.bindsN fun _ _ _ _ _ _ us hl => match us, hl with | [_, _], _ => rfl)
  · obtain ⟨v0, _, rfl, h0, v1, _, rfl, h1, rfl⟩ := h; rfl
  obtain ⟨v0, _, rfl, h0, v1, _, rfl, h1, rfl⟩ := h
  have hx : ∀ {ctx : List (Option SF)} {mem : List MF} (I H : Hp) (σ : St) (d : Option Addr), Stt I0 H0 ctx mem I H σ → Fr H0 d → bK I0 H0 I H σ d := fun _ _ _ _ s f => ⟨s.fm, f⟩
  have tk : Takes (bx P w K mg base ["_law_first", "_law_second", "_law_rest"] "_law_divisor" (defScope s_law_divisor) (He.ga K "_law_divisor") cdv A outer s H0 E) (bW E) := takes_of rfl rfl rfl rfl
  have hp : PassesOwn (model P w) (bx P w K mg base ["_law_first", "_law_second", "_law_rest"] "_law_divisor" (defScope s_law_divisor) (He.ga K "_law_divisor") cdv A outer s H0 E).A (bx P w K mg base ["_law_first", "_law_second", "_law_rest"] "_law_divisor" (defScope s_law_divisor) (He.ga K "_law_divisor") cdv A outer s H0 E).env (bx P w K mg base ["_law_first", "_law_second", "_law_rest"] "_law_divisor" (defScope s_law_divisor) (He.ga K "_law_divisor") cdv A outer s H0 E).xe := passes_of rfl
  obtain ⟨p_law_first, p_law_second, _⟩ := d
  exact ⟨Stt I0 H0 [some (SF.mk rInt p_law_first), some (SF.mk rInt p_law_second), none] [], Stt.start sm ⟨h0, h1, ini_nil rfl⟩ rfl (by simp), (JR.seq (J1.set 0 (JE.callB (JA.cons (JE.var 0) JA.nil) cj_abs T.n_abs boot_abs) hx sc_law_divisor.nd) fun v_law_first_236 => (JR.seq (J1.set 1 (JE.callB (JA.cons (JE.var 1) JA.nil) cj_abs T.n_abs boot_abs) hx sc_law_divisor.nd) fun v_law_second_239 => (JR.seq (J1.while (S := (Int × Int)) (cx := fun s240 => [some (SF.mk rInt s240.1), some (SF.mk rInt s240.2), none]) (me := fun _ => []) (s0 := (v_law_first_236, v_law_second_239)) (fuel := (v_law_second_239).toNat + 1) hp (fun s240 => (JT.cmp (JE.var 1) JE.int opj_ne)) (fun s240 => (JN.seq (J1.set 2 (JE.bin (JE.var 0) (JE.var 1) opj_mod) hx sc_law_divisor.nd) fun v_law_rest_245 => (JN.seq (J1.set 0 (JE.var 1) hx sc_law_divisor.nd) fun v_law_first_246 => (JN.seq (J1.set 1 (JE.var 2) hx sc_law_divisor.nd) fun v_law_second_247 => (JN.nil fun _ _ _ h => h.weak (weak_some (weak_some (weak_none weak_nil)))))))) fun _ => hx) fun s240 => (JR.ret (JE.var 0) hx))))⟩
theorem sc_Fraction_eq : FnScope ["self", "other"] ["self", "other"] (defScope s_Fraction_eq) := ⟨rfl, rfl, rfl, by decide +kernel, rfl, by decide +kernel, by decide +kernel⟩
def m_Fraction_eq (p_self : Rat) (p_other : Num) : Res Bool :=
  (match p_other with | .i p_other_i => (((Res.ok p_other_i).bind fun a248 => .ok true).bind fun x249 => if x249 = true then ((((Res.ok p_self).bind fun a250 => .ok (a250.den : Int)).bind fun a251 => (Res.ok (1 : Int)).bind fun b252 => .ok (decide (a251 = b252))).bind fun a256 => if a256 = true then (((Res.ok p_self).bind fun a253 => .ok a253.num).bind fun a254 => (Res.ok p_other_i).bind fun b255 => .ok (decide (a254 = b255))) else .ok false) else .stuck) | .q p_other_q => (((Res.ok p_other_q).bind fun a257 => .ok false).bind fun x258 => if x258 = true then .stuck else ((((Res.ok p_other_q).bind fun a259 => .ok true).bind fun a260 => .ok (!a260)).bind fun x261 => if x261 = true then .stuck else ((((Res.ok p_self).bind fun a262 => .ok a262.num).bind fun a264 => ((Res.ok p_other_q).bind fun a263 => .ok a263.num).bind fun b265 => .ok (decide (a264 = b265))).bind fun a270 => if a270 = true then (((Res.ok p_self).bind fun a266 => .ok (a266.den : Int)).bind fun a268 => ((Res.ok p_other_q).bind fun a267 => .ok (a267.den : Int)).bind fun b269 => .ok (decide (a268 = b269))) else .ok false))))
abbrev C_Fraction_eq (P : Program) (w : World) (K : PySem.W.Frag) (mg : Str → Option Value) (base : Heap) : Prop := FnR P w K mg base (L2.CX P w) 1 (He.ma K (He.ga K "Fraction") "__eq__") (spF K (aCons (rp (rFrac K)) (aCons (rp (rNum K)) aNil)) (fun d => m_Fraction_eq d.1 d.2.1) (rp rBl))
theorem fn_Fraction_eq {P : Program} {w : World} {K : PySem.W.Frag} {mg : Str → Option Value} {base : Heap} (T : Txt K mg) : FnR P w K mg base (L2.CX P w) 1 (He.ma K (He.ga K "Fraction") "__eq__") (spF K (aCons (rp (rFrac K)) (aCons (rp (rNum K)) aNil)) (fun d => m_Fraction_eq d.1 d.2.1) (rp rBl)) := by
  obtain ⟨fd, F⟩ := T.F_Fraction_eq
  refine FnOk.fr0 (FunD.fn (k := 0) (N := ["self", "other"]) (ps := ["self", "other"]) F sc_Fraction_eq (fun I H vs d h => ?_) (fun cdv A outer s I0 H0 E vs d hr sm h => ?_)) (F.bindsN fun _ _ _ _ _ _ us hl => match us, hl with | [_, _], _ => rfl)
  · obtain ⟨v0, _, rfl, h0, v1, _, rfl, h1, rfl⟩ := h; rfl
  obtain ⟨v0, _, rfl, h0, v1, _, rfl, h1, rfl⟩ := h
  have hx : ∀ {ctx : List (Option SF)} {mem : List MF} (I H : Hp) (σ : St) (d : Option Addr), Stt I0 H0 ctx mem I H σ → Fr H0 d → bK I0 H0 I H σ d := fun _ _ _ _ s f => ⟨s.fm, f⟩
  have tk : Takes (bx P w K mg base ["self", "other"] "Fraction.__eq__" (defScope s_Fraction_eq) (He.ma K (He.ga K "Fraction") "__eq__") cdv A outer s H0 E) (bW E) := takes_of rfl rfl rfl rfl
  obtain ⟨p_self, p_other, _⟩ := d
  exact ⟨Stt I0 H0 [some (SF.mk (rFrac K) p_self), some (SF.mk (rNum K) p_other)] [], Stt.start sm ⟨h0, h1, ini_nil rfl⟩ rfl (by simp), (JR.num (K := K) 1 (fun p_other_i => (JR.ifR (JT.of (JE.isi (JE.var 1) (w_type_at T.n_int (by decide +kernel) rfl (by decide) (by decide)) (.ty _) (tyr_int (t := "int") (by decide +kernel)) T.n_isinstance)) (JR.ret (JE.and (JE.cmp (JE.fld (JE.var 0) fld_bottom T.o_Fraction.cl T.na_Fraction_bottom) JE.int opj_eq) (JE.one (JE.cmp (JE.fld (JE.var 0) fld_top T.o_Fraction.cl T.na_Fraction_top) (JE.var 1) opj_eq))) hx) JR.dead hx)) (fun p_other_q => (JR.ifR (JT.of (JE.isi (JE.var 1) (w_type_at T.n_int (by decide +kernel) rfl (by decide) (by decide)) (.ty _) (tyr_ins T.o_Fraction insF T.kT_Fraction_int) T.n_isinstance)) JR.dead (JR.ifR (JT.not (JT.of (JE.isi (JE.var 1) (w_glob_at T.g_Fraction rfl (by decide)) (.own _) (tyr_ins T.o_Fraction insF T.kt_Fraction_Fraction) T.n_isinstance))) JR.dead (JR.ret (JE.and (JE.cmp (JE.fld (JE.var 0) fld_top T.o_Fraction.cl T.na_Fraction_top) (JE.fld (JE.var 1) fld_top T.o_Fraction.cl T.na_Fraction_top) opj_eq) (JE.one (JE.cmp (JE.fld (JE.var 0) fld_bottom T.o_Fraction.cl T.na_Fraction_bottom) (JE.fld (JE.var 1) fld_bottom T.o_Fraction.cl T.na_Fraction_bottom) opj_eq))) hx) hx) hx)))⟩
theorem sc_law_refused : FnScope ["_law_number", "e"] ["_law_number"] (defScope s_law_refused) := ⟨rfl, rfl, rfl, by decide +kernel, rfl, by decide +kernel, by decide +kernel⟩
def m_law_refused (p_law_number : Int) : Res Bool :=
  (tryM ((((Res.ok p_law_number).bind fun a273 => ((Res.ok (0 : Int)).bind fun a271 => (Res.ok ()).bind fun b272 => .ok (a271, b272)).bind fun b274 => .ok (a273, b274)).bind (fun d => qMk d.1 d.2.1)).bind fun u275 => (Res.ok ())) [("BadFraction", true)] (fun ee => if ee.pay.isEmpty = true then (fun _ => ((Res.ok true).bind fun a278 => if a278 = true then (Res.ok true) else .ok false)) ee.cls else .stuck) (fun s279 => (Res.ok false)))
abbrev C_law_refused (P : Program) (w : World) (K : PySem.W.Frag) (mg : Str → Option Value) (base : Heap) : Prop := FnR P w K mg base (L2.CX P w) 4 (He.ga K "_law_refused") (spF K (aCons (rp rInt) aNil) (fun d => m_law_refused d.1) (rp rBl))
theorem fn_law_refused {P : Program} {w : World} {K : PySem.W.Frag} {mg : Str → Option Value} {base : Heap} (T : Txt K mg) (c_Fraction_2 : C_Fraction_2 P w K mg base) : FnR P w K mg base (L2.CX P w) 4 (He.ga K "_law_refused") (spF K (aCons (rp rInt) aNil) (fun d => m_law_refused d.1) (rp rBl)) := by
  obtain ⟨fd, F⟩ := T.F_law_refused
  refine FnOk.fr0 (FunD.fn (k := 3) (N := ["_law_number", "e"]) (ps := ["_law_number"]) F sc_law_refused (fun I H vs d h => ?_) (fun cdv A outer s I0 H0 E vs d hr sm h => ?_)) (F.bindsN fun _ _ _ _ _ _ us hl => match us, hl with | [_], _ => rfl)
  · obtain ⟨v0, _, rfl, h0, rfl⟩ := h; rfl
  obtain ⟨v0, _, rfl, h0, rfl⟩ := h
  have hx : ∀ {ctx : List (Option SF)} {mem : List MF} (I H : Hp) (σ : St) (d : Option Addr), Stt I0 H0 ctx mem I H σ → Fr H0 d → bK I0 H0 I H σ d := fun _ _ _ _ s f => ⟨s.fm, f⟩
  have tk : Takes (bx P w K mg base ["_law_number", "e"] "_law_refused" (defScope s_law_refused) (He.ga K "_law_refused") cdv A outer s H0 E) (bW E) := takes_of rfl rfl rfl rfl
  have hp : PassesOwn (model P w) (bx P w K mg base ["_law_number", "e"] "_law_refused" (defScope s_law_refused) (He.ga K "_law_refused") cdv A outer s H0 E).A (bx P w K mg base ["_law_number", "e"] "_law_refused" (defScope s_law_refused) (He.ga K "_law_refused") cdv A outer s H0 E).env (bx P w K mg base ["_law_number", "e"] "_law_refused" (defScope s_law_refused) (He.ga K "_law_refused") cdv A outer s H0 E).xe := passes_of rfl
  obtain ⟨p_law_number, _⟩ := d
  exact ⟨Stt I0 H0 [some (SF.mk rInt p_law_number), none] [], Stt.start sm ⟨h0, ini_nil rfl⟩ rfl (by simp), (JR.tryAsP 1 (S := Unit) (cv := .ref (He.ga K "BadFraction")) (L := [("BadFraction", true)]) (cw := [some (SF.mk rInt p_law_number), none]) (G' := (fun s279 => Stt I0 H0 [some (SF.mk rInt p_law_number), none] [])) (mh := fun _ => ((Res.ok true).bind fun a278 => if a278 = true then (Res.ok true) else .ok false)) tk (fun W' pn xe tk hp => (JN.seq (J1.expr (JE.call (JA.cons (JE.var 0) (JA.cons JE.int JA.nil)) (c_Fraction_2 _ _ rfl rfl rfl rfl rfl (hr.mono (by decide)) tk) T.g_Fraction T.mk_Fraction.kp) (fun _ _ _ _ s f => ⟨s.weak (by first | exact weak_refl _ | (simp only [weakC]; simp)), f⟩)) fun u275 => (JN.nil fun _ _ _ h => h))) (fun cls hcl => by
        obtain rfl : cls = "BadFraction" := by simpa using hcl
        exact fun a oe pn hz hf => (JR.ret (JE.and (JE.isE hz hf T.xc_BadFraction T.kt_BadFraction_TracerError (JE.var 1) (w_glob_at T.g_TracerError rfl (by decide)) (.own _) T.n_isinstance) (JE.one (JE.isE hz hf T.xc_BadFraction T.kT_BadFraction_ValueError (JE.var 1) (w_type_at T.n_ValueError (by decide +kernel) rfl (by decide) (by decide)) (.ty _) T.n_isinstance))) (fun _ _ _ _ _ _ => True.intro))) (fun s279 => (JR.ret JE.bl hx)) (fun y b h => by
        simp only [List.mem_cons, List.mem_nil_iff, or_false, Prod.mk.injEq] at h
        obtain ⟨rfl, rfl⟩ := h
        exact T.xm_BadFraction_BadFraction) ⟨rfl, by decide, .inl T.g_BadFraction⟩ hx sc_law_refused.nd)⟩
theorem sc_law : FnScope ["_law_script", "_law_choice", "_law_a", "_law_b", "_law_factor", "_law_got", "_law_other", "_law_whole", "_law_plain"] ["_law_script"] (defScope s_law) := ⟨rfl, rfl, rfl, by decide +kernel, rfl, by decide +kernel, by decide +kernel⟩
def m_law (p_law_script : (List Int)) : Res Bool :=
  (((((((Res.ok p_law_script).bind fun a3 => ((Res.ok (0 : Int)).bind fun a1 => (Res.ok ()).bind fun b2 => .ok (a1, b2)).bind fun b4 => .ok (a3, b4)).bind (fun d => m_law_cell d.1 d.2.1)).bind fun a5 => (Res.ok ()).bind fun b6 => .ok (a5, b6)).bind (fun d => .ok d.1)).bind fun a9 => ((Res.ok (10 : Int)).bind fun a7 => (Res.ok (9 : Int)).bind fun b8 => powI a7 b8).bind fun b10 => modI a9 b10).bind fun v_law_choice_11 => ((((((Res.ok p_law_script).bind fun a14 => ((Res.ok (1 : Int)).bind fun a12 => (Res.ok ()).bind fun b13 => .ok (a12, b13)).bind fun b15 => .ok (a14, b15)).bind (fun d => m_law_cell d.1 d.2.1)).bind fun a18 => ((Res.ok v_law_choice_11).bind fun a16 => (Res.ok ()).bind fun b17 => .ok (a16, b17)).bind fun b19 => .ok (a18, b19)).bind (fun d => m_law_size d.1 d.2.1)).bind fun v_law_a_20 => (((Res.ok (1 : Int)).bind fun a31 => (((((Res.ok p_law_script).bind fun a23 => ((Res.ok (2 : Int)).bind fun a21 => (Res.ok ()).bind fun b22 => .ok (a21, b22)).bind fun b24 => .ok (a23, b24)).bind (fun d => m_law_cell d.1 d.2.1)).bind fun a29 => (((Res.ok v_law_choice_11).bind fun a25 => (Res.ok (3 : Int)).bind fun b26 => fdivI a25 b26).bind fun a27 => (Res.ok ()).bind fun b28 => .ok (a27, b28)).bind fun b30 => .ok (a29, b30)).bind (fun d => m_law_size d.1 d.2.1)).bind fun b32 => .ok (a31 + b32)).bind fun v_law_b_33 => (((Res.ok (1 : Int)).bind fun a44 => (((((Res.ok p_law_script).bind fun a36 => ((Res.ok (3 : Int)).bind fun a34 => (Res.ok ()).bind fun b35 => .ok (a34, b35)).bind fun b37 => .ok (a36, b37)).bind (fun d => m_law_cell d.1 d.2.1)).bind fun a42 => (((Res.ok v_law_choice_11).bind fun a38 => (Res.ok (9 : Int)).bind fun b39 => fdivI a38 b39).bind fun a40 => (Res.ok ()).bind fun b41 => .ok (a40, b41)).bind fun b43 => .ok (a42, b43)).bind (fun d => m_law_size d.1 d.2.1)).bind fun b45 => .ok (a44 + b45)).bind fun v_law_factor_46 => ((((((Res.ok v_law_choice_11).bind fun a47 => (Res.ok (27 : Int)).bind fun b48 => fdivI a47 b48).bind fun a49 => (Res.ok (2 : Int)).bind fun b50 => modI a49 b50).bind fun a51 => (Res.ok (1 : Int)).bind fun b52 => .ok (decide (a51 = b52))).bind fun x56 => if x56 = true then (((Res.ok v_law_a_20).bind fun a53 => .ok (-a53)).bind fun v_law_a_54 => (Res.ok v_law_a_54)) else (Res.ok v_law_a_20)).bind fun s55 => ((((((Res.ok v_law_choice_11).bind fun a57 => (Res.ok (54 : Int)).bind fun b58 => fdivI a57 b58).bind fun a59 => (Res.ok (2 : Int)).bind fun b60 => modI a59 b60).bind fun a61 => (Res.ok (1 : Int)).bind fun b62 => .ok (decide (a61 = b62))).bind fun x66 => if x66 = true then (((Res.ok v_law_factor_46).bind fun a63 => .ok (-a63)).bind fun v_law_factor_64 => (Res.ok v_law_factor_64)) else (Res.ok v_law_factor_46)).bind fun s65 => (((((Res.ok s55).bind fun a67 => (Res.ok s65).bind fun b68 => mulI a67 b68).bind fun a73 => (((Res.ok v_law_b_33).bind fun a69 => (Res.ok s65).bind fun b70 => mulI a69 b70).bind fun a71 => (Res.ok ()).bind fun b72 => .ok (a71, b72)).bind fun b74 => .ok (a73, b74)).bind (fun d => qMk d.1 d.2.1)).bind fun v_law_got_75 => (((((((Res.ok v_law_got_75).bind fun a76 => .ok a76.num).bind fun a77 => (Res.ok ()).bind fun b78 => .ok (a77, b78)).bind (fun d => m_law_integer d.1)).bind fun a79 => .ok (!a79)).bind fun a88 => if a88 = true then .ok true else ((((((Res.ok v_law_got_75).bind fun a80 => .ok (a80.den : Int)).bind fun a81 => (Res.ok ()).bind fun b82 => .ok (a81, b82)).bind (fun d => m_law_integer d.1)).bind fun a83 => .ok (!a83)).bind fun a87 => if a87 = true then .ok true else (((Res.ok v_law_got_75).bind fun a84 => .ok (a84.den : Int)).bind fun a85 => (Res.ok (1 : Int)).bind fun b86 => .ok (decide (a85 < b86))))).bind fun x89 => if x89 = true then (Res.ok false) else ((((((Res.ok v_law_got_75).bind fun a90 => .ok a90.num).bind fun a91 => (Res.ok v_law_b_33).bind fun b92 => mulI a91 b92).bind fun a96 => ((Res.ok s55).bind fun a94 => ((Res.ok v_law_got_75).bind fun a93 => .ok (a93.den : Int)).bind fun b95 => mulI a94 b95).bind fun b97 => .ok (!decide (a96 = b97))).bind fun a106 => if a106 = true then .ok true else (((((Res.ok v_law_got_75).bind fun a98 => .ok a98.num).bind fun a102 => (((Res.ok v_law_got_75).bind fun a99 => .ok (a99.den : Int)).bind fun a100 => (Res.ok ()).bind fun b101 => .ok (a100, b101)).bind fun b103 => .ok (a102, b103)).bind (fun d => m_law_divisor d.1 d.2.1)).bind fun a104 => (Res.ok (1 : Int)).bind fun b105 => .ok (!decide (a104 = b105)))).bind fun x107 => if x107 = true then (Res.ok false) else (((((Res.ok v_law_b_33).bind fun a108 => .ok (-a108)).bind fun a112 => (((Res.ok s55).bind fun a109 => .ok (-a109)).bind fun a110 => (Res.ok ()).bind fun b111 => .ok (a110, b111)).bind fun b113 => .ok (a112, b113)).bind fun y114 => (fun (_ : Unit) (d : Int × Int × Unit) => qMk d.2.1 d.1) () y114).bind fun v_law_other_115 => (((((Res.ok v_law_other_115).bind fun a116 => .ok a116.num).bind fun a120 => (((Res.ok v_law_other_115).bind fun a117 => .ok (a117.den : Int)).bind fun a118 => (Res.ok []).bind fun b119 => .ok (a118 :: b119)).bind fun b121 => .ok (a120 :: b121)).bind fun a128 => (((Res.ok v_law_got_75).bind fun a122 => .ok a122.num).bind fun a126 => (((Res.ok v_law_got_75).bind fun a123 => .ok (a123.den : Int)).bind fun a124 => (Res.ok []).bind fun b125 => .ok (a124 :: b125)).bind fun b127 => .ok (a126 :: b127)).bind fun b129 => .ok (!decide (a128 = b129))).bind fun x130 => if x130 = true then (Res.ok false) else (((((Res.ok v_law_other_115).bind fun a131 => (Res.ok v_law_got_75).bind fun b132 => m_Fraction_eq a131 (.q b132)).bind fun a133 => .ok (!a133)).bind fun a136 => if a136 = true then .ok true else ((Res.ok v_law_other_115).bind fun a134 => (Res.ok v_law_got_75).bind fun b135 => (m_Fraction_eq a134 (.q b135)).bind fun z => .ok (!z))).bind fun x137 => if x137 = true then (Res.ok false) else ((((((((Res.ok p_law_script).bind fun a140 => ((Res.ok (4 : Int)).bind fun a138 => (Res.ok ()).bind fun b139 => .ok (a138, b139)).bind fun b141 => .ok (a140, b141)).bind (fun d => m_law_cell d.1 d.2.1)).bind fun a142 => (Res.ok ()).bind fun b143 => .ok (a142, b143)).bind (fun d => .ok d.1)).bind fun a158 => (((((Res.ok (10 : Int)).bind fun a144 => (Res.ok (60 : Int)).bind fun b145 => powI a144 b145).bind fun a148 => ((Res.ok (10 : Int)).bind fun a146 => (Res.ok (60 : Int)).bind fun b147 => powI a146 b147).bind fun b149 => mulI a148 b149).bind fun a152 => ((Res.ok (10 : Int)).bind fun a150 => (Res.ok (60 : Int)).bind fun b151 => powI a150 b151).bind fun b153 => mulI a152 b153).bind fun a156 => ((Res.ok (10 : Int)).bind fun a154 => (Res.ok (60 : Int)).bind fun b155 => powI a154 b155).bind fun b157 => mulI a156 b157).bind fun b159 => modI a158 b159).bind fun a160 => (Res.ok v_law_choice_11).bind fun b161 => .ok (a160 - b161)).bind fun v_law_whole_162 => ((((Res.ok v_law_whole_162).bind fun a163 => (Res.ok ()).bind fun b164 => .ok (a163, b164)).bind (fun d => qInt d.1)).bind fun v_law_plain_165 => (((((Res.ok v_law_plain_165).bind fun a166 => .ok a166.num).bind fun a170 => (((Res.ok v_law_plain_165).bind fun a167 => .ok (a167.den : Int)).bind fun a168 => (Res.ok []).bind fun b169 => .ok (a168 :: b169)).bind fun b171 => .ok (a170 :: b171)).bind fun a176 => ((Res.ok v_law_whole_162).bind fun a174 => ((Res.ok (1 : Int)).bind fun a172 => (Res.ok []).bind fun b173 => .ok (a172 :: b173)).bind fun b175 => .ok (a174 :: b175)).bind fun b177 => .ok (!decide (a176 = b177))).bind fun x178 => if x178 = true then (Res.ok false) else ((((Res.ok s55).bind fun a179 => (Res.ok ()).bind fun b180 => .ok (a179, b180)).bind (fun d => m_law_refused d.1)).bind fun a186 => if a186 = true then ((((Res.ok (0 : Int)).bind fun a181 => (Res.ok ()).bind fun b182 => .ok (a181, b182)).bind (fun d => m_law_refused d.1)).bind fun a185 => if a185 = true then (((Res.ok v_law_whole_162).bind fun a183 => (Res.ok ()).bind fun b184 => .ok (a183, b184)).bind (fun d => m_law_refused d.1)) else .ok false) else .ok false))))))))))))))))
abbrev C_law (P : Program) (w : World) (K : PySem.W.Frag) (mg : Str → Option Value) (base : Heap) : Prop := FnR P w K mg base (L2.CX P w) 6 (He.ga K "law") (spF K (aCons (rdL K (rp rInt)) aNil) (fun d => m_law d.1) (rp rBl))
theorem fn_law {P : Program} {w : World} {K : PySem.W.Frag} {mg : Str → Option Value} {base : Heap} (T : Txt K mg) (c_law_cell : C_law_cell P w K mg base) (c_law_size : C_law_size P w K mg base) (c_Fraction_2 : C_Fraction_2 P w K mg base) (c_law_integer : C_law_integer P w K mg base) (c_law_divisor : C_law_divisor P w K mg base) (c_Fraction_bt : C_Fraction_bt P w K mg base) (c_Fraction_eq : C_Fraction_eq P w K mg base) (c_Fraction_1 : C_Fraction_1 P w K mg base) (c_law_refused : C_law_refused P w K mg base) {fd : FuncData} (F : FunD K "law" "law" (defArgs s_law) (defBody s_law) (defScope s_law) [] [] (He.ga K "law") fd) : FnOk P w K mg base (L2.CX P w) 6 (He.ga K "law") fd ["_law_script"] (spF K (aCons (rdL K (rp rInt)) aNil) (fun d => m_law d.1) (rp rBl)) := by
  refine FunD.fn (k := 5) (N := ["_law_script", "_law_choice", "_law_a", "_law_b", "_law_factor", "_law_got", "_law_other", "_law_whole", "_law_plain"]) (ps := ["_law_script"]) F sc_law (fun I H vs d h => ?_) (fun cdv A outer s I0 H0 E vs d hr sm h => ?_)
  · obtain ⟨v0, _, rfl, h0, rfl⟩ := h; rfl
  obtain ⟨v0, _, rfl, h0, rfl⟩ := h
  have hx : ∀ {ctx : List (Option SF)} {mem : List MF} (I H : Hp) (σ : St) (d : Option Addr), Stt I0 H0 ctx mem I H σ → Fr H0 d → bK I0 H0 I H σ d := fun _ _ _ _ s f => ⟨s.fm, f⟩
  have tk : Takes (bx P w K mg base ["_law_script", "_law_choice", "_law_a", "_law_b", "_law_factor", "_law_got", "_law_other", "_law_whole", "_law_plain"] "law" (defScope s_law) (He.ga K "law") cdv A outer s H0 E) (bW E) := takes_of rfl rfl rfl rfl
  obtain ⟨p_law_script, _⟩ := d
  exact ⟨Stt I0 H0 [some (SF.mk (fun I v x => (rdL K (rp rInt)) I H0 v x) p_law_script), none, none, none, none, none, none, none, none] [], Stt.start sm ⟨h0, ini_nil rfl⟩ rfl (by simp), (JR.seq (J1.set 1 (JE.bin (JE.callTy (JA.cons (JE.call (JA.cons (JE.varP 0 (r := (rdL K (rp rInt)))) (JA.cons JE.int JA.nil)) (cj_of c_law_cell (hr.mono (by decide)) tk) T.g_law_cell T.k_law_cell) JA.nil) cj_int T.n_int boot_int) (JE.bin JE.int JE.int opj_pow) opj_mod) hx sc_law.nd) fun v_law_choice_11 => (JR.seq (J1.set 2 (JE.call (JA.cons (JE.call (JA.cons (JE.varP 0 (r := (rdL K (rp rInt)))) (JA.cons JE.int JA.nil)) (cj_of c_law_cell (hr.mono (by decide)) tk) T.g_law_cell T.k_law_cell) (JA.cons (JE.var 1) JA.nil)) (cj_of c_law_size (hr.mono (by decide)) tk) T.g_law_size T.k_law_size) hx sc_law.nd) fun v_law_a_20 => (JR.seq (J1.set 3 (JE.bin JE.int (JE.call (JA.cons (JE.call (JA.cons (JE.varP 0 (r := (rdL K (rp rInt)))) (JA.cons JE.int JA.nil)) (cj_of c_law_cell (hr.mono (by decide)) tk) T.g_law_cell T.k_law_cell) (JA.cons (JE.bin (JE.var 1) JE.int opj_fdiv) JA.nil)) (cj_of c_law_size (hr.mono (by decide)) tk) T.g_law_size T.k_law_size) opj_add) hx sc_law.nd) fun v_law_b_33 => (JR.seq (J1.set 4 (JE.bin JE.int (JE.call (JA.cons (JE.call (JA.cons (JE.varP 0 (r := (rdL K (rp rInt)))) (JA.cons JE.int JA.nil)) (cj_of c_law_cell (hr.mono (by decide)) tk) T.g_law_cell T.k_law_cell) (JA.cons (JE.bin (JE.var 1) JE.int opj_fdiv) JA.nil)) (cj_of c_law_size (hr.mono (by decide)) tk) T.g_law_size T.k_law_size) opj_add) hx sc_law.nd) fun v_law_factor_46 => (JR.seq (J1.if (S := Int) (G' := fun s55 => Stt I0 H0 [some (SF.mk (fun I v x => (rdL K (rp rInt)) I H0 v x) p_law_script), some (SF.mk rInt v_law_choice_11), some (SF.mk rInt s55), some (SF.mk rInt v_law_b_33), some (SF.mk rInt v_law_factor_46), none, none, none, none] []) (JT.cmp (JE.bin (JE.bin (JE.var 1) JE.int opj_fdiv) JE.int opj_mod) JE.int opj_eq) (JN.seq (J1.set 2 (JE.un (JE.var 2) unj_neg) hx sc_law.nd) fun v_law_a_54 => (JN.nil fun _ _ _ h => h)) (JN.nil fun _ _ _ h => h) hx) fun s55 => (JR.seq (J1.if (S := Int) (G' := fun s65 => Stt I0 H0 [some (SF.mk (fun I v x => (rdL K (rp rInt)) I H0 v x) p_law_script), some (SF.mk rInt v_law_choice_11), some (SF.mk rInt s55), some (SF.mk rInt v_law_b_33), some (SF.mk rInt s65), none, none, none, none] []) (JT.cmp (JE.bin (JE.bin (JE.var 1) JE.int opj_fdiv) JE.int opj_mod) JE.int opj_eq) (JN.seq (J1.set 4 (JE.un (JE.var 4) unj_neg) hx sc_law.nd) fun v_law_factor_64 => (JN.nil fun _ _ _ h => h)) (JN.nil fun _ _ _ h => h) hx) fun s65 => (JR.seq (J1.set 5 (JE.call (JA.cons (JE.bin (JE.var 2) (JE.var 4) opj_mul) (JA.cons (JE.bin (JE.var 3) (JE.var 4) opj_mul) JA.nil)) (c_Fraction_2 _ _ rfl rfl rfl rfl rfl (hr.mono (by decide)) tk) T.g_Fraction T.mk_Fraction.kp) hx sc_law.nd) fun v_law_got_75 => (JR.ifR (JT.bool (JW.or (JT.not (JT.of (JE.call (JA.cons (JE.fld (JE.var 5) fld_top T.o_Fraction.cl T.na_Fraction_top) JA.nil) (cj_of c_law_integer (hr.mono (by decide)) tk) T.g_law_integer T.k_law_integer))) (JW.or (JT.not (JT.of (JE.call (JA.cons (JE.fld (JE.var 5) fld_bottom T.o_Fraction.cl T.na_Fraction_bottom) JA.nil) (cj_of c_law_integer (hr.mono (by decide)) tk) T.g_law_integer T.k_law_integer))) (JW.or1 (JT.cmp (JE.fld (JE.var 5) fld_bottom T.o_Fraction.cl T.na_Fraction_bottom) JE.int opj_lt))))) (JR.ret JE.bl hx) (JR.ifR (JT.bool (JW.or (JT.cmp (JE.bin (JE.fld (JE.var 5) fld_top T.o_Fraction.cl T.na_Fraction_top) (JE.var 3) opj_mul) (JE.bin (JE.var 2) (JE.fld (JE.var 5) fld_bottom T.o_Fraction.cl T.na_Fraction_bottom) opj_mul) opj_ne) (JW.or1 (JT.cmp (JE.call (JA.cons (JE.fld (JE.var 5) fld_top T.o_Fraction.cl T.na_Fraction_top) (JA.cons (JE.fld (JE.var 5) fld_bottom T.o_Fraction.cl T.na_Fraction_bottom) JA.nil)) (cj_of c_law_divisor (hr.mono (by decide)) tk) T.g_law_divisor T.k_law_divisor) JE.int opj_ne)))) (JR.ret JE.bl hx) (JR.seq (J1.set 6 (JE.callK0 (JK.cons (JE.un (JE.var 3) unj_neg) (JK.cons (JE.un (JE.var 2) unj_neg) JK.nil)) (c_Fraction_bt _ _ rfl rfl rfl rfl rfl (hr.mono (by decide)) tk) T.g_Fraction T.mk_Fraction.kp) hx sc_law.nd) fun v_law_other_115 => (JR.ifR (JT.cmp (JE.rd (JE.lst (JA.consL (JE.fld (JE.var 6) fld_top T.o_Fraction.cl T.na_Fraction_top) (JA.consL (JE.fld (JE.var 6) fld_bottom T.o_Fraction.cl T.na_Fraction_bottom) JA.nilL)))) (JE.rd (JE.lst (JA.consL (JE.fld (JE.var 5) fld_top T.o_Fraction.cl T.na_Fraction_top) (JA.consL (JE.fld (JE.var 5) fld_bottom T.o_Fraction.cl T.na_Fraction_bottom) JA.nilL)))) (opj_neL hr.units)) (JR.ret JE.bl hx) (JR.ifR (JT.bool (JW.or (JT.not (JT.cmp (JE.var 6) (JE.var 5) (opj_cqq (op := .Eq) (fun _ _ => rfl) T.o_Fraction T.om_Fraction_eq T.nf_Fraction.1 c_Fraction_eq (hr.mono (by decide)) tk))) (JW.or1 (JT.cmp (JE.var 6) (JE.var 5) (opj_neqq T.o_Fraction T.om_Fraction_eq T.nf_Fraction.1 c_Fraction_eq (hr.mono (by decide)) tk))))) (JR.ret JE.bl hx) (JR.seq (J1.set 7 (JE.bin (JE.bin (JE.callTy (JA.cons (JE.call (JA.cons (JE.varP 0 (r := (rdL K (rp rInt)))) (JA.cons JE.int JA.nil)) (cj_of c_law_cell (hr.mono (by decide)) tk) T.g_law_cell T.k_law_cell) JA.nil) cj_int T.n_int boot_int) (JE.bin (JE.bin (JE.bin (JE.bin JE.int JE.int opj_pow) (JE.bin JE.int JE.int opj_pow) opj_mul) (JE.bin JE.int JE.int opj_pow) opj_mul) (JE.bin JE.int JE.int opj_pow) opj_mul) opj_mod) (JE.var 1) opj_sub) hx sc_law.nd) fun v_law_whole_162 => (JR.seq (J1.set 8 (JE.call (JA.cons (JE.var 7) JA.nil) (c_Fraction_1 _ _ rfl rfl rfl rfl rfl (hr.mono (by decide)) tk) T.g_Fraction T.mk_Fraction.kp) hx sc_law.nd) fun v_law_plain_165 => (JR.ifR (JT.cmp (JE.rd (JE.lst (JA.consL (JE.fld (JE.var 8) fld_top T.o_Fraction.cl T.na_Fraction_top) (JA.consL (JE.fld (JE.var 8) fld_bottom T.o_Fraction.cl T.na_Fraction_bottom) JA.nilL)))) (JE.rd (JE.lst (JA.consL (JE.var 7) (JA.consL JE.int JA.nilL)))) (opj_neL hr.units)) (JR.ret JE.bl hx) (JR.ret (JE.and (JE.call (JA.cons (JE.var 2) JA.nil) (cj_of c_law_refused (hr.mono (by decide)) tk) T.g_law_refused T.k_law_refused) (JE.and (JE.call (JA.cons JE.int JA.nil) (cj_of c_law_refused (hr.mono (by decide)) tk) T.g_law_refused T.k_law_refused) (JE.one (JE.call (JA.cons (JE.var 7) JA.nil) (cj_of c_law_refused (hr.mono (by decide)) tk) T.g_law_refused T.k_law_refused)))) hx) hx))) hx) hx)) hx) hx))))))))⟩
end L2.Tr

namespace L2.Tr
open PySem PySem.Spec PyProof.Rows
theorem cell_eq (ns : List Int) (k : Int) (hk : 0 ≤ k) : m_law_cell ns k = .ok (ns.getD k.toNat 0) := by
  unfold m_law_cell
  simp only [Res.ok_bind]
  by_cases h : k < (ns.length : Int)
  · simp only [h, decide_true, if_true]
    have hl : k.toNat < ns.length := by omega
    have e : atM ns ((k.toNat : Nat) : Int) = .ok (ns.getD k.toNat 0) := atM_nat (by simp [List.getD, hl])
    rwa [Int.toNat_of_nonneg hk] at e
  · simp only [h, decide_false, Bool.false_eq_true, if_false]
    have : ns[k.toNat]? = none := List.getElem?_eq_none (by omega)
    simp [List.getD, this]
theorem size_eq (c ch : Int) : ∃ v, m_law_size c ch = .ok v ∧ 0 ≤ v ∧ v < 10 ^ 100 := by
  unfold m_law_size
  simp only [Res.ok_bind]
  rw [show powI 10 6 = .ok (10 ^ 6) from rfl, show powI 10 50 = .ok (10 ^ 50) from rfl]
  simp only [Res.ok_bind]
  rw [mulI_ok (by decide +kernel), modI_ok (by decide)]
  simp only [Res.ok_bind]
  rw [Int.fmod_eq_emod_of_nonneg _ (by decide)]
  have h1 := Int.emod_nonneg ch (show (3 : Int) ≠ 0 by decide)
  have h2 := Int.emod_lt_of_pos ch (show (0 : Int) < 3 by decide)
  have key : ∀ m : Int, 0 < m → m ≤ 10 ^ 100 → ∃ v, modI c m = .ok v ∧ 0 ≤ v ∧ v < 10 ^ 100 := fun m h0 h1 => ⟨c.fmod m, modI_ok (by omega), Int.fmod_nonneg_of_pos _ h0, by have := Int.fmod_lt_of_pos c h0; omega⟩
  have h3 : ch % 3 = 0 ∨ ch % 3 = 1 ∨ ch % 3 = 2 := by omega
  rcases h3 with e | e | e <;> rw [e]
  · exact key 40 (by decide) (by decide)
  · exact key (10 ^ 6) (by decide) (by decide)
  · exact key (10 ^ 50 * 10 ^ 50) (by decide) (by decide)
theorem div_eq (a b : Int) : m_law_divisor a b = .ok (Int.gcd a b : Int) := by
  have e : m_law_divisor a b = (whileM _ _ ((absI b).toNat + 1) (absI a, absI b)).bind fun s => .ok s.1 := rfl
  rw [e, absI_eq a, absI_eq b]
  simp only [Res.ok_bind]
  rw [cd_loop (fun s => rfl) (fun s h => by simp only [Res.ok_bind, modI_ok h]) _ _ _ (by omega)]
  simp only [Res.ok_bind, Int.gcd, Nat.gcd_comm b.natAbs]
theorem refused_eq (a : Int) : m_law_refused a = .ok true := rfl
theorem integer_eq (a : Int) : m_law_integer a = .ok true := rfl
theorem eq_qq (x y : Rat) : m_Fraction_eq x (.q y) = .ok (decide (x = y)) := by
  show (if decide (x.num = y.num) = true then Res.ok (decide ((x.den : Int) = (y.den : Int))) else .ok false) = _
  by_cases h : x = y
  · subst h; simp
  · rw [decide_eq_false h]
    by_cases h1 : x.num = y.num
    · rw [decide_eq_true h1, if_pos rfl, decide_eq_false]
      intro h2
      exact h (Rat.ext h1 (by exact_mod_cast h2))
    · rw [decide_eq_false h1, if_neg (by decide)]
theorem log_of {x : Int} {n : Nat} (h : x.natAbs < 2 ^ (n + 1)) : x.natAbs.log2 < n + 1 := log2_lt h
theorem p100 : (10 : Nat) ^ 100 < 2 ^ 333 := by decide +kernel
theorem neg_eq (x : Int) (c : Bool) (h : x.natAbs ≤ 10 ^ 100) : ∃ s, (if c = true then Res.ok (-x) else Res.ok x) = .ok s ∧ s.natAbs ≤ 10 ^ 100 ∧ (x ≠ 0 → s ≠ 0) := by
  cases c
  · exact ⟨x, rfl, h, fun h => h⟩
  · exact ⟨-x, rfl, by omega, fun h => by omega⟩
theorem law_ok (ns : List Int) (hl : ns.length ≤ 63) : m_law ns = .ok true := by
  unfold m_law
  simp only [Res.ok_bind, cell_eq _ _ (show (0 : Int) ≤ 0 by decide), cell_eq _ _ (show (0 : Int) ≤ 1 by decide), cell_eq _ _ (show (0 : Int) ≤ 2 by decide), cell_eq _ _ (show (0 : Int) ≤ 3 by decide), cell_eq _ _ (show (0 : Int) ≤ 4 by decide), show powI 10 9 = .ok (10 ^ 9) from rfl, show powI 10 60 = .ok (10 ^ 60) from rfl, modI_ok (show (10 ^ 9 : Int) ≠ 0 by decide)]
  generalize Int.fmod _ _ = ch
  obtain ⟨a, ea, ha0, ha1⟩ := size_eq (ns.getD (Int.toNat 1) 0) ch
  rw [ea, fdivI_ok (show (3 : Int) ≠ 0 by decide) (by decide), fdivI_ok (show (9 : Int) ≠ 0 by decide) (by decide), fdivI_ok (show (27 : Int) ≠ 0 by decide) (by decide), fdivI_ok (show (54 : Int) ≠ 0 by decide) (by decide)]
  simp only [Res.ok_bind]
  obtain ⟨b, eb, hb0, hb1⟩ := size_eq (ns.getD (Int.toNat 2) 0) (ch.fdiv 3)
  obtain ⟨f, ef, hf0, hf1⟩ := size_eq (ns.getD (Int.toNat 3) 0) (ch.fdiv 9)
  rw [eb, ef, modI_ok (show (2 : Int) ≠ 0 by decide), modI_ok (show (2 : Int) ≠ 0 by decide)]
  simp only [Res.ok_bind]
  obtain ⟨s, es, hs, _⟩ := neg_eq a (decide ((ch.fdiv 27).fmod 2 = 1)) (by omega)
  obtain ⟨t, et, ht, ht0⟩ := neg_eq (1 + f) (decide ((ch.fdiv 54).fmod 2 = 1)) (by omega)
  rw [es, et]
  simp only [Res.ok_bind]
  have ht0 := ht0 (by omega)
  have hB : (1 + b) ≠ 0 := by omega
  have q := p100
  have ls : s.natAbs.log2 < 333 := log2_lt (n := 332) (by omega)
  have lt : t.natAbs.log2 < 333 := log2_lt (n := 332) (by omega)
  have lb : (1 + b).natAbs.log2 < 333 := log2_lt (n := 332) (by omega)
  rw [mulI_ok (by omega), mulI_ok (by omega)]
  simp only [Res.ok_bind]
  have hbt : (1 + b) * t ≠ 0 := Int.mul_ne_zero hB ht0
  have hbl : ((1 + b) * t).natAbs.log2 < 9000 := by
    have : ((1 + b) * t).natAbs < 2 ^ 333 * 2 ^ 333 := by
      rw [Int.natAbs_mul]
      exact Nat.mul_lt_mul'' (by omega) (by omega)
    rw [← Nat.pow_add] at this
    have := log2_lt (n := 665) this
    omega
  have e1 : qMk (s * t) ((1 + b) * t) = .ok (Rat.divInt s (1 + b)) := by
    unfold qMk
    rw [if_neg hbt, Res.guard_pos hbl]
    congr 1
    exact (Rat.divInt_eq_divInt_iff hbt hB).mpr (by rw [Int.mul_assoc, Int.mul_comm t])
  have e2 : qMk (-s) (-(1 + b)) = .ok (Rat.divInt s (1 + b)) := by
    unfold qMk
    rw [if_neg (by omega), Res.guard_pos (by rw [Int.natAbs_neg]; omega)]
    congr 1
    exact (Rat.divInt_eq_divInt_iff (by omega) hB).mpr (by rw [Int.neg_mul, Int.mul_neg])
  rw [e1, e2]
  simp only [Res.ok_bind, integer_eq, refused_eq, eq_qq, div_eq]
  have hq : (Rat.divInt s (1 + b)).num * (1 + b) = s * (Rat.divInt s (1 + b)).den := by
    have := Rat.num_divInt_den (Rat.divInt s (1 + b))
    have z : ((Rat.divInt s (1 + b)).den : Int) ≠ 0 := by have := (Rat.divInt s (1 + b)).den_nz; omega
    exact (Rat.divInt_eq_divInt_iff z hB).mp this
  have hden : ¬ (((Rat.divInt s (1 + b)).den : Int) < 1) := by have := (Rat.divInt s (1 + b)).den_nz; omega
  have hco : Int.gcd (Rat.divInt s (1 + b)).num ((Rat.divInt s (1 + b)).den : Int) = 1 := (Rat.divInt s (1 + b)).reduced
  have hln : (Rat.divInt s (1 + b)).num.natAbs.log2 + (1 + b).natAbs.log2 < 1000000 := by
    have : (Rat.divInt s (1 + b)).num.natAbs ≤ s.natAbs := by
      obtain ⟨m, m0, h1, _⟩ := Rat.divInt_num_den hB (show Rat.divInt s (1 + b) = ⟨(Rat.divInt s (1 + b)).num, (Rat.divInt s (1 + b)).den, (Rat.divInt s (1 + b)).den_nz, (Rat.divInt s (1 + b)).reduced⟩ from rfl)
      have h2 : s.natAbs = (Rat.divInt s (1 + b)).num.natAbs * m.natAbs := by rw [← Int.natAbs_mul, ← h1]
      rw [h2]
      exact Nat.le_mul_of_pos_right _ (by omega)
    have := log2_mono this
    omega
  have hld : s.natAbs.log2 + ((Rat.divInt s (1 + b)).den : Int).natAbs.log2 < 1000000 := by
    have : (Rat.divInt s (1 + b)).den ≤ (1 + b).natAbs := by
      rw [Rat.den_divInt, if_neg hB]
      exact Nat.div_le_self _ _
    have := log2_mono this
    rw [Int.natAbs_natCast]
    omega
  rw [mulI_ok hln, mulI_ok hld]
  simp only [Res.ok_bind, hq, hco, hden]
  rw [mulI_ok (by decide +kernel)]
  simp only [Res.ok_bind]
  rw [mulI_ok (by decide +kernel)]
  simp only [Res.ok_bind]
  rw [mulI_ok (by decide +kernel)]
  simp only [Res.ok_bind]
  rw [modI_ok (by decide)]
  simp [qInt]
end L2.Tr

namespace L2.Tr
open PySem PySem.Spec PyProof.Rows He
def fs : List FB := [fGlo "_law_cell", fKeep "_law_cell", fFree "int", fGlo "_law_size", fKeep "_law_size", fGlo "Fraction", fMkr "Fraction", fOcl "Fraction", fNoat "Fraction" "top", fGlo "_law_integer", fKeep "_law_integer", fNoat "Fraction" "bottom", fGlo "_law_divisor", fKeep "_law_divisor", fOMet "Fraction" "__eq__", fNf "Fraction", fGlo "_law_refused", fKeep "_law_refused", fFree "len", fFree "abs", fFree "isinstance", fFree "bool", fKitT "Fraction" "int" false, fKit "Fraction" "Fraction" true, fGlo "TracerError", fKit "BadFraction" "TracerError" true, fExcC "BadFraction", fFree "ValueError", fKitT "BadFraction" "ValueError" true, fExm "BadFraction" "BadFraction" true, fGlo "BadFraction", fGlo "law", fExc "BadFraction", fGlo "common_divisor", fKeep "common_divisor"]
def fnl : List He.DefD := [⟨("_law_cell", none), "_law_cell", "_law_cell", defArgs s_law_cell, defBody s_law_cell, defScope s_law_cell, [], []⟩,
  ⟨("_law_size", none), "_law_size", "_law_size", defArgs s_law_size, defBody s_law_size, defScope s_law_size, [], []⟩,
  ⟨("common_divisor", none), "common_divisor", "common_divisor", defArgs s_common_divisor, defBody s_common_divisor, defScope s_common_divisor, [], []⟩,
  ⟨("_law_integer", none), "_law_integer", "_law_integer", defArgs s_law_integer, defBody s_law_integer, defScope s_law_integer, [], []⟩,
  ⟨("_law_divisor", none), "_law_divisor", "_law_divisor", defArgs s_law_divisor, defBody s_law_divisor, defScope s_law_divisor, [], []⟩,
  ⟨("Fraction", some "__eq__"), "__eq__", "Fraction.__eq__", defArgs s_Fraction_eq, defBody s_Fraction_eq, defScope s_Fraction_eq, [], []⟩,
  ⟨("_law_refused", none), "_law_refused", "_law_refused", defArgs s_law_refused, defBody s_law_refused, defScope s_law_refused, [], []⟩,
  ⟨("law", none), "law", "law", defArgs s_law, defBody s_law, defScope s_law, [], []⟩,
  ⟨("Fraction", some "__init__"), "__init__", "Fraction.__init__", defArgs s_Fraction_init, defBody s_Fraction_init, defScope s_Fraction_init, [.int 1], []⟩]
theorem txt_of {K : PySem.W.Frag} {mg : Str → Option Value} {h : Heap} (KX : K.In h) (G : h.Ns mainGlobals mg) (c : SaysX fs fnl K) : Txt K mg where
  g_law_cell := glo_of KX G (c.fact 0)
  k_law_cell := (c.fact 1)
  n_int := free_of KX G (c.fact 2)
  g_law_size := glo_of KX G (c.fact 3)
  k_law_size := (c.fact 4)
  g_Fraction := glo_of KX G (c.fact 5)
  mk_Fraction := mkr_of (c.fact 6)
  o_Fraction := ocl_of (c.fact 7)
  na_Fraction_top := noat_of (c.fact 8)
  g_law_integer := glo_of KX G (c.fact 9)
  k_law_integer := (c.fact 10)
  na_Fraction_bottom := noat_of (c.fact 11)
  g_law_divisor := glo_of KX G (c.fact 12)
  k_law_divisor := (c.fact 13)
  om_Fraction_eq := omet_of (c.fact 14)
  nf_Fraction := nf_of (c.fact 15)
  g_law_refused := glo_of KX G (c.fact 16)
  k_law_refused := (c.fact 17)
  n_len := free_of KX G (c.fact 18)
  F_law_cell := c.def_ 0
  F_law_size := c.def_ 1
  n_abs := free_of KX G (c.fact 19)
  F_common_divisor := c.def_ 2
  n_isinstance := free_of KX G (c.fact 20)
  n_bool := free_of KX G (c.fact 21)
  F_law_integer := c.def_ 3
  F_law_divisor := c.def_ 4
  kT_Fraction_int := kitT_of (c.fact 22)
  kt_Fraction_Fraction := kit_of' (c.fact 23)
  F_Fraction_eq := c.def_ 5
  g_TracerError := glo_of KX G (c.fact 24)
  kt_BadFraction_TracerError := kit_of' (c.fact 25)
  xc_BadFraction := excC_of (c.fact 26)
  n_ValueError := free_of KX G (c.fact 27)
  kT_BadFraction_ValueError := kitT_of (c.fact 28)
  xm_BadFraction_BadFraction := exm_of (c.fact 29)
  g_BadFraction := glo_of KX G (c.fact 30)
  F_law_refused := c.def_ 6
  F_law := c.def_ 7
  g_law := glo_of KX G (c.fact 31)
  F_Fraction_init := c.def_ 8
  ex_BadFraction := exc_of KX G (c.fact 32)
  g_common_divisor := glo_of KX G (c.fact 33)
  k_common_divisor := (c.fact 34)
theorem all_of {P : Program} {w : World} {K : PySem.W.Frag} {mg : Str → Option Value} {base : Heap} (T : Txt K mg) {fd : FuncData} (F : FunD K "law" "law" (defArgs s_law) (defBody s_law) (defScope s_law) [] [] (He.ga K "law") fd) : FnOk P w K mg base (L2.CX P w) 6 (He.ga K "law") fd ["_law_script"] (spF K (aCons (rdL K (rp rInt)) aNil) (fun d => m_law d.1) (rp rBl)) := by
  have c_law_cell : C_law_cell P w K mg base := fn_law_cell T
  have c_law_size : C_law_size P w K mg base := fn_law_size T
  have c_common_divisor : C_common_divisor P w K mg base := FnR.nice (fn_common_divisor T) nice_common_divisor
  have c_Fraction_2 : C_Fraction_2 P w K mg base := fn_Fraction_2 T c_common_divisor
  have c_law_integer : C_law_integer P w K mg base := fn_law_integer T
  have c_law_divisor : C_law_divisor P w K mg base := fn_law_divisor T
  have c_Fraction_bt : C_Fraction_bt P w K mg base := fn_Fraction_bt T c_common_divisor
  have c_Fraction_eq : C_Fraction_eq P w K mg base := fn_Fraction_eq T
  have c_Fraction_1 : C_Fraction_1 P w K mg base := fn_Fraction_1 T c_common_divisor
  have c_law_refused : C_law_refused P w K mg base := fn_law_refused T c_Fraction_2
  exact fn_law T c_law_cell c_law_size c_Fraction_2 c_law_integer c_law_divisor c_Fraction_bt c_Fraction_eq c_Fraction_1 c_law_refused F
theorem law_end {P : Program} {w : World} {K : PySem.W.Frag} {mg : Str → Option Value} {h : Heap} {fa : Addr} (KX : K.In h) (hmg : mg ("law" : Str) = some (.ref fa)) (T : Txt K mg) :
    ∃ (K : PySem.W.Frag) (fd : FuncData) (sp : Sp), K.In h ∧ (∀ (s : Shared) (u : Value), BindsTo s fd ⟨[u], []⟩ [(("_law_script" : Str), u)]) ∧
        (∀ (H : Hp) (a : Addr) (ns : List Int), ns.length ≤ 63 → Only H → SqL K H a (ns.map V.int) → sp [.ref a] H (fun v _ => v = .bl true) fun _ _ _ => False) ∧
        ∀ base : Heap, K.In base → base.Ns mainGlobals mg → FnOk P w K mg base CX0 6 fa fd ["_law_script"] sp := by
  obtain ⟨fd, F⟩ := T.F_law
  have e := hmg.symm.trans T.g_law
  cases e
  have b := FunD.bindsA (ps := ["_law_script"]) F fun _ _ _ _ _ _ us hl => match us, hl with | [_], _ => rfl
  refine ⟨K, fd, (fun vs H Q _ => spF K (aCons (rdL K (rp rInt)) aNil) (fun d => m_law d.1) (rp rBl) vs H Q fun _ _ _ => False), KX, fun s u => b s [u] rfl, fun H a ns hl _ hS => ⟨fun _ => none, (ns, ()), (fun b o e => nomatch e), ⟨.ref a, [], rfl, ⟨a, ns.map V.int, rfl, hS, paired_ints _ _ ns⟩, rfl⟩, ?_⟩, fun base _ _ => FnOk.no (all_of T F)⟩
  show PostE K (m_law ns) _ _ _ _ _
  rw [law_ok ns hl]
  exact fun I' H' v _ r => r
abbrev RR : PySem.W.OpenRow := PySem.W.OpenLaw.row PySem.Challenge.rw_tracerline_k01_lowest_terms
abbrev hk : PySem.W.Hook := hookX 4 fs fnl
def ob (s : PySem.W.SharedT) : AlX := obsXG 4 fs fnl (HandSHeadRun.getT s)
theorem ob_eq (s : PySem.W.SharedT) : ob s = hk.obs s.abs := obsXG_eq (HandSHeadRun.getT_eq s)
def names : List PySem.Str := ((["_wall", "__name__", "TracerError", "BadFraction", "common_divisor", "Fraction", "_law_cell", "_law_size", "_law_divisor", "_law_integer", "_law_refused"] : List PySem.Str))
set_option maxHeartbeats 0 in
theorem run (w : World) : HandSHeadRun.RunEq RR (PySem.W.view RR.prog [13]) hk ob 20000 names w := by
  intro os
  kernel_rfl
end L2.Tr
open PySem PySem.W PySem.Calls PyProof.Rows
set_option maxHeartbeats 0 in
theorem PySem.Challenge.cw_tracerline_k01_lowest_terms_holds : PySem.Challenge.rw_tracerline_k01_lowest_terms.Holds := by
  w_on; o_law
  refine HandSHeadRun.head_any (r := OpenLaw.row PySem.Challenge.rw_tracerline_k01_lowest_terms) (q := view (OpenLaw.row PySem.Challenge.rw_tracerline_k01_lowest_terms).prog [13]) (H := L2.Tr.hk) (ob := L2.Tr.ob) (M := 20000) (loose := L2.Tr.names) (d := HandSHeadRun.topDef (OpenLaw.row PySem.Challenge.rw_tracerline_k01_lowest_terms).prog 13) (kwd := []) L2.Tr.ob_eq
    (by kernel_rfl) (fun s => by kernel_rfl) L2.Tr.run (by kernel_rfl) (by kernel_rfl) (by kernel_rfl) (by rfl) (by first | assumption | decide +kernel) (by decide +kernel) ⟨rfl, rfl, rfl, rfl, rfl, by decide +kernel⟩ ?hw ?hc
  case hw => w_witness2
  case hc =>
    refine L2.walk_ofE (l := PySem.Challenge.rw_tracerline_k01_lowest_terms) (n := 63) (k := 6) (x := "_law_script") (CX := L2.CX0) rfl (by decide) (by kernel_rfl) ⟨rfl, by decide, by decide⟩ ?F (fun _ _ _ _ z => z)
    intro w mg fa h Y G hmg0
    obtain ⟨K, KX, c⟩ := Y
    have hmg : mg ("law" : PySem.Str) = some (.ref fa) := by
      have e : (HandSHeadRun.topDef (OpenLaw.row PySem.Challenge.rw_tracerline_k01_lowest_terms).prog 13).name = ("law" : PySem.Str) := by kernel_rfl
      rw [← e]
      exact hmg0
    have T := L2.Tr.txt_of KX G c
    exact L2.Tr.law_end (P := (PySem.Challenge.rw_tracerline_k01_lowest_terms).prog) (w := w) KX hmg T

