import PyProof.Rows.All
import Wide.All
import OpenK.AllK
import Wide.FinOn
import HandS.ForMost
import HandS.ForExc
import HandS.More
import HandS.Comp
import HandS.HotCalls
import HandS.ExcCtx
import HandS.TryMany
import HandS.TryOnly
import HandS.Wide
import HandS.Flow
import HandS.Defaults
import HandS.MakeKw
import HandS.CallSlots
import HandS.IsInst
import HandS.ExcIs
import HandS.OwnEq
import HandS.HeadHook1
import KE.KStateDown
import HandS.Head0
import HandS.Head1
import HandS.Head2
import HandS.HeadEnd
import HandS.HeadHook2
import HandS.MakeKwOnly
import OpenK.KOps
import HandS.List
import HandS.Style
import KE.KCallOwn
import HandS.Property
import HandS.ClsMeth
import HandS.GenList
import HandS.ExcInit
import HandS.ExcField
import KE.KExcIs
import HandS.HeadHook3
import Wide.Once
import HandS.NoneIn
import PySem.Challenge.RW_tracerline_k21_lines_as_webs
set_option Elab.async false
set_option linter.all false
set_option maxRecDepth 100000
set_option maxHeartbeats 0
set_option exponentiation.threshold 100000
namespace L2
open PySem PySem.Spec PyProof.Rows HotX L2H
/-! ### loops and comprehensions wherever they stand: nothing is handled, or an exception without a context is -/
/-- nothing is handled, or an exception without a context -/
def Cool (X : Cx) : Prop := X.calm = true ∨ HotC X
section
variable {prog : Program} {w : World} {A : Around} {E : Value → Shared → Prop} {s : Shared}
/-- a list's iterator ends while an exception is handled -/
theorem list_end_hot {it l x1 : Addr} {i : Nat} {items} {Q : Option Value → Shared → Prop} (hot : HotAt A x1 s.heap) (hne : x1 ≠ it) (hit : s.heap.IsListIter it l i) (hl : s.heap.IsList l items) (hx : items[i]? = none)
    (hQ : ∀ h', (∀ b o, b ≠ it → s.heap.get? b = some o → h'.get? b = some o) → Q none { s with heap := h' }) : wpAny (model prog w) A (pyNext (.ref it)) Q E s := by
  obtain ⟨hh, o1, vs1, h1, d1, c1⟩ := hot
  obtain ⟨o, ho, hc, hd⟩ := id hit
  obtain ⟨ol, hol, _, nl, hdl⟩ := hl
  unfold pyNext
  refine wpAny_bind (wpAny_attempt (wpAny_callSpecial?_slot (name := Str.ofString "__next__") hit.typeIs slot_listiter_next (wpAny_call_entry slot_listiter_next hit.typeIs entry_listiter_next ?_ (args_listiter_next _))))
  show wpAny _ _ (field (.ref it) 0 >>= _) _ _ s
  refine wpAny_bind (wpAny_field ho hd (x := .ref l) rfl ?_)
  show wpAny _ _ (if (Value.ref l == Value.none) = true then _ else _) _ _ s
  rw [if_neg (show ¬ ((Value.ref l == Value.none) = true) from Bool.false_ne_true)]
  show wpAny _ _ (field (.ref it) 1 >>= _) _ _ s
  refine wpAny_bind (wpAny_field ho hd (x := .int i 0) rfl ?_)
  show wpAny _ _ (seqItems? (.ref l) >>= _) _ _ s
  refine wpAny_bind (wpAny_seqItems hol hdl ?_)
  simp only [Int.toNat_natCast, hx]
  refine wpAny_bind (wpAny_rule (wpAny_bind (wpAny_setField ho hd (by simp) ?_)))
  show wpAny _ _ (newExc (.type "StopIteration") [] >>= _) _ _ _
  refine wpAny_bind ?_
  simp only [newExc, newTuple]
  refine wpAny_bind (wpAny_newObj_type ?_ (by size_fits))
  refine wpAny_bind (m := firstArgMember _ _) (wpAny_of_eq (a := Value.none) (by first | rfl | (simp only [firstArgMember]; rfl)) ?_)
  refine wpAny_newObj_type ?_ (by size_fits)
  have g0 := (Heap.get?_update_other s.heap (Obj.mapFields (·.setIfInBounds 0 .none)) (Ne.symm hne)).trans h1
  have k1 : ∀ (h : Heap) (q : Obj) {b : Addr} {o : Obj}, h.get? b = some o → (h.push q).get? b = some o := fun h q {b o} e => Heap.get?_push_of_some _ e
  refine raiseNew_hot ⟨hh, o1, vs1, k1 _ _ (k1 _ _ g0), d1, c1⟩ (Nat.ne_of_lt (Heap.lt_size (k1 _ _ g0))) (Heap.get?_push_size _ rfl) rfl (by first | (simp; done) | (simp; omega) | (simp only [Array.size_append]; simp; omega)) ?_
  refine wpAny_bind (wpAny_isInstance (T := "StopIteration") (b := true) ⟨_, Heap.get?_update_self _ (Heap.get?_push_size _ rfl) rfl, rfl⟩ isSubtype_stop ?_)
  refine wpAny_pure (hQ _ fun b o hb e => ?_)
  have e0 := (Heap.get?_update_other s.heap (Obj.mapFields (·.setIfInBounds 0 .none)) (Ne.symm hb)).trans e
  rw [Heap.get?_update_other _ _ (Nat.ne_of_gt (Heap.lt_size (k1 _ _ e0)))]
  exact k1 _ _ (k1 _ _ e0)
/-- a tuple's iterator ends while an exception is handled -/
theorem tuple_end_hot {it l x1 : Addr} {i : Nat} {items} {Q : Option Value → Shared → Prop} (hot : HotAt A x1 s.heap) (hne : x1 ≠ it) (hit : s.heap.IsTupleIter it l i) (hl : s.heap.IsTuple l items) (hx : items[i]? = none)
    (hQ : ∀ h', (∀ b o, b ≠ it → s.heap.get? b = some o → h'.get? b = some o) → Q none { s with heap := h' }) : wpAny (model prog w) A (pyNext (.ref it)) Q E s := by
  obtain ⟨hh, o1, vs1, h1, d1, c1⟩ := hot
  obtain ⟨o, ho, hc, hd⟩ := id hit
  obtain ⟨ol, hol, _, nl, hdl⟩ := hl
  unfold pyNext
  refine wpAny_bind (wpAny_attempt (wpAny_callSpecial?_slot (name := Str.ofString "__next__") hit.typeIs F.slot_tuple_iterator_next (wpAny_call_entry F.slot_tuple_iterator_next hit.typeIs F.entry_tuple_iterator_next ?_ (F.args_tuple_iterator_next_1 _))))
  show wpAny _ _ (field (.ref it) 0 >>= _) _ _ s
  refine wpAny_bind (wpAny_field ho hd (x := .ref l) rfl ?_)
  show wpAny _ _ (if (Value.ref l == Value.none) = true then _ else _) _ _ s
  rw [if_neg (show ¬ ((Value.ref l == Value.none) = true) from Bool.false_ne_true)]
  show wpAny _ _ (field (.ref it) 1 >>= _) _ _ s
  refine wpAny_bind (wpAny_field ho hd (x := .int i 0) rfl ?_)
  show wpAny _ _ (seqItems? (.ref l) >>= _) _ _ s
  refine wpAny_bind (wpAny_seqItems hol hdl ?_)
  simp only [Int.toNat_natCast, hx]
  refine wpAny_bind (wpAny_rule (wpAny_bind (wpAny_setField ho hd (by simp) ?_)))
  show wpAny _ _ (newExc (.type "StopIteration") [] >>= _) _ _ _
  refine wpAny_bind ?_
  simp only [newExc, newTuple]
  refine wpAny_bind (wpAny_newObj_type ?_ (by size_fits))
  refine wpAny_bind (m := firstArgMember _ _) (wpAny_of_eq (a := Value.none) (by first | rfl | (simp only [firstArgMember]; rfl)) ?_)
  refine wpAny_newObj_type ?_ (by size_fits)
  have g0 := (Heap.get?_update_other s.heap (Obj.mapFields (·.setIfInBounds 0 .none)) (Ne.symm hne)).trans h1
  have k1 : ∀ (h : Heap) (q : Obj) {b : Addr} {o : Obj}, h.get? b = some o → (h.push q).get? b = some o := fun h q {b o} e => Heap.get?_push_of_some _ e
  refine raiseNew_hot ⟨hh, o1, vs1, k1 _ _ (k1 _ _ g0), d1, c1⟩ (Nat.ne_of_lt (Heap.lt_size (k1 _ _ g0))) (Heap.get?_push_size _ rfl) rfl (by first | (simp; done) | (simp; omega) | (simp only [Array.size_append]; simp; omega)) ?_
  refine wpAny_bind (wpAny_isInstance (T := "StopIteration") (b := true) ⟨_, Heap.get?_update_self _ (Heap.get?_push_size _ rfl) rfl, rfl⟩ isSubtype_stop ?_)
  refine wpAny_pure (hQ _ fun b o hb e => ?_)
  have e0 := (Heap.get?_update_other s.heap (Obj.mapFields (·.setIfInBounds 0 .none)) (Ne.symm hb)).trans e
  rw [Heap.get?_update_other _ _ (Nat.ne_of_gt (Heap.lt_size (k1 _ _ e0)))]
  exact k1 _ _ (k1 _ _ e0)
end
theorem turn_listH {P : Program} {w : World} {K : PySem.W.Frag} {tg : Expr} (a it : Addr) : TurnH P w K tg (Itl K a) [it] it (fun i h => h.IsListIter it a i) where
  mem := by simp
  obj := (turn_list (P := P) (w := w) (K := K) (tg := tg) a it).obj
  keep := (turn_list (P := P) (w := w) (K := K) (tg := tg) a it).keep
  item := by
    intro X hP hw hK hc i pins s σ H E I hf st hg
    subst hP hw hK
    obtain ⟨xs, x, hq, hx⟩ := hg
    obtain ⟨its, rv, p, hz⟩ := I.list hq
    obtain ⟨u, hu, ru⟩ := rv.get hx
    obtain ⟨f0, f1, f2, f3, f4, f5⟩ := hf it (by simp)
    refine wpAny_pyNext_list_item st p.isList (x := u) (by simpa using hu) fun h' st' sb => ?_
    have J : Inv X pins σ H { s with heap := h' } := I.turned (t' := s.toks) (fun b o hb e => (sb.2 b hb).trans e) f0 f1 f3 f4 f5
    obtain ⟨o, e, c, d⟩ := id st'
    exact ⟨u, rfl, go_of (s := { s with heap := h' }) e c d (by decide) ⟨x, H, J, ru, ⟨rfl, fun ys hy => by rw [I.list_inj hy hq]; exact hx⟩, st', fun b hb => (hf b hb).1⟩⟩
  done := by
    intro X hP hw hK hc i pins s σ H E I hf st hg
    subst hP hw hK
    obtain ⟨xs, hq, hx⟩ := hg
    obtain ⟨its, rv, p, hz⟩ := I.list hq
    obtain ⟨f0, f1, f2, f3, f4, f5⟩ := hf it (by simp)
    have hl := rv.length
    obtain ⟨p1, ⟨hh, v1, e1, c1⟩, hp⟩ := hc
    have hp' := List.mem_append_left pins hp
    exact list_end_hot (x1 := p1.1) ⟨hh, p1.2, v1, (I.pin p1 hp').1, e1, c1⟩ (f5 p1 hp') st p.isList (by simp; omega) fun h' eb => ⟨rfl, I.turned (t' := s.toks) eb f0 f1 f3 f4 f5⟩
  self := (turn_list (P := P) (w := w) (K := K) (tg := tg) a it).self

theorem turn_tupleH {P : Program} {w : World} {K : PySem.W.Frag} {tg : Expr} (a it : Addr) : TurnH P w K tg (Itt K a) [it] it (fun i h => h.IsTupleIter it a i) where
  mem := by simp
  obj := (turn_tuple (P := P) (w := w) (K := K) (tg := tg) a it).obj
  keep := (turn_tuple (P := P) (w := w) (K := K) (tg := tg) a it).keep
  item := by
    intro X hP hw hK hc i pins s σ H E I hf st hg
    subst hP hw hK
    obtain ⟨xs, x, hq, hx⟩ := hg
    obtain ⟨its, rv, p, hz⟩ := I.tuple hq
    obtain ⟨u, hu, ru⟩ := rv.get hx
    obtain ⟨f0, f1, f2, f3, f4, f5⟩ := hf it (by simp)
    refine wpAny_pyNext_tuple_item st (show s.heap.IsTuple a its.toArray from p) (x := u) (by simpa using hu) fun h' st' sb => ?_
    have J : Inv X pins σ H { s with heap := h' } := I.turned (t' := s.toks) (fun b o hb e => (sb.2 b hb).trans e) f0 f1 f3 f4 f5
    obtain ⟨o, e, c, d⟩ := id st'
    exact ⟨u, rfl, go_of (s := { s with heap := h' }) e c d (by decide) ⟨x, H, J, ru, ⟨rfl, fun ys hy => by rw [I.tuple_inj hy hq]; exact hx⟩, st', fun b hb => (hf b hb).1⟩⟩
  done := by
    intro X hP hw hK hc i pins s σ H E I hf st hg
    subst hP hw hK
    obtain ⟨xs, hq, hx⟩ := hg
    obtain ⟨its, rv, p, hz⟩ := I.tuple hq
    obtain ⟨f0, f1, f2, f3, f4, f5⟩ := hf it (by simp)
    have hl := rv.length
    obtain ⟨p1, ⟨hh, v1, e1, c1⟩, hp⟩ := hc
    have hp' := List.mem_append_left pins hp
    exact tuple_end_hot (x1 := p1.1) ⟨hh, p1.2, v1, (I.pin p1 hp').1, e1, c1⟩ (f5 p1 hp') st (show s.heap.IsTuple a its.toArray from p) (by simp; omega) fun h' eb => ⟨rfl, I.turned (t' := s.toks) eb f0 f1 f3 f4 f5⟩
  self := (turn_tuple (P := P) (w := w) (K := K) (tg := tg) a it).self

/-! ### an iterator for both -/
def PIEC (X : Cx) (pins : List (Addr × Obj)) (σ : St) (tg : Expr) (R : It → Hp → Prop) (itv : Value) (s2 : Shared) : Prop :=
  ∃ (it : Addr) (fp : List Addr) (tn : Nat → Heap → Prop) (J : It) (H' : Hp), itv = .ref it ∧ Inv X pins σ H' s2 ∧ (Turn X.prog X.w X.K tg J fp it tn ∧ (X.calm = false → TurnH X.prog X.w X.K tg J fp it tn)) ∧ tn 0 s2.heap ∧ (∀ b ∈ fp, FpOk X pins H' b) ∧ R J H'
structure PIC (X : Cx) (tg iter : Expr) (wi : TI) : Prop where
  run : ∀ (pins : List (Addr × Obj)) (s : Shared) (σ : St) (H : Hp) (R : It → Hp → Prop), Inv X pins σ H s → wi σ H R →
    wpAny (model X.prog X.w) X.A (eval iter X.env) (fun v s1 => wpAny (model X.prog X.w) X.A (pyIter v) (PIEC X pins σ tg R) X.xe s1) X.xe s
section
variable {X : Cx} {tg iter : Expr} {wi : TI}
theorem PIC.calm (h : PIC X tg iter wi) : PI X tg iter wi := ⟨fun pins s σ H R I q => thn (h.run pins s σ H R I q) fun v s1 x => thn x fun u s2 ⟨it, fp, tn, J, H', e, J2, T, st, f, r⟩ => ⟨it, fp, tn, J, H', e, J2, T.1, st, f, r⟩⟩
theorem PIC.hot (h : PIC X tg iter wi) (hc : X.calm = false) : PIH X tg iter wi := ⟨fun pins s σ H R I q => thn (h.run pins s σ H R I q) fun v s1 x => thn x fun u s2 ⟨it, fp, tn, J, H', e, J2, T, st, f, r⟩ => ⟨it, fp, tn, J, H', e, J2, T.2 hc, st, f, r⟩⟩
theorem pi_listC {l : Expr} {tl : TE} (hl : PE X l tl) : PIC X tg l (iList X.K tl) := by
  refine ⟨fun pins s σ H R I h => ?_⟩
  refine thn (hl.run pins s σ H _ I h) fun v s1 ⟨x, H1, I1, r1, q1⟩ => ?_
  obtain ⟨a, e, ⟨xs, hq⟩, q⟩ := q1
  subst e
  cases r1
  obtain ⟨its, rv, p, hz⟩ := I1.list hq
  refine wpAny_pyIter_list p.isList ?_
  refine ⟨s1.heap.objs.size, [s1.heap.objs.size], _, _, H1, rfl, I1.kept (t' := s1.toks) fun b o e => Heap.get?_push_of_some _ e, ⟨turn_list a _, fun _ => turn_listH a _⟩, ⟨_, Heap.get?_push_size _ rfl, rfl, rfl⟩, fun b hb => ?_, q⟩
  have e : b = s1.heap.objs.size := by simpa using hb
  subst e
  exact I1.fpOk (Nat.le_refl _) (I1.hok.fresh (Nat.le_refl _))
theorem pi_tupC {l : Expr} {tl : TE} (hl : PE X l tl) : PIC X tg l (iTup X.K tl) := by
  refine ⟨fun pins s σ H R I h => ?_⟩
  refine thn (hl.run pins s σ H _ I h) fun v s1 ⟨x, H1, I1, r1, q1⟩ => ?_
  obtain ⟨a, e, ⟨xs, hq⟩, q⟩ := q1
  subst e
  cases r1
  obtain ⟨its, rv, p, hz⟩ := I1.tuple hq
  refine wpAny_pyIter_tuple (show s1.heap.IsTuple a its.toArray from p) ?_
  refine ⟨s1.heap.objs.size, [s1.heap.objs.size], _, _, H1, rfl, I1.kept (t' := s1.toks) fun b o e => Heap.get?_push_of_some _ e, ⟨turn_tuple a _, fun _ => turn_tupleH a _⟩, ⟨_, Heap.get?_push_size _ rfl, rfl, rfl⟩, fun b hb => ?_, q⟩
  have e : b = s1.heap.objs.size := by simpa using hb
  subst e
  exact I1.fpOk (Nat.le_refl _) (I1.hok.fresh (Nat.le_refl _))
/-- a range object just made -/
theorem range_itC {pins : List (Addr × Obj)} {σ : St} {H : Hp} {s : Shared} {R : It → Hp → Prop} {E : Value → Shared → Prop} {lo hi : Int} {t u v : Tok} {tk : Nat} (I : Inv X pins σ H s) (h1 : -(2 ^ 62) ≤ lo) (h2 : lo < 2 ^ 62) (h3 : -(2 ^ 62) ≤ hi) (h4 : hi < 2 ^ 62)
    (q : R (Itr lo (hi - lo).toNat) H) : wpAny (model X.prog X.w) X.A (pyIter (.ref s.heap.objs.size)) (PIEC X pins σ tg R) E { s with heap := s.heap.push { cls := .type "range", data := .fields #[.int lo t, .int hi u, .int 1 v] }, toks := tk } := by
  refine wpAny_pyIter_range (IsRange.new ..) (small_one h1 h2 h3 h4) ?_
  have J : Inv X pins σ H { s with heap := s.heap.push { cls := .type "range", data := .fields #[.int lo t, .int hi u, .int 1 v] }, toks := tk } := I.kept fun b o e => Heap.get?_push_of_some _ e
  refine ⟨(s.heap.push { cls := .type "range", data := .fields #[.int lo t, .int hi u, .int 1 v] }).objs.size, [(s.heap.push { cls := .type "range", data := .fields #[.int lo t, .int hi u, .int 1 v] }).objs.size], _, _, H, rfl,
    J.kept (t' := tk) fun b o e => Heap.get?_push_of_some _ e, ⟨turn_range _ lo (hi - lo).toNat, fun _ => turn_rangeH _ lo (hi - lo).toNat⟩, ?_, fun b hb => ?_, q⟩
  · have e1 : lo + ((0 : Nat) : Int) * 1 = lo := by simp
    have e2 : (((hi - lo).toNat : Nat) : Int) - ((0 : Nat) : Int) = Builtin.Range.rangeSize lo hi 1 := by rw [rangeSize_one]; split <;> omega
    show IsRangeIter _ _ (lo + ((0 : Nat) : Int) * 1) ((((hi - lo).toNat : Nat) : Int) - ((0 : Nat) : Int)) 1
    rw [e1, e2]
    exact Heap.get?_push_size _ rfl
  · have e : b = (s.heap.push { cls := .type "range", data := .fields #[.int lo t, .int hi u, .int 1 v] }).objs.size := by simpa using hb
    subst e
    exact J.fpOk (Nat.le_refl _) (J.hok.fresh (Nat.le_refl _))
theorem pi_range1C {a : Expr} {ta : TA} {p pos : Pos} (hg : Gl X "range") (hm : X.mg "range" = none) (ha : PA X [a] ta) (hs : starEach [a] X.env = [(false, eval a X.env)] := by rfl) : PIC X tg (.Call (.Name "range" p) [a] [] pos) (iRng1 ta) := by
  refine ⟨fun pins s σ H R I h => Call_ (ld_blt I hg hm boot_range (PyProof.Rows.callWith_type1 (thn (ha.run pos pins s σ H _ I h) fun us s1 ⟨vs, H1, I1, r1, q1⟩ => ?_) hs rfl))⟩
  obtain ⟨j, e, q1, q2, q⟩ := q1
  subst e
  cases r1 with
  | cons r rr =>
    cases rr
    obtain ⟨t, rfl⟩ := r
    exact call_range_1 (range_itC I1 (by omega) (by omega) q1 q2 (by simpa using q))
theorem HotC.uncalm (h : Cool X) : X.calm = true ∨ (X.calm = false ∧ HotC X) := by
  rcases h with h | h
  · exact .inl h
  · cases e : X.calm with
    | true => exact .inl rfl
    | false => exact .inr ⟨rfl, h⟩
theorem ps_forC {body : List Stmt} {g : TG} {tb : TS} {pos : Pos} (hp : PassesOwn (model X.prog X.w) X.A X.env X.xe) (hc : Cool X) (hi : PIC X tg iter wi) (hg : PG X tg g) (hb : PSs X body tb)
    (hs : ∀ x, foldedSetIterable iter X.env x = pure x := by intro _; rfl) : PS X (.For tg iter body [] pos) (tFor wi g tb) := by
  rcases HotC.uncalm hc with h | ⟨h, h'⟩
  · exact ps_for hp h hi.calm hg hb hs
  · exact ps_forH hp h' (hi.hot h) hg hb hs
/-- a comprehension's block that bears the pins of the code around it -/
abbrev Cx.blkC (X : Cx) (s : Shared) (H : Hp) (scope : Scope) (cenv : Env) (fp : List Addr) : Cx := { X.blk s H scope cenv fp with pn := X.pn }
theorem TurnH.of {P : Program} {w : World} {K : PySem.W.Frag} {J : It} {fp : List Addr} {it : Addr} {tn : Nat → Heap → Prop} (T : Turn P w K tg J fp it tn ∧ (X.calm = false → TurnH P w K tg J fp it tn)) (hc : Cool X) (Y : Cx) (hP : Y.prog = P) (hw : Y.w = w) (hK : Y.K = K) (hy : Y.calm = X.calm) (hA : Y.A = X.A) (hn : Y.pn = X.pn) {i : Nat} {pins : List (Addr × Obj)} {s : Shared} {σ : St} {H : Hp} {E : Value → Shared → Prop} (I : Inv Y pins σ H s) (hf : ∀ b ∈ fp, FpOk Y pins H b) (st : tn i s.heap) :
    (J.stop i H → wpAny (model P w) Y.A (pyNext (.ref it)) (fun r s1 => r = none ∧ Inv Y pins σ H s1) E s) ∧
    (J.go i H → wpAny (model P w) Y.A (pyNext (.ref it)) (fun r s1 => ∃ u, r = some u ∧
      wpAny (model P w) Y.A (letOwnedTupleGo tg (.ref it) u) (fun _ s2 => ∃ x H', Inv Y pins σ H' s2 ∧ RelV x u ∧ J.yld i H x H' ∧ tn (i + 1) s2.heap ∧ ∀ b ∈ fp, H' b = none) E s1) E s) := by
  rcases HotC.uncalm hc with h | ⟨h, h'⟩
  · exact ⟨T.1.done Y hP hw hK (hy.trans h) i pins s σ H E I hf st, T.1.item Y hP hw hK (hy.trans h) i pins s σ H E I hf st⟩
  · have hot : HotC Y := by
      obtain ⟨p, a, b⟩ := h'
      exact ⟨p, by rw [hA]; exact a, by rw [hn]; exact b⟩
    exact ⟨(T.2 h).done Y hP hw hK hot i pins s σ H E I hf st, (T.2 h).item Y hP hw hK hot i pins s σ H E I hf st⟩
theorem lc_coreC {pins : List (Addr × Obj)} {s : Shared} {σ : St} {H : Hp} {Q : VK} {elt : Expr} {ifs : List Expr} {scope : Scope} {own : List (Str × Nat)} {pos pos' : Pos} {g : TG} {tt : TT} {te : TE} {use : Option (Value → Sem Unit)} {Qf : Value → Shared → Prop}
    (hc : Cool X) (hN : X.N.Nodup) (I : Inv X pins σ H s) (hi : PIC X tg iter wi) (ok : BlkOk X.N X.env.scope scope own)
    (hg : ∀ (s : Shared) (H : Hp) (C : Addr) (cl : List (Str × Addr)) (fp : List Addr), PG (X.blkC s H scope (compEnvC scope cl C X.env) fp) tg g) (ht : ∀ (s : Shared) (H : Hp) (C : Addr) (cl : List (Str × Addr)) (fp : List Addr), PTs (X.blkC s H scope (compEnvC scope cl C X.env) fp) ifs tt)
    (he : ∀ (s : Shared) (H : Hp) (C : Addr) (cl : List (Str × Addr)) (fp : List Addr), PE (X.blkC s H scope (compEnvC scope cl C X.env) fp) elt te) (hs : ∀ x, foldedSetIterable iter X.env x = pure x)
    (h : tLc wi g tt te (own.map (·.2)) σ H Q)
    (hRR : ∀ D C s' m H', Inv X pins σ H' s' → Q (.ref D) H' → s'.heap.Ns C m → FpOk X pins H' C → compPost (model X.prog X.w) X.A X.xe use Qf (.ref D) C (.ok .next) s') :
    wpAny (model X.prog X.w) X.A (comprehension (.ListComp elt [⟨tg, iter, ifs, 0⟩] scope pos) scope X.env pos' (newList []) false (eval iter X.env) use) Qf X.xe s := by
  have hfree : ∀ y ∈ scope.names, y.2 = .free → ∃ c, X.env.cells.lookup y.1 = some c := fun y hy e => (ok.free y hy e).elim (fun k => I.ok.has _ (.inl k)) fun k => I.ok.has _ (.inr k)
  refine wpAny_comprehension_free (use := use) rfl hs (closure_ok hfree) ok.kind (fun y hy e => by rw [ok.uniq y hy, e]) (thn (hi.run pins s σ H _ I h) fun xv s1 hx => thn hx fun itv s2 h2 => ?_)
  obtain ⟨it, fp, tn, J, H2, e, I2, T, st2, f2, q⟩ := h2
  subst e
  refine wpAny_newObj_type (newEnv_comp ?_) (by show 0 ≤ sizeLine; decide)
  generalize hD : s2.heap.objs.size = D
  obtain ⟨W, ⟨m0, w0⟩, turn⟩ := q D (I2.hok.fresh (Nat.le_of_eq hD))
  -- the list that grows
  generalize hs3 : ({ s2 with heap := s2.heap.push { cls := .type "list", data := .seq ([] : List Value).toArray } } : Shared) = s3
  have I3 : Inv X pins σ (upd H2 D (.lst [])) s3 := by
    rw [← hs3]
    refine I2.laid (t' := s2.toks) (fun b o e => Heap.get?_push_of_some _ e) (Nat.le_of_eq hD) ⟨Nat.zero_le _, [], 0, .nil, ?_⟩
    rw [← hD]
    exact Heap.get?_push_size _ rfl
  have h3 : s3.heap = s2.heap.push { cls := .type "list", data := .seq ([] : List Value).toArray } := by rw [← hs3]
  have f3 : ∀ b ∈ fp, FpOk X pins (upd H2 D (.lst [])) b ∧ b < s3.heap.objs.size := fun b hb => by
    obtain ⟨o, e, _⟩ := T.1.obj _ _ st2 b hb
    have hlt := Heap.lt_size e
    exact ⟨⟨(upd_ne (by rw [← hD]; exact Nat.ne_of_lt hlt)).trans (f2 b hb).1, (f2 b hb).2⟩, by rw [h3, Heap.size_push]; exact Nat.lt_succ_of_lt hlt⟩
  have st3 : tn 0 s3.heap := T.1.keep _ _ _ st2 fun b _ o e => by rw [h3]; exact Heap.get?_push_of_some _ e
  have I4' := block_start I3 ok hN f3
  have pg := hg s3 (upd H2 D (.lst [])) s3.heap.objs.size (cellsFrom (s3.heap.objs.size + 1) scope.names (cloFrom X.env.cells scope.names [])) fp
  have pt := ht s3 (upd H2 D (.lst [])) s3.heap.objs.size (cellsFrom (s3.heap.objs.size + 1) scope.names (cloFrom X.env.cells scope.names [])) fp
  have pe := he s3 (upd H2 D (.lst [])) s3.heap.objs.size (cellsFrom (s3.heap.objs.size + 1) scope.names (cloFrom X.env.cells scope.names [])) fp
  show codeAny _ _ (.compStart (.ListComp elt [⟨tg, iter, ifs, 0⟩] scope pos) 0 (.ref it) (.ref D) (compEnvC scope (cellsFrom (s3.heap.objs.size + 1) scope.names (cloFrom X.env.cells scope.names [])) s3.heap.objs.size X.env)) (compPost (model X.prog X.w) X.A X.xe use Qf (.ref D) s3.heap.objs.size) { s3 with heap := pushCells (s3.heap.push { cls := .type "dict", data := .dict #[] }) scope.names }
  have nfp : ∀ b ∈ fp, (upd H2 D (.lst [])) b = none := fun b hb => (f3 b hb).1.1
  generalize hce : compEnvC scope (cellsFrom (s3.heap.objs.size + 1) scope.names (cloFrom X.env.cells scope.names [])) s3.heap.objs.size X.env = ce at I4' pg pt pe ⊢
  have cL : ce.locals = s3.heap.objs.size := by subst hce; rfl
  generalize hH3 : upd H2 D (.lst []) = H3 at I3 I4' pg pt pe w0 nfp f3
  have keep4 : ∀ b o, s3.heap.get? b = some o → (pushCells (s3.heap.push { cls := .type "dict", data := .dict #[] }) scope.names).get? b = some o := fun b o e => pushCells_keeps _ _ _ _ (Heap.get?_push_of_some _ e)
  generalize hs4 : ({ s3 with heap := pushCells (s3.heap.push { cls := .type "dict", data := .dict #[] }) scope.names } : Shared) = s4 at I4' ⊢
  have keep4' : ∀ b o, s3.heap.get? b = some o → s4.heap.get? b = some o := by rw [← hs4]; exact keep4
  have I4 : Inv (X.blkC s3 H3 scope ce fp) [] (wipe σ (own.map (·.2))) H3 s4 := by
    refine ⟨⟨I4'.ok.mod, I4'.ok.kind, I4'.ok.glob, I4'.ok.blt, I4'.ok.above, I4'.ok.inj, I4'.ok.has, I4'.ok.cab, I4'.ok.hd, I4'.ok.frames, I4'.ok.stk, I4'.ok.exf, I4'.ok.bs, I4'.ok.bsz, I4'.ok.noex, I4'.ok.exfs, I4'.ok.funs, I4'.ok.frf⟩, I4'.os, I4'.bare, I4'.base, I4'.loc, I4'.cell, I4'.free, I4'.freeC, fun p hp => ?_, I4'.hok, I4'.len⟩
    have hp' : p ∈ X.pn := by simpa using hp
    obtain ⟨e, n, l, f, c⟩ := I3.pin p (List.mem_append_left _ hp')
    exact ⟨keep4' _ _ e, n, fun z => Nat.ne_of_lt (Heap.lt_size e) (z.trans cL), fun hm => (List.mem_cons.mp (I3.stkSub p.1 hm)).elim l f, c⟩
  have st4 : tn 0 s4.heap := T.1.keep _ _ _ st3 fun b _ o e => keep4' b o e
  have stat : ∀ {σ' : St} {H' : Hp} {s' : Shared}, Inv (X.blkC s3 H3 scope ce fp) [] σ' H' s' → (∀ b ∈ fp, H' b = none) → ∀ b ∈ fp, FpOk (X.blkC s3 H3 scope ce fp) [] H' b := fun {σ' H' s'} I' hn b hb =>
    ⟨hn b hb, (I'.ok.exf b hb).1, I'.ok.exfs b hb, .inl hb, fun x c e => (I'.ok.exf b hb).2 x c e, fun p hp => (f3 b hb).1.2.2.2.2.2 p (List.mem_append_left _ (by simpa using hp))⟩
  have loop : codeAny (model X.prog X.w) X.A (.compLoop (.ListComp elt [⟨tg, iter, ifs, 0⟩] scope pos) 0 (.ref it) (.ref D) ce) (compPost (model X.prog X.w) X.A X.xe use Qf (.ref D) s3.heap.objs.size) s4 := by
    refine compLoop_any (fun n s' => ∃ i H', Inv (X.blkC s3 H3 scope ce fp) [] (wipe σ (own.map (·.2))) H' s' ∧ tn i s'.heap ∧ (∀ b ∈ fp, H' b = none) ∧ W i n H') ?_ m0 ⟨0, H3, I4, st4, nfp, w0⟩
    rintro n s5 ⟨i, H5, I5, st5, n5, w5⟩
    have both := TurnH.of (E := fun _ _ => False) T hc (X.blkC s3 H3 scope ce fp) rfl rfl rfl rfl rfl rfl I5 (stat I5 n5) st5
    rcases turn i n H5 w5 with ⟨stop, qq⟩ | ⟨go, Nx, hNx, step⟩
    · refine thnF (both.1 stop) fun r s6 ⟨hr, I6⟩ => ?_
      subst hr
      have nC : H5 s3.heap.objs.size = none := by
        have z : H5 ce.locals = none := I6.free
        rw [cL] at z
        exact z
      obtain ⟨m, hn, _⟩ := I6.loc
      have hn : s6.heap.Ns ce.locals m := hn
      rw [cL] at hn
      exact hRR D s3.heap.objs.size s6 m H5 (I3.call' (ch := fp) I6.os I6.base I6.hok I6.bare fun b hb => ⟨(f3 b hb).1.2.2.2.1, (f3 b hb).1.2.1, (f3 b hb).1.2.2.2.2.1, (f3 b hb).1.2.2.2.2.2⟩) qq hn (I3.fpOk (Nat.le_refl _) nC)
    · refine thnF (both.2 go) fun r s6 ⟨u, hr, h6⟩ => ?_
      subst hr
      refine thnF h6 fun _ s7 ⟨x, H7, I7, r7, y7, st7, n7⟩ => ?_
      refine thnF (pg.run _ s7 _ H7 x u _ (I7.pinned (stat I7 n7) (T.1.obj _ _ st7)) r7 (step x H7 y7)) fun _ s8 ⟨σ8, H8, I8, hw8, q8⟩ => ?_
      refine thnF (pt.run _ s8 σ8 H8 _ I8 q8) fun b s9 ⟨H9, I9, q9⟩ => ?_
      have fin : ∀ {s' : Shared} {H' : Hp}, Inv (X.blkC s3 H3 scope ce fp) ([] ++ pinsAt fp s7.heap) σ8 H' s' → Nx H' → ∃ m, m < n ∧ ∃ i H', Inv (X.blkC s3 H3 scope ce fp) [] (wipe σ (own.map (·.2))) H' s' ∧ tn i s'.heap ∧ (∀ b ∈ fp, H' b = none) ∧ W i m H' := fun {s' H'} I' nx => by
        obtain ⟨m', hm, w'⟩ := hNx H' nx
        have pin' : ∀ b ∈ fp, ∀ o, s7.heap.get? b = some o → s'.heap.get? b = some o ∧ H' b = none := fun b hb o e =>
          let z := I'.pin (b, o) (List.mem_append_right _ (List.mem_append_right _ (mem_pinsAt hb e)))
          ⟨z.1, z.2.1⟩
        refine ⟨m', hm, i + 1, H', (I'.unpinned (pins := [])).weak (by rw [← hw8, wipe_length]) (fun j v e => ?_), T.1.keep _ _ _ st7 fun b hb o e => (pin' b hb o e).1, fun b hb => ?_, w'⟩
        · rw [← hw8] at e
          exact (wipe_some e).1
        · obtain ⟨o, e, _⟩ := T.1.obj _ _ st7 b hb
          exact (pin' b hb o e).2
      cases b with
      | false =>
        simp only [Bool.false_eq_true, if_false] at q9 ⊢
        exact fin I9 q9
      | true =>
        simp only [if_true] at q9 ⊢
        exact thnF (pe.run _ s9 σ8 H9 _ I9 q9) fun z s10 ⟨yv, H10, I10, r10, acc, hD10, hz10, nx⟩ => app_ok (X := X.blkC s3 H3 scope ce fp) I10 hD10 hz10 r10 fun s11 I11 => fin I11 nx
  exact codeAny_compStart_list loop (T.1.self X.A 0 _ _ _ st4 loop)
theorem pe_lcC {elt : Expr} {ifs : List Expr} {scope : Scope} {own : List (Str × Nat)} {pos : Pos} {g : TG} {tt : TT} {te : TE} (hc : Cool X) (hN : X.N.Nodup) (hi : PIC X tg iter wi) (ok : BlkOk X.N X.env.scope scope own)
    (hg : ∀ (s : Shared) (H : Hp) (C : Addr) (cl : List (Str × Addr)) (fp : List Addr), PG (X.blkC s H scope (compEnvC scope cl C X.env) fp) tg g) (ht : ∀ (s : Shared) (H : Hp) (C : Addr) (cl : List (Str × Addr)) (fp : List Addr), PTs (X.blkC s H scope (compEnvC scope cl C X.env) fp) ifs tt)
    (he : ∀ (s : Shared) (H : Hp) (C : Addr) (cl : List (Str × Addr)) (fp : List Addr), PE (X.blkC s H scope (compEnvC scope cl C X.env) fp) elt te) (hs : ∀ x, foldedSetIterable iter X.env x = pure x := by intro _; rfl) :
    PE X (.ListComp elt [⟨tg, iter, ifs, 0⟩] scope pos) (tLc wi g tt te (own.map (·.2))) := by
  refine ⟨fun pins s σ H Q I h => ?_⟩
  rw [eval_ListComp]
  exact lc_coreC hc hN I hi ok hg ht he hs h fun D C s' m H' I' q hn f => ⟨m, hn, fun h'' sb => ⟨.ref D, H', I'.turned (t' := s'.toks) (fun b o hb e => (sb.2 b hb).trans e) f.1 f.2.1 f.2.2.2.1 f.2.2.2.2.1 f.2.2.2.2.2, rfl, q⟩⟩
theorem ps_setLcC {i : Nat} {y : Str} {py : Pos} {elt : Expr} {ifs : List Expr} {scope : Scope} {own : List (Str × Nat)} {pos spos : Pos} {g : TG} {tt : TT} {te : TE} (hc : Cool X) (hN : X.N.Nodup) (hy : X.N[i]? = some y) (hyl : X.env.scope.names.lookup y = some .local)
    (hsw : swapsWith (.ListComp elt [⟨tg, iter, ifs, 0⟩] scope pos) (some (.Name y py)) spos.line X.env = pure true) (hi : PIC X tg iter wi) (ok : BlkOk X.N X.env.scope scope own)
    (hg : ∀ (s : Shared) (H : Hp) (C : Addr) (cl : List (Str × Addr)) (fp : List Addr), PG (X.blkC s H scope (compEnvC scope cl C X.env) fp) tg g) (ht : ∀ (s : Shared) (H : Hp) (C : Addr) (cl : List (Str × Addr)) (fp : List Addr), PTs (X.blkC s H scope (compEnvC scope cl C X.env) fp) ifs tt)
    (he : ∀ (s : Shared) (H : Hp) (C : Addr) (cl : List (Str × Addr)) (fp : List Addr), PE (X.blkC s H scope (compEnvC scope cl C X.env) fp) elt te) (hs : ∀ x, foldedSetIterable iter X.env x = pure x := by intro _; rfl) :
    PS X (.Assign [.Name y py] (.ListComp elt [⟨tg, iter, ifs, 0⟩] scope pos) spos) (tAsg (tLc wi g tt te (own.map (·.2))) (gName i)) := by
  refine ⟨fun pins s σ H D I h => ?_⟩
  rw [exec_Assign_Name_used _ _ _ _ hsw]
  refine wpAny_bind (wpAny_standAt (wpAny_bind ?_))
  show wpAny _ X.A (do let _ ← comprehension (.ListComp elt [⟨tg, iter, ifs, 0⟩] scope pos) scope X.env (firstIterPos [⟨tg, iter, ifs, 0⟩] pos) (newList []) false (eval iter X.env) (some (assign (.Name y py) X.env))) _ _ s
  have h : tLc wi g tt te (own.map (·.2)) σ H (fun x H1 => gName i x σ H1 D.nx) := h
  refine wpAny_bind (thn (lc_coreC (Qf := fun _ s' => SP X pins D .next s') hc hN I hi ok hg ht he hs h fun L C s' m H' I' q hn f => ?_) fun _ s' hq => wpAny_pure (wpAny_pure hq))
  show wpAny _ _ (assign (.Name y py) X.env (.ref L)) _ _ _
  refine wpAny_assign_Name (store_ok2 (v := V.ref L) I' hN hy (.inl hyl) rfl (fun s2 I2 ⟨a, sb, ha⟩ => ?_) (.inr hyl))
  have haC : C ≠ a := ha.elim (fun z => by rw [z]; exact f.2.1) fun z e => f.2.2.2.2.1 y a z e.symm
  exact ⟨m, hn.sameBut sb haC, fun h3 sb3 => ⟨_, H', I2.turned (t' := s2.toks) (fun b o hb e => (sb3.2 b hb).trans e) f.1 f.2.1 f.2.2.2.1 f.2.2.2.2.1 f.2.2.2.2.2, q⟩⟩
end
/-! ### several except clauses, with names or without -/
def unE (i : Nat) (D : Ends) : Ends := ⟨fun σ H => D.nx (σ.set i none) H, D.rt, fun σ H => D.bk (σ.set i none) H, fun σ H => D.ct (σ.set i none) H⟩
def tsAs (i : Nat) (ts : Addr → Value → Option Addr → TS) : Addr → Value → Option Addr → TS := fun a cls d D σ H => ts a cls d (unE i D) (σ.set i (some (.ref a))) H
inductive HdsN (X : Cx) : List ExceptHandler → List (Value × (Addr → Value → Option Addr → TS)) → Prop
  | nil : HdsN X [] []
  | only {x : Str} {c : Value} {ts : Addr → Value → Option Addr → TS} {b₀ : Stmt} {suite : List Stmt} {np pos' : Pos} {hds : List ExceptHandler} {l : List (Value × (Addr → Value → Option Addr → TS))} (hc : Names X x c)
      (hsu : ∀ (a : Addr) (oe : Obj) (cls : Value) (d : Option Addr) (pn : List (Addr × Obj)), L2N.Zn cls d oe → (∃ vs, oe.data = .fields vs) → PSs (X.suite a ((a, oe) :: pn)) (b₀ :: suite) (ts a cls d)) (r : HdsN X hds l) :
      HdsN X (.ExceptHandler (some (.Name x np)) none (b₀ :: suite) pos' :: hds) ((c, ts) :: l)
  | as_ {x n : Str} {i : Nat} {c : Value} {ts : Addr → Value → Option Addr → TS} {b₀ : Stmt} {suite : List Stmt} {np pos' : Pos} {hds : List ExceptHandler} {l : List (Value × (Addr → Value → Option Addr → TS))} (hN : X.N.Nodup) (hi : X.N[i]? = some n) (hln : X.env.kindOf n = some .local) (hc : Names X x c)
      (hsu : ∀ (a : Addr) (oe : Obj) (cls : Value) (d : Option Addr) (pn : List (Addr × Obj)), L2N.Zn cls d oe → (∃ vs, oe.data = .fields vs) → PSs (X.suite a ((a, oe) :: pn)) (b₀ :: suite) (ts a cls d)) (r : HdsN X hds l) :
      HdsN X (.ExceptHandler (some (.Name x np)) (some n) (b₀ :: suite) pos' :: hds) ((c, tsAs i ts) :: l)
section
variable {X : Cx} {body : List Stmt} {h₀ : ExceptHandler} {hds : List ExceptHandler} {l : List (Value × (Addr → Value → Option Addr → TS))} {pos : Pos} {tb : WX → TS} {Wout : WX}
end
end L2

namespace L2.Tr
open PySem PySem.Spec PyProof.Rows

/-! ### wishes: what must hold ahead of a piece of code -/
@[irreducible] def wE (X : Cx) (e : Expr) : TE := fun σ H Q => ∀ (pins : List (Addr × Obj)) (s : Shared), Inv X pins σ H s → wpAny (model X.prog X.w) X.A (eval e X.env) (EP X pins σ Q) X.xe s
theorem wE.mk {X : Cx} {e : Expr} {σ : St} {H : Hp} {Q : VK} (h : ∀ (pins : List (Addr × Obj)) (s : Shared), Inv X pins σ H s → wpAny (model X.prog X.w) X.A (eval e X.env) (EP X pins σ Q) X.xe s) : wE X e σ H Q := by unfold wE; exact h
theorem wE.out {X : Cx} {e : Expr} {σ : St} {H : Hp} {Q : VK} (h : wE X e σ H Q) : ∀ (pins : List (Addr × Obj)) (s : Shared), Inv X pins σ H s → wpAny (model X.prog X.w) X.A (eval e X.env) (EP X pins σ Q) X.xe s := by unfold wE at h; exact h
@[irreducible] def wT (X : Cx) (e : Expr) : TT := fun σ H Q => ∀ (pins : List (Addr × Obj)) (s : Shared), Inv X pins σ H s → wpAny (model X.prog X.w) X.A (isTrue e X.env (eval e X.env)) (TP X pins σ Q) X.xe s
theorem wT.mk {X : Cx} {e : Expr} {σ : St} {H : Hp} {Q : Bool → Hp → Prop} (h : ∀ (pins : List (Addr × Obj)) (s : Shared), Inv X pins σ H s → wpAny (model X.prog X.w) X.A (isTrue e X.env (eval e X.env)) (TP X pins σ Q) X.xe s) : wT X e σ H Q := by unfold wT; exact h
theorem wT.out {X : Cx} {e : Expr} {σ : St} {H : Hp} {Q : Bool → Hp → Prop} (h : wT X e σ H Q) : ∀ (pins : List (Addr × Obj)) (s : Shared), Inv X pins σ H s → wpAny (model X.prog X.w) X.A (isTrue e X.env (eval e X.env)) (TP X pins σ Q) X.xe s := by unfold wT at h; exact h
@[irreducible] def wW (X : Cx) (e : Expr) : TT := fun σ H Q => ∀ (whole : Sem Value) (pins : List (Addr × Obj)) (s : Shared), Inv X pins σ H s → wpAny (model X.prog X.w) X.A (isTrue e X.env whole) (TP X pins σ Q) X.xe s
theorem wW.mk {X : Cx} {e : Expr} {σ : St} {H : Hp} {Q : Bool → Hp → Prop} (h : ∀ (whole : Sem Value) (pins : List (Addr × Obj)) (s : Shared), Inv X pins σ H s → wpAny (model X.prog X.w) X.A (isTrue e X.env whole) (TP X pins σ Q) X.xe s) : wW X e σ H Q := by unfold wW; exact h
theorem wW.out {X : Cx} {e : Expr} {σ : St} {H : Hp} {Q : Bool → Hp → Prop} (h : wW X e σ H Q) : ∀ (whole : Sem Value) (pins : List (Addr × Obj)) (s : Shared), Inv X pins σ H s → wpAny (model X.prog X.w) X.A (isTrue e X.env whole) (TP X pins σ Q) X.xe s := by unfold wW at h; exact h
@[irreducible] def wA (X : Cx) (es : List Expr) : TA := fun σ H Q => ∀ (pos : Pos) (pins : List (Addr × Obj)) (s : Shared), Inv X pins σ H s → wpAny (model X.prog X.w) X.A (spliced (backTo pos (starEach es X.env))) (AP X pins σ Q) X.xe s
theorem wA.mk {X : Cx} {es : List Expr} {σ : St} {H : Hp} {Q : List V → Hp → Prop} (h : ∀ (pos : Pos) (pins : List (Addr × Obj)) (s : Shared), Inv X pins σ H s → wpAny (model X.prog X.w) X.A (spliced (backTo pos (starEach es X.env))) (AP X pins σ Q) X.xe s) : wA X es σ H Q := by unfold wA; exact h
theorem wA.out {X : Cx} {es : List Expr} {σ : St} {H : Hp} {Q : List V → Hp → Prop} (h : wA X es σ H Q) : ∀ (pos : Pos) (pins : List (Addr × Obj)) (s : Shared), Inv X pins σ H s → wpAny (model X.prog X.w) X.A (spliced (backTo pos (starEach es X.env))) (AP X pins σ Q) X.xe s := by unfold wA at h; exact h
@[irreducible] def wS (X : Cx) (st : Stmt) : TS := fun D σ H => ∀ (pins : List (Addr × Obj)) (s : Shared), Inv X pins σ H s → wpAny (model X.prog X.w) X.A (exec st X.env) (SP X pins D) X.xe s
theorem wS.mk {X : Cx} {st : Stmt} {D : Ends} {σ : St} {H : Hp} (h : ∀ (pins : List (Addr × Obj)) (s : Shared), Inv X pins σ H s → wpAny (model X.prog X.w) X.A (exec st X.env) (SP X pins D) X.xe s) : wS X st D σ H := by unfold wS; exact h
theorem wS.out {X : Cx} {st : Stmt} {D : Ends} {σ : St} {H : Hp} (h : wS X st D σ H) : ∀ (pins : List (Addr × Obj)) (s : Shared), Inv X pins σ H s → wpAny (model X.prog X.w) X.A (exec st X.env) (SP X pins D) X.xe s := by unfold wS at h; exact h
@[irreducible] def wB (X : Cx) (st : List Stmt) : TS := fun D σ H => ∀ (pins : List (Addr × Obj)) (s : Shared), Inv X pins σ H s → wpAny (model X.prog X.w) X.A (execs st X.env) (SP X pins D) X.xe s
theorem wB.mk {X : Cx} {st : List Stmt} {D : Ends} {σ : St} {H : Hp} (h : ∀ (pins : List (Addr × Obj)) (s : Shared), Inv X pins σ H s → wpAny (model X.prog X.w) X.A (execs st X.env) (SP X pins D) X.xe s) : wB X st D σ H := by unfold wB; exact h
theorem wB.out {X : Cx} {st : List Stmt} {D : Ends} {σ : St} {H : Hp} (h : wB X st D σ H) : ∀ (pins : List (Addr × Obj)) (s : Shared), Inv X pins σ H s → wpAny (model X.prog X.w) X.A (execs st X.env) (SP X pins D) X.xe s := by unfold wB at h; exact h
def opW (X : Cx) (f : Value → Value → Sem Value) (σ : St) (x y : V) (H : Hp) (Q : VK) : Prop := ∀ (pins : List (Addr × Obj)) (s : Shared) (v u : Value), Inv X pins σ H s → RelV x v → RelV y u → wpAny (model X.prog X.w) X.A (f v u) (EP X pins σ Q) X.xe s
def unW (X : Cx) (f : Value → Sem Value) (σ : St) (x : V) (H : Hp) (Q : VK) : Prop := ∀ (pins : List (Addr × Obj)) (s : Shared) (v : Value), Inv X pins σ H s → RelV x v → wpAny (model X.prog X.w) X.A (f v) (EP X pins σ Q) X.xe s
def callW (X : Cx) (f : Value) (σ : St) (xs : List V) (H : Hp) (Q : VK) : Prop := ∀ (pins : List (Addr × Obj)) (s : Shared) (us : List Value), Inv X pins σ H s → Vals xs us → wpAny (model X.prog X.w) X.A (call f us) (EP X pins σ Q) X.xe s
def truW (X : Cx) (σ : St) (x : V) (H : Hp) (Q : Bool → Hp → Prop) : Prop := ∀ (pins : List (Addr × Obj)) (s : Shared) (v : Value), Inv X pins σ H s → RelV x v → wpAny (model X.prog X.w) X.A (truthy v) (TP X pins σ Q) X.xe s

instance {X : Cx} {e : Expr} {σ : St} {H : Hp} {Q : VK} : CoeFun (wE X e σ H Q) (fun _ => ∀ (pins : List (Addr × Obj)) (s : Shared), Inv X pins σ H s → wpAny (model X.prog X.w) X.A (eval e X.env) (EP X pins σ Q) X.xe s) := ⟨wE.out⟩
instance {X : Cx} {e : Expr} {σ : St} {H : Hp} {Q : Bool → Hp → Prop} : CoeFun (wT X e σ H Q) (fun _ => ∀ (pins : List (Addr × Obj)) (s : Shared), Inv X pins σ H s → wpAny (model X.prog X.w) X.A (isTrue e X.env (eval e X.env)) (TP X pins σ Q) X.xe s) := ⟨wT.out⟩
instance {X : Cx} {e : Expr} {σ : St} {H : Hp} {Q : Bool → Hp → Prop} : CoeFun (wW X e σ H Q) (fun _ => ∀ (whole : Sem Value) (pins : List (Addr × Obj)) (s : Shared), Inv X pins σ H s → wpAny (model X.prog X.w) X.A (isTrue e X.env whole) (TP X pins σ Q) X.xe s) := ⟨wW.out⟩
instance {X : Cx} {es : List Expr} {σ : St} {H : Hp} {Q : List V → Hp → Prop} : CoeFun (wA X es σ H Q) (fun _ => ∀ (pos : Pos) (pins : List (Addr × Obj)) (s : Shared), Inv X pins σ H s → wpAny (model X.prog X.w) X.A (spliced (backTo pos (starEach es X.env))) (AP X pins σ Q) X.xe s) := ⟨wA.out⟩
instance {X : Cx} {st : Stmt} {D : Ends} {σ : St} {H : Hp} : CoeFun (wS X st D σ H) (fun _ => ∀ (pins : List (Addr × Obj)) (s : Shared), Inv X pins σ H s → wpAny (model X.prog X.w) X.A (exec st X.env) (SP X pins D) X.xe s) := ⟨wS.out⟩
instance {X : Cx} {st : List Stmt} {D : Ends} {σ : St} {H : Hp} : CoeFun (wB X st D σ H) (fun _ => ∀ (pins : List (Addr × Obj)) (s : Shared), Inv X pins σ H s → wpAny (model X.prog X.w) X.A (execs st X.env) (SP X pins D) X.xe s) := ⟨wB.out⟩

section
variable {X : Cx} {e a b c o : Expr} {es : List Expr} {st : Stmt} {ss : List Stmt} {σ : St} {H : Hp} {Q : VK} {D : Ends} {x y v : V} {pos pos' : Pos} {n : Str}
theorem pe_W : PE X e (wE X e) := ⟨fun pins s _ _ _ I h => h.out pins s I⟩
theorem pt_W : PT X e (wT X e) := ⟨fun pins s _ _ _ I h => h.out pins s I⟩
theorem pw_W : PW X e (wW X e) := ⟨fun wh pins s _ _ _ I h => h.out wh pins s I⟩
theorem pa_W : PA X es (wA X es) := ⟨fun pos pins s _ _ _ I h => h.out pos pins s I⟩
theorem ps_W : PS X st (wS X st) := ⟨fun pins s _ _ _ I h => h.out pins s I⟩
theorem pss_W : PSs X ss (wB X ss) := ⟨fun pins s _ _ _ I h => h.out pins s I⟩
theorem PE.w {t : TE} (p : PE X e t) (h : t σ H Q) : wE X e σ H Q := wE.mk fun pins s I => p.run pins s σ H Q I h
theorem PT.w {t : TT} {Q : Bool → Hp → Prop} (p : PT X e t) (h : t σ H Q) : wT X e σ H Q := wT.mk fun pins s I => p.run pins s σ H Q I h
theorem PW.w {t : TT} {Q : Bool → Hp → Prop} (p : PW X e t) (h : t σ H Q) : wW X e σ H Q := wW.mk fun wh pins s I => p.run wh pins s σ H Q I h
theorem PA.w {t : TA} {Q : List V → Hp → Prop} (p : PA X es t) (h : t σ H Q) : wA X es σ H Q := wA.mk fun pos pins s I => p.run pos pins s σ H Q I h
theorem PS.w {t : TS} (p : PS X st t) (h : t D σ H) : wS X st D σ H := wS.mk fun pins s I => p.run pins s σ H D I h
theorem PSs.w {t : TS} (p : PSs X ss t) (h : t D σ H) : wB X ss D σ H := wB.mk fun pins s I => p.run pins s σ H D I h
theorem OpR.w {f : Value → Value → Sem Value} {r : R2} (o : OpR X f r) (h : r x y H Q) : opW X f σ x y H Q := fun pins s v u I rx ry => o pins s σ H x y v u Q I rx ry h
theorem UnR.w {f : Value → Sem Value} {r : V → Hp → VK → Prop} (o : UnR X f r) (h : r x H Q) : unW X f σ x H Q := fun pins s v I rx => o pins s σ H x v Q I rx h
theorem CallR.w {f : Value} {r : List V → Hp → VK → Prop} {xs : List V} (o : CallR X f r) (h : r xs H Q) : callW X f σ xs H Q := fun pins s us I rx => o pins s σ H xs us Q I rx h
theorem TruR.w {r : V → Hp → (Bool → Hp → Prop) → Prop} {Q : Bool → Hp → Prop} (o : TruR X r) (h : r x H Q) : truW X σ x H Q := fun pins s v I rx => o pins s σ H x v Q I rx h

/-! ### expressions -/
theorem w_var (i : Nat) (h : Q v H) (hs : σ[i]? = some (some v) := by rfl) (hN : X.N[i]? = some n := by rfl) (hv : Vis X.env.scope n := by first | exact Or.inl rfl | exact Or.inr (Or.inl rfl) | exact Or.inr (Or.inr rfl)) (hd : (n == ("__debug__" : Str)) = false := by decide)
    (hcd : (n == ("__classdict__" : Str)) = false := by decide) : wE X (.Name n pos) σ H Q := PE.w (pe_var hN hv hd hcd) ⟨v, hs, h⟩
theorem w_int {i : Int} {j} (h : Q (.int i) H) : wE X (.Constant (.int i) j pos) σ H Q := PE.w pe_int h
theorem w_bl {i : Bool} {j} (h : Q (.bl i) H) : wE X (.Constant (.bool i) j pos) σ H Q := PE.w pe_bl h
theorem w_str {i : Str} {j} (h : Q (.str i) H) : wE X (.Constant (.str i) j pos) σ H Q := PE.w pe_str h
theorem w_non {j} (h : Q .non H) : wE X (.Constant .none j pos) σ H Q := PE.w pe_non h
theorem w_bin {op : Operator} (h : wE X a σ H fun x H1 => wE X b σ H1 fun y H2 => opW X (binaryOp op) σ x y H2 Q) : wE X (.BinOp a op b pos) σ H Q := wE.mk fun pins s I =>
  wpAny_BinOp (thn (h.out pins s I) fun v s1 ⟨x, H1, I1, r1, q1⟩ => thn (q1.out pins s1 I1) fun u s2 ⟨y, H2, I2, r2, q2⟩ => q2 pins s2 v u I2 r1 r2)
theorem w_un {op : UnaryOp} (h : wE X a σ H fun x H1 => unW X (unaryOp op) σ x H1 Q) : wE X (.UnaryOp op a pos) σ H Q := wE.mk fun pins s I =>
  UnaryOp_ (thn (h.out pins s I) fun v s1 ⟨x, H1, I1, r1, q1⟩ => q1 pins s1 v I1 r1)
theorem w_cmp {op : CmpOp} (h : wE X a σ H fun x H1 => wE X b σ H1 fun y H2 => opW X (compareOp op) σ x y H2 Q) (hm : behindInMarks op b = false := by first | exact nomark _ | rfl) : wE X (.Compare a [op] [b] pos) σ H Q := wE.mk fun pins s I =>
  wpAny_Compare1 (thn (h.out pins s I) fun v s1 ⟨x, H1, I1, r1, q1⟩ => thn (q1.out pins s1 I1) fun u s2 ⟨y, H2, I2, r2, q2⟩ => q2 pins s2 v u I2 r1 r2) hm
/-- a test that is a comparison -/
theorem w_tcmp {op : CmpOp} {Q : Bool → Hp → Prop} (h : wE X a σ H fun x H1 => wE X b σ H1 fun y H2 => opW X (compareOp op) σ x y H2 fun z H3 => truW X σ z H3 Q) (hm : behindInMarks op b = false := by first | exact nomark _ | rfl) : wT X (.Compare a [op] [b] pos) σ H Q := wT.mk fun pins s I =>
  wpAny_isTrue_Compare1 (thn (h.out pins s I) fun v s1 ⟨x, H1, I1, r1, q1⟩ => thn (q1.out pins s1 I1) fun u s2 ⟨y, H2, I2, r2, q2⟩ => thn (q2 pins s2 v u I2 r1 r2) fun c s3 ⟨z, H3, I3, r3, q3⟩ => q3 pins s3 c I3 r3) hm
/-- a test of a plain form -/
theorem w_t {Q : Bool → Hp → Prop} (h : wE X e σ H fun x H1 => truW X σ x H1 Q) (he : ∀ whole, isTrue e X.env whole = (do let v ← whole; standAt e.pos; holding [v] (truthy v)) := by intro _; rfl) : wT X e σ H Q := wT.mk fun pins s I =>
  isTrue_plain (thn (h.out pins s I) fun v s1 ⟨x, H1, I1, r1, q1⟩ => q1 pins s1 v I1 r1) (he _)
theorem tru_bl {k : Bool} {Q : Bool → Hp → Prop} (h : Q k H) : truW X σ (.bl k) H Q := fun pins s v I r => by
  cases (show v = Value.bool k from r)
  exact wpAny_truthy_bool ⟨H, I, h⟩
theorem w_not {Q : Bool → Hp → Prop} (h : wT X a σ H fun k H1 => Q (!k) H1) : wT X (.UnaryOp .Not a pos) σ H Q := PT.w (pt_not pt_W) h
/-- not as a value -/
theorem w_notV (h : wE X a σ H fun x H1 => ∃ k, x = .bl k ∧ Q (.bl (!k)) H1) : wE X (.UnaryOp .Not a pos) σ H Q := PE.w (pe_not pe_W) h
/-! ### and, or as tests -/
theorem w_tbool {Q : Bool → Hp → Prop} {op} (h : wW X (.BoolOp op es pos) σ H Q) : wT X (.BoolOp op es pos) σ H Q := wT.mk fun pins s I => h.out _ pins s I
theorem w_and1 {Q : Bool → Hp → Prop} (h : wT X a σ H Q) : wW X (.BoolOp .And [a] pos) σ H Q := PW.w (pw_and1 pt_W) h
theorem w_or1 {Q : Bool → Hp → Prop} (h : wT X a σ H Q) : wW X (.BoolOp .Or [a] pos) σ H Q := PW.w (pw_or1 pt_W) h
theorem w_and {bs : List Expr} {Q : Bool → Hp → Prop} (h : wT X a σ H fun k H1 => if k = true then wW X (.BoolOp .And (b :: bs) pos) σ H1 Q else Q false H1) : wW X (.BoolOp .And (a :: b :: bs) pos) σ H Q := PW.w (pw_and pt_W pw_W) h
theorem w_or {bs : List Expr} {Q : Bool → Hp → Prop} (h : wT X a σ H fun k H1 => if k = true then Q true H1 else wW X (.BoolOp .Or (b :: bs) pos) σ H1 Q) : wW X (.BoolOp .Or (a :: b :: bs) pos) σ H Q := PW.w (pw_or pt_W pw_W) h
/-! ### and, or as values (bools) -/
theorem w_oneV {op} (h : wE X a σ H Q) : wE X (.BoolOp op [a] pos) σ H Q := PE.w (pe_one pe_W) h
theorem w_andV {bs : List Expr} (h : wE X a σ H fun x H1 => ∃ k, x = .bl k ∧ if k = true then wE X (.BoolOp .And (b :: bs) pos) σ H1 Q else Q (.bl false) H1) : wE X (.BoolOp .And (a :: b :: bs) pos) σ H Q := PE.w (pe_and pe_W pe_W) h
theorem w_orV {bs : List Expr} (h : wE X a σ H fun x H1 => ∃ k, x = .bl k ∧ if k = true then Q (.bl true) H1 else wE X (.BoolOp .Or (b :: bs) pos) σ H1 Q) : wE X (.BoolOp .Or (a :: b :: bs) pos) σ H Q := PE.w (pe_or pe_W pe_W) h
/-! ### arguments, displays, calls -/
theorem w_nil {Q : List V → Hp → Prop} (h : Q [] H) : wA X [] σ H Q := PA.w pa_nil h
theorem w_cons {Q : List V → Hp → Prop} (h : wE X e σ H fun x H1 => wA X es σ H1 fun xs H2 => Q (x :: xs) H2) (hs : starEach (e :: es) X.env = (false, eval e X.env) :: starEach es X.env := by rfl) : wA X (e :: es) σ H Q := PA.w (pa_cons pe_W pa_W hs) h
theorem w_lst (h : wA X es σ H fun xs H1 => xs.length ≤ sizeLine ∧ ∀ p, H1 p = none → Q (.ref p) (upd H1 p (.lst xs))) : wE X (.List es pos) σ H Q := PE.w (pe_lst pa_W) h
theorem w_tup {x1} (h : wA X es σ H fun xs H1 => xs.length ≤ sizeLine ∧ ∀ p, H1 p = none → Q (.ref p) (upd H1 p (.tup xs))) : wE X (.Tuple es x1 pos) σ H Q := PE.w (pe_tup pa_W) h
theorem w_callB {id : String} (h : wA X (e :: es) σ H fun vs H1 => callW X (.builtin id) σ vs H1 Q) (hm : X.mg n = none) (hv : bootBuiltins n = some (.builtin id)) (hg : Gl X n := by rfl) (hn : n ≠ "__name__" := by decide) (hdb : (n == ("__debug__" : Str)) = false := by decide)
    (he : starEach (e :: es) X.env = (false, eval e X.env) :: starEach es X.env := by rfl) (hpl : (backTo pos (starEach es X.env)).any (·.1) = false := by rfl) : wE X (.Call (.Name n pos') (e :: es) [] pos) σ H Q := wE.mk fun pins s I =>
  wpAny_Call_Name_kw (ld_blt I hg hm hv (PyProof.Rows.callWith_builtin1 (thn (h.out pos pins s I) fun us s1 ⟨vs, H1, I1, r1, q1⟩ => q1 pins s1 us I1 r1) he hpl) hn hdb)
theorem w_callTy {T : String} (h : wA X (e :: es) σ H fun vs H1 => callW X (.type T) σ vs H1 Q) (hm : X.mg n = none) (hv : bootBuiltins n = some (.type T)) (hg : Gl X n := by rfl) (hn : n ≠ "__name__" := by decide) (hdb : (n == ("__debug__" : Str)) = false := by decide)
    (he : starEach (e :: es) X.env = (false, eval e X.env) :: starEach es X.env := by rfl) (hpl : (backTo pos (starEach es X.env)).any (·.1) = false := by rfl) : wE X (.Call (.Name n pos') (e :: es) [] pos) σ H Q := wE.mk fun pins s I =>
  wpAny_Call_Name_kw (ld_blt I hg hm hv (PyProof.Rows.callWith_type1 (thn (h.out pos pins s I) fun us s1 ⟨vs, H1, I1, r1, q1⟩ => q1 pins s1 us I1 r1) he hpl) hn hdb)
theorem w_bltn {u : Value} (h : Q v H) (hm : X.mg n = none) (hv : bootBuiltins n = some u) (r : RelV v u) (hg : Gl X n := by rfl) (hn : n ≠ "__name__" := by decide) (hd : (n == ("__debug__" : Str)) = false := by decide) : wE X (.Name n pos) σ H Q := PE.w (pe_bltn hg hm hv r hn hd) h
theorem w_glob {u : Value} (h : Q v H) (hm : X.mg n = some u) (r : RelV v u) (hg : Gl X n := by rfl) (hd : (n == ("__debug__" : Str)) = false := by decide) : wE X (.Name n pos) σ H Q := PE.w (pe_glob hg hm r hd) h

/-- the callee runs (a def, a class, a method with its self), the wish at these slots -/
theorem run_W {k : Nat} {f : Addr} {sp : Sp} {W : WX} {vs : List V} (F : FnR X.prog X.w X.K X.mg X.base (L2N.CX X.prog X.w) k f sp) (hr : Room k X.A) (tk : L2N.Takes X W) (h : sp vs H Q fun cls d H' => W cls d σ H') : callW X (.ref f) σ vs H Q := fun pins s us I r => by
  refine wpAny_call (codeAny_mono (F X.A X.stack s H us vs Q _ hr I.env0 r h) fun r s' hq => ?_)
  cases r with
  | error e => exact L2N.passAt tk σ pins H s e s' I hq
  | ok fl =>
    cases fl with
    | ret u => exact I.after hq
    | next => exact False.elim hq
    | brk => exact False.elim hq
    | cont => exact False.elim hq
/-- f(e, ..), C(e, ..) by a global name -/
theorem w_call {f : Addr} (h : wA X (e :: es) σ H fun vs H1 => callW X (.ref f) σ vs H1 Q) (hm : X.mg n = some (.ref f)) (hk : PySem.W.keepIn X.K (.ref f) = true) (hg : Gl X n := by rfl) (hdb : (n == ("__debug__" : Str)) = false := by decide)
    (he : starEach (e :: es) X.env = (false, eval e X.env) :: starEach es X.env := by rfl) (hpl : (backTo pos (starEach es X.env)).any (·.1) = false := by rfl) : wE X (.Call (.Name n pos') (e :: es) [] pos) σ H Q := wE.mk fun pins s I =>
  wpAny_Call_Name_kw (ld_glob I hg hm (PySem.W.callWith_K (h₀ := X.base) I.ok.mod.kin hk (thn (h.out pos pins s I) fun us s1 ⟨vs, H1, I1, r, q⟩ => ⟨I1.kIn, q pins s1 us I1 r⟩) he hpl) hdb)
/-- o.m(e, ..) -/
theorem w_meth {pl : Sem Bool} {m : Str} {C f : Addr} {apos : Pos} (h : wE X o σ H fun x H1 => ∃ a dx fs, x = .ref a ∧ H1 a = some (.ins C dx fs) ∧ fs.lookup m = none ∧ wA X (e :: es) σ H1 fun vs H2 => callW X (.ref f) σ (x :: vs) H2 Q) (c : Cls X.K C) (hm : Meth X.K C m f)
    (hst : starEach (e :: es) X.env = (false, eval e X.env) :: starEach es X.env := by rfl) (hpl : (backTo pos (starEach es X.env)).any (·.1) = false := by rfl)
    (ht : eval (.Call (.Attribute o m apos) (e :: es) [] pos) X.env = (do
      let ov ← eval o X.env
      standAt apos.atName
      let (f, first) ← holding [ov] (getMethod ov m pl)
      callWith pos f first (backTo pos (starEach (e :: es) X.env)) (backToKw pos (keywordEach [] X.env))) := by rfl) : wE X (.Call (.Attribute o m apos) (e :: es) [] pos) σ H Q := wE.mk fun pins s I => by
  refine PySem.W.methodCall_KW (pl := pl) (thn (h.out pins s I) fun u s1 ⟨x, H1, I1, rx, a, dx, fs, ex, ea, l, q⟩ => ?_) ht
  subst ex
  obtain rfl : u = Value.ref a := rx
  refine getmeth_ok I1 ea c hm l ?_
  exact PySem.W.callWith_K (first := [.ref a]) (h₀ := X.base) I.ok.mod.kin hm.kp (thn (q.out pos pins s1 I1) fun us s2 ⟨vs, H2, I2, r, q2⟩ => ⟨I2.kIn, q2 pins s2 (.ref a :: us) I2 (.cons rfl r)⟩) hst hpl
theorem w_meth0 {pl : Sem Bool} {m : Str} {C f : Addr} {apos : Pos} (h : wE X o σ H fun x H1 => ∃ a dx fs, x = .ref a ∧ H1 a = some (.ins C dx fs) ∧ fs.lookup m = none ∧ callW X (.ref f) σ [x] H1 Q) (c : Cls X.K C) (hm : Meth X.K C m f)
    (ht : eval (.Call (.Attribute o m apos) [] [] pos) X.env = (do
      let ov ← eval o X.env
      standAt apos.atName
      let (f, first) ← holding [ov] (getMethod ov m pl)
      callWith pos f first (backTo pos (starEach [] X.env)) (backToKw pos (keywordEach [] X.env))) := by rfl) : wE X (.Call (.Attribute o m apos) [] [] pos) σ H Q := wE.mk fun pins s I => by
  refine PySem.W.methodCall_KW (pl := pl) (thn (h.out pins s I) fun u s1 ⟨x, H1, I1, rx, a, dx, fs, ex, ea, l, q⟩ => ?_) ht
  subst ex
  obtain rfl : u = Value.ref a := rx
  refine getmeth_ok I1 ea c hm l ?_
  exact PySem.W.callWith_K0 (first := [.ref a]) I1.kIn hm.kp (q pins s1 [.ref a] I1 (.cons rfl .nil))
/-- o.f -/
theorem w_fld {f : Str} (h : wE X o σ H fun x H1 => ∃ a C dx fs v, x = .ref a ∧ H1 a = some (.ins C dx fs) ∧ Cls X.K C ∧ NoAttr X.K C f ∧ fs.lookup f = some v ∧ Q v H1) (hb : attributeBase o f X.env (eval o X.env) = eval o X.env := by rfl) : wE X (.Attribute o f pos) σ H Q := PE.w (pe_fld pe_W hb) h

/-! ### statements -/
theorem b_nil (h : D.nx σ H) : wB X [] D σ H := PSs.w pss_nil h
theorem b_cons (h : wS X st { D with nx := fun σ' H' => wB X ss D σ' H' } σ H) : wB X (st :: ss) D σ H := PSs.w (pss_cons ps_W pss_W) h
theorem s_ret (h : wE X e σ H D.rt) : wS X (.Return (some e) pos) D σ H := PS.w (ps_ret pe_W) h
theorem s_expr (h : wE X e σ H fun _ H1 => D.nx σ H1) (hs : swapsWith e none pos.line X.env = pure false := by rfl) : wS X (.Expr e pos) D σ H := PS.w (ps_expr pe_W hs) h
theorem s_if {s1 s2 : List Stmt} (h : wT X c σ H fun k H1 => if k = true then wB X s1 D σ H1 else wB X s2 D σ H1) : wS X (.If c s1 s2 pos) D σ H := PS.w (ps_if pt_W pss_W pss_W) h
theorem s_set (i : Nat) (h : wE X e σ H fun x H1 => D.nx (σ.set i (some x)) H1) (hN : X.N.Nodup) (hi : X.N[i]? = some n := by rfl) (hx : Loc X.env.scope n := by first | exact Or.inl rfl | exact Or.inr rfl) (hs : swapsWith e (some (.Name n pos')) pos.line X.env = pure false := by rfl) (hf : X.fn n = true ∨ X.env.scope.names.lookup n = some .local := by first | exact .inl rfl | exact .inr rfl | assumption) :
    wS X (.Assign [.Name n pos'] e pos) D σ H := PS.w (ps_set hN hi hx pe_W hs hf) h
/-- o.f = e -/
theorem s_fld {f : Str} (h : wE X e σ H fun y H1 => wE X o σ H1 fun x H2 => ∃ a C dx fs, x = .ref a ∧ H2 a = some (.ins C dx fs) ∧ Cls X.K C ∧ NoAttr X.K C f ∧ fs.length < 1000 ∧ D.nx σ (upd H2 a (.ins C dx (putF f y fs))))
    (hs : swapsWith e (some (.Attribute o f pos')) pos.line X.env = pure false := by rfl) : wS X (.Assign [.Attribute o f pos'] e pos) D σ H := PS.w (ps_fld pe_W pe_W hs) h
theorem s_raise {W : WX} {t : L2.St → Hp → XK → Prop} (hc : X.calm = true) (tk : L2N.Takes X W) (he : L2N.PMk X e t) (h : t σ H fun cls d H' => W cls d σ H') : wS X (.Raise (some e) none pos) D σ H := PS.w (L2N.ps_raise hc tk he) h
theorem b_mono {D' : Ends} (h : wB X ss D σ H) (h1 : ∀ σ' H', D.nx σ' H' → D'.nx σ' H') (h2 : ∀ v H', D.rt v H' → D'.rt v H') (h3 : ∀ σ' H', D.bk σ' H' → D'.bk σ' H') (h4 : ∀ σ' H', D.ct σ' H' → D'.ct σ' H') : wB X ss D' σ H := wB.mk fun pins s I =>
  thn (h.out pins s I) fun f s' q => by
    cases f with
    | next => obtain ⟨a, b, c, d⟩ := q; exact ⟨a, b, c, h1 _ _ d⟩
    | brk => obtain ⟨a, b, c, d⟩ := q; exact ⟨a, b, c, h3 _ _ d⟩
    | cont => obtain ⟨a, b, c, d⟩ := q; exact ⟨a, b, c, h4 _ _ d⟩
    | ret u => obtain ⟨v, a, b, c, r, d⟩ := q; exact ⟨v, a, b, c, r, h2 _ _ d⟩
end
end L2.Tr

/-! operators of own classes -/
namespace PySem.W
open PySem PySem.Calls PyProof.Rows
section
variable {prog : Program} {w : World} {A : Around} {E : Value → Shared → Prop} {s : Shared} {K : Frag} {x C dx L f : Addr} {h₀ : Heap} {m : Str → Option Value} {ox : Obj} {od : Option Obj} {nm : String}
/-- int's own slot declines an instance -/
theorem tr_decl {name : Str} {sl id : String} {g : Int → Int → Sem Fin} {i : Int} {t : Tok} {Q : Value → Shared → Prop} (slot : Slot "int" name id) (entry : entryFor table id = some (Builtin.Int.intBinary sl g)) (args : ∀ a b, argsOk id ⟨[a, b], []⟩)
    (I : s.heap.get? x = some (instObj C dx)) (h : Q .notImplemented s) : wpAny (model prog w) A (call (.builtin id) [.int i t, .ref x]) Q E s := by
  refine GQ.call_here slot (typeIs_int s i t) entry (args _ _) ?_
  unfold Builtin.Int.intBinary slotArgs Builtin.Int.intOfSelf
  simp only [List.isEmpty_nil, Bool.not_true, Bool.false_eq_true, if_false, List.length_cons, List.length_nil, bne_self_eq_false, pure_bind, asInt?, List.headD_cons]
  refine wpAny_bind (wpAny_bind (wpAny_load I (wpAny_pure ?_)))
  obtain ⟨hp, g, d, tk, os⟩ := s
  wp_walk
  exact h
/-- n op x, n an int, x an instance whose class has the reflected method -/
theorem tr_binR {op : Operator} {sl id : String} {g : Int → Int → Sem Fin} {i : Int} {t : Tok} {fo : Value} {Q : Value → Shared → Prop} (X : K.In s.heap) (I : InstAt s.heap x (instObj C dx) C od) (hc : selfFirst K C = true)
    (hs : findIn K (.ref C) (PySem.dunder op.info.2) = some (some (.ref f))) (hr : findIn K (.ref C) (dunderR op.info.2) = some (some (.ref L))) (hf : isFn K (.ref L) = true)
    (fills : fillsNumberSlot (.type "int") op.info.2 = pure true) (hsub : subIn K (.ref C) (.type "int") = some false)
    (slot : Slot "int" (PySem.dunder op.info.2) id) (entry : entryFor table id = some (Builtin.Int.intBinary sl g)) (args : ∀ a b, argsOk id ⟨[a, b], []⟩)
    (h : wpAny (model prog w) A (call (.ref L) [.ref x, .int i t]) (CmpBack Q) E s) : wpAny (model prog w) A (binaryOp op (.int i t) (.ref x)) Q E s := by
  obtain ⟨cd, rest, hcd, hm⟩ := ksp_first hc
  rcases hi : op.info with ⟨sym, nm'⟩
  rw [hi] at hs hr fills slot
  dsimp only at hs hr fills slot
  have two := ksp_try X I hr hf h
  have one : ∀ {Q : Option Value → Shared → Prop}, Q none s → wpAny (model prog w) A (tryMethod (.int i t) (PySem.dunder nm') (.ref x)) Q E s := fun q =>
    wpAny_tryMethod_declines (typeIs_int s i t) slot (tr_decl slot entry args I.at_ ⟨rfl, q⟩)
  obtain ⟨hh, g', d, tt, os⟩ := s
  have L1 : Looks (model prog w) hh (typeOf (.int i t)) (.type "int") := Looks.of_pure rfl
  have L2 : Looks (model prog w) hh (typeOf (.ref x)) (.ref C) := I.type
  have L3 : Looks (model prog w) hh (fillsNumberSlot (.type "int") nm') true := Looks.of_pure fills
  have L4 : Looks (model prog w) hh (fillsNumberSlot (.ref C) nm') true := fills_K X hcd hm hs
  have L5 : Looks (model prog w) hh (isSubtype (.ref C) (.type "int")) false := looks_subIn X hsub
  have L6 : Looks (model prog w) hh (numberSlotInPython (.type "int") nm') false := Looks.of_pure rfl
  have hne : (Value.type "int" == Value.ref C) = false := Bool.eq_false_iff.mpr fun q => by cases beq_iff_eq.mp q
  simp only [binaryOp, hi]
  refine wpAny_holding (wpAny_bind ?_)
  unfold binaryOp1
  refine wpAny_bind (L1.at (wpAny_bind (L2.at (wpAny_bind (L3.at ?_)))))
  simp only [hne, Bool.false_eq_true, if_false]
  ksp_lk
  refine one ?_
  ksp_lk
  refine wpAny_mono two (fun r s' hr' => ?_) fun _ _ e => e
  obtain ⟨v, rfl, hq⟩ := hr'
  ksp_lk
  exact hq
/-- object.__ne__ of an instance whose class has its own __eq__ -/
theorem tr_objNe {b : Value} {Q : Value → Shared → Prop} (hu : A.in1.units < cLine) (X : K.In s.heap) (I : InstAt s.heap x ox C od) (hm : mroIn K C (.type "object") = some true) (hr : findIn K (.ref C) "__eq__" = some (some (.ref f))) (hf : isFn K (.ref f) = true)
    (h : wpAny (model prog w) A.in1 (call (.ref f) [.ref x, b]) (fun v s' => ∃ k, v = .bool k ∧ Q (.bool (!k)) s') E s) : wpAny (model prog w) A (call (.builtin "object.__ne__") [.ref x, b]) Q E s := by
  refine wpAny_call (codeAny_call_builtin F.cmp_object.ne.plain F.cmpEntry_ne (check_slot (i := "object.__ne__") (owner := "object") (n := "__ne__") F.cmpKind_ne F.cmpSplit_ne (I.type.andThen (looks_mroIn X hm)) (F.cmpArgs_ne _ _) ?_))
  unfold Builtin.«object.__ne__»
  refine wpAny_bind (m := slotArgs "__ne__" 1 _) (wpAny_pure ?_)
  refine wpAny_bind (m := cRoomFor _ _) (wpAny_cRoomFor hu ?_)
  refine wpAny_bind (m := callSpecialIfBound? (.ref x) (Str.ofString "__eq__") _) (ifBound_K X I hr hf (wpAny_mono h (fun r s' hq => ?_) fun _ _ y => y))
  obtain ⟨k, rfl, hq⟩ := hq
  refine wpAny_bind (m := truthy (.bool k)) (wpAny_truthy_bool ?_)
  exact wpAny_pure hq
theorem tr_tryNe {b : Value} {Q : Option Value → Shared → Prop} (hu : A.in1.units < cLine) (X : K.In s.heap) (I : InstAt s.heap x ox C od) (hm : mroIn K C (.type "object") = some true) (hn : findIn K (.ref C) "__ne__" = some (some (.builtin "object.__ne__"))) (hr : findIn K (.ref C) "__eq__" = some (some (.ref f))) (hf : isFn K (.ref f) = true)
    (h : wpAny (model prog w) A.in1 (call (.ref f) [.ref x, b]) (fun v s' => ∃ k, v = .bool k ∧ Q (some (.bool (!k))) s') E s) : wpAny (model prog w) A (tryCompare (.ref x) "__ne__" b) Q E s := by
  unfold tryCompare
  simp only [callSpecialIfBound?, bindSpecialIfBound?]
  refine wpAny_bind (wpAny_holding (wpAny_bind (wpAny_bind (wpAny_bind (I.type.here ((looks_findIn X hn).here ?_))))))
  refine wpAny_bind (wpAny_askSetting (wpAny_ite ?_))
  have fin : wpAny (model prog w) A (call (.builtin "object.__ne__") ([.ref x] ++ [b]) >>= fun v => pure (some v)) (fun a s' => wpAny (model prog w) A (match a with | some .notImplemented => pure none | none => pure none | some v => pure (some v)) Q E s') E s :=
    wpAny_bind (tr_objNe hu X I hm hr hf (wpAny_mono h (fun v s' ⟨k, e, q⟩ => ⟨k, e, wpAny_pure (wpAny_pure q)⟩) fun _ _ h' => h'))
  simp only [F.cmp_object.ne.bind]
  split
  · exact wpAny_bind (wpAny_pure (wpAny_pure (by exact fin)))
  · exact wpAny_tryCatch (wpAny_bind (wpAny_pure (wpAny_pure (by exact fin))))
/-- x != b -/
theorem tr_ne {b tb : Value} {Q : Value → Shared → Prop} (hu : A.in1.units < cLine) (hu0 : A.units < cLine) (X : K.In s.heap) (I : InstAt s.heap x ox C od) (hb : Looks (model prog w) s.heap (typeOf b) tb) (hnf : notFirst K C tb = true) (hm : mroIn K C (.type "object") = some true)
    (hn : findIn K (.ref C) "__ne__" = some (some (.builtin "object.__ne__"))) (hr : findIn K (.ref C) "__eq__" = some (some (.ref f))) (hf : isFn K (.ref f) = true)
    (h : wpAny (model prog w) A.in1 (call (.ref f) [.ref x, b]) (fun v s' => ∃ k, v = .bool k ∧ Q (.bool (!k)) s') E s) : wpAny (model prog w) A (richCompare .NotEq (.ref x) b) Q E s := by
  have one : wpAny (model prog w) A (tryCompare (.ref x) "__ne__" b) (fun r s' => ∃ v, r = some v ∧ Q v s') E s := tr_tryNe hu X I hm hn hr hf (wpAny_mono h (fun v s' ⟨k, e, q⟩ => ⟨k, e, _, rfl, q⟩) fun _ _ h' => h')
  unfold richCompare
  simp only [oneThing_ref]
  refine wpAny_holding (wpAny_bind (wpAny_cRoomFor hu0 ?_))
  refine wpAny_bind (I.type.here (wpAny_bind (hb.here ?_)))
  split
  · rename_i q
    have e : subIn K tb (.ref C) = some false := by
      rcases Bool.or_eq_true_iff.mp hnf with e | e
      · rw [beq_iff_eq.mp e] at q; simp at q
      · exact beq_iff_eq.mp e
    refine wpAny_bind ((looks_subIn X e).here ?_)
    simp only [Bool.false_eq_true, if_false]
    refine wpAny_bind (m := tryCompare (.ref x) _ b) (wpAny_mono one (fun r s' z => ?_) fun _ _ e => e)
    obtain ⟨v, rfl, hq⟩ := z
    exact wpAny_pure hq
  · refine wpAny_bind (wpAny_pure ?_)
    simp only [Bool.false_eq_true, if_false]
    refine wpAny_bind (m := tryCompare (.ref x) _ b) (wpAny_mono one (fun r s' z => ?_) fun _ _ e => e)
    obtain ⟨v, rfl, hq⟩ := z
    exact wpAny_pure hq
end
end PySem.W

namespace L2.Tr
open PySem PySem.Spec PyProof.Rows

/-! ### results of mirrors -/
inductive Pay where
  | int (i : Int) | str (s : Str) | bl (b : Bool) | non | frac (q : Rat) | wts (f : Str) (xs : List Rat)
structure Exn where
  cls : Str
  pay : List (Str × Pay)
inductive Res (α : Type) where
  | ok (a : α) | err (e : Exn) | stuck
namespace Res
variable {α β γ : Type}
def bind (m : Res α) (f : α → Res β) : Res β := match m with
  | .ok a => f a
  | .err e => .err e
  | .stuck => .stuck
@[simp] theorem ok_bind (a : α) (f : α → Res β) : (ok a).bind f = f a := rfl
@[simp] theorem err_bind (e : Exn) (f : α → Res β) : (err e : Res α).bind f = err e := rfl
@[simp] theorem stuck_bind (f : α → Res β) : (stuck : Res α).bind f = stuck := rfl
theorem bind_assoc (m : Res α) (f : α → Res β) (g : β → Res γ) : (m.bind f).bind g = m.bind fun a => (f a).bind g := by cases m <;> rfl
theorem bind_ok (m : Res α) : (m.bind fun a => ok a) = m := by cases m <;> rfl
def guard (p : Prop) [Decidable p] (m : Res α) : Res α := if p then m else stuck
theorem guard_pos {p : Prop} [Decidable p] (h : p) (m : Res α) : guard p m = m := if_pos h
end Res

/-! ### representations -/
/-- by the frozen heap I and the heap H -/
abbrev Ra (α : Type) := Hp → Hp → V → α → Prop
/-- by the frozen heap alone -/
abbrev Rp (α : Type) := Hp → V → α → Prop
abbrev rp {α : Type} (r : Rp α) : Ra α := fun I _ v x => r I v x
class Mo {α : Type} (r : Rp α) : Prop where
  up : ∀ {I I' : Hp} {v : V} {x : α}, Same I I' → r I v x → r I' v x
class MoA {α : Type} (r : Ra α) : Prop where
  up : ∀ {I H I' H' : Hp} {v : V} {x : α}, Same I I' → Same H H' → r I H v x → r I' H' v x
instance {α : Type} {r : Rp α} [m : Mo r] : MoA (rp r) := ⟨fun a _ h => m.up a h⟩
instance {α : Type} {r : Ra α} {H0 : Hp} [m : MoA r] : Mo (fun I v x => r I H0 v x) := ⟨fun a h => m.up a (Same.refl _) h⟩

def rInt : Rp Int := fun _ v x => v = .int x
def rBl : Rp Bool := fun _ v x => v = .bl x
def rStr : Rp Str := fun _ v x => v = .str x
def rNon : Rp Unit := fun _ v _ => v = .non
instance : Mo rInt := ⟨fun _ h => h⟩
instance : Mo rBl := ⟨fun _ h => h⟩
instance : Mo rStr := ⟨fun _ h => h⟩
instance : Mo rNon := ⟨fun _ h => h⟩
/-- a Fraction -/
def frF (q : Rat) : List (Str × V) := [("top", .int q.num), ("bottom", .int (q.den : Int))]
def rFrac (K : PySem.W.Frag) : Rp Rat := fun I v q => ∃ a dx, v = .ref a ∧ I a = some (.ins (He.ga K "Fraction") dx (frF q))
instance {K : PySem.W.Frag} : Mo (rFrac K) := ⟨fun s ⟨a, dx, e, h⟩ => ⟨a, dx, e, s _ _ h⟩⟩
/-- an int or a Fraction -/
inductive Num where
  | i (n : Int) | q (r : Rat)
def Num.val : Num → Rat
  | .i n => (n : Rat)
  | .q r => r
def rNum (K : PySem.W.Frag) : Rp Num := fun I v x => match x with
  | .i n => v = .int n
  | .q r => rFrac K I v r
instance {K : PySem.W.Frag} : Mo (rNum K) := ⟨fun {I I' v x} s h => by
  cases x with
  | i n => exact h
  | q r => exact Mo.up (r := rFrac K) s h⟩
/-- a frozen list -/
def rL {α : Type} (r : Rp α) : Rp (List α) := fun I v xs => ∃ l vs, v = .ref l ∧ I l = some (.lst vs) ∧ Paired (r I) vs xs
instance {α : Type} {r : Rp α} [m : Mo r] : Mo (rL r) := ⟨fun s ⟨l, vs, e, h, p⟩ => ⟨l, vs, e, s _ _ h, Paired.mapP p fun _ _ q => m.up s q⟩⟩
/-- a frozen tuple (of one kind) -/
def rT {α : Type} (r : Rp α) : Rp (List α) := fun I v xs => ∃ l vs, v = .ref l ∧ I l = some (.tup vs) ∧ Paired (r I) vs xs
instance {α : Type} {r : Rp α} [m : Mo r] : Mo (rT r) := ⟨fun s ⟨l, vs, e, h, p⟩ => ⟨l, vs, e, s _ _ h, Paired.mapP p fun _ _ q => m.up s q⟩⟩
/-- a list that can be read (frozen or not), or the script -/
def rdL {α : Type} (K : PySem.W.Frag) (r : Ra α) : Ra (List α) := fun I H v xs => ∃ l vs, v = .ref l ∧ SqL K H l vs ∧ Paired (r I H) vs xs
instance {α : Type} {K : PySem.W.Frag} {r : Ra α} [m : MoA r] : MoA (rdL K r) := ⟨fun s t ⟨l, vs, e, h, p⟩ => ⟨l, vs, e, t.seq h, Paired.mapP p fun _ _ q => m.up s t q⟩⟩

/-! ### exceptions -/
def PayR (K : PySem.W.Frag) (I : Hp) (v : V) : Pay → Prop
  | .int i => v = .int i
  | .str s => v = .str s
  | .bl b => v = .bl b
  | .non => v = .non
  | .frac q => rFrac K I v q
  | .wts f xs => ∃ a dx b dy l vs, v = .ref a ∧ I a = some (.ins (He.ga K "Weights") dx [("form", .str f), ("root", .ref b)]) ∧ I b = some (.ins (He.ga K "Polynomial") dy [("kept", .ref l)]) ∧ I l = some (.lst vs) ∧ Paired (rFrac K I) vs xs
def ExR (K : PySem.W.Frag) (I H : Hp) (e : Exn) (cls : Value) (d : Option Addr) : Prop := cls = .ref (He.ga K e.cls) ∧ (match d with
  | none => e.pay = []
  | some a => e.pay ≠ [] ∧ ∃ fs : List (Str × V), H a = some (.xd fs) ∧ I a = none ∧ Paired (fun (p : Str × V) (q : Str × Pay) => p.1 = q.1 ∧ PayR K I p.2 q.2) fs e.pay)

/-! ### frames -/
/-- from (I, H) to (I', H') nothing that stood has changed -/
structure Fm (I H I' H' : Hp) : Prop where
  i : Same I I'
  h : Same H H'
  ih : Same I' H'
  mu : ∀ l, I l = none → H l ≠ none → I' l = none
theorem Fm.refl {I H : Hp} (h : Same I H) : Fm I H I H := ⟨Same.refl _, Same.refl _, h, fun _ e _ => e⟩
theorem Fm.trans {I H I1 H1 I2 H2 : Hp} (a : Fm I H I1 H1) (b : Fm I1 H1 I2 H2) : Fm I H I2 H2 :=
  ⟨a.i.trans b.i, a.h.trans b.h, b.ih, fun l e n => b.mu l (a.mu l e n) fun q => by
    cases z : H l with
    | none => exact n z
    | some o => rw [a.h l o z] at q; cases q⟩
/-- a new frozen object -/
theorem Fm.new {I H : Hp} {p : Addr} {o : HO} (s : Same I H) (h : H p = none) : Fm I H (upd I p o) (upd H p o) :=
  ⟨fun b u e => by rw [upd_ne (ne_of_none (s _ _ e) h)]; exact e, fun b u e => by rw [upd_ne (ne_of_none e h)]; exact e, fun b u e => by
    by_cases hb : b = p
    · subst hb; rw [upd_same] at e ⊢; exact e
    · rw [upd_ne hb] at e ⊢; exact s _ _ e, fun l e n => by
    have : l ≠ p := fun q => n (q ▸ h)
    rw [upd_ne this]; exact e⟩
/-- a new object that may still be changed -/
theorem Fm.newM {I H : Hp} {p : Addr} {o : HO} (s : Same I H) (h : H p = none) : Fm I H I (upd H p o) :=
  ⟨Same.refl _, fun b u e => by rw [upd_ne (ne_of_none e h)]; exact e, fun b u e => by rw [upd_ne (ne_of_none (s _ _ e) h)]; exact s _ _ e, fun l e n => e⟩

/-- the error's own dict is new -/
def Fr (H : Hp) (d : Option Addr) : Prop := ∀ a, d = some a → H a = none
theorem Fr.back {H H' : Hp} {d : Option Addr} (f : Fr H' d) (s : Same H H') : Fr H d := fun a e => s.free (f a e)
def PostE {α : Type} (K : PySem.W.Frag) (m : Res α) (r : Ra α) (I H : Hp) (E : XK) (Q : VK) : Prop := match m with
  | .ok a => ∀ I' H' v, Fm I H I' H' → r I' H' v a → Q v H'
  | .err e => ∀ I' H' cls d, Fm I H I' H' → Fr H d ∧ ExR K I' H' e cls d → E cls d H'
  | .stuck => False
theorem PostE.up {α : Type} {K : PySem.W.Frag} {m : Res α} {r : Ra α} {I H I1 H1 : Hp} {E : XK} {Q : VK} (h : PostE K m r I H E Q) (f : Fm I H I1 H1) : PostE K m r I1 H1 E Q := by
  cases m with
  | ok a => exact fun I' H' v g => h I' H' v (f.trans g)
  | err e => exact fun I' H' c d g x => h I' H' c d (f.trans g) ⟨x.1.back f.h, x.2⟩
  | stuck => exact h
theorem PostE.imp {α : Type} {K : PySem.W.Frag} {m : Res α} {r : Ra α} {I H : Hp} {E : XK} {Q Q' : VK} (h : PostE K m r I H E Q) (g : ∀ v H', Q v H' → Q' v H') : PostE K m r I H E Q' := by
  cases m with
  | ok a => exact fun I' H' v f r => g _ _ (h I' H' v f r)
  | err e => exact h
  | stuck => exact h

/-! ### environments -/
structure SF where
  {α : Type}
  r : Rp α
  [mo : Mo r]
  x : α
/-- a region of the call's own that may still be changed: its footprint is hidden -/
structure MF where
  Q : Hp → Hp → List Addr → Prop
  mo : ∀ {I I' H : Hp} {fp : List Addr}, Same I I' → Q I H fp → Q I' H fp
  lo : ∀ {I H H' : Hp} {fp : List Addr}, (∀ a, a ∈ fp → H' a = H a) → Q I H fp → Q I H' fp
/-- one object -/
def MF.one (l : Addr) (P : Hp → HO → Prop) (mo : ∀ {I I' : Hp} {o : HO}, Same I I' → P I o → P I' o) : MF := ⟨fun I H fp => fp = [l] ∧ ∃ o, H l = some o ∧ P I o, fun s ⟨e, o, h, p⟩ => ⟨e, o, h, mo s p⟩, fun k ⟨e, o, h, p⟩ => ⟨e, o, by rw [k l (by rw [e]; exact List.mem_singleton_self l)]; exact h, p⟩⟩
def MF.lst {α : Type} (l : Addr) (r : Rp α) [m : Mo r] (xs : List α) : MF := .one l (fun I o => ∃ vs, o = .lst vs ∧ Paired (r I) vs xs) (fun s ⟨vs, e, p⟩ => ⟨vs, e, Paired.mapP p fun _ _ q => m.up s q⟩)
def FldR (I : Hp) : List (Str × V) → List (Str × SF) → Prop
  | [], [] => True
  | p :: fs, q :: gs => p.1 = q.1 ∧ q.2.r I p.2 q.2.x ∧ FldR I fs gs
  | _, _ => False
theorem FldR.up {I I' : Hp} (s : Same I I') : ∀ {fs : List (Str × V)} {gs : List (Str × SF)}, FldR I fs gs → FldR I' fs gs
  | [], [], h => h
  | _ :: _, q :: _, ⟨a, b, c⟩ => ⟨a, q.2.mo.up s b, FldR.up s c⟩
  | [], _ :: _, h => h
  | _ :: _, [], h => h
def MF.ins (l C dx : Addr) (gs : List (Str × SF)) : MF := .one l (fun I o => ∃ fs, o = .ins C dx fs ∧ FldR I fs gs) (fun s ⟨fs, e, p⟩ => ⟨fs, e, FldR.up s p⟩)
/-- regions with their footprints -/
def Regs (I H : Hp) : List MF → List (List Addr) → Prop
  | [], [] => True
  | c :: mem, fp :: fps => c.Q I H fp ∧ Regs I H mem fps
  | _, _ => False
structure Stt (I0 H0 : Hp) (ctx : List (Option SF)) (mem : List MF) (I H : Hp) (σ : St) : Prop where
  fm : Fm I0 H0 I H
  len : σ.length = ctx.length
  sl : ∀ (i : Nat) (sf : SF), ctx[i]? = some (some sf) → ∃ v, σ[i]? = some (some v) ∧ sf.r I v sf.x
  me : ∃ fps, Regs I H mem fps ∧ fps.flatten.Nodup ∧ ∀ a, a ∈ fps.flatten → H0 a = none ∧ I a = none ∧ H a ≠ none
theorem Regs.up {I I' H H' : Hp} (s : Same I I') : ∀ {mem : List MF} {fps : List (List Addr)}, (∀ a, a ∈ fps.flatten → H' a = H a) → Regs I H mem fps → Regs I' H' mem fps
  | [], [], _, h => h
  | c :: _, fp :: fps, k, ⟨a, b⟩ => ⟨c.lo (fun x hx => k x (by rw [List.flatten_cons]; exact List.mem_append_left _ hx)) (c.mo s a), Regs.up s (fun x hx => k x (by rw [List.flatten_cons]; exact List.mem_append_right _ hx)) b⟩
  | [], _ :: _, _, h => h
  | _ :: _, [], _, h => h
theorem Regs.get {I H : Hp} : ∀ {mem : List MF} {fps : List (List Addr)} {j : Nat} {c : MF}, Regs I H mem fps → mem[j]? = some c → ∃ fp, fps[j]? = some fp ∧ c.Q I H fp
  | [], _, _, _, _, e => by simp at e
  | d :: _, fp :: _, 0, c, ⟨a, _⟩, e => ⟨fp, rfl, by
    have : d = c := by simpa using e
    rw [← this]; exact a⟩
  | _ :: mem, _ :: fps, j + 1, c, ⟨_, b⟩, e => by
    have e' : mem[j]? = some c := by simpa using e
    obtain ⟨fp, e1, q⟩ := Regs.get b e'
    exact ⟨fp, by simpa using e1, q⟩
  | _ :: _, [], _, _, h, _ => h.elim
section
variable {I0 H0 I H I' H' : Hp} {ctx : List (Option SF)} {mem : List MF} {σ : St}
theorem Stt.same (s : Stt I0 H0 ctx mem I H σ) : Same I H := s.fm.ih
theorem Stt.step (s : Stt I0 H0 ctx mem I H σ) (f : Fm I H I' H') : Stt I0 H0 ctx mem I' H' σ := by
  obtain ⟨fps, rg, nd, k⟩ := s.me
  have key : ∀ a, a ∈ fps.flatten → H' a = H a := fun a ha => by
    obtain ⟨_, _, h3⟩ := k a ha
    cases e : H a with
    | none => exact absurd e h3
    | some o => exact f.h _ _ e
  refine ⟨s.fm.trans f, s.len, fun i sf e => ?_, fps, rg.up f.i key, nd, fun a ha => ?_⟩
  · obtain ⟨v, e1, h⟩ := s.sl i sf e
    exact ⟨v, e1, sf.mo.up f.i h⟩
  · obtain ⟨h1, h2, h3⟩ := k a ha
    exact ⟨h1, f.mu _ h2 h3, by rw [key a ha]; exact h3⟩
/-- one object of the call's own -/
theorem Stt.me1 (s : Stt I0 H0 ctx mem I H σ) {j : Nat} {l : Addr} {P : Hp → HO → Prop} {c : MF} (hj : mem[j]? = some c) (hc : ∀ {I H : Hp} {fp : List Addr}, c.Q I H fp → fp = [l] ∧ ∃ o, H l = some o ∧ P I o) : H0 l = none ∧ I l = none ∧ ∃ o, H l = some o ∧ P I o := by
  obtain ⟨fps, rg, nd, k⟩ := s.me
  obtain ⟨fp, e, q⟩ := rg.get hj
  obtain ⟨e1, q⟩ := hc q
  obtain ⟨h1, h2, _⟩ := k l (List.mem_flatten.mpr ⟨fp, List.mem_of_getElem? e, by rw [e1]; exact List.mem_singleton_self l⟩)
  exact ⟨h1, h2, q⟩
theorem Stt.lstAt (s : Stt I0 H0 ctx mem I H σ) {α : Type} {j : Nat} {l : Addr} {r : Rp α} {mo : Mo r} {xs : List α} (hj : mem[j]? = some (MF.lst l r xs)) : H0 l = none ∧ I l = none ∧ ∃ o, H l = some o ∧ ∃ vs, o = .lst vs ∧ Paired (r I) vs xs :=
  s.me1 (P := fun I o => ∃ vs, o = .lst vs ∧ Paired (r I) vs xs) hj fun q => q
theorem Stt.insAt (s : Stt I0 H0 ctx mem I H σ) {j : Nat} {l C dx : Addr} {gs : List (Str × SF)} (hj : mem[j]? = some (MF.ins l C dx gs)) : H0 l = none ∧ I l = none ∧ ∃ o, H l = some o ∧ ∃ fs, o = .ins C dx fs ∧ FldR I fs gs :=
  s.me1 (P := fun I o => ∃ fs, o = .ins C dx fs ∧ FldR I fs gs) hj fun q => q
theorem Stt.set (s : Stt I0 H0 ctx mem I H σ) (i : Nat) {α : Type} {r : Rp α} [mo : Mo r] {x : α} {v : V} (h : r I v x) : Stt I0 H0 (ctx.set i (some ⟨r, x⟩)) mem I H (σ.set i (some v)) := by
  refine ⟨s.fm, by rw [List.length_set, List.length_set]; exact s.len, fun j sf e => ?_, s.me⟩
  by_cases hj : j = i
  · subst hj
    rw [List.getElem?_set] at e
    by_cases hl : j < ctx.length
    · simp only [hl, if_true] at e
      cases e
      exact ⟨v, by rw [List.getElem?_set]; simp [s.len, hl], h⟩
    · simp only [hl, if_true, if_false] at e
      cases e
  · rw [List.getElem?_set_ne (Ne.symm hj)] at e
    obtain ⟨w, e1, q⟩ := s.sl j sf e
    exact ⟨w, by rw [List.getElem?_set_ne (Ne.symm hj)]; exact e1, q⟩
end
/-! ### expressions -/
section
variable {α β γ δ : Type}
def JE (X : Cx) (I0 H0 : Hp) (W : WX) (ctx : List (Option SF)) (mem : List MF) (e : Expr) (m : Res α) (r : Ra α) : Prop :=
  ∀ (I H : Hp) (σ : St) (Q : VK), Stt I0 H0 ctx mem I H σ → PostE X.K m r I H (fun cls d H' => W cls d σ H') Q → wE X e σ H Q
def JT (X : Cx) (I0 H0 : Hp) (W : WX) (ctx : List (Option SF)) (mem : List MF) (e : Expr) (m : Res Bool) : Prop :=
  ∀ (I H : Hp) (σ : St) (Q : Bool → Hp → Prop), Stt I0 H0 ctx mem I H σ → PostE X.K m (rp rBl) I H (fun cls d H' => W cls d σ H') (fun v H' => ∀ b, v = .bl b → Q b H') → wT X e σ H Q
def OpJ (X : Cx) (W : WX) (f : Value → Value → Sem Value) (ra : Ra α) (rb : Ra β) (g : α → β → Res γ) (rc : Ra γ) : Prop :=
  ∀ (I H : Hp) (σ : St) (Q : VK) (u v : V) (x : α) (y : β), Same I H → ra I H u x → rb I H v y → PostE X.K (g x y) rc I H (fun cls d H' => W cls d σ H') Q → opW X f σ u v H Q
def UnJ (X : Cx) (W : WX) (f : Value → Sem Value) (ra : Ra α) (g : α → Res γ) (rc : Ra γ) : Prop :=
  ∀ (I H : Hp) (σ : St) (Q : VK) (u : V) (x : α), Same I H → ra I H u x → PostE X.K (g x) rc I H (fun cls d H' => W cls d σ H') Q → unW X f σ u H Q
def CallJ (X : Cx) (W : WX) (f : Value) (R : Hp → Hp → List V → δ → Prop) (g : δ → Res γ) (rc : Ra γ) : Prop :=
  ∀ (I H : Hp) (σ : St) (Q : VK) (vs : List V) (x : δ), Same I H → R I H vs x → PostE X.K (g x) rc I H (fun cls d H' => W cls d σ H') Q → callW X f σ vs H Q
/-- argument lists -/
def JA (X : Cx) (I0 H0 : Hp) (W : WX) (ctx : List (Option SF)) (mem : List MF) (es : List Expr) (m : Res δ) (R : Hp → Hp → List V → δ → Prop) : Prop :=
  ∀ (I H : Hp) (σ : St) (Q : List V → Hp → Prop), Stt I0 H0 ctx mem I H σ → (match m with
    | .ok a => ∀ I' H' vs, Fm I H I' H' → R I' H' vs a → Q vs H'
    | .err e => ∀ I' H' cls d, Fm I H I' H' → Fr H d ∧ ExR X.K I' H' e cls d → W cls d σ H'
    | .stuck => False) → wA X es σ H Q
def aNil : Hp → Hp → List V → Unit → Prop := fun _ _ vs _ => vs = []
def aCons (r : Ra α) (R : Hp → Hp → List V → δ → Prop) : Hp → Hp → List V → α × δ → Prop := fun I H vs x => ∃ v ws, vs = v :: ws ∧ r I H v x.1 ∧ R I H ws x.2

variable {X : Cx} {I0 H0 : Hp} {W : WX} {ctx : List (Option SF)} {mem : List MF} {e a b c o : Expr} {es : List Expr} {pos pos' : Pos} {n : Str} {ra : Ra α} {rb : Ra β} {rc : Ra γ} {ma : Res α} {mb : Res β}

theorem JE.co {m : Res α} {r : Ra α} {r' : Ra α} (j : JE X I0 H0 W ctx mem e m r) (c : ∀ I H v x, Same I H → r I H v x → r' I H v x) : JE X I0 H0 W ctx mem e m r' := fun I H σ Q st p => j I H σ Q st (by
  cases m with
  | ok a => exact fun I' H' v f q => p I' H' v f (c _ _ _ _ f.ih q)
  | err e => exact p
  | stuck => exact p)
theorem JE.map {m : Res α} {r : Ra α} {r' : Ra β} {g : α → β} (j : JE X I0 H0 W ctx mem e m r) (c : ∀ I H v x, Same I H → r I H v x → r' I H v (g x)) : JE X I0 H0 W ctx mem e (m.bind fun x => .ok (g x)) r' := fun I H σ Q st p => j I H σ Q st (by
  cases m with
  | ok a => exact fun I' H' v f q => p I' H' v f (c _ _ _ _ f.ih q)
  | err e => exact p
  | stuck => exact p)
theorem JE.num {m : Res Int} {K : PySem.W.Frag} (j : JE X I0 H0 W ctx mem e m (rp rInt)) : JE X I0 H0 W ctx mem e (m.bind fun x => .ok (Num.i x)) (rp (rNum K)) := j.map fun _ _ _ _ _ h => h
theorem JE.numq {m : Res Rat} {K : PySem.W.Frag} (j : JE X I0 H0 W ctx mem e m (rp (rFrac K))) : JE X I0 H0 W ctx mem e (m.bind fun x => .ok (Num.q x)) (rp (rNum K)) := j.map fun _ _ _ _ _ h => h
/-- a name in slot i -/
theorem JE.var (i : Nat) {r : Rp α} {mo : Mo r} {x : α} (hc : ctx[i]? = some (some (@SF.mk α r mo x)) := by rfl) (hN : X.N[i]? = some n := by rfl) (hv : Vis X.env.scope n := by first | exact Or.inl rfl | exact Or.inr (Or.inl rfl) | exact Or.inr (Or.inr rfl)) (hd : (n == ("__debug__" : Str)) = false := by decide)
    (hcd : (n == ("__classdict__" : Str)) = false := by decide) : JE X I0 H0 W ctx mem (.Name n pos) (.ok x) (rp r) := fun I H σ Q st p => by
  obtain ⟨v, e, h⟩ := st.sl i _ hc
  exact w_var i (p I H v (Fm.refl st.same) h) e hN hv hd hcd
/-- .. a parameter whose worth may lean on the heap at the entry -/
theorem JE.varP (i : Nat) {r : Ra α} {mo : Mo (fun I v x => r I H0 v x)} {x : α} [m : MoA r] (hc : ctx[i]? = some (some (@SF.mk α (fun I v x => r I H0 v x) mo x)) := by rfl) (hN : X.N[i]? = some n := by rfl) (hv : Vis X.env.scope n := by first | exact Or.inl rfl | exact Or.inr (Or.inl rfl) | exact Or.inr (Or.inr rfl)) (hd : (n == ("__debug__" : Str)) = false := by decide)
    (hcd : (n == ("__classdict__" : Str)) = false := by decide) : JE X I0 H0 W ctx mem (.Name n pos) (.ok x) r := fun I H σ Q st p => by
  obtain ⟨v, e, h⟩ := st.sl i _ hc
  exact w_var i (p I H v (Fm.refl st.same) (m.up (Same.refl _) st.fm.h h)) e hN hv hd hcd
theorem JE.int {i : Int} {j} : JE X I0 H0 W ctx mem (.Constant (.int i) j pos) (.ok i) (rp rInt) := fun I H σ Q st p => w_int (p I H _ (Fm.refl st.same) rfl)
theorem JE.bl {i : Bool} {j} : JE X I0 H0 W ctx mem (.Constant (.bool i) j pos) (.ok i) (rp rBl) := fun I H σ Q st p => w_bl (p I H _ (Fm.refl st.same) rfl)
theorem JE.str {i : Str} {j} : JE X I0 H0 W ctx mem (.Constant (.str i) j pos) (.ok i) (rp rStr) := fun I H σ Q st p => w_str (p I H _ (Fm.refl st.same) rfl)
theorem JE.non {j} : JE X I0 H0 W ctx mem (.Constant .none j pos) (.ok ()) (rp rNon) := fun I H σ Q st p => w_non (p I H _ (Fm.refl st.same) rfl)
theorem JE.bin {op : Operator} {g : α → β → Res γ} [MoA ra] (ja : JE X I0 H0 W ctx mem a ma ra) (jb : JE X I0 H0 W ctx mem b mb rb) (o : OpJ X W (binaryOp op) ra rb g rc) : JE X I0 H0 W ctx mem (.BinOp a op b pos) (ma.bind fun x => mb.bind fun y => g x y) rc := fun I H σ Q st p => by
  refine w_bin (ja I H σ _ st ?_)
  cases ma with
  | ok x =>
    intro I1 H1 u f1 r1
    refine jb I1 H1 σ _ (st.step f1) ?_
    have p1 := PostE.up p f1
    cases mb with
    | ok y => exact fun I2 H2 v f2 r2 => o I2 H2 σ Q u v x y f2.ih (MoA.up f2.i f2.h r1) r2 (PostE.up p1 f2)
    | err e => exact p1
    | stuck => exact p1
  | err e => exact p
  | stuck => exact p
theorem JE.cmp {op : CmpOp} {g : α → β → Res γ} [MoA ra] (ja : JE X I0 H0 W ctx mem a ma ra) (jb : JE X I0 H0 W ctx mem b mb rb) (o : OpJ X W (compareOp op) ra rb g rc) (hm : behindInMarks op b = false := by first | exact nomark _ | rfl) : JE X I0 H0 W ctx mem (.Compare a [op] [b] pos) (ma.bind fun x => mb.bind fun y => g x y) rc := fun I H σ Q st p => by
  refine w_cmp (ja I H σ _ st ?_) hm
  cases ma with
  | ok x =>
    intro I1 H1 u f1 r1
    refine jb I1 H1 σ _ (st.step f1) ?_
    have p1 := PostE.up p f1
    cases mb with
    | ok y => exact fun I2 H2 v f2 r2 => o I2 H2 σ Q u v x y f2.ih (MoA.up f2.i f2.h r1) r2 (PostE.up p1 f2)
    | err e => exact p1
    | stuck => exact p1
  | err e => exact p
  | stuck => exact p
theorem JT.cmp {op : CmpOp} {g : α → β → Res Bool} [MoA ra] (ja : JE X I0 H0 W ctx mem a ma ra) (jb : JE X I0 H0 W ctx mem b mb rb) (o : OpJ X W (compareOp op) ra rb g (rp rBl)) (hm : behindInMarks op b = false := by first | exact nomark _ | rfl) : JT X I0 H0 W ctx mem (.Compare a [op] [b] pos) (ma.bind fun x => mb.bind fun y => g x y) := fun I H σ Q st p => by
  refine w_tcmp (ja I H σ _ st ?_) hm
  cases ma with
  | ok x =>
    intro I1 H1 u f1 r1
    refine jb I1 H1 σ _ (st.step f1) ?_
    have p1 := PostE.up p f1
    cases mb with
    | ok y =>
      intro I2 H2 v f2 r2
      refine o I2 H2 σ _ u v x y f2.ih (MoA.up f2.i f2.h r1) r2 ?_
      have p2 := PostE.up p1 f2
      revert p2
      show PostE X.K (g x y) _ _ _ _ _ → _
      generalize g x y = z
      intro p2
      cases z with
      | ok k => intro I3 H3 v3 f3 r3; cases r3; exact tru_bl (p2 I3 H3 _ f3 rfl k rfl)
      | err e => exact p2
      | stuck => exact p2
    | err e => exact p1
    | stuck => exact p1
  | err e => exact p
  | stuck => exact p
theorem JE.un {op : UnaryOp} {g : α → Res γ} (ja : JE X I0 H0 W ctx mem a ma ra) (o : UnJ X W (unaryOp op) ra g rc) : JE X I0 H0 W ctx mem (.UnaryOp op a pos) (ma.bind fun x => g x) rc := fun I H σ Q st p => by
  refine w_un (ja I H σ _ st ?_)
  cases ma with
  | ok x => exact fun I1 H1 u f1 r1 => o I1 H1 σ Q u x f1.ih r1 (PostE.up p f1)
  | err e => exact p
  | stuck => exact p
/-- a test of a plain form whose value is a bool -/
theorem JT.of {m : Res Bool} (j : JE X I0 H0 W ctx mem e m (rp rBl)) (he : ∀ whole, isTrue e X.env whole = (do let v ← whole; standAt e.pos; holding [v] (truthy v)) := by intro _; rfl) : JT X I0 H0 W ctx mem e m := fun I H σ Q st p => by
  refine w_t (j I H σ _ st ?_) he
  cases m with
  | ok k => intro I1 H1 v f1 r1; cases r1; exact tru_bl (p I1 H1 _ f1 rfl k rfl)
  | err e => exact p
  | stuck => exact p
theorem JT.not {m : Res Bool} (j : JT X I0 H0 W ctx mem e m) : JT X I0 H0 W ctx mem (.UnaryOp .Not e pos) (m.bind fun b => .ok (!b)) := fun I H σ Q st p => by
  refine w_not (j I H σ _ st ?_)
  cases m with
  | ok k => exact fun I1 H1 v f1 r1 b hb => by cases r1; cases hb; exact p I1 H1 _ f1 rfl _ rfl
  | err e => exact p
  | stuck => exact p
theorem JE.not {m : Res Bool} (j : JE X I0 H0 W ctx mem e m (rp rBl)) : JE X I0 H0 W ctx mem (.UnaryOp .Not e pos) (m.bind fun b => .ok (!b)) (rp rBl) := fun I H σ Q st p => by
  refine w_notV (j I H σ _ st ?_)
  cases m with
  | ok k => exact fun I1 H1 v f1 r1 => ⟨k, r1, p I1 H1 _ f1 rfl⟩
  | err e => exact p
  | stuck => exact p
end
end L2.Tr

namespace L2.Tr
open PySem PySem.Spec PyProof.Rows
section
variable {α β γ δ S : Type}
def JW (X : Cx) (I0 H0 : Hp) (W : WX) (ctx : List (Option SF)) (mem : List MF) (e : Expr) (m : Res Bool) : Prop :=
  ∀ (I H : Hp) (σ : St) (Q : Bool → Hp → Prop), Stt I0 H0 ctx mem I H σ → PostE X.K m (rp rBl) I H (fun cls d H' => W cls d σ H') (fun v H' => ∀ b, v = .bl b → Q b H') → wW X e σ H Q
variable {X : Cx} {I0 H0 : Hp} {W : WX} {ctx : List (Option SF)} {mem : List MF} {e a b c o : Expr} {es bs : List Expr} {pos pos' : Pos} {n : Str} {ra : Ra α} {rb : Ra β} {rc : Ra γ} {ma : Res α} {mb : Res β} {m1 m2 mc : Res Bool}
theorem JT.bool {op} (j : JW X I0 H0 W ctx mem (.BoolOp op es pos) m1) : JT X I0 H0 W ctx mem (.BoolOp op es pos) m1 := fun I H σ Q st p => w_tbool (j I H σ Q st p)
theorem JW.and1 (j : JT X I0 H0 W ctx mem a m1) : JW X I0 H0 W ctx mem (.BoolOp .And [a] pos) m1 := fun I H σ Q st p => w_and1 (j I H σ Q st p)
theorem JW.or1 (j : JT X I0 H0 W ctx mem a m1) : JW X I0 H0 W ctx mem (.BoolOp .Or [a] pos) m1 := fun I H σ Q st p => w_or1 (j I H σ Q st p)
theorem JW.and (j : JT X I0 H0 W ctx mem a m1) (k : JW X I0 H0 W ctx mem (.BoolOp .And (b :: bs) pos) m2) : JW X I0 H0 W ctx mem (.BoolOp .And (a :: b :: bs) pos) (m1.bind fun x => if x = true then m2 else .ok false) := fun I H σ Q st p => by
  refine w_and (j I H σ _ st ?_)
  cases m1 with
  | ok x =>
    intro I1 H1 v f r y hy
    cases r; cases hy
    have p1 := PostE.up p f
    cases x with
    | true => exact iteT (k I1 H1 σ Q (st.step f) p1)
    | false => exact iteF (p1 I1 H1 _ (Fm.refl f.ih) rfl _ rfl)
  | err e => exact p
  | stuck => exact p
theorem JW.or (j : JT X I0 H0 W ctx mem a m1) (k : JW X I0 H0 W ctx mem (.BoolOp .Or (b :: bs) pos) m2) : JW X I0 H0 W ctx mem (.BoolOp .Or (a :: b :: bs) pos) (m1.bind fun x => if x = true then .ok true else m2) := fun I H σ Q st p => by
  refine w_or (j I H σ _ st ?_)
  cases m1 with
  | ok x =>
    intro I1 H1 v f r y hy
    cases r; cases hy
    have p1 := PostE.up p f
    cases x with
    | true => exact iteT (p1 I1 H1 _ (Fm.refl f.ih) rfl _ rfl)
    | false => exact iteF (k I1 H1 σ Q (st.step f) p1)
  | err e => exact p
  | stuck => exact p
theorem JE.one {op} {m : Res Bool} (j : JE X I0 H0 W ctx mem a m (rp rBl)) : JE X I0 H0 W ctx mem (.BoolOp op [a] pos) m (rp rBl) := fun I H σ Q st p => w_oneV (j I H σ Q st p)
theorem JE.and (j : JE X I0 H0 W ctx mem a m1 (rp rBl)) (k : JE X I0 H0 W ctx mem (.BoolOp .And (b :: bs) pos) m2 (rp rBl)) : JE X I0 H0 W ctx mem (.BoolOp .And (a :: b :: bs) pos) (m1.bind fun x => if x = true then m2 else .ok false) (rp rBl) := fun I H σ Q st p => by
  refine w_andV (j I H σ _ st ?_)
  cases m1 with
  | ok x =>
    intro I1 H1 v f r
    have p1 := PostE.up p f
    refine ⟨x, r, ?_⟩
    cases x with
    | true => exact iteT (k I1 H1 σ Q (st.step f) p1)
    | false => exact iteF (p1 I1 H1 _ (Fm.refl f.ih) rfl)
  | err e => exact p
  | stuck => exact p
theorem JE.or (j : JE X I0 H0 W ctx mem a m1 (rp rBl)) (k : JE X I0 H0 W ctx mem (.BoolOp .Or (b :: bs) pos) m2 (rp rBl)) : JE X I0 H0 W ctx mem (.BoolOp .Or (a :: b :: bs) pos) (m1.bind fun x => if x = true then .ok true else m2) (rp rBl) := fun I H σ Q st p => by
  refine w_orV (j I H σ _ st ?_)
  cases m1 with
  | ok x =>
    intro I1 H1 v f r
    have p1 := PostE.up p f
    refine ⟨x, r, ?_⟩
    cases x with
    | true => exact iteT (p1 I1 H1 _ (Fm.refl f.ih) rfl)
    | false => exact iteF (k I1 H1 σ Q (st.step f) p1)
  | err e => exact p
  | stuck => exact p
/-! ### arguments and calls -/
theorem JA.nil : JA X I0 H0 W ctx mem [] (.ok ()) aNil := fun I H σ Q st p => w_nil (p I H [] (Fm.refl st.same) rfl)
theorem JA.cons {R : Hp → Hp → List V → δ → Prop} {m : Res δ} [MoA ra] (j : JE X I0 H0 W ctx mem e ma ra) (k : JA X I0 H0 W ctx mem es m R) (hs : starEach (e :: es) X.env = (false, eval e X.env) :: starEach es X.env := by rfl) :
    JA X I0 H0 W ctx mem (e :: es) (ma.bind fun x => m.bind fun y => .ok (x, y)) (aCons ra R) := fun I H σ Q st p => by
  refine Tr.w_cons (j I H σ _ st ?_) hs
  cases ma with
  | ok x =>
    intro I1 H1 v f1 r1
    refine k I1 H1 σ _ (st.step f1) ?_
    cases m with
    | ok y => exact fun I2 H2 vs f2 r2 => p I2 H2 _ (f1.trans f2) ⟨v, vs, rfl, MoA.up f2.i f2.h r1, r2⟩
    | err e => exact fun I2 H2 c d f2 x => p I2 H2 c d (f1.trans f2) ⟨x.1.back f1.h, x.2⟩
    | stuck => exact p
  | err e => exact p
  | stuck => exact p
variable {R : Hp → Hp → List V → δ → Prop} {md : Res δ} {g : δ → Res γ}
theorem JA.call (k : JA X I0 H0 W ctx mem es md R) {f : Value} (cj : CallJ X W f R g rc) {I H : Hp} {σ : St} {Q : VK} (st : Stt I0 H0 ctx mem I H σ) (p : PostE X.K (md.bind g) rc I H (fun cls d H' => W cls d σ H') Q) : wA X es σ H fun vs H1 => callW X f σ vs H1 Q := by
  refine k I H σ _ st ?_
  cases md with
  | ok x => exact fun I1 H1 vs f1 r1 => cj I1 H1 σ Q vs x f1.ih r1 (PostE.up p f1)
  | err e => exact p
  | stuck => exact p
/-- f(..), C(..) by a global name -/
theorem JE.call {f : Addr} (k : JA X I0 H0 W ctx mem (e :: es) md R) (cj : CallJ X W (.ref f) R g rc) (hm : X.mg n = some (.ref f)) (hk : PySem.W.keepIn X.K (.ref f) = true) (hg : Gl X n := by rfl) (hdb : (n == ("__debug__" : Str)) = false := by decide)
    (he : starEach (e :: es) X.env = (false, eval e X.env) :: starEach es X.env := by rfl) (hpl : (backTo pos (starEach es X.env)).any (·.1) = false := by rfl) : JE X I0 H0 W ctx mem (.Call (.Name n pos') (e :: es) [] pos) (md.bind g) rc := fun I H σ Q st p =>
  w_call (k.call cj st p) hm hk hg hdb he hpl
/-- a built-in by its name -/
theorem JE.callB {id : String} (k : JA X I0 H0 W ctx mem (e :: es) md R) (cj : CallJ X W (.builtin id) R g rc) (hm : X.mg n = none) (hv : bootBuiltins n = some (.builtin id)) (hg : Gl X n := by rfl) (hn : n ≠ "__name__" := by decide) (hdb : (n == ("__debug__" : Str)) = false := by decide)
    (he : starEach (e :: es) X.env = (false, eval e X.env) :: starEach es X.env := by rfl) (hpl : (backTo pos (starEach es X.env)).any (·.1) = false := by rfl) : JE X I0 H0 W ctx mem (.Call (.Name n pos') (e :: es) [] pos) (md.bind g) rc := fun I H σ Q st p =>
  w_callB (k.call cj st p) hm hv hg hn hdb he hpl
theorem JE.callTy {T : String} (k : JA X I0 H0 W ctx mem (e :: es) md R) (cj : CallJ X W (.type T) R g rc) (hm : X.mg n = none) (hv : bootBuiltins n = some (.type T)) (hg : Gl X n := by rfl) (hn : n ≠ "__name__" := by decide) (hdb : (n == ("__debug__" : Str)) = false := by decide)
    (he : starEach (e :: es) X.env = (false, eval e X.env) :: starEach es X.env := by rfl) (hpl : (backTo pos (starEach es X.env)).any (·.1) = false := by rfl) : JE X I0 H0 W ctx mem (.Call (.Name n pos') (e :: es) [] pos) (md.bind g) rc := fun I H σ Q st p =>
  w_callTy (k.call cj st p) hm hv hg hn hdb he hpl
/-- what an instance must be for its methods -/
def InsOf (C : Addr) (r : Ra α) (m : Str) : Prop := ∀ I H v x, Same I H → r I H v x → ∃ a dx fs, v = .ref a ∧ H a = some (.ins C dx fs) ∧ fs.lookup m = none
theorem JE.meth {pl : Sem Bool} {m : Str} {C f : Addr} {apos : Pos} {g : α × δ → Res γ} [MoA ra] (j : JE X I0 H0 W ctx mem o ma ra) (hi : InsOf C ra m) (k : JA X I0 H0 W ctx mem (e :: es) md R) (cj : CallJ X W (.ref f) (aCons ra R) g rc) (c : Cls X.K C) (hm : Meth X.K C m f)
    (hst : starEach (e :: es) X.env = (false, eval e X.env) :: starEach es X.env := by rfl) (hpl : (backTo pos (starEach es X.env)).any (·.1) = false := by rfl)
    (ht : eval (.Call (.Attribute o m apos) (e :: es) [] pos) X.env = (do
      let ov ← eval o X.env
      standAt apos.atName
      let (f, first) ← holding [ov] (getMethod ov m pl)
      callWith pos f first (backTo pos (starEach (e :: es) X.env)) (backToKw pos (keywordEach [] X.env))) := by rfl) : JE X I0 H0 W ctx mem (.Call (.Attribute o m apos) (e :: es) [] pos) (ma.bind fun x => md.bind fun y => g (x, y)) rc := fun I H σ Q st p => by
  refine w_meth (j I H σ _ st ?_) c hm hst hpl ht
  cases ma with
  | ok x =>
    intro I1 H1 v f1 r1
    obtain ⟨a, dx, fs, ev, ha, hl⟩ := hi I1 H1 v x f1.ih r1
    refine ⟨a, dx, fs, ev, ha, hl, k I1 H1 σ _ (st.step f1) ?_⟩
    have p1 := PostE.up p f1
    cases md with
    | ok y => exact fun I2 H2 vs f2 r2 => cj I2 H2 σ Q (v :: vs) (x, y) f2.ih ⟨v, vs, rfl, MoA.up f2.i f2.h r1, r2⟩ (PostE.up p1 f2)
    | err e => exact p1
    | stuck => exact p1
  | err e => exact p
  | stuck => exact p
theorem JE.meth0 {pl : Sem Bool} {m : Str} {C f : Addr} {apos : Pos} {g : α × Unit → Res γ} (j : JE X I0 H0 W ctx mem o ma ra) (hi : InsOf C ra m) (cj : CallJ X W (.ref f) (aCons ra aNil) g rc) (c : Cls X.K C) (hm : Meth X.K C m f)
    (ht : eval (.Call (.Attribute o m apos) [] [] pos) X.env = (do
      let ov ← eval o X.env
      standAt apos.atName
      let (f, first) ← holding [ov] (getMethod ov m pl)
      callWith pos f first (backTo pos (starEach [] X.env)) (backToKw pos (keywordEach [] X.env))) := by rfl) : JE X I0 H0 W ctx mem (.Call (.Attribute o m apos) [] [] pos) (ma.bind fun x => g (x, ())) rc := fun I H σ Q st p => by
  refine w_meth0 (j I H σ _ st ?_) c hm ht
  cases ma with
  | ok x =>
    intro I1 H1 v f1 r1
    obtain ⟨a, dx, fs, ev, ha, hl⟩ := hi I1 H1 v x f1.ih r1
    exact ⟨a, dx, fs, ev, ha, hl, cj I1 H1 σ Q [v] (x, ()) f1.ih ⟨v, [], rfl, r1, rfl⟩ (PostE.up p f1)⟩
  | err e => exact p
  | stuck => exact p
/-- what a field is worth -/
def FldOf (K : PySem.W.Frag) (C : Addr) (r : Ra α) (f : Str) (get : α → β) (rf : Ra β) : Prop := ∀ I H v x, Same I H → r I H v x → ∃ a dx fs w, v = .ref a ∧ H a = some (.ins C dx fs) ∧ fs.lookup f = some w ∧ rf I H w (get x)
theorem JE.fld {C : Addr} {f : Str} {get : α → β} (j : JE X I0 H0 W ctx mem o ma ra) (hf : FldOf X.K C ra f get rb) (c : Cls X.K C) (hn : NoAttr X.K C f) (hb : attributeBase o f X.env (eval o X.env) = eval o X.env := by rfl) :
    JE X I0 H0 W ctx mem (.Attribute o f pos) (ma.bind fun x => .ok (get x)) rb := fun I H σ Q st p => by
  refine w_fld (j I H σ _ st ?_) hb
  cases ma with
  | ok x =>
    intro I1 H1 v f1 r1
    obtain ⟨a, dx, fs, w, ev, ha, hl, hw⟩ := hf I1 H1 v x f1.ih r1
    exact ⟨a, C, dx, fs, w, ev, ha, c, hn, hl, p I1 H1 w f1 hw⟩
  | err e => exact p
  | stuck => exact p
end

/-! ### statements -/
section
variable {α β γ δ S : Type}
abbrev Knows := Hp → Hp → St → Prop
abbrev KnowsX := Hp → Hp → St → Option Addr → Prop
def PostB (X : Cx) (W : WX) (Kx : KnowsX) (I : Hp) (m : Res S) (G : S → Knows) (D : Ends) : Prop := match m with
  | .ok s => ∀ I' H' σ', Same I I' → G s I' H' σ' → D.nx σ' H'
  | .err e => ∀ I' H' σ' cls d, Kx I' H' σ' d → ExR X.K I' H' e cls d → W cls d σ' H'
  | .stuck => False
def PostR (X : Cx) (I0 H0 : Hp) (W : WX) (Kx : KnowsX) (m : Res γ) (r : Ra γ) (D : Ends) : Prop := match m with
  | .ok y => ∀ I' H' v, Fm I0 H0 I' H' → r I' H' v y → D.rt v H'
  | .err e => ∀ I' H' σ' cls d, Kx I' H' σ' d → ExR X.K I' H' e cls d → W cls d σ' H'
  | .stuck => False
theorem PostB.up {X : Cx} {W : WX} {Kx : KnowsX} {I I1 : Hp} {m : Res S} {G : S → Knows} {D : Ends} (p : PostB X W Kx I m G D) (s : Same I I1) : PostB X W Kx I1 m G D := by
  cases m with
  | ok a => exact fun I' H' σ' q => p I' H' σ' (s.trans q)
  | err e => exact p
  | stuck => exact p
/-- one statement that goes on -/
def J1 (X : Cx) (W : WX) (Kx : KnowsX) (G : Knows) (st : Stmt) (m : Res S) (G' : S → Knows) : Prop := ∀ (I H : Hp) (σ : St) (D : Ends), G I H σ → PostB X W Kx I m G' D → wS X st D σ H
/-- a block that goes on -/
def JN (X : Cx) (W : WX) (Kx : KnowsX) (G : Knows) (ss : List Stmt) (m : Res S) (G' : S → Knows) : Prop := ∀ (I H : Hp) (σ : St) (D : Ends), G I H σ → PostB X W Kx I m G' D → wB X ss D σ H
/-- a block that ends the def -/
def JR (X : Cx) (I0 H0 : Hp) (W : WX) (Kx : KnowsX) (G : Knows) (ss : List Stmt) (m : Res γ) (r : Ra γ) : Prop := ∀ (I H : Hp) (σ : St) (D : Ends), G I H σ → PostR X I0 H0 W Kx m r D → wB X ss D σ H
variable {X : Cx} {I0 H0 : Hp} {W : WX} {Kx : KnowsX} {G : Knows} {ctx : List (Option SF)} {mem : List MF} {e a b c o : Expr} {es bs : List Expr} {st : Stmt} {ss s1 s2 : List Stmt} {pos pos' : Pos} {n : Str} {ra : Ra α} {rr : Ra γ} {ma : Res α} {mc : Res Bool}
theorem JN.nil {s : S} {G' : S → Knows} (h : ∀ I H σ, G I H σ → G' s I H σ) : JN X W Kx G [] (.ok s) G' := fun I H σ D g p => b_nil (p I H σ (Same.refl _) (h _ _ _ g))
theorem JN.seq {T : Type} {m : Res S} {G1 : S → Knows} {f : S → Res T} {G2 : T → Knows} (j : J1 X W Kx G st m G1) (k : ∀ s, JN X W Kx (G1 s) ss (f s) G2) : JN X W Kx G (st :: ss) (m.bind f) G2 := fun I H σ D g p => by
  refine b_cons (j I H σ _ g ?_)
  cases m with
  | ok s => exact fun I' H' σ' si g' => k s I' H' σ' D g' (PostB.up p si)
  | err e => exact p
  | stuck => exact p
theorem JN.last {m : Res S} {G1 : S → Knows} (j : J1 X W Kx G st m G1) : JN X W Kx G [st] m G1 := fun I H σ D g p => by
  refine b_cons (j I H σ _ g ?_)
  cases m with
  | ok s => exact fun I' H' σ' si g' => b_nil (p I' H' σ' si g')
  | err e => exact p
  | stuck => exact p
theorem JR.seq {m : Res S} {G1 : S → Knows} {f : S → Res γ} (j : J1 X W Kx G st m G1) (k : ∀ s, JR X I0 H0 W Kx (G1 s) ss (f s) rr) : JR X I0 H0 W Kx G (st :: ss) (m.bind f) rr := fun I H σ D g p => by
  refine b_cons (j I H σ _ g ?_)
  cases m with
  | ok s => exact fun I' H' σ' _ g' => k s I' H' σ' D g' p
  | err e => exact p
  | stuck => exact p
theorem JR.ret {m : Res γ} (j : JE X I0 H0 W ctx mem e m rr) (hx : ∀ I H σ d, Stt I0 H0 ctx mem I H σ → Fr H0 d → Kx I H σ d) : JR X I0 H0 W Kx (Stt I0 H0 ctx mem) (.Return (some e) pos :: ss) m rr := fun I H σ D g p => by
  refine b_cons (s_ret (j I H σ _ g ?_))
  cases m with
  | ok y => exact fun I' H' v f r => p I' H' v (g.fm.trans f) r
  | err e => exact fun I' H' c d f x => p I' H' σ c d (hx _ _ _ _ (g.step f) (x.1.back g.fm.h)) x.2
  | stuck => exact p
theorem JR.ifR {m1 m2 : Res γ} (j : JT X I0 H0 W ctx mem c mc) (k1 : JR X I0 H0 W Kx (Stt I0 H0 ctx mem) s1 m1 rr) (k2 : JR X I0 H0 W Kx (Stt I0 H0 ctx mem) ss m2 rr) (hx : ∀ I H σ d, Stt I0 H0 ctx mem I H σ → Fr H0 d → Kx I H σ d) :
    JR X I0 H0 W Kx (Stt I0 H0 ctx mem) (.If c s1 [] pos :: ss) (mc.bind fun x => if x = true then m1 else m2) rr := fun I H σ D g p => by
  refine b_cons (s_if (j I H σ _ g ?_))
  cases mc with
  | ok x =>
    intro I1 H1 v f r y hy
    cases r; cases hy
    cases x with
    | true =>
      refine iteT (b_mono (k1 I1 H1 σ { D with nx := fun _ _ => False } (g.step f) ?_) (fun _ _ z => z.elim) (fun _ _ z => z) (fun _ _ z => z) (fun _ _ z => z))
      exact p
    | false => exact iteF (b_nil (k2 I1 H1 σ D (g.step f) p))
  | err e => exact fun I' H' c d f x => p I' H' σ c d (hx _ _ _ _ (g.step f) (x.1.back g.fm.h)) x.2
  | stuck => exact p
theorem J1.if {m1 m2 : Res S} {G' : S → Knows} (j : JT X I0 H0 W ctx mem c mc) (k1 : JN X W Kx (Stt I0 H0 ctx mem) s1 m1 G') (k2 : JN X W Kx (Stt I0 H0 ctx mem) s2 m2 G') (hx : ∀ I H σ d, Stt I0 H0 ctx mem I H σ → Fr H0 d → Kx I H σ d) :
    J1 X W Kx (Stt I0 H0 ctx mem) (.If c s1 s2 pos) (mc.bind fun x => if x = true then m1 else m2) G' := fun I H σ D g p => by
  refine s_if (j I H σ _ g ?_)
  cases mc with
  | ok x =>
    intro I1 H1 v f r y hy
    cases r; cases hy
    cases x with
    | true => exact iteT (k1 I1 H1 σ D (g.step f) (PostB.up p f.i))
    | false => exact iteF (k2 I1 H1 σ D (g.step f) (PostB.up p f.i))
  | err e => exact fun I' H' c d f x => p I' H' σ c d (hx _ _ _ _ (g.step f) (x.1.back g.fm.h)) x.2
  | stuck => exact p
theorem J1.set (i : Nat) {r : Rp α} [Mo r] {m : Res α} (j : JE X I0 H0 W ctx mem e m (rp r)) (hx : ∀ I H σ d, Stt I0 H0 ctx mem I H σ → Fr H0 d → Kx I H σ d) (hN : X.N.Nodup) (hi : X.N[i]? = some n := by rfl) (hl : Loc X.env.scope n := by first | exact Or.inl rfl | exact Or.inr rfl) (hs : swapsWith e (some (.Name n pos')) pos.line X.env = pure false := by rfl)
    (hf : X.fn n = true ∨ X.env.scope.names.lookup n = some .local := by first | exact .inl rfl | exact .inr rfl | assumption) : J1 X W Kx (Stt I0 H0 ctx mem) (.Assign [.Name n pos'] e pos) m (fun x => Stt I0 H0 (ctx.set i (some ⟨r, x⟩)) mem) := fun I H σ D g p => by
  refine s_set i (j I H σ _ g ?_) hN hi hl hs hf
  cases m with
  | ok x => exact fun I' H' v f h => p I' H' _ f.i ((g.step f).set i h)
  | err e => exact fun I' H' c d f x => p I' H' σ c d (hx _ _ _ _ (g.step f) (x.1.back g.fm.h)) x.2
  | stuck => exact p
/-- a block that ends by itself: the def hands back None -/
theorem JR.end {m : Res S} {G' : S → Knows} {f : S → Res γ} (j : JN X W Kx G ss m G') : True := trivial
end
end L2.Tr

namespace L2.Tr
open PySem PySem.Spec PyProof.Rows
section
variable {α β γ δ S : Type} {X : Cx} {W : WX}
/-! ### ints -/
def mulI (x y : Int) : Res Int := Res.guard (x.natAbs.log2 + y.natAbs.log2 < 1000000) (.ok (x * y))
def modI (x y : Int) : Res Int := Res.guard (y ≠ 0) (.ok (x.fmod y))
def fdivI (x y : Int) : Res Int := Res.guard (y ≠ 0 ∧ y.natAbs.log2 < 9000) (.ok (x.fdiv y))
def powI (x y : Int) : Res Int := Res.guard (0 ≤ y ∧ (y ≤ 1000000 ∧ x.natAbs < 2 ^ 64 ∨ (x.natAbs.log2 + 1) * y.toNat ≤ 2 ^ 27)) (.ok (x ^ y.toNat))
theorem post_guard {p : Prop} [Decidable p] {m : Res α} {K : PySem.W.Frag} {r : Ra α} {I H : Hp} {E : XK} {Q : VK} (h : PostE K (Res.guard p m) r I H E Q) : p ∧ PostE K m r I H E Q := by
  unfold Res.guard at h
  by_cases q : p
  · rw [if_pos q] at h; exact ⟨q, h⟩
  · rw [if_neg q] at h; exact False.elim h
theorem op_fdivV : OpR X (binaryOp .FloorDiv) (rI (fun _ j => j ≠ 0 ∧ j.natAbs.log2 < 9000) fun i j => .int (i.fdiv j)) := opI fun i j _ _ _ _ _ hc q => floordiv_int hc.1 q (.inl (PyProof.noPylong_of_log2 hc.2))
theorem opj_add : OpJ X W (binaryOp .Add) (rp rInt) (rp rInt) (fun x y => .ok (x + y)) (rp rInt) := fun I H σ Q u v x y s a b p => OpR.w op_add ⟨x, y, a, b, p I H _ (Fm.refl s) rfl⟩
theorem opj_sub : OpJ X W (binaryOp .Sub) (rp rInt) (rp rInt) (fun x y => .ok (x - y)) (rp rInt) := fun I H σ Q u v x y s a b p => OpR.w op_sub ⟨x, y, a, b, p I H _ (Fm.refl s) rfl⟩
theorem opj_mul : OpJ X W (binaryOp .Mult) (rp rInt) (rp rInt) (fun x y => mulI x y) (rp rInt) := fun I H σ Q u v x y s a b p => OpR.w op_mulW ⟨x, y, a, b, (post_guard p).1, (post_guard p).2 I H _ (Fm.refl s) rfl⟩
theorem opj_mod : OpJ X W (binaryOp .Mod) (rp rInt) (rp rInt) (fun x y => modI x y) (rp rInt) := fun I H σ Q u v x y s a b p => OpR.w op_modN ⟨x, y, a, b, (post_guard p).1, (post_guard p).2 I H _ (Fm.refl s) rfl⟩
theorem opj_fdiv : OpJ X W (binaryOp .FloorDiv) (rp rInt) (rp rInt) (fun x y => fdivI x y) (rp rInt) := fun I H σ Q u v x y s a b p => OpR.w op_fdivV ⟨x, y, a, b, (post_guard p).1, (post_guard p).2 I H _ (Fm.refl s) rfl⟩
theorem op_powV : OpR X (binaryOp .Pow) (rI (fun x y => 0 ≤ y ∧ (y ≤ 1000000 ∧ x.natAbs < 2 ^ 64 ∨ (x.natAbs.log2 + 1) * y.toNat ≤ 2 ^ 27)) fun i j => .int (i ^ j.toNat)) := opI fun x y _ _ _ _ _ hc q => by
  rcases hc.2 with h | h
  · exact pow_int_small hc.1 h.1 h.2 q
  · refine pow_int hc.1 ?_ q
    have b : Builtin.Int.intBits x ≤ x.natAbs.log2 + 1 := by
      unfold Builtin.Int.intBits
      split <;> omega
    have e : y = (y.toNat : Int) := (Int.toNat_of_nonneg hc.1).symm
    rw [e]
    have := Nat.mul_le_mul_right y.toNat b
    have h2 : Builtin.Int.intBits x * y.toNat ≤ 2 ^ 27 := Nat.le_trans this h
    exact_mod_cast h2
theorem opj_pow : OpJ X W (binaryOp .Pow) (rp rInt) (rp rInt) (fun x y => powI x y) (rp rInt) := fun I H σ Q u v x y s a b p => OpR.w op_powV ⟨x, y, a, b, (post_guard p).1, (post_guard p).2 I H _ (Fm.refl s) rfl⟩
theorem opj_lt : OpJ X W (compareOp .Lt) (rp rInt) (rp rInt) (fun x y => .ok (decide (x < y))) (rp rBl) := fun I H σ Q u v x y s a b p => OpR.w op_lt ⟨x, y, a, b, p I H _ (Fm.refl s) rfl⟩
theorem opj_le : OpJ X W (compareOp .LtE) (rp rInt) (rp rInt) (fun x y => .ok (decide (x ≤ y))) (rp rBl) := fun I H σ Q u v x y s a b p => OpR.w op_le ⟨x, y, a, b, p I H _ (Fm.refl s) rfl⟩
theorem opj_gt : OpJ X W (compareOp .Gt) (rp rInt) (rp rInt) (fun x y => .ok (decide (y < x))) (rp rBl) := fun I H σ Q u v x y s a b p => OpR.w op_gt ⟨x, y, a, b, p I H _ (Fm.refl s) rfl⟩
theorem opj_ge : OpJ X W (compareOp .GtE) (rp rInt) (rp rInt) (fun x y => .ok (decide (y ≤ x))) (rp rBl) := fun I H σ Q u v x y s a b p => OpR.w op_ge ⟨x, y, a, b, p I H _ (Fm.refl s) rfl⟩
theorem decV {a b : Int} : decide (V.int a = V.int b) = decide (a = b) := by by_cases h : a = b <;> simp [h]
theorem opj_eq : OpJ X W (compareOp .Eq) (rp rInt) (rp rInt) (fun x y => .ok (decide (x = y))) (rp rBl) := fun I H σ Q u v x y s a b p => by
  cases a; cases b
  exact OpR.w op_eq ⟨rfl, p I H _ (Fm.refl s) (by rw [decV]; rfl)⟩
theorem opj_ne : OpJ X W (compareOp .NotEq) (rp rInt) (rp rInt) (fun x y => .ok (!decide (x = y))) (rp rBl) := fun I H σ Q u v x y s a b p => by
  cases a; cases b
  exact OpR.w op_ne ⟨rfl, p I H _ (Fm.refl s) (by rw [decV]; rfl)⟩
theorem unj_neg : UnJ X W (unaryOp .USub) (rp rInt) (fun x => .ok (-x)) (rp rInt) := fun I H σ Q u x s a p => UnR.w un_neg ⟨x, a, p I H _ (Fm.refl s) rfl⟩
abbrev R1 (r : Ra α) := aCons r aNil
abbrev R2' (r : Ra α) (r' : Ra β) := aCons r (aCons r' aNil)
theorem cj_abs : CallJ X W (.builtin "abs") (R1 (rp rInt)) (fun d => .ok (if d.1 < 0 then -d.1 else d.1)) (rp rInt) := fun I H σ Q vs x s a p => by
  obtain ⟨v, ws, rfl, h, rfl⟩ := a
  exact CallR.w call_abs ⟨x.1, by rw [show v = _ from h], p I H _ (Fm.refl s) rfl⟩
theorem cj_int : CallJ X W (.type "int") (R1 (rp rInt)) (fun d => .ok d.1) (rp rInt) := fun I H σ Q vs x s a p => by
  obtain ⟨v, ws, rfl, h, rfl⟩ := a
  exact CallR.w call_int1 (.inl ⟨x.1, by rw [show v = _ from h], p I H _ (Fm.refl s) rfl⟩)
theorem cj_intB : CallJ X W (.type "int") (R1 (rp rBl)) (fun d => .ok (if d.1 = true then 1 else 0)) (rp rInt) := fun I H σ Q vs x s a p => by
  obtain ⟨v, ws, rfl, h, rfl⟩ := a
  exact CallR.w call_int1 (.inr ⟨x.1, by rw [show v = _ from h], p I H _ (Fm.refl s) rfl⟩)
theorem cj_len {r : Ra α} : CallJ X W (.builtin "len") (R1 (rdL X.K r)) (fun d => .ok (d.1.length : Int)) (rp rInt) := fun I H σ Q vs x s a p => by
  obtain ⟨v, ws, rfl, ⟨l, vs, rfl, hl, pr⟩, rfl⟩ := a
  exact CallR.w call_len ⟨_, vs.length, rfl, .inl ⟨vs, hl, rfl⟩, by rw [Paired.length pr]; exact p I H _ (Fm.refl s) rfl⟩

/-! ### lists -/
/-- a frozen list, a parameter's list: readable -/
theorem rL_rd {r : Rp α} {K : PySem.W.Frag} {I H : Hp} {v : V} {xs : List α} (s : Same I H) (h : rL r I v xs) : rdL K (rp r) I H v xs := by
  obtain ⟨l, vs, rfl, e, p⟩ := h
  exact ⟨l, vs, rfl, SqL.of (s _ _ e), p⟩
/-- the index i of a list, any sign -/
def atM (xs : List α) (i : Int) : Res α := match atI xs i with
  | some x => .ok x
  | none => .stuck
theorem paired_get {F : α → β → Prop} : ∀ {xs : List α} {ys : List β} {i : Nat} {y : β}, Paired F xs ys → ys[i]? = some y → ∃ x, xs[i]? = some x ∧ F x y
  | _, _, _, _, .nil, e => by simp at e
  | _, _, 0, _, .cons r _, e => by simp at e; subst e; exact ⟨_, rfl, r⟩
  | _, _, i + 1, y, .cons _ t, e => by
    obtain ⟨u, h1, h2⟩ := paired_get (i := i) (y := y) t (by simpa using e)
    exact ⟨u, by simpa using h1, h2⟩
end
end L2.Tr

namespace L2.Tr
open PySem PySem.Spec PyProof.Rows
section
variable {α β γ δ S : Type} {X : Cx} {I0 H0 : Hp} {W : WX} {ctx : List (Option SF)} {mem : List MF} {e a b c o : Expr} {es bs : List Expr} {pos pos' : Pos} {n : Str} {ra : Ra α} {rb : Ra β} {rc : Ra γ} {ma : Res α} {mb : Res β}
/-! ### subscripts, displays -/
theorem atI_pair {F : α → β → Prop} {xs : List α} {ys : List β} {i : Int} {y : β} (p : Paired F xs ys) (h : atI ys i = some y) : ∃ x, atI xs i = some x ∧ F x y := by
  unfold atI at h ⊢
  rw [Paired.length p]
  cases e : ixN ys.length i with
  | none => rw [e] at h; cases h
  | some j => rw [e] at h; exact paired_get p h
theorem JE.ix {r : Ra α} {m : Res (List α)} {mi : Res Int} [MoA r] (ja : JE X I0 H0 W ctx mem a m (rdL X.K r)) (jb : JE X I0 H0 W ctx mem b mi (rp rInt)) (hs : PlainIx b := by exact fun _ _ => rfl) :
    JE X I0 H0 W ctx mem (.Subscript a b pos) (m.bind fun xs => mi.bind fun i => atM xs i) r := fun I H σ Q st p => by
  refine PE.w (pe_ix ix_list pe_W pe_W hs) (ja I H σ _ st ?_)
  cases m with
  | ok xs =>
    intro I1 H1 u f1 r1
    refine jb I1 H1 σ _ (st.step f1) ?_
    have p1 := PostE.up p f1
    cases mi with
    | ok i =>
      intro I2 H2 v f2 r2
      obtain ⟨l, vs, rfl, hl, pr⟩ := MoA.up (r := rdL X.K r) f2.i f2.h r1
      have p2 : PostE X.K (atM xs i) r I2 H2 _ Q := PostE.up p1 f2
      unfold atM at p2
      cases e : atI xs i with
      | none => rw [e] at p2; exact p2.elim
      | some x =>
        rw [e] at p2
        obtain ⟨w, ew, hw⟩ := atI_pair pr e
        exact ⟨l, vs, i, w, rfl, r2, hl, ew, p2 I2 H2 w (Fm.refl f2.ih) hw⟩
    | err e => exact p1
    | stuck => exact p1
  | err e => exact p
  | stuck => exact p
def lR (n : Nat) (r : Ra α) : Hp → Hp → List V → List α → Prop := fun I H vs xs => vs.length = n ∧ Paired (r I H) vs xs
theorem JA.nilL {r : Ra α} : JA X I0 H0 W ctx mem [] (.ok []) (lR 0 r) := fun I H σ Q st p => w_nil (p I H [] (Fm.refl st.same) ⟨rfl, .nil⟩)
theorem JA.consL {k : Nat} {r : Ra α} {m : Res (List α)} [MoA r] (j : JE X I0 H0 W ctx mem e ma r) (jk : JA X I0 H0 W ctx mem es m (lR k r)) (hs : starEach (e :: es) X.env = (false, eval e X.env) :: starEach es X.env := by rfl) :
    JA X I0 H0 W ctx mem (e :: es) (ma.bind fun x => m.bind fun y => .ok (x :: y)) (lR (k + 1) r) := fun I H σ Q st p => by
  refine Tr.w_cons (j I H σ _ st ?_) hs
  cases ma with
  | ok x =>
    intro I1 H1 v f1 r1
    refine jk I1 H1 σ _ (st.step f1) ?_
    cases m with
    | ok y => exact fun I2 H2 vs f2 r2 => p I2 H2 _ (f1.trans f2) ⟨by rw [List.length_cons, r2.1], .cons (MoA.up f2.i f2.h r1) r2.2⟩
    | err e => exact fun I2 H2 c d f2 x => p I2 H2 c d (f1.trans f2) ⟨x.1.back f1.h, x.2⟩
    | stuck => exact p
  | err e => exact p
  | stuck => exact p
/-- [..], frozen at once -/
theorem JE.lst {k : Nat} {r : Rp α} {m : Res (List α)} [mo : Mo r] (j : JA X I0 H0 W ctx mem es m (lR k (rp r))) (hk : k ≤ sizeLine := by decide) : JE X I0 H0 W ctx mem (.List es pos) m (rp (rL r)) := fun I H σ Q st p => by
  refine w_lst (j I H σ _ st ?_)
  cases m with
  | ok xs => exact fun I1 H1 vs f1 r1 => ⟨by rw [r1.1]; exact hk, fun q hq => p _ _ _ (f1.trans (Fm.new f1.ih hq)) ⟨q, vs, rfl, upd_same, Paired.mapP r1.2 fun _ _ z => mo.up (Fm.new (o := .lst vs) f1.ih hq).i z⟩⟩
  | err e => exact p
  | stuck => exact p
theorem JE.tup {k : Nat} {r : Rp α} {m : Res (List α)} {x1} [mo : Mo r] (j : JA X I0 H0 W ctx mem es m (lR k (rp r))) (hk : k ≤ sizeLine := by decide) : JE X I0 H0 W ctx mem (.Tuple es x1 pos) m (rp (rT r)) := fun I H σ Q st p => by
  refine w_tup (j I H σ _ st ?_)
  cases m with
  | ok xs => exact fun I1 H1 vs f1 r1 => ⟨by rw [r1.1]; exact hk, fun q hq => p _ _ _ (f1.trans (Fm.new f1.ih hq)) ⟨q, vs, rfl, upd_same, Paired.mapP r1.2 fun _ _ z => mo.up (Fm.new (o := .tup vs) f1.ih hq).i z⟩⟩
  | err e => exact p
  | stuck => exact p
/-- a frozen list as a readable one -/
theorem JE.rd {r : Rp α} {m : Res (List α)} (j : JE X I0 H0 W ctx mem e m (rp (rL r))) : JE X I0 H0 W ctx mem e m (rdL X.K (rp r)) := j.co fun _ _ _ _ s h => rL_rd s h
end
end L2.Tr

namespace L2.Tr
open PySem PySem.Spec PyProof.Rows
section
variable {α β γ δ S : Type} {X : Cx} {I0 H0 : Hp} {W : WX} {ctx : List (Option SF)} {mem : List MF} {e a b c o : Expr} {es bs : List Expr} {pos pos' : Pos} {n : Str} {ra : Ra α} {rb : Ra β} {rc : Ra γ} {ma : Res α} {mb : Res β}
/-! ### own operators -/
/-- facts of an own class for its operators and isinstance -/
structure OCls (K : PySem.W.Frag) (C : Addr) : Prop where
  cl : Cls K C
  sf : PySem.W.selfFirst K C = true
  ca : PySem.W.findIn K (.ref C) "__class__" = some (some (.builtin "object.__class__"))
  cn : PySem.W.specialIn K (.builtin "object.__class__") "__get__" = some (some (.builtin "getset_descriptor.__get__"))
  ct : PySem.W.takesIn K (.builtin "object.__class__") = some true
  cm : PySem.W.mroIn K C (.type "object") = some true
  ni : PySem.W.subIn K (.ref C) (.type "int") = some false
  in_ : PySem.W.subIn K (.type "int") (.ref C) = some false
  ne : PySem.W.findIn K (.ref C) "__ne__" = some (some (.builtin "object.__ne__"))
structure OMet (K : PySem.W.Frag) (C : Addr) (m : Str) (f : Addr) : Prop where
  at_ : PySem.W.findIn K (.ref C) m = some (some (.ref f))
  fn : PySem.W.isFn K (.ref f) = true
def InsR (C : Addr) (r : Ra α) : Prop := ∀ I H v x, Same I H → r I H v x → ∃ a dx fs, v = .ref a ∧ H a = some (.ins C dx fs)
theorem insAt {pins : List (Addr × Obj)} {σ : St} {H : Hp} {s : Shared} {x C dx : Addr} {fs : List (Str × V)} (I : Inv X pins σ H s) (h : H x = some (.ins C dx fs)) : ∃ od, PySem.W.InstAt s.heap x (PySem.W.instObj C dx) C (some od) := by
  obtain ⟨mA, O, _⟩ := ins_get I.hok h
  obtain ⟨od, J, _⟩ := O.look
  exact ⟨od, J⟩
theorem cmpback' {v : V} {u : Value} {s : Shared} {Q : Value → Shared → Prop} (r : RelV v u) (h : Q u s) : PySem.W.CmpBack Q u s := by
  cases v with
  | non => cases (show u = Value.none from r); exact h
  | bl b => cases (show u = Value.bool b from r); exact h
  | int i => obtain ⟨t, e⟩ := (show ∃ t, u = Value.int i t from r); cases e; exact h
  | str x => obtain ⟨t, e⟩ := (show ∃ t, u = Value.str x t from r); cases e; exact h
  | byt b => obtain ⟨t, e⟩ := (show ∃ t, u = Value.bytes b t from r); cases e; exact h
  | flt b => obtain ⟨t, e⟩ := (show ∃ t, u = Value.float b t from r); cases e; exact h
  | ref a => cases (show u = Value.ref a from r); exact h
  | ty n => cases (show u = Value.type n from r); exact h
theorem back_W {f : Addr} {σ : St} {vs : List V} {H : Hp} {Q : VK} (h : callW X (.ref f) σ vs H Q) {pins : List (Addr × Obj)} {s : Shared} {us : List Value} (I : Inv X pins σ H s) (r : Vals vs us) :
    wpAny (model X.prog X.w) X.A (call (.ref f) us) (PySem.W.CmpBack (EP X pins σ Q)) X.xe s := thn (h pins s us I r) fun u s' ⟨v, H', I', rv, q⟩ => cmpback' rv ⟨v, H', I', rv, q⟩
/-- x op y, both of the class -/
theorem opj_own {op : Operator} {C f : Addr} {g : α × β × Unit → Res γ} (hc : OCls X.K C) (hm : OMet X.K C (PySem.dunder op.info.2) f) (ia : InsR C ra) (ib : InsR C rb) (cj : CallJ X W (.ref f) (R2' ra rb) g rc) :
    OpJ X W (binaryOp op) ra rb (fun x y => g (x, y, ())) rc := fun I H σ Q u v x y s a b p pins sh uu vv Iv ru rv => by
  obtain ⟨au, dx, fs, rfl, hu⟩ := ia I H u x s a
  obtain ⟨av, dy, gs, rfl, hv⟩ := ib I H v y s b
  cases (show uu = Value.ref au from ru)
  cases (show vv = Value.ref av from rv)
  obtain ⟨od, J⟩ := insAt Iv hu
  obtain ⟨od', J'⟩ := insAt Iv hv
  obtain ⟨m, hF⟩ := Iv.fr
  exact PySem.W.binop_K hF Iv.ok.mod.kin J J'.type hc.sf hm.at_ hm.fn (back_W (cj I H σ Q [.ref au, .ref av] (x, y, ()) s ⟨_, _, rfl, a, _, _, rfl, b, rfl⟩ p) Iv (.cons rfl (.cons rfl .nil)))
/-- n op x, n an int: the reflected method -/
theorem opj_ownR {op : Operator} {C f f' : Addr} {g : α × Int × Unit → Res γ} {sl id : String} {gi : Int → Int → Sem Fin} (hc : OCls X.K C) (hm : OMet X.K C (PySem.dunder op.info.2) f) (hr : OMet X.K C (dunderR op.info.2) f')
    (fills : fillsNumberSlot (.type "int") op.info.2 = pure true) (slot : Slot "int" (PySem.dunder op.info.2) id) (entry : entryFor table id = some (Builtin.Int.intBinary sl gi)) (args : ∀ a b, argsOk id ⟨[a, b], []⟩)
    (ia : InsR C ra) (cj : CallJ X W (.ref f') (R2' ra (rp rInt)) g rc) : OpJ X W (binaryOp op) (rp rInt) ra (fun x y => g (y, x, ())) rc := fun I H σ Q u v x y s a b p pins sh uu vv Iv ru rv => by
  obtain ⟨av, dx, fs, rfl, hv⟩ := ia I H v y s b
  cases (show vv = Value.ref av from rv)
  cases (show u = V.int x from a)
  obtain ⟨t, e⟩ := (show ∃ t, uu = Value.int x t from ru)
  cases e
  obtain ⟨od, J⟩ := insAt Iv hv
  exact PySem.W.tr_binR (fo := .none) Iv.kIn J hc.sf hm.at_ hr.at_ hr.fn fills hc.ni slot entry args (back_W (cj I H σ Q [.ref av, .int x] (y, x, ()) s ⟨_, _, rfl, b, _, _, rfl, rfl, rfl⟩ p) Iv (.cons rfl (.cons ⟨_, rfl⟩ .nil)))
theorem opj_subR {C f f' : Addr} {g : α × Int × Unit → Res γ} (hc : OCls X.K C) (hm : OMet X.K C "__sub__" f) (hr : OMet X.K C "__rsub__" f') (ia : InsR C ra) (cj : CallJ X W (.ref f') (R2' ra (rp rInt)) g rc) : OpJ X W (binaryOp .Sub) (rp rInt) ra (fun x y => g (y, x, ())) rc :=
  opj_ownR (op := .Sub) (sl := "__sub__") hc hm hr F.fills_int_sub F.slot_int_sub F.entry_int_sub F.args_int_sub_2 ia cj
theorem opj_cmpI {op : CmpOp} {C f : Addr} {g : α × Int × Unit → Res γ} (hop : ∀ a b, compareOp op a b = richCompare op a b) (hc : OCls X.K C) (hm : OMet X.K C (cmpInfo op).2.1 f) (hu : X.A.units < cLine) (hn : PySem.W.notFirst X.K C (.type "int") = true) (ia : InsR C ra) (cj : CallJ X W (.ref f) (R2' ra (rp rInt)) g rc) :
    OpJ X W (compareOp op) ra (rp rInt) (fun x y => g (x, y, ())) rc := fun I H σ Q u v x y s a b p pins sh uu vv Iv ru rv => by
  obtain ⟨au, dx, fs, rfl, hu'⟩ := ia I H u x s a
  cases (show uu = Value.ref au from ru)
  cases (show v = V.int y from b)
  obtain ⟨t, e⟩ := (show ∃ t, vv = Value.int y t from rv)
  cases e
  obtain ⟨od, J⟩ := insAt Iv hu'
  obtain ⟨m, hF⟩ := Iv.fr
  rw [hop]
  exact PySem.W.cmp_K (tb := .type "int") hu hF Iv.ok.mod.kin J (PySem.W.Looks.of_pure rfl) hn hm.at_ hm.fn (back_W (cj I H σ Q [.ref au, .int y] (x, y, ()) s ⟨_, _, rfl, a, _, _, rfl, rfl, rfl⟩ p) Iv (.cons rfl (.cons ⟨_, rfl⟩ .nil)))
/-- the callee at one level below -/
theorem run_W1 {k : Nat} {f : Addr} {sp : Sp} {vs : List V} {H : Hp} {σ : St} {Q : VK} (F : FnR X.prog X.w X.K X.mg X.base (L2N.CX X.prog X.w) k f sp) (hr : Room (k + 1) X.A) (tk : L2N.Takes X W) (h : sp vs H Q fun cls d H' => W cls d σ H') {pins : List (Addr × Obj)} {s : Shared} {us : List Value} (I : Inv X pins σ H s) (r : Vals vs us) :
    wpAny (model X.prog X.w) X.A.in1 (call (.ref f) us) (EP X pins σ Q) X.xe s := by
  refine wpAny_call (codeAny_mono (F X.A.in1 X.stack s H us vs Q _ hr.in1 I.env0.in1 r h) fun r s' hq => ?_)
  cases r with
  | error e => exact L2N.passAt tk σ pins H s e s' I hq
  | ok fl =>
    cases fl with
    | ret u => exact I.after hq
    | next => exact False.elim hq
    | brk => exact False.elim hq
    | cont => exact False.elim hq
end
end L2.Tr

namespace L2.Tr
open PySem PySem.Spec PyProof.Rows
section
variable {α β γ δ S : Type} {X : Cx} {I0 H0 : Hp} {W : WX} {Kx : KnowsX} {G : Knows} {ctx : List (Option SF)} {mem : List MF} {e a b c o : Expr} {es bs : List Expr} {st : Stmt} {ss s1 s2 : List Stmt} {pos pos' : Pos} {n : Str} {ra : Ra α} {rb : Ra β} {rc : Ra γ} {ma : Res α} {mb : Res β}

/-! ### promises -/
def spF (K : PySem.W.Frag) (R : Hp → Hp → List V → δ → Prop) (m : δ → Res γ) (r : Ra γ) : Sp := fun vs H Q E => ∃ I d, Same I H ∧ R I H vs d ∧ PostE K (m d) r I H E Q
theorem cj_of {k : Nat} {f : Addr} {R : Hp → Hp → List V → δ → Prop} {m : δ → Res γ} (F : FnR X.prog X.w X.K X.mg X.base (L2N.CX X.prog X.w) k f (spF X.K R m rc)) (hr : Room k X.A) (tk : L2N.Takes X W) : CallJ X W (.ref f) R m rc := fun I H σ Q vs d s h p => run_W F hr tk ⟨I, d, s, h, p⟩
/-- arguments by another reading -/
theorem CallJ.co {δ' : Type} {f : Value} {R : Hp → Hp → List V → δ → Prop} {R' : Hp → Hp → List V → δ' → Prop} {m : δ → Res γ} {h : δ' → δ} (cj : CallJ X W f R m rc) (c : ∀ I H vs x, Same I H → R' I H vs x → R I H vs (h x)) : CallJ X W f R' (fun x => m (h x)) rc := fun I H σ Q vs x s r p => cj I H σ Q vs (h x) s (c I H vs x s r) p

theorem opj_neI {k : Nat} {C f : Addr} {g : α × Int × Unit → Res Bool} (hc : OCls X.K C) (hm : OMet X.K C "__eq__" f) (hr : Room (k + 1) X.A) (tk : L2N.Takes X W) (hn : PySem.W.notFirst X.K C (.type "int") = true) (ia : InsR C ra)
    (F : FnR X.prog X.w X.K X.mg X.base (L2N.CX X.prog X.w) k f (spF X.K (R2' ra (rp rInt)) g (rp rBl))) : OpJ X W (compareOp .NotEq) ra (rp rInt) (fun x y => (g (x, y, ())).bind fun z => .ok (!z)) (rp rBl) := fun I H σ Q u v x y s a b p pins sh uu vv Iv ru rv => by
  obtain ⟨au, dx, fs, rfl, hu'⟩ := ia I H u x s a
  cases (show uu = Value.ref au from ru)
  cases (show v = V.int y from b)
  obtain ⟨t, e⟩ := (show ∃ t, vv = Value.int y t from rv)
  cases e
  obtain ⟨od, J⟩ := insAt Iv hu'
  show wpAny _ _ (richCompare .NotEq _ _) _ _ _
  have hu1 : X.A.in1.units < cLine := by have := hr.un; show X.A.units + 1 < _; omega
  refine PySem.W.tr_ne (tb := .type "int") hu1 hr.units0 Iv.kIn J (PySem.W.Looks.of_pure rfl) hn hc.cm hc.ne hm.at_ hm.fn (thn (run_W1 (vs := [.ref au, .int y]) (Q := fun z H' => ∃ k, z = .bl k ∧ Q (.bl (!k)) H') F hr tk ⟨I, (x, y, ()), s, ⟨_, _, rfl, a, _, _, rfl, rfl, rfl⟩, ?_⟩ Iv (.cons rfl (.cons ⟨_, rfl⟩ .nil))) fun w s' ⟨z, H', I', rz, k, ez, q⟩ => ?_)
  · show PostE _ (g (x, y, ())) _ _ _ _ _
    revert p
    show PostE _ ((g (x, y, ())).bind _) _ _ _ _ _ → _
    generalize g (x, y, ()) = z
    intro p
    cases z with
    | ok k => exact fun I' H' v f r => ⟨k, r, p I' H' _ f rfl⟩
    | err e => exact p
    | stuck => exact p
  · subst ez
    cases (show w = Value.bool k from rz)
    exact ⟨k, rfl, .bl (!k), H', I', rfl, q⟩
/-- isinstance(x, T) -/
def TyR (K : PySem.W.Frag) (r : Ra α) (u : Value) (g : α → Bool) : Prop := ∀ I H v x, Same I H → r I H v x → ∃ t, TyX K H v t ∧ PySem.W.kitOne K t u = some (g x)
theorem JE.isi {u : Value} {cv : V} {g : α → Bool} [MoA ra] (j : JE X I0 H0 W ctx mem a ma ra) (jc : ∀ σ H Q, Q cv H → wE X b σ H Q) (hc : ClsV cv u) (ty : TyR X.K ra u g) (hm : X.mg "isinstance" = none) (hg : Gl X "isinstance" := by rfl)
    (hs : starEach [a, b] X.env = (false, eval a X.env) :: starEach [b] X.env := by rfl) (hs2 : starEach [b] X.env = (false, eval b X.env) :: starEach [] X.env := by rfl) (hpl : (backTo pos (starEach [b] X.env)).any (·.1) = false := by rfl) :
    JE X I0 H0 W ctx mem (.Call (.Name "isinstance" pos') [a, b] [] pos) (ma.bind fun x => .ok (g x)) (rp rBl) := fun I H σ Q st p => by
  refine w_callB (id := "isinstance") (Tr.w_cons (j I H σ _ st ?_) hs) hm (by decide +kernel) hg (by decide) (by decide) hs hpl
  cases ma with
  | ok x =>
    intro I1 H1 v f1 r1
    refine Tr.w_cons (jc σ H1 _ (w_nil ?_)) hs2
    obtain ⟨t, ty1, k⟩ := ty I1 H1 v x f1.ih r1
    exact CallR.w call_isi ⟨v, cv, t, u, g x, rfl, hc, ty1, k, p I1 H1 _ f1 rfl⟩
  | err e => exact p
  | stuck => exact p
/-- raise X('..'), an own class without __init__ over ValueError -/
structure ExcP (K : PySem.W.Frag) (mg : Str → Option Value) (x : Str) : Prop where
  ex : PySem.W.excIn K (He.ga K x) He.veBase "ValueError.__new__" = true
  kp : PySem.W.keepIn K (.ref (He.ga K x)) = true
  bs : PySem.W.subIn K (.ref (He.ga K x)) (.type "BaseException") = some true
  ty : PySem.W.typeIn K (.ref (He.ga K x)) = some (.type "type")
  gl : mg x = some (.ref (He.ga K x))
theorem JR.raiseP {x m : Str} {j : Nat} {p1 p2 p3 : Pos} (hc : X.calm = true) (tk : L2N.Takes X W) (ep : ExcP X.K X.mg x) (hx : ∀ I H σ d, Stt I0 H0 ctx mem I H σ → Fr H0 d → Kx I H σ d) (hg : Gl X x := by rfl) (hdb : (x == ("__debug__" : Str)) = false := by decide) :
    JR X I0 H0 W Kx (Stt I0 H0 ctx mem) (.Raise (some (.Call (.Name x p1) [.Constant (.str m) j p2] [] p3)) none pos :: ss) (.err ⟨x, []⟩ : Res γ) rc := fun I H σ D g p => by
  refine b_cons (s_raise hc tk (L2N.pmk_own PySem.F.excBase_ValueError ep.ex ep.gl ep.kp (raises_own ep.bs ep.ty) hg hdb) ?_)
  exact p I H σ _ none (hx _ _ _ _ g fun _ z => nomatch z) ⟨rfl, rfl⟩
/-! ### while -/
def whileM (c : S → Res Bool) (f : S → Res S) : Nat → S → Res S
  | 0, _ => .stuck
  | n + 1, s => (c s).bind fun b => if b = true then (f s).bind fun s' => whileM c f n s' else .ok s
theorem J1.while {fuel : Nat} {s0 : S} {cx : S → List (Option SF)} {me : S → List MF} {mc : S → Res Bool} {mf : S → Res S} (hp : PassesOwn (model X.prog X.w) X.A X.env X.xe) (jc : ∀ s, JT X I0 H0 W (cx s) (me s) c (mc s)) (jb : ∀ s, JN X W Kx (Stt I0 H0 (cx s) (me s)) ss (mf s) fun s' => Stt I0 H0 (cx s') (me s'))
    (hx : ∀ s I H σ d, Stt I0 H0 (cx s) (me s) I H σ → Fr H0 d → Kx I H σ d) : J1 X W Kx (Stt I0 H0 (cx s0) (me s0)) (.While c ss [] pos) (whileM mc mf fuel s0) (fun s => Stt I0 H0 (cx s) (me s)) := fun I H σ D g p => by
  refine PS.w (ps_while hp pt_W pss_W) ⟨fun k σ' H' => ∃ I' s, Stt I0 H0 (cx s) (me s) I' H' σ' ∧ PostB X W Kx I' (whileM mc mf k s) (fun s => Stt I0 H0 (cx s) (me s)) D, ⟨fuel, I, s0, g, p⟩, ?_⟩
  rintro k σ' H' ⟨I', s, g', p'⟩
  cases k with
  | zero => exact p'.elim
  | succ k =>
    refine jc s I' H' σ' _ g' ?_
    have p2 : PostB X W Kx I' ((mc s).bind fun b => if b = true then (mf s).bind fun s' => whileM mc mf k s' else .ok s) _ D := p'
    revert p2
    generalize mc s = z
    intro p2
    cases z with
    | ok x =>
      intro I1 H1 v f r y hy
      cases r; cases hy
      cases x with
      | true =>
        refine iteT ⟨fun σ2 H2 => ∃ I2 s', Stt I0 H0 (cx s') (me s') I2 H2 σ2 ∧ PostB X W Kx I2 (whileM mc mf k s') (fun s => Stt I0 H0 (cx s) (me s)) D, fun σ2 H2 h => ⟨k, Nat.lt_succ_self _, h⟩, ?_⟩
        refine jb s I1 H1 σ' _ (g'.step f) ?_
        have p3 : PostB X W Kx I1 ((mf s).bind fun s' => whileM mc mf k s') _ D := PostB.up p2 f.i
        revert p3
        generalize mf s = z
        intro p3
        cases z with
        | ok s' => exact fun I2 H2 σ2 si g2 => ⟨I2, s', g2, PostB.up p3 si⟩
        | err e => exact p3
        | stuck => exact p3
      | false => exact iteF (p2 I1 H1 σ' f.i (g'.step f))
    | err e => exact fun I' H' c d f x => p2 I' H' σ' c d (hx _ _ _ _ _ (g'.step f) (x.1.back g'.fm.h)) x.2
    | stuck => exact p2.elim
/-- a, b = e1, e2 -/
theorem J1.par (i j : Nat) {x y : Str} {r1 : Rp α} {r2 : Rp β} [Mo r1] [mo : Mo r2] {px py pt : Pos} {kt k2 pt2} (ja : JE X I0 H0 W ctx mem a ma (rp r1)) (jb : JE X I0 H0 W ctx mem b mb (rp r2)) (hx : ∀ I H σ d, Stt I0 H0 ctx mem I H σ → Fr H0 d → Kx I H σ d)
    (hN : X.N.Nodup) (hc : X.calm = true := by rfl) (hi : X.N[i]? = some x := by rfl) (hj : X.N[j]? = some y := by rfl) (hij : i ≠ j := by decide) (hlx : X.env.scope.names.lookup x = some .local := by rfl) (hly : X.env.scope.names.lookup y = some .local := by rfl)
    (hw : swappedStores [.Tuple [.Name x px, .Name y py] kt pt] (.Tuple [a, b] k2 pt2) X.env = pure (some [x, y]) := by rfl)
    (hs : swapsWithSole [.Tuple [.Name x px, .Name y py] kt pt] (.Tuple [a, b] k2 pt2) pos.line X.env = pure false := by rfl)
    (e1 : starEach [a, b] X.env = (false, eval a X.env) :: starEach [b] X.env := by rfl) (e2 : starEach [b] X.env = (false, eval b X.env) :: starEach [] X.env := by rfl) :
    J1 X W Kx (Stt I0 H0 ctx mem) (.Assign [.Tuple [.Name x px, .Name y py] kt pt] (.Tuple [a, b] k2 pt2) pos) (ma.bind fun u => mb.bind fun v => .ok (u, v)) (fun s => Stt I0 H0 ((ctx.set i (some ⟨r1, s.1⟩)).set j (some ⟨r2, s.2⟩)) mem) := fun I H σ D g p => by
  refine PS.w (ps_par hc hN hi hj hij hlx hly pa_W hw hs) (Tr.w_cons (ja I H σ _ g ?_) e1)
  cases ma with
  | ok u =>
    intro I1 H1 v1 f1 h1
    refine Tr.w_cons (jb I1 H1 σ _ (g.step f1) ?_) e2
    cases mb with
    | ok v => exact fun I2 H2 v2 f2 h2 => w_nil ⟨v1, v2, rfl, p I2 H2 _ (f1.i.trans f2.i) ((((g.step f1).step f2).set i (Mo.up f2.i h1)).set j h2)⟩
    | err e => exact fun I' H' c d f x => p I' H' σ c d (hx _ _ _ _ ((g.step f1).step f) (x.1.back (g.step f1).fm.h)) x.2
    | stuck => exact p.elim
  | err e => exact fun I' H' c d f x => p I' H' σ c d (hx _ _ _ _ (g.step f) (x.1.back g.fm.h)) x.2
  | stuck => exact p.elim
end
/-! ### defs -/
section
variable {γ δ : Type} {P : Program} {w : World} {K : PySem.W.Frag} {mg : Str → Option Value} {base : Heap} {x qual : Str} {params : Arguments} {body : List Stmt} {scope : Scope} {dvs : List V} {kws : List (Str × V)} {f : Addr} {fd : FuncData} {N ps : List Str} {k : Nat} {R : Hp → Hp → List V → δ → Prop} {m : δ → Res γ} {r : Ra γ}
abbrev bx (P : Program) (w : World) (K : PySem.W.Frag) (mg : Str → Option Value) (base : Heap) (N : List Str) (qual : Str) (scope : Scope) (f : Addr) (cdv : Value) (A : Around) (outer : List Env) (s : Shared) (H : Hp) (E : XK) : Cx := cxOf (L2N.CX P w) P w K mg base N qual scope f cdv A outer s H E
abbrev bW (E : XK) : WX := fun cls d _ H => E cls d H
abbrev bK (I0 H0 : Hp) : KnowsX := fun I H _ d => Fm I0 H0 I H ∧ Fr H0 d
theorem FunD.fn (F : FunD K x qual params body scope dvs kws f fd) (S : FnScope N ps scope) (len : ∀ I H vs d, R I H vs d → vs.length = ps.length)
    (hb : ∀ (cdv : Value) (A : Around) (outer : List Env) (s : Shared) (I0 H0 : Hp) (E : XK) (vs : List V) (d : δ), Room k (A.deeper (envOfC qual scope s.heap.objs.size f cdv)) → Same I0 H0 → R I0 H0 vs d →
      ∃ G : Knows, G I0 H0 (start N vs) ∧ JR (bx P w K mg base N qual scope f cdv A outer s H0 E) I0 H0 (bW E) (bK I0 H0) G body (m d) r) : FnOk P w K mg base (L2N.CX P w) (k + 1) f fd ps (spF K R m r) := by
  refine F.ok S (fun vs H Q E ⟨I, d, _, h, _⟩ => len I H vs d h) fun cdv A outer s H vs Q E hr ⟨I, d, sm, h, p⟩ => ⟨_, pss_W, ?_⟩
  obtain ⟨G, g, j⟩ := hb cdv A outer s I H E vs d hr sm h
  refine j I H _ _ g ?_
  revert p
  show PostE K (m d) r I H E Q → PostR _ _ _ _ _ (m d) _ _
  generalize m d = z
  intro p
  cases z with
  | ok y => exact p
  | err e => exact fun I' H' _ c d f x => p I' H' c d f.1 ⟨f.2, x⟩
  | stuck => exact p
end
end L2.Tr

namespace L2.Tr
open PySem PySem.Spec PyProof.Rows
section
variable {α β γ δ S : Type} {X : Cx} {I0 H0 : Hp} {W : WX} {Kx : KnowsX} {G : Knows} {ctx : List (Option SF)} {mem : List MF} {e a b c o : Expr} {es bs : List Expr} {st : Stmt} {ss s1 s2 : List Stmt} {pos pos' : Pos} {n : Str} {ra : Ra α} {rb : Ra β} {rc : Ra γ} {ma : Res α} {mb : Res β}
def rRef (x : Addr) : Rp Unit := fun _ v _ => v = .ref x
instance {x : Addr} : Mo (rRef x) := ⟨fun _ h => h⟩
def putG (f : Str) (s : SF) : List (Str × SF) → List (Str × SF)
  | [] => [(f, s)]
  | q :: gs => if q.1 = f then (f, s) :: gs else q :: putG f s gs
theorem FldR.put {I : Hp} {f : Str} {v : V} {s : SF} (h : s.r I v s.x) : ∀ {fs : List (Str × V)} {gs : List (Str × SF)}, FldR I fs gs → FldR I (putF f v fs) (putG f s gs)
  | [], [], _ => ⟨rfl, h, True.intro⟩
  | p :: fs, q :: gs, ⟨a, b, c⟩ => by
    show FldR I (if p.1 = f then _ else _) (if q.1 = f then _ else _)
    rw [← a]
    by_cases e : p.1 = f
    · rw [if_pos e, if_pos e]; exact ⟨e, h, c⟩
    · rw [if_neg e, if_neg e]; exact ⟨a, b, FldR.put h c⟩
  | [], _ :: _, h => h.elim
  | _ :: _, [], h => h.elim
theorem FldR.length {I : Hp} : ∀ {fs : List (Str × V)} {gs : List (Str × SF)}, FldR I fs gs → fs.length = gs.length
  | [], [], _ => rfl
  | _ :: _, _ :: _, ⟨_, _, c⟩ => congrArg Nat.succ (FldR.length c)
  | [], _ :: _, h => h.elim
  | _ :: _, [], h => h.elim
/-! ### regions -/
theorem Regs.split {I H : Hp} : ∀ {mem : List MF} {fps : List (List Addr)} {j : Nat} {c : MF}, Regs I H mem fps → mem[j]? = some c → ∃ M1 M2 A fp B, mem = M1 ++ c :: M2 ∧ fps = A ++ fp :: B ∧ M1.length = j ∧ Regs I H M1 A ∧ c.Q I H fp ∧ Regs I H M2 B
  | [], _, _, _, _, e => by simp at e
  | d :: mem, fp :: fps, 0, c, ⟨a, b⟩, e => by
    have : d = c := by simpa using e
    subst this
    exact ⟨[], mem, [], fp, fps, rfl, rfl, rfl, True.intro, a, b⟩
  | d :: mem, fp :: fps, j + 1, c, ⟨a, b⟩, e => by
    have e' : mem[j]? = some c := by simpa using e
    obtain ⟨M1, M2, A, fq, B, e1, e2, e3, h1, h2, h3⟩ := Regs.split b e'
    exact ⟨d :: M1, M2, fp :: A, fq, B, by rw [e1]; rfl, by rw [e2]; rfl, by rw [List.length_cons, e3], ⟨a, h1⟩, h2, h3⟩
  | _ :: _, [], _, _, h, _ => h.elim
theorem Regs.join {I H : Hp} : ∀ {M1 M2 : List MF} {A B : List (List Addr)}, Regs I H M1 A → Regs I H M2 B → Regs I H (M1 ++ M2) (A ++ B)
  | [], _, [], _, _, h => h
  | _ :: _, _, _ :: _, _, ⟨a, b⟩, h => ⟨a, Regs.join b h⟩
  | [], _, _ :: _, _, h, _ => h.elim
  | _ :: _, _, [], _, h, _ => h.elim
theorem set_mid {α : Type} {M1 M2 : List α} {c c' : α} {j : Nat} (h : M1.length = j) : (M1 ++ c :: M2).set j c' = M1 ++ c' :: M2 := by
  subst h; induction M1 with
  | nil => rfl
  | cons d M ih => rw [List.cons_append, List.length_cons, List.set_cons_succ, ih]; rfl
theorem erase_mid {α : Type} {M1 M2 : List α} {c : α} {j : Nat} (h : M1.length = j) : (M1 ++ c :: M2).eraseIdx j = M1 ++ M2 := by
  subst h; induction M1 with
  | nil => rfl
  | cons d M ih => rw [List.cons_append, List.length_cons, List.eraseIdx_cons_succ, ih]; rfl
theorem flat_mid {A B : List (List Addr)} {fp : List Addr} : (A ++ fp :: B).flatten = A.flatten ++ (fp ++ B.flatten) := by rw [List.flatten_append, List.flatten_cons]
/-- the heap without a region -/
def rm (H : Hp) (fp : List Addr) : Hp := fun a => if a ∈ fp then none else H a
theorem rm_in {H : Hp} {fp : List Addr} {a : Addr} (h : a ∈ fp) : rm H fp a = none := if_pos h
theorem rm_out {H : Hp} {fp : List Addr} {a : Addr} (h : a ∉ fp) : rm H fp a = H a := if_neg h
theorem Stt.change {I0 H0 I H : Hp} {c : MF} {σ : St} {j : Nat} (s : Stt I0 H0 ctx mem I H σ) (hj : mem[j]? = some c) : ∃ fp, c.Q I H fp ∧ fp.Nodup ∧ (∀ a, a ∈ fp → H0 a = none ∧ I a = none ∧ H a ≠ none) ∧
    ∀ (I' H' : Hp) (c' : MF) (fp' : List Addr), Fm I (rm H fp) I' H' → fp'.Nodup → (∀ a, a ∈ fp' → rm H fp a = none ∧ I' a = none ∧ H' a ≠ none) → c'.Q I' H' fp' → Stt I0 H0 ctx (mem.set j c') I' H' σ := by
  obtain ⟨fps, rg, nd, k⟩ := s.me
  obtain ⟨M1, M2, A, fp, B, e1, e2, e3, h1, h2, h3⟩ := rg.split hj
  subst e1; subst e2
  rw [flat_mid] at nd k
  have ndA := List.nodup_append.mp nd
  have ndB := List.nodup_append.mp ndA.2.1
  have kf : ∀ a, a ∈ fp → H0 a = none ∧ I a = none ∧ H a ≠ none := fun a ha => k a (List.mem_append_right _ (List.mem_append_left _ ha))
  refine ⟨fp, h2, ndB.1, kf, fun I' H' c' fp' f nd' k' q' => ?_⟩
  have oth : ∀ a, a ∈ A.flatten ∨ a ∈ B.flatten → a ∉ fp ∧ H0 a = none ∧ I a = none ∧ H a ≠ none := fun a ha => by
    rcases ha with ha | ha
    · exact ⟨fun z => ndA.2.2 a ha a (List.mem_append_left _ z) rfl, k a (List.mem_append_left _ ha)⟩
    · exact ⟨fun z => ndB.2.2 a z a ha rfl, k a (List.mem_append_right _ (List.mem_append_right _ ha))⟩
  have stay : ∀ a, a ∈ A.flatten ∨ a ∈ B.flatten → H' a = H a := fun a ha => by
    obtain ⟨n, _, _, z⟩ := oth a ha
    cases e : H a with
    | none => exact absurd e z
    | some o => exact f.h a o (by rw [rm_out n]; exact e)
  have out : ∀ a, a ∈ fp' → ¬ (a ∈ A.flatten ∨ a ∈ B.flatten) := fun a ha z => by
    obtain ⟨n, _, _, y⟩ := oth a z
    have := (k' a ha).1
    rw [rm_out n] at this
    exact y this
  have hm : ∀ a, H0 a ≠ none → a ∉ fp := fun a z y => z (kf a y).1
  refine ⟨⟨s.fm.i.trans f.i, fun b u e => f.h b u (by rw [rm_out (hm b (by rw [e]; intro z; cases z))]; exact s.fm.h b u e), f.ih, fun l e n => f.mu l (s.fm.mu l e n) ?_⟩, s.len, fun i sf e => ?_, A ++ fp' :: B, ?_, ?_, ?_⟩
  · rw [rm_out (hm l n)]
    cases z : H0 l with
    | none => exact absurd z n
    | some o => rw [s.fm.h l o z]; intro y; cases y
  · obtain ⟨v, e1, q⟩ := s.sl i sf e
    exact ⟨v, e1, sf.mo.up f.i q⟩
  · rw [set_mid e3]
    exact (h1.up f.i fun a ha => stay a (.inl ha)).join ⟨q', h3.up f.i fun a ha => stay a (.inr ha)⟩
  · rw [flat_mid]
    refine List.nodup_append.mpr ⟨ndA.1, List.nodup_append.mpr ⟨nd', ndB.2.1, fun a ha b hb e => out a ha (.inr (e ▸ hb))⟩, fun a ha b hb e => ?_⟩
    subst e
    rcases List.mem_append.mp hb with z | z
    · exact out a z (.inl ha)
    · exact ndA.2.2 a ha a (List.mem_append_right _ z) rfl
  · rw [flat_mid]
    have go : ∀ a, a ∈ A.flatten ∨ a ∈ B.flatten → H0 a = none ∧ I' a = none ∧ H' a ≠ none := fun a ha => by
      obtain ⟨n, x, y, z⟩ := oth a ha
      exact ⟨x, f.mu a y (by rw [rm_out n]; exact z), by rw [stay a ha]; exact z⟩
    intro a ha
    rcases List.mem_append.mp ha with z | z
    · exact go a (.inl z)
    · rcases List.mem_append.mp z with z | z
      · refine ⟨?_, (k' a z).2⟩
        cases e : H0 a with
        | none => rfl
        | some o =>
          have := (k' a z).1
          rw [rm_out (hm a (by rw [e]; intro y; cases y)), s.fm.h a o e] at this
          cases this
      · exact go a (.inr z)
theorem Fm.rmUpd {I H : Hp} {l : Addr} {o : HO} (s : Same I H) (hI : I l = none) : Fm I (rm H [l]) I (upd H l o) :=
  ⟨Same.refl _, fun b u e => by
    by_cases hb : b = l
    · subst hb; rw [rm_in (List.mem_singleton_self b)] at e; cases e
    · rw [rm_out (fun z => hb (List.mem_singleton.mp z))] at e; rw [upd_ne hb]; exact e, fun b u e => by
    have : b ≠ l := fun q => by rw [q, hI] at e; cases e
    rw [upd_ne this]; exact s b u e, fun _ e _ => e⟩
/-- the one object of cell j is changed -/
theorem Stt.cellAt {I0 H0 I H : Hp} {σ : St} {l : Addr} {c c' : MF} {o : HO} (s : Stt I0 H0 ctx mem I H σ) (j : Nat) (hj : mem[j]? = some c) (hc : ∀ {I H : Hp} {fp : List Addr}, c.Q I H fp → fp = [l]) (h : c'.Q I (upd H l o) [l]) :
    Stt I0 H0 ctx (mem.set j c') I (upd H l o) σ := by
  obtain ⟨fp, q, nd, k, go⟩ := s.change hj
  cases hc q
  obtain ⟨_, kI, _⟩ := k l (List.mem_singleton_self l)
  refine go I (upd H l o) _ [l] (Fm.rmUpd s.same kI) nd (fun a ha => ?_) h
  rw [List.mem_singleton.mp ha]
  exact ⟨rm_in (List.mem_singleton_self l), kI, by rw [upd_same]; intro z; cases z⟩
/-- a heap with a region added -/
def ice (I H : Hp) (fp : List Addr) : Hp := fun a => if a ∈ fp then H a else I a
theorem ice_in {I H : Hp} {fp : List Addr} {a : Addr} (h : a ∈ fp) : ice I H fp a = H a := if_pos h
theorem ice_out {I H : Hp} {fp : List Addr} {a : Addr} (h : a ∉ fp) : ice I H fp a = I a := if_neg h
theorem ice_same {I H : Hp} {fp : List Addr} (h : ∀ a, a ∈ fp → I a = none) : Same I (ice I H fp) := fun b u e => by
  rw [ice_out fun z => by rw [h b z] at e; cases e]; exact e
/-- a region is frozen -/
theorem Stt.freezeAt {I0 H0 I H : Hp} {c : MF} {σ : St} (s : Stt I0 H0 ctx mem I H σ) (j : Nat) (hj : mem[j]? = some c) : ∃ fp, c.Q I H fp ∧ (∀ a, a ∈ fp → I a = none) ∧ Same I (ice I H fp) ∧ Stt I0 H0 ctx (mem.eraseIdx j) (ice I H fp) H σ := by
  obtain ⟨fps, rg, nd, k⟩ := s.me
  obtain ⟨M1, M2, A, fp, B, e1, e2, e3, h1, h2, h3⟩ := rg.split hj
  subst e1; subst e2
  rw [flat_mid] at nd k
  have ndA := List.nodup_append.mp nd
  have ndB := List.nodup_append.mp ndA.2.1
  have kf : ∀ a, a ∈ fp → H0 a = none ∧ I a = none ∧ H a ≠ none := fun a ha => k a (List.mem_append_right _ (List.mem_append_left _ ha))
  have oth : ∀ a, a ∈ A.flatten ∨ a ∈ B.flatten → a ∉ fp ∧ H0 a = none ∧ I a = none ∧ H a ≠ none := fun a ha => by
    rcases ha with ha | ha
    · exact ⟨fun z => ndA.2.2 a ha a (List.mem_append_left _ z) rfl, k a (List.mem_append_left _ ha)⟩
    · exact ⟨fun z => ndB.2.2 a z a ha rfl, k a (List.mem_append_right _ (List.mem_append_right _ ha))⟩
  have sm : Same I (ice I H fp) := ice_same fun a ha => (kf a ha).2.1
  refine ⟨fp, h2, fun a ha => (kf a ha).2.1, sm, ⟨s.fm.i.trans sm, s.fm.h, fun b u e => ?_, fun l e n => ?_⟩, s.len, fun i sf e => ?_, A ++ B, ?_, ?_, fun a ha => ?_⟩
  · by_cases hb : b ∈ fp
    · rw [ice_in hb] at e; exact e
    · rw [ice_out hb] at e; exact s.fm.ih _ _ e
  · rw [ice_out fun z => n (kf l z).1]; exact s.fm.mu l e n
  · obtain ⟨v, e1, q⟩ := s.sl i sf e
    exact ⟨v, e1, sf.mo.up sm q⟩
  · rw [erase_mid e3]
    exact (h1.up sm fun _ _ => rfl).join (h3.up sm fun _ _ => rfl)
  · rw [List.flatten_append]
    exact List.nodup_append.mpr ⟨ndA.1, ndB.2.1, fun a ha b hb => ndA.2.2 a ha b (List.mem_append_right _ hb)⟩
  · rw [List.flatten_append] at ha
    obtain ⟨n, x, y, z⟩ := oth a (List.mem_append.mp ha)
    exact ⟨x, by rw [ice_out n]; exact y, z⟩
/-- a region that stands is taken up -/
theorem Stt.adoptR {I0 H0 I H I1 H1 : Hp} {c : MF} {σ : St} {fp : List Addr} (s : Stt I0 H0 ctx mem I H σ) (f : Fm I H I1 H1) (nd : fp.Nodup) (hk : ∀ a, a ∈ fp → H a = none ∧ I1 a = none ∧ H1 a ≠ none) (h : c.Q I1 H1 fp) : Stt I0 H0 ctx (c :: mem) I1 H1 σ := by
  have s2 := s.step f
  obtain ⟨fps, rg, nd0, k0⟩ := s.me
  obtain ⟨fm, len, sl, _⟩ := s2
  have key : ∀ a, a ∈ fps.flatten → H1 a = H a := fun a ha => by
    obtain ⟨_, _, h3⟩ := k0 a ha
    cases e : H a with
    | none => exact absurd e h3
    | some o => exact f.h _ _ e
  refine ⟨fm, len, sl, fp :: fps, ⟨h, rg.up f.i key⟩, ?_, fun a ha => ?_⟩
  · rw [List.flatten_cons]
    exact List.nodup_append.mpr ⟨nd, nd0, fun a ha b hb e => (k0 b hb).2.2 (e ▸ (hk a ha).1)⟩
  · rw [List.flatten_cons] at ha
    rcases List.mem_append.mp ha with z | z
    · exact ⟨s.fm.h.free (hk a z).1, (hk a z).2⟩
    · obtain ⟨h1, h2, h3⟩ := k0 a z
      exact ⟨h1, f.mu _ h2 h3, by rw [key a z]; exact h3⟩
/-- self.f = e within __init__ -/
theorem J1.sfld (i : Nat) {x C dx : Addr} {f sn : Str} {p1 : Pos} {gs : List (Str × SF)} {r : Rp α} [mo : Mo r] {m : Res α} (j : JE X I0 H0 W ctx (.ins x C dx gs :: mem) e m (rp r)) (cl : Cls X.K C) (hn : NoAttr X.K C f) (hg : gs.length < 1000) (hx : ∀ I H σ d, Stt I0 H0 ctx (.ins x C dx gs :: mem) I H σ → Fr H0 d → Kx I H σ d)
    (hc : ctx[i]? = some (some (SF.mk (rRef x) ())) := by rfl) (hN : X.N[i]? = some sn := by rfl) (hv : Vis X.env.scope sn := by first | exact Or.inl rfl | exact Or.inr (Or.inl rfl) | exact Or.inr (Or.inr rfl)) (hd : (sn == ("__debug__" : Str)) = false := by decide)
    (hcd : (sn == ("__classdict__" : Str)) = false := by decide) (hs : swapsWith e (some (.Attribute (.Name sn p1) f pos')) pos.line X.env = pure false := by rfl) :
    J1 X W Kx (Stt I0 H0 ctx (.ins x C dx gs :: mem)) (.Assign [.Attribute (.Name sn p1) f pos'] e pos) m (fun y => Stt I0 H0 ctx (.ins x C dx (putG f ⟨r, y⟩ gs) :: mem)) := fun I H σ D g p => by
  refine s_fld (j I H σ _ g ?_) hs
  cases m with
  | ok y =>
    intro I1 H1 v f1 h1
    have g1 := g.step f1
    obtain ⟨u, eu, hu⟩ := g1.sl i _ hc
    cases (show u = V.ref x from hu)
    obtain ⟨_, _, oo, zH, fs, eo, hf⟩ := g1.insAt (j := 0) (l := x) rfl
    subst eo
    refine w_var i ⟨x, C, dx, fs, rfl, zH, cl, hn, ?_, ?_⟩ eu hN hv hd hcd
    · rw [hf.length]; exact hg
    · exact p I1 _ σ f1.i (g1.cellAt (l := x) (c' := .ins x C dx (putG f ⟨r, y⟩ gs)) 0 rfl (fun q => q.1) ⟨rfl, _, upd_same, _, rfl, hf.put h1⟩)
  | err e => exact fun I' H' c d f x => p I' H' σ c d (hx _ _ _ _ (g.step f) (x.1.back g.fm.h)) x.2
  | stuck => exact p
/-- the object at the head of mem is frozen -/
theorem Stt.freeze {I0 H0 I H : Hp} {σ : St} {l C dx : Addr} {gs : List (Str × SF)} (s : Stt I0 H0 ctx (.ins l C dx gs :: mem) I H σ) : ∃ fs I', H l = some (.ins C dx fs) ∧ FldR I fs gs ∧ Stt I0 H0 ctx mem I' H σ ∧ Same I I' ∧ I' l = some (.ins C dx fs) := by
  obtain ⟨fp, ⟨e, o, h, fs, eo, p⟩, _, sm, s2⟩ := s.freezeAt 0 rfl
  subst e; subst eo
  exact ⟨fs, _, h, p, s2, sm, by rw [ice_in (List.mem_singleton_self l)]; exact h⟩

/-! ### C(..) -/
def spI (K : PySem.W.Frag) (C : Addr) (R : Hp → Hp → List V → δ → Prop) (m : δ → Res γ) (r : Ra γ) : Sp := fun vs H Q E => ∃ x dx ws H0 I d, vs = .ref x :: ws ∧ H0 x = none ∧ H0 dx = none ∧ dx ≠ x ∧ H = upd (upd H0 dx (.own x)) x (.ins C dx []) ∧ Same I H0 ∧ R I H0 ws d ∧
  PostE K (m d) r I H0 E (fun u H2 => u = .ref x → Q .non H2)
theorem cj_make {k : Nat} {C f : Addr} {fd : FuncData} {ps : List Str} {ds : List Value} {dvs : List V} {R R' : Hp → Hp → List V → δ → Prop} {m : δ → Res γ} (M : Mk X.K C f) (F : FnOk X.prog X.w X.K X.mg X.base (L2N.CX X.prog X.w) k f fd ps (spI X.K C R m rc)) (hr : Room (k + 1) X.A) (hb : Binds X.K fd ps ds) (hd : Vals dvs ds) (tk : L2N.Takes X W)
    (hR : ∀ I H vs d, R' I H vs d → R I H (vs ++ dvs) d) : CallJ X W (.ref C) R' m rc := fun I H σ Q vs d sm h p pins s us Iv r => by
  have n1 := Iv.hok.fresh (Nat.le_succ s.heap.objs.size)
  have n2 := Iv.hok.fresh (Nat.le_refl s.heap.objs.size)
  have n3 := Nat.ne_of_lt (Nat.lt_succ_self s.heap.objs.size)
  have hq : spI X.K C R m rc (.ref (s.heap.objs.size + 1) :: (vs ++ dvs)) (upd (upd H s.heap.objs.size (.own (s.heap.objs.size + 1))) (s.heap.objs.size + 1) (.ins C s.heap.objs.size [])) (fun v H2 => v = .non ∧ Q (.ref (s.heap.objs.size + 1)) H2) (fun cls d H' => W cls d σ H') :=
    ⟨s.heap.objs.size + 1, s.heap.objs.size, vs ++ dvs, H, I, d, rfl, n1, n2, n3, rfl, sm, hR _ _ _ _ h, p.imp fun v H' q e => ⟨rfl, e ▸ q⟩⟩
  have I2 := Inv.made (C := C) Iv
  have r2 : Vals (V.ref (s.heap.objs.size + 1) :: (vs ++ dvs)) (Value.ref (s.heap.objs.size + 1) :: (us ++ ds)) := .cons rfl (r.append hd)
  have hl : (Value.ref (s.heap.objs.size + 1) :: us ++ ds).length = ps.length := by
    have e := r2.length
    rw [F.len _ _ _ _ hq] at e
    exact e.symm
  refine wpAny_call (make_map (f := f) Iv.kIn M.makes M.init (beq_iff_eq.mp M.fn) (codeAny_mono (F.run _ X.stack _ _ ⟨Value.ref (s.heap.objs.size + 1) :: us, []⟩ (Value.ref (s.heap.objs.size + 1) :: (us ++ ds)) _ _ _ (hr.make C us [])
    (I2.env0.make C us []) (hb _ (Value.ref (s.heap.objs.size + 1) :: us) I2.kIn hl) r2 hq) fun r s' hq' => ?_))
  cases r with
  | error e => exact L2N.passAt tk σ pins _ _ e s' I2 hq'
  | ok fl =>
    cases fl with
    | ret u =>
      obtain ⟨v, H', I3, rv, ev, q3⟩ := I2.after hq'
      subst ev
      exact ⟨rv, ⟨V.ref (s.heap.objs.size + 1), H', I3, rfl, q3⟩⟩
    | next => exact False.elim hq'
    | brk => exact False.elim hq'
    | cont => exact False.elim hq'
end
section
variable {γ δ : Type} {P : Program} {w : World} {K : PySem.W.Frag} {mg : Str → Option Value} {base : Heap} {x qual : Str} {params : Arguments} {body : List Stmt} {scope : Scope} {dvs : List V} {kws : List (Str × V)} {f C : Addr} {fd : FuncData} {N ps : List Str} {k : Nat} {R : Hp → Hp → List V → δ → Prop} {m : δ → Res γ} {r : Ra γ}
/-- the cell of a new instance -/
theorem Stt.fresh {I0 H0 : Hp} {y dx : Addr} {σ : St} {ctx : List (Option SF)} (sm : Same I0 H0) (n1 : H0 y = none) (n2 : H0 dx = none) (n3 : dx ≠ y) (hl : σ.length = ctx.length) (hs : ∀ (i : Nat) (sf : SF), ctx[i]? = some (some sf) → ∃ v, σ[i]? = some (some v) ∧ sf.r I0 v sf.x) :
    Stt I0 H0 ctx [.ins y C dx []] I0 (upd (upd H0 dx (.own y)) y (.ins C dx [])) σ := by
  have e1 : Same H0 (upd (upd H0 dx (.own y)) y (.ins C dx [])) := fun b u e => by rw [upd_ne (ne_of_none e n1), upd_ne (ne_of_none e n2)]; exact e
  exact ⟨⟨Same.refl _, e1, sm.trans e1, fun _ e _ => e⟩, hl, hs, [[y]], ⟨⟨rfl, _, upd_same, [], rfl, True.intro⟩, True.intro⟩, by simp, fun a ha => by
    cases List.mem_singleton.mp (show a ∈ [y] by simpa using ha)
    exact ⟨n1, sm.free n1, by rw [upd_same]; intro z; cases z⟩⟩
/-- an __init__ that makes its object whole -/
theorem FunD.init {S : Type} (F : FunD K x qual params body scope dvs kws f fd) (Sc : FnScope N ps scope) (len : ∀ I H vs d, R I H vs d → vs.length + 1 = ps.length)
    (hb : ∀ (cdv : Value) (A : Around) (outer : List Env) (s : Shared) (I0 H0 H1 : Hp) (E : XK) (vs : List V) (d : δ) (y dx : Addr), Room k (A.deeper (envOfC qual scope s.heap.objs.size f cdv)) → Same I0 H0 → R I0 H0 vs d → H0 y = none → H0 dx = none → dx ≠ y → H1 = upd (upd H0 dx (.own y)) y (.ins C dx []) →
      ∃ (G : Knows) (S : Type) (mm : Res S) (G' : S → Knows), G I0 H1 (start N (.ref y :: vs)) ∧ JN (bx P w K mg base N qual scope f cdv A outer s H1 E) (bW E) (bK I0 H0) G body mm G' ∧
        (match mm with
         | .ok s => ∃ z, m d = .ok z ∧ ∀ I' H' σ', G' s I' H' σ' → ∃ I'', Fm I0 H0 I'' H' ∧ r I'' H' (.ref y) z
         | .err e => m d = .err e
         | .stuck => m d = .stuck)) : FnOk P w K mg base (L2N.CX P w) (k + 1) f fd ps (spI K C R m r) := by
  refine F.ok Sc (fun vs H Q E ⟨y, dx, ws, H0, I, d, e, _, _, _, _, _, h, _⟩ => by rw [e, List.length_cons]; exact len I H0 ws d h) fun cdv A outer s H vs Q E hr ⟨y, dx, ws, H0, I, d, e, n1, n2, n3, eH, sm, h, p⟩ => ⟨_, pss_W, ?_⟩
  subst e
  obtain ⟨G, S, mm, G', g, j, fin⟩ := hb cdv A outer s I H0 H E ws d y dx hr sm h n1 n2 n3 eH
  refine j I H _ _ g ?_
  cases mm with
  | ok z =>
    obtain ⟨y', e1, h1⟩ := fin
    intro I' H' σ' _ g'
    obtain ⟨I'', f1, r1⟩ := h1 I' H' σ' g'
    rw [e1] at p
    exact p I'' H' _ f1 r1 rfl
  | err e =>
    rw [show m d = _ from fin] at p
    exact fun I' H' _ c d f x => p I' H' c d f.1 ⟨f.2, x⟩
  | stuck =>
    rw [show m d = _ from fin] at p
    exact p
end
end L2.Tr

namespace L2.Tr
open PySem PySem.Spec PyProof.Rows He
/-! ### the head's facts -/
abbrev FB := PySem.W.Frag → Bool
abbrev AlX : Type := Bool × List FnW
def obsX (fs : List FB) (fn : List DefD) (K : PySem.W.Frag) : AlX := ((fs.all fun f => f K) && fn.all fun d => d.ok K, fn.map fun d => fnW K d.at_)
def valX (fn : List DefD) : AlX := (true, fn.map DefD.val)
def SaysX (fs : List FB) (fn : List DefD) (K : PySem.W.Frag) : Prop := obsX fs fn K = valX fn
section
variable {fs : List FB} {fn : List DefD} {K : PySem.W.Frag} {mg : Str → Option Value} {h : Heap}
theorem SaysX.fact (c : SaysX fs fn K) (i : Nat) {f : FB} (h : fs[i]? = some f := by rfl) : f K = true := by
  have c1 := (ba (show ((fs.all fun f => f K) && fn.all fun d => d.ok K) = true from congrArg (fun z : AlX => z.1) c)).1
  exact List.all_eq_true.mp c1 f (List.mem_of_getElem? h)
theorem SaysX.def_ (c : SaysX fs fn K) (i : Nat) {d : DefD} (h : fn[i]? = some d := by rfl) : ∃ fd, FunD K d.name d.qual d.params d.body d.scope (d.dvs K) (d.kws K) (fAd K d.at_) fd := by
  have c2 := (ba (show ((fs.all fun f => f K) && fn.all fun d => d.ok K) = true from congrArg (fun z : AlX => z.1) c)).2
  have e : fn.map (fun d => fnW K d.at_) = fn.map DefD.val := congrArg (fun z : AlX => z.2) c
  have e2 : (fn.map fun d => fnW K d.at_)[i]? = (fn.map DefD.val)[i]? := by rw [e]
  rw [List.getElem?_map, List.getElem?_map, h] at e2
  exact DefD.funD (Option.some.inj e2) (List.all_eq_true.mp c2 d (List.mem_of_getElem? h))
def fGlo (x : Str) : FB := fun K => (Fa.glo x).ok K
def fFree (x : Str) : FB := fun K => (Fa.free x).ok K
def fKeep (x : Str) : FB := fun K => PySem.W.keepIn K (.ref (ga K x))
def fNoat (x f : Str) : FB := fun K => (Fa.noat x f).ok K
def fMeth (x m : Str) : FB := fun K => (Fa.meth x m).ok K
def fMkr (x : Str) : FB := fun K => (Fa.mkr x).ok K
def fExc (x : Str) : FB := fun K => (Fa.exc x).ok K && (Fa.glo x).ok K
def fOcl (x : Str) : FB := fun K => (Fa.cls x).ok K && (PySem.W.selfFirst K (ga K x) && (eqO (PySem.W.findIn K (.ref (ga K x)) "__class__") (some (some (.builtin "object.__class__"))) && (eqO (PySem.W.specialIn K (.builtin "object.__class__") "__get__") (some (some (.builtin "getset_descriptor.__get__"))) &&
  (decide (PySem.W.takesIn K (.builtin "object.__class__") = some true) && (decide (PySem.W.mroIn K (ga K x) (.type "object") = some true) && (decide (PySem.W.subIn K (.ref (ga K x)) (.type "int") = some false) && (decide (PySem.W.subIn K (.type "int") (.ref (ga K x)) = some false) &&
  eqO (PySem.W.findIn K (.ref (ga K x)) "__ne__") (some (some (.builtin "object.__ne__"))))))))))
def fOMet (x m : Str) : FB := fun K => eqO (PySem.W.findIn K (.ref (ga K x)) m) (some (some (.ref (ma K (ga K x) m)))) && PySem.W.isFn K (.ref (ma K (ga K x) m))
def fNf (x : Str) : FB := fun K => PySem.W.notFirst K (ga K x) (.ref (ga K x)) && PySem.W.notFirst K (ga K x) (.type "int")
def fKit (x y : Str) (b : Bool) : FB := fun K => decide (PySem.W.kitOne K (.ref (ga K x)) (.ref (ga K y)) = some b)
def fKitT (x : Str) (t : String) (b : Bool) : FB := fun K => decide (PySem.W.kitOne K (.ref (ga K x)) (.type t) = some b)
def fKitI (t : String) (x : Str) (b : Bool) : FB := fun K => decide (PySem.W.kitOne K (.type t) (.ref (ga K x)) = some b)
theorem glo_of (X : K.In h) (G : h.Ns mainGlobals mg) {x : Str} (c : fGlo x K = true) : mg x = some (.ref (ga K x)) := glo_ok X G c
theorem free_of (X : K.In h) (G : h.Ns mainGlobals mg) {x : Str} (c : fFree x K = true) : mg x = none := free_ok X G c
theorem noat_of {x f : Str} (c : fNoat x f K = true) : NoAttr K (ga K x) f := noat_ok c
theorem meth_of {x m : Str} (c : fMeth x m K = true) : Meth K (ga K x) m (ma K (ga K x) m) := meth_ok c
theorem mkr_of {x : Str} (c : fMkr x K = true) : Mk K (ga K x) (ma K (ga K x) "__init__") := mkr_ok c
theorem exc_of (X : K.In h) (G : h.Ns mainGlobals mg) {x : Str} (c : fExc x K = true) : ExcP K mg x := by
  obtain ⟨c1, c2⟩ := ba c
  obtain ⟨a, b, d, e⟩ := exc_ok c1
  exact ⟨a, b, d, e, glo_ok X G c2⟩
theorem ocl_of {x : Str} (c : fOcl x K = true) : OCls K (ga K x) := by
  obtain ⟨c0, c⟩ := ba c
  obtain ⟨c1, c⟩ := ba c
  obtain ⟨c2, c⟩ := ba c
  obtain ⟨c3, c⟩ := ba c
  obtain ⟨c4, c⟩ := ba c
  obtain ⟨c5, c⟩ := ba c
  obtain ⟨c6, c⟩ := ba c
  obtain ⟨c7, c8⟩ := ba c
  exact ⟨cls_ok c0, c1, eqO_ok c2, eqO_ok c3, of_decide_eq_true c4, of_decide_eq_true c5, of_decide_eq_true c6, of_decide_eq_true c7, eqO_ok c8⟩
theorem omet_of {x m : Str} (c : fOMet x m K = true) : OMet K (ga K x) m (ma K (ga K x) m) := by
  obtain ⟨a, b⟩ := ba c
  exact ⟨eqO_ok a, b⟩
theorem nf_of {x : Str} (c : fNf x K = true) : PySem.W.notFirst K (ga K x) (.ref (ga K x)) = true ∧ PySem.W.notFirst K (ga K x) (.type "int") = true := ba c
theorem kit_of' {x y : Str} {b : Bool} (c : fKit x y b K = true) : PySem.W.kitOne K (.ref (ga K x)) (.ref (ga K y)) = some b := of_decide_eq_true c
theorem kitT_of {x : Str} {t : String} {b : Bool} (c : fKitT x t b K = true) : PySem.W.kitOne K (.ref (ga K x)) (.type t) = some b := of_decide_eq_true c
theorem kitI_of {x : Str} {t : String} {b : Bool} (c : fKitI t x b K = true) : PySem.W.kitOne K (.type t) (.ref (ga K x)) = some b := of_decide_eq_true c
end
end L2.Tr

namespace L2.Tr
open PySem PySem.Spec PyProof.Rows
section
variable {α β γ δ S : Type} {X : Cx} {I0 H0 : Hp} {W : WX} {Kx : KnowsX} {G : Knows} {ctx cw : List (Option SF)} {mem : List MF} {e a b c o : Expr} {es bs : List Expr} {st b₀ : Stmt} {ss s1 s2 body suite : List Stmt} {pos pos' np : Pos} {n x : Str} {ra : Ra α} {rb : Ra β} {rr : Ra γ} {ma : Res α} {mb : Res β}
/-- what is known of fewer slots -/
def weakC : List (Option SF) → List (Option SF) → Prop
  | [], [] => True
  | _ :: c, none :: d => weakC c d
  | a :: c, some b :: d => a = some b ∧ weakC c d
  | _, _ => False
theorem weakC.len : ∀ {c d : List (Option SF)}, weakC c d → c.length = d.length
  | [], [], _ => rfl
  | _ :: _, none :: _, h => congrArg Nat.succ (weakC.len (c := _) h)
  | _ :: _, some _ :: _, h => congrArg Nat.succ (weakC.len (c := _) h.2)
  | [], _ :: _, h => h.elim
  | _ :: _, [], h => h.elim
theorem weakC.get : ∀ {c d : List (Option SF)} {i : Nat} {sf : SF}, weakC c d → d[i]? = some (some sf) → c[i]? = some (some sf)
  | [], [], _, _, _, e => by simp at e
  | _ :: _, none :: _, 0, _, _, e => by simp at e
  | _ :: c, none :: d, i + 1, sf, h, e => by
    have e' : d[i]? = some (some sf) := by simpa using e
    have := weakC.get (c := c) h e'
    simpa using this
  | _ :: _, some _ :: _, 0, _, h, e => by
    have e' : some _ = some (some _) := e
    rw [h.1]; simpa using e
  | _ :: c, some _ :: d, i + 1, sf, h, e => by
    have e' : d[i]? = some (some sf) := by simpa using e
    have := weakC.get (c := c) h.2 e'
    simpa using this
  | [], _ :: _, _, _, h, _ => h.elim
  | _ :: _, [], _, _, h, _ => h.elim
theorem Stt.weak {I H : Hp} {σ : St} (s : Stt I0 H0 ctx mem I H σ) (h : weakC ctx cw) : Stt I0 H0 cw mem I H σ := ⟨s.fm, by rw [s.len, h.len], fun i sf e => s.sl i sf (h.get e), s.me⟩
theorem lookup_mem {L : List (Str × Bool)} {x : Str} {b : Bool} (h : L.lookup x = some b) : (x, b) ∈ L := by
  induction L with
  | nil => cases h
  | cons p L ih =>
    obtain ⟨y, c⟩ := p
    have h' : (match x == y with | true => some c | false => L.lookup x) = some b := h
    cases q : (x == y) with
    | true =>
      rw [q] at h'
      cases h'
      rw [beq_iff_eq.mp q]; exact List.mem_cons_self
    | false => rw [q] at h'; exact List.mem_cons_of_mem _ (ih h')
def rExc (a : Addr) : Rp Unit := fun _ v _ => v = .ref a
instance {a : Addr} : Mo (rExc a) := ⟨fun _ h => h⟩
def MF.xd (K : PySem.W.Frag) (l : Addr) (ps : List (Str × Pay)) : MF := .one l (fun I o => ∃ fs, o = .xd fs ∧ Paired (fun (p : Str × V) (q : Str × Pay) => p.1 = q.1 ∧ PayR K I p.2 q.2) fs ps) (fun s ⟨fs, e, p⟩ => ⟨fs, e, Paired.mapP p fun _ q h => ⟨h.1, by
  obtain ⟨h1, h2⟩ := h
  cases hq : q.2 with
  | int i => rw [hq] at h2; exact h2
  | str i => rw [hq] at h2; exact h2
  | bl i => rw [hq] at h2; exact h2
  | non => rw [hq] at h2; exact h2
  | frac i => rw [hq] at h2; exact Mo.up (r := rFrac K) s h2
  | wts i j =>
    rw [hq] at h2
    obtain ⟨a, dx, b, dy, l, vs, e1, e2, e3, e4, e5⟩ := h2
    exact ⟨a, dx, b, dy, l, vs, e1, s _ _ e2, s _ _ e3, s _ _ e4, Paired.mapP e5 fun _ _ z => Mo.up (r := rFrac K) s z⟩⟩⟩)
def exm (K : PySem.W.Frag) (d : Option Addr) (e : Exn) : List MF := match d with
  | none => []
  | some a => [.xd K a e.pay]
/-- regions without an error's dict -/
def NoXd : List MF → Prop
  | [] => True
  | c :: m => (∀ (I H : Hp) (fp : List Addr) (a : Addr) (fs : List (Str × V)), c.Q I H fp → a ∈ fp → H a ≠ some (.xd fs)) ∧ NoXd m
theorem NoXd.at {I H : Hp} : ∀ {mem : List MF} {fps : List (List Addr)}, NoXd mem → Regs I H mem fps → ∀ (a : Addr) (fs : List (Str × V)), a ∈ fps.flatten → H a ≠ some (.xd fs)
  | [], [], _, _, a, fs, ha => by simp at ha
  | _ :: _, fp :: fps, ⟨n, m⟩, ⟨q, r⟩, a, fs, ha => by
    rw [List.flatten_cons] at ha
    rcases List.mem_append.mp ha with z | z
    · exact n I H fp a fs q z
    · exact NoXd.at m r a fs z
  | [], _ :: _, _, h, _, _, _ => h.elim
  | _ :: _, [], _, h, _, _, _ => h.elim
theorem Stt.exm {K : PySem.W.Frag} {I H : Hp} {σ : St} {ee : Exn} {cls : Value} {d : Option Addr} (s : Stt I0 H0 ctx mem I H σ) (f : Fr H0 d) (x : ExR K I H ee cls d) (hm : NoXd mem) : Stt I0 H0 ctx (Tr.exm K d ee ++ mem) I H σ := by
  cases d with
  | none => exact s
  | some a =>
    obtain ⟨_, _, fs, e1, e2, pr⟩ := x
    obtain ⟨fps, rg, nd, k⟩ := s.me
    have out : a ∉ fps.flatten := fun z => hm.at rg a fs z e1
    refine ⟨s.fm, s.len, s.sl, [a] :: fps, ⟨⟨rfl, _, e1, fs, rfl, pr⟩, rg⟩, ?_, fun b hb => ?_⟩
    · rw [List.flatten_cons]; exact List.nodup_cons.mpr ⟨out, nd⟩
    · rw [List.flatten_cons] at hb
      rcases List.mem_cons.mp hb with z | z
      · rw [z]; exact ⟨f a rfl, e2, by rw [e1]; intro y; cases y⟩
      · exact k b z
end
end L2.Tr

namespace L2.Tr
open PySem PySem.Spec PyProof.Rows
section
variable {α β γ δ S : Type} {X : Cx} {I0 H0 : Hp} {W : WX} {Kx : KnowsX} {G : Knows} {ctx cw : List (Option SF)} {mem : List MF} {e a b c o : Expr} {es bs : List Expr} {pos pos' np : Pos} {n x : Str} {ra : Ra α} {rb : Ra β} {rc : Ra γ} {ma : Res α} {mb : Res β}
/-! ### the start of a def -/
def IniR (I : Hp) : List V → List (Option SF) → Prop
  | [], c => ∀ (i : Nat) (sf : SF), c[i]? ≠ some (some sf)
  | v :: vs, some sf :: c => sf.r I v sf.x ∧ IniR I vs c
  | _ :: _, _ => False
theorem IniR.get {I : Hp} : ∀ {vs : List V} {c : List (Option SF)} {n : Nat}, IniR I vs c → ∀ (i : Nat) (sf : SF), c[i]? = some (some sf) → ∃ v, (vs.map some ++ List.replicate n none)[i]? = some (some v) ∧ sf.r I v sf.x
  | [], c, n, h, i, sf, e => (h i sf e).elim
  | v :: vs, some sf' :: c, n, ⟨a, b⟩, 0, sf, e => by
    have e' : sf' = sf := by simpa using e
    subst e'
    exact ⟨v, by simp, a⟩
  | v :: vs, some sf' :: c, n, ⟨a, b⟩, i + 1, sf, e => by
    have e' : c[i]? = some (some sf) := by simpa using e
    obtain ⟨u, h1, h2⟩ := IniR.get (n := n) b i sf e'
    exact ⟨u, by simpa using h1, h2⟩
  | _ :: _, none :: _, _, h, _, _, _ => h.elim
  | _ :: _, [], _, h, _, _, _ => h.elim
theorem Stt.start {N : List Str} {vs : List V} (sm : Same I0 H0) (h : IniR I0 vs ctx) (hl : ctx.length = N.length) (hv : vs.length ≤ N.length) : Stt I0 H0 ctx [] I0 H0 (L2.start N vs) := by
  refine ⟨Fm.refl sm, ?_, fun i sf e => IniR.get h i sf e, [], True.intro, by simp, fun a ha => by simp at ha⟩
  unfold L2.start
  rw [List.length_append, List.length_map, List.length_replicate, hl]
  omega
theorem ini_nil {I : Hp} {c : List (Option SF)} (h : c.all (·.isNone) = true) : IniR I [] c := fun i sf e => by
  have := List.all_eq_true.mp h _ (List.mem_of_getElem? e)
  cases this
/-! ### promises, once more -/
theorem FnR.nice {P : Program} {w : World} {K : PySem.W.Frag} {mg : Str → Option Value} {base : Heap} {k : Nat} {f : Addr} {R : Hp → Hp → List V → δ → Prop} {m m' : δ → Res γ} (F : FnR P w K mg base (L2N.CX P w) k f (spF K R m rc)) (h : ∀ d, m' d = .stuck ∨ m' d = m d) :
    FnR P w K mg base (L2N.CX P w) k f (spF K R m' rc) := F.imp fun vs H Q E ⟨I, d, s, r, p⟩ => ⟨I, d, s, r, by
  rcases h d with e | e
  · rw [show m' d = _ from e] at p; exact p.elim
  · rw [← e]; exact p⟩
theorem FnOk.fr {P : Program} {w : World} {K : PySem.W.Frag} {mg : Str → Option Value} {base : Heap} {k : Nat} {f : Addr} {fd : FuncData} {ps : List Str} {ds : List Value} {dvs : List V} {δ' : Type} {R : Hp → Hp → List V → δ → Prop} {R' : Hp → Hp → List V → δ' → Prop} {m : δ → Res γ} {h : δ' → δ} (F : FnOk P w K mg base (L2N.CX P w) k f fd ps (spF K R m rc)) (hb : Binds K fd ps ds) (hd : Vals dvs ds)
    (hR : ∀ I H vs d, R' I H vs d → R I H (vs ++ dvs) (h d)) : FnR P w K mg base (L2N.CX P w) k f (spF K R' (fun d => m (h d)) rc) := (FnOk.raw F hb hd).imp fun vs H Q E ⟨I, d, s, r, p⟩ => ⟨I, h d, s, hR _ _ _ _ r, p⟩
theorem FnOk.fr0 {P : Program} {w : World} {K : PySem.W.Frag} {mg : Str → Option Value} {base : Heap} {k : Nat} {f : Addr} {fd : FuncData} {ps : List Str} {R : Hp → Hp → List V → δ → Prop} {m : δ → Res γ} (F : FnOk P w K mg base (L2N.CX P w) k f fd ps (spF K R m rc)) (hb : Binds K fd ps []) :
    FnR P w K mg base (L2N.CX P w) k f (spF K R m rc) := (FnOk.raw F hb .nil).imp fun vs H Q E h => by rw [List.append_nil]; exact h
/-! ### the types of things -/
theorem tyr_int {K : PySem.W.Frag} {t : String} {g : Bool} (h : kitB "int" t = some g) : TyR K (rp rInt) (.type t) (fun _ => g) := fun I H v x _ e => ⟨.type "int", by rw [show v = _ from e]; exact .base (.int _), kit_ty h⟩
theorem tyr_intC {K : PySem.W.Frag} {C : Addr} {g : Bool} (h : PySem.W.kitOne K (.type "int") (.ref C) = some g) : TyR K (rp rInt) (.ref C) (fun _ => g) := fun I H v x _ e => ⟨.type "int", by rw [show v = _ from e]; exact .base (.int _), h⟩
theorem tyr_ins {K : PySem.W.Frag} {C : Addr} {u : Value} {g : Bool} (hc : OCls K C) (ia : InsR C ra) (h : PySem.W.kitOne K (.ref C) u = some g) : TyR K ra u (fun _ => g) := fun I H v x s e => by
  obtain ⟨a, dx, fs, rfl, ha⟩ := ia I H v x s e
  exact ⟨.ref C, .base (.ins ha hc.cl hc.ca hc.cn hc.ct hc.cm), h⟩
theorem insF {K : PySem.W.Frag} : InsR (He.ga K "Fraction") (rp (rFrac K)) := fun I H v x s ⟨a, dx, e, h⟩ => ⟨a, dx, _, e, s _ _ h⟩
theorem w_glob_at {C : Addr} (hm : X.mg n = some (.ref C)) (hg : Gl X n) (hd : (n == ("__debug__" : Str)) = false) (σ : St) (H : Hp) (Q : VK) (h : Q (.ref C) H) : wE X (.Name n pos) σ H Q := w_glob h hm rfl hg hd
theorem w_type_at {t : String} (hm : X.mg n = none) (hv : bootBuiltins n = some (.type t)) (hg : Gl X n) (hn : n ≠ "__name__") (hd : (n == ("__debug__" : Str)) = false) (σ : St) (H : Hp) (Q : VK) (h : Q (.ty t) H) : wE X (.Name n pos) σ H Q := w_bltn h hm hv rfl hg hn hd
/-! ### fields of a Fraction -/
theorem fld_top {K : PySem.W.Frag} : FldOf K (He.ga K "Fraction") (rp (rFrac K)) "top" (fun q => q.num) (rp rInt) := fun I H v x s ⟨a, dx, e, h⟩ => ⟨a, dx, _, .int x.num, e, s _ _ h, rfl, rfl⟩
theorem fld_bottom {K : PySem.W.Frag} : FldOf K (He.ga K "Fraction") (rp (rFrac K)) "bottom" (fun q => (q.den : Int)) (rp rInt) := fun I H v x s ⟨a, dx, e, h⟩ => ⟨a, dx, _, .int (x.den : Int), e, s _ _ h, rfl, rfl⟩
theorem insOfF {K : PySem.W.Frag} {m : Str} (h1 : (m == ("top" : Str)) = false := by decide +kernel) (h2 : (m == ("bottom" : Str)) = false := by decide +kernel) : InsOf (He.ga K "Fraction") (rp (rFrac K)) m := fun I H v x s ⟨a, dx, e, h⟩ => ⟨a, dx, _, e, s _ _ h, by
  show (match m == ("top" : Str) with | true => _ | false => (match m == ("bottom" : Str) with | true => _ | false => none)) = none
  rw [h1, h2]⟩
/-! ### operators of Fractions, ints and both -/
variable {f f' : Addr} {k k' : Nat} {g : Rat × Num × Unit → Res γ} {g' : Rat × Int × Unit → Res γ}
theorem opj_qq {op : Operator} (hc : OCls X.K (He.ga X.K "Fraction")) (hm : OMet X.K (He.ga X.K "Fraction") (PySem.dunder op.info.2) f) (F : FnR X.prog X.w X.K X.mg X.base (L2N.CX X.prog X.w) k f (spF X.K (R2' (rp (rFrac X.K)) (rp (rNum X.K))) g rc)) (hr : Room k X.A) (tk : L2N.Takes X W) :
    OpJ X W (binaryOp op) (rp (rFrac X.K)) (rp (rFrac X.K)) (fun x y => g (x, .q y, ())) rc := opj_own (g := fun d => g (d.1, .q d.2.1, ())) hc hm insF insF ((cj_of F hr tk).co fun I H vs d _ h => h)
theorem opj_cqi {op : CmpOp} (hop : ∀ a b, compareOp op a b = richCompare op a b) (hc : OCls X.K (He.ga X.K "Fraction")) (hm : OMet X.K (He.ga X.K "Fraction") (cmpInfo op).2.1 f) (hn : PySem.W.notFirst X.K (He.ga X.K "Fraction") (.type "int") = true) (F : FnR X.prog X.w X.K X.mg X.base (L2N.CX X.prog X.w) k f (spF X.K (R2' (rp (rFrac X.K)) (rp (rNum X.K))) g rc)) (hr : Room k X.A) (tk : L2N.Takes X W) :
    OpJ X W (compareOp op) (rp (rFrac X.K)) (rp rInt) (fun x y => g (x, .i y, ())) rc := opj_cmpI (g := fun d => g (d.1, .i d.2.1, ())) hop hc hm hr.units0 hn insF ((cj_of F hr tk).co fun I H vs d _ h => h)
variable {gb : Rat × Num × Unit → Res Bool}
theorem opj_neqi (hc : OCls X.K (He.ga X.K "Fraction")) (hm : OMet X.K (He.ga X.K "Fraction") "__eq__" f) (hn : PySem.W.notFirst X.K (He.ga X.K "Fraction") (.type "int") = true) (F : FnR X.prog X.w X.K X.mg X.base (L2N.CX X.prog X.w) k f (spF X.K (R2' (rp (rFrac X.K)) (rp (rNum X.K))) gb (rp rBl))) (hr : Room (k + 1) X.A) (tk : L2N.Takes X W) :
    OpJ X W (compareOp .NotEq) (rp (rFrac X.K)) (rp rInt) (fun x y => (gb (x, .i y, ())).bind fun z => .ok (!z)) (rp rBl) := opj_neI (g := fun d => gb (d.1, .i d.2.1, ())) hc hm hr tk hn insF (F.imp fun vs H Q E ⟨I, d, s, r, p⟩ => ⟨I, (d.1, .i d.2.1, ()), s, r, p⟩)
end
/-! ### C(..) as a promise -/
def MkR {γ δ : Type} (P : Program) (w : World) (K : PySem.W.Frag) (mg : Str → Option Value) (base : Heap) (k : Nat) (C : Addr) (R : Hp → Hp → List V → δ → Prop) (m : δ → Res γ) (r : Ra γ) : Prop :=
  ∀ (X : Cx) (W : WX), X.prog = P → X.w = w → X.K = K → X.mg = mg → X.base = base → Room k X.A → L2N.Takes X W → CallJ X W (.ref C) R m r
theorem MkR.nice {γ δ : Type} {P : Program} {w : World} {K : PySem.W.Frag} {mg : Str → Option Value} {base : Heap} {k : Nat} {C : Addr} {R : Hp → Hp → List V → δ → Prop} {m m' : δ → Res γ} {r : Ra γ} (F : MkR P w K mg base k C R m r) (h : ∀ d, m' d = .stuck ∨ m' d = m d) : MkR P w K mg base k C R m' r := fun X W e1 e2 e3 e4 e5 hr tk I H σ Q vs d s a p => by
  refine F X W e1 e2 e3 e4 e5 hr tk I H σ Q vs d s a ?_
  rcases h d with e | e
  · rw [show m' d = _ from e] at p; exact p.elim
  · rw [← e]; exact p
theorem MkR.mono {γ δ : Type} {P : Program} {w : World} {K : PySem.W.Frag} {mg : Str → Option Value} {base : Heap} {j k : Nat} {C : Addr} {R : Hp → Hp → List V → δ → Prop} {m : δ → Res γ} {r : Ra γ} (F : MkR P w K mg base j C R m r) (h : j ≤ k) : MkR P w K mg base k C R m r := fun X W e1 e2 e3 e4 e5 hr tk => F X W e1 e2 e3 e4 e5 (hr.mono h) tk
theorem mkR_of {γ δ δ' : Type} {P : Program} {w : World} {K : PySem.W.Frag} {mg : Str → Option Value} {base : Heap} {k : Nat} {C f : Addr} {fd : FuncData} {ps : List Str} {ds : List Value} {dvs : List V} {R : Hp → Hp → List V → δ → Prop} {R' : Hp → Hp → List V → δ' → Prop} {m : δ → Res γ} {h : δ' → δ} {r : Ra γ} (M : Mk K C f) (F : FnOk P w K mg base (L2N.CX P w) k f fd ps (spI K C R m r)) (hb : Binds K fd ps ds) (hd : Vals dvs ds)
    (hR : ∀ I H vs d, R' I H vs d → R I H (vs ++ dvs) (h d)) : MkR P w K mg base (k + 1) C R' (fun d => m (h d)) r := fun X W e1 e2 e3 e4 e5 hr tk => by
  subst e1; subst e2; subst e3; subst e4; subst e5
  exact cj_make (R' := R') (m := fun d => m (h d)) (R := fun I H vs d => R I H vs (h d)) M (F.imp fun vs H Q E ⟨x, dx, ws, H0, I, d, a1, a2, a3, a4, a5, a6, a7, a8⟩ => ⟨x, dx, ws, H0, I, h d, a1, a2, a3, a4, a5, a6, a7, a8⟩) hr hb hd tk hR
section
variable {S γ : Type} {X : Cx} {I0 H0 : Hp} {W : WX} {Kx : KnowsX} {ctx : List (Option SF)} {mem : List MF} {pos : Pos}
theorem J1.raiseP {x m : Str} {j : Nat} {p1 p2 p3 : Pos} {G' : S → Knows} (hc : X.calm = true) (tk : L2N.Takes X W) (ep : ExcP X.K X.mg x) (hx : ∀ I H σ d, Stt I0 H0 ctx mem I H σ → Fr H0 d → Kx I H σ d) (hg : Gl X x := by rfl) (hdb : (x == ("__debug__" : Str)) = false := by decide) :
    J1 X W Kx (Stt I0 H0 ctx mem) (.Raise (some (.Call (.Name x p1) [.Constant (.str m) j p2] [] p3)) none pos) (.err ⟨x, []⟩ : Res S) G' := fun I H σ D g p => by
  refine s_raise hc tk (L2N.pmk_own PySem.F.excBase_ValueError ep.ex ep.gl ep.kp (raises_own ep.bs ep.ty) hg hdb) ?_
  exact p I H σ _ none (hx _ _ _ _ g fun _ z => nomatch z) ⟨rfl, rfl⟩
end
end L2.Tr

namespace L2.Tr
open PySem PySem.Spec PyProof.Rows
section
variable {α β γ δ ε : Type} {X : Cx} {I0 H0 : Hp} {W : WX} {ctx : List (Option SF)} {mem : List MF} {e a b c o : Expr} {es bs : List Expr} {kws : List Keyword} {pos pos' kpos : Pos} {n x : Str} {nm : Option Str} {ra : Ra α} {rb : Ra β} {rc : Ra γ} {ma : Res α} {mb : Res β}
/-! ### keywords -/
def JK (X : Cx) (I0 H0 : Hp) (W : WX) (ctx : List (Option SF)) (mem : List MF) (kws : List Keyword) (m : Res δ) (R : Hp → Hp → List V → δ → Prop) : Prop :=
  ∀ (pos : Pos) (I H : Hp) (σ : St) (Q : List V → Hp → Prop), Stt I0 H0 ctx mem I H σ → (match m with
    | .ok a => ∀ I' H' vs, Fm I H I' H' → R I' H' vs a → Q vs H'
    | .err e => ∀ I' H' cls d, Fm I H I' H' → Fr H d ∧ ExR X.K I' H' e cls d → W cls d σ H'
    | .stuck => False) → ∀ (pins : List (Addr × Obj)) (s : Shared), Inv X pins σ H s → wpAny (model X.prog X.w) X.A (evalAll ((backToKw pos (keywordEach kws X.env)).map (·.2))) (AP X pins σ Q) X.xe s
theorem JK.nil : JK X I0 H0 W ctx mem [] (.ok ()) aNil := fun pos I H σ Q st p pins s Iv => wpAny_evalAll_nil ⟨[], H, Iv, .nil, p I H [] (Fm.refl st.same) rfl⟩
theorem JK.cons {R : Hp → Hp → List V → δ → Prop} {m : Res δ} [MoA ra] (j : JE X I0 H0 W ctx mem e ma ra) (k : JK X I0 H0 W ctx mem kws m R) : JK X I0 H0 W ctx mem (⟨nm, e, kpos⟩ :: kws) (ma.bind fun x => m.bind fun y => .ok (x, y)) (aCons ra R) := fun pos I H σ Q st p pins s Iv => by
  show wpAny _ _ (evalAll ((do let v ← eval e X.env; standAt pos; pure v) :: (backToKw pos (keywordEach kws X.env)).map (·.2))) _ _ s
  refine wpAny_evalAll_cons (wpAny_bind (thn (j I H σ (fun v H1 => ∀ pins s1 u, Inv X pins σ H1 s1 → RelV v u → wpAny (model X.prog X.w) X.A (evalAll ((backToKw pos (keywordEach kws X.env)).map (·.2))) (fun us s2 => AP X pins σ Q (u :: us) s2) X.xe s1) st ?_ pins s Iv) fun u s1 ⟨v, H1, I1, r1, q1⟩ => wpAny_bind (wpAny_standAt (wpAny_pure (q1 pins s1 u I1 r1)))))
  cases ma with
  | ok x =>
    intro I1 H1 v f1 r1 pins s1 u Iv1 ru
    refine thn (k pos I1 H1 σ (fun vs H2 => Q (v :: vs) H2) (st.step f1) ?_ pins s1 Iv1) fun us s2 ⟨vs, H2, I2, r2, q2⟩ => ⟨v :: vs, H2, I2, .cons ru r2, q2⟩
    cases m with
    | ok y => exact fun I2 H2 vs f2 r2 => p I2 H2 _ (f1.trans f2) ⟨v, vs, rfl, MoA.up f2.i f2.h r1, r2⟩
    | err e => exact fun I2 H2 c d f2 x => p I2 H2 c d (f1.trans f2) ⟨x.1.back f1.h, x.2⟩
    | stuck => exact p
  | err e => exact p
  | stuck => exact p
def callKW (X : Cx) (f : Value) (ks : List Str) (σ : St) (xs zs : List V) (H : Hp) (Q : VK) : Prop := ∀ (pins : List (Addr × Obj)) (s : Shared) (us ws : List Value), Inv X pins σ H s → Vals xs us → Vals zs ws → wpAny (model X.prog X.w) X.A (call f us (ks.zip ws)) (EP X pins σ Q) X.xe s
def CallKJ (X : Cx) (W : WX) (f : Value) (ks : List Str) (R : Hp → Hp → List V → δ → Prop) (R' : Hp → Hp → List V → ε → Prop) (g : δ → ε → Res γ) (rc : Ra γ) : Prop :=
  ∀ (I H : Hp) (σ : St) (Q : VK) (vs zs : List V) (x : δ) (y : ε), Same I H → R I H vs x → R' I H zs y → PostE X.K (g x y) rc I H (fun cls d H' => W cls d σ H') Q → callKW X f ks σ vs zs H Q
class MoR {δ : Type} (R : Hp → Hp → List V → δ → Prop) : Prop where
  up : ∀ {I H I' H' : Hp} {vs : List V} {x : δ}, Same I I' → Same H H' → R I H vs x → R I' H' vs x
instance : MoR aNil := ⟨fun _ _ h => h⟩
instance {r : Ra α} {R : Hp → Hp → List V → δ → Prop} [m : MoA r] [m' : MoR R] : MoR (aCons r R) := ⟨fun a b ⟨v, ws, e, h, h'⟩ => ⟨v, ws, e, m.up a b h, m'.up a b h'⟩⟩
variable {R : Hp → Hp → List V → δ → Prop} {R' : Hp → Hp → List V → ε → Prop} {md : Res δ} {me : Res ε} {g : δ → ε → Res γ} {ks : List Str}
theorem JE.callK {f : Addr} [MoR R] (ja : JA X I0 H0 W ctx mem (e :: es) md R) (jk : JK X I0 H0 W ctx mem kws me R') (cj : CallKJ X W (.ref f) ks R R' g rc) (hm : X.mg n = some (.ref f)) (hk : PySem.W.keepIn X.K (.ref f) = true) (hg : Gl X n := by rfl) (hdb : (n == ("__debug__" : Str)) = false := by decide)
    (hall : (backToKw pos (keywordEach kws X.env)).all (·.1.isSome) = true := by rfl) (hks : (backToKw pos (keywordEach kws X.env)).filterMap (·.1) = ks := by rfl) (he : starEach (e :: es) X.env = (false, eval e X.env) :: starEach es X.env := by rfl)
    (hpl : ((backTo pos (starEach (e :: es) X.env)).any (·.1) || (backToKw pos (keywordEach kws X.env)).any (·.1.isNone)) = false := by rfl) : JE X I0 H0 W ctx mem (.Call (.Name n pos') (e :: es) kws pos) (md.bind fun x => me.bind fun y => g x y) rc := fun I H σ Q st p => wE.mk fun pins s Iv => by
  refine wpAny_Call_Name_kw (ld_glob Iv hg hm ?_ hdb)
  refine PySem.W.callWith_KW (h₀ := X.base) Iv.ok.mod.kin hk hall (thn (ja I H σ (fun vs H1 => ∀ pins s1 us, Inv X pins σ H1 s1 → Vals vs us → wpAny (model X.prog X.w) X.A (evalAll ((backToKw pos (keywordEach kws X.env)).map (·.2))) (fun ws s2 => X.K.In s2.heap ∧ wpAny (model X.prog X.w) X.A (PySem.call (.ref f) us (ks.zip ws)) (EP X pins σ Q) X.xe s2) X.xe s1) st ?_ pos pins s Iv) fun us s1 ⟨vs, H1, I1, r1, q1⟩ => ?_) hpl he
  · cases md with
    | ok x =>
      intro I1 H1 vs f1 r1 pins s1 us Iv1 ru
      have p1 := PostE.up p f1
      refine thn (jk pos I1 H1 σ (fun zs H2 => callKW X (.ref f) ks σ vs zs H2 Q) (st.step f1) ?_ pins s1 Iv1) fun ws s2 ⟨zs, H2, I2, r2, q2⟩ => ⟨I2.kIn, q2 pins s2 us ws I2 ru r2⟩
      cases me with
      | ok y => exact fun I2 H2 zs f2 r2 => cj I2 H2 σ Q vs zs x y f2.ih (MoR.up f2.i f2.h r1) r2 (PostE.up p1 f2)
      | err e => exact p1
      | stuck => exact p1
    | err e => exact p
    | stuck => exact p
  · refine thn (q1 pins s1 us I1 r1) fun ws s2 h => ?_
    rw [hks]
    exact h
/-- C(.., k = v): how it binds gives the promise of __init__ -/
theorem cjk_make {k n : Nat} {C f : Addr} {fd : FuncData} {ps : List Str} {gg : List Value → List Value → List Value} {gV : List V → List V → List V} {η : Type} {Ri : Hp → Hp → List V → η → Prop} {m : η → Res γ} {h : δ → ε → η} (M : Mk X.K C f) (F : FnOk X.prog X.w X.K X.mg X.base (L2N.CX X.prog X.w) k f fd ps (spI X.K C Ri m rc)) (hr : Room (k + 1) X.A)
    (hb : KBn X.K fd ps (n + 1) ks gg gV) (tk : L2N.Takes X W) (hR : ∀ I H vs zs x y, R I H vs x → R' I H zs y → vs.length = n ∧ zs.length = ks.length ∧ ∀ v, ∃ ws, gV (v :: vs) zs = v :: ws ∧ Ri I H ws (h x y)) : CallKJ X W (.ref C) ks R R' (fun x y => m (h x y)) rc := fun I H σ Q vs zs x y sm r r' p pins s us ws Iv rv rz => by
  obtain ⟨l1, l2, hw⟩ := hR I H vs zs x y r r'
  have n1 := Iv.hok.fresh (Nat.le_succ s.heap.objs.size)
  have n2 := Iv.hok.fresh (Nat.le_refl s.heap.objs.size)
  have n3 := Nat.ne_of_lt (Nat.lt_succ_self s.heap.objs.size)
  obtain ⟨wv, ew, hRi⟩ := hw (.ref (s.heap.objs.size + 1))
  have hq : spI X.K C Ri m rc (gV (.ref (s.heap.objs.size + 1) :: vs) zs) (upd (upd H s.heap.objs.size (.own (s.heap.objs.size + 1))) (s.heap.objs.size + 1) (.ins C s.heap.objs.size [])) (fun v H2 => v = .non ∧ Q (.ref (s.heap.objs.size + 1)) H2) (fun cls d H' => W cls d σ H') :=
    ⟨s.heap.objs.size + 1, s.heap.objs.size, wv, H, I, h x y, ew, n1, n2, n3, rfl, sm, hRi, p.imp fun v H' q e => ⟨rfl, e ▸ q⟩⟩
  have I2 := Inv.made (C := C) Iv
  have r1 : Vals (V.ref (s.heap.objs.size + 1) :: vs) (Value.ref (s.heap.objs.size + 1) :: us) := .cons rfl rv
  have r2 := hb.rel r1 rz
  have nl : (Value.ref (s.heap.objs.size + 1) :: us).length = n + 1 := by rw [List.length_cons, ← rv.length, l1]
  refine wpAny_call (make_map (f := f) Iv.kIn M.makes M.init (beq_iff_eq.mp M.fn) (codeAny_mono (F.run _ X.stack _ _ ⟨Value.ref (s.heap.objs.size + 1) :: us, ks.zip ws⟩ (gg (Value.ref (s.heap.objs.size + 1) :: us) ws) _ _ _ (hr.make C us (ks.zip ws))
    (I2.env0.make C us (ks.zip ws)) (hb.to _ (Value.ref (s.heap.objs.size + 1) :: us) ws I2.kIn nl (rz.length.symm.trans l2)) r2 hq) fun r s' hq' => ?_))
  cases r with
  | error e => exact L2N.passAt tk σ pins _ _ e s' I2 hq'
  | ok fl =>
    cases fl with
    | ret u =>
      obtain ⟨v, H', I3, rv, ev, q3⟩ := I2.after hq'
      subst ev
      exact ⟨rv, ⟨V.ref (s.heap.objs.size + 1), H', I3, rfl, q3⟩⟩
    | next => exact False.elim hq'
    | brk => exact False.elim hq'
    | cont => exact False.elim hq'
theorem cx_false {P : Program} {w : World} {l : List Env} {H : Hp} {s : Shared} {e : Value} {s' : Shared} (h : L2N.CX P w l H s (fun _ _ _ => False) e s') : False := by
  obtain ⟨_, _, _, _, _, _, _, _, _, _, _, _, z⟩ := h
  exact z.elim
end
def MkK {γ δ ε : Type} (P : Program) (w : World) (K : PySem.W.Frag) (mg : Str → Option Value) (base : Heap) (k : Nat) (C : Addr) (ks : List Str) (R : Hp → Hp → List V → δ → Prop) (R' : Hp → Hp → List V → ε → Prop) (m : δ → ε → Res γ) (r : Ra γ) : Prop :=
  ∀ (X : Cx) (W : WX), X.prog = P → X.w = w → X.K = K → X.mg = mg → X.base = base → Room k X.A → L2N.Takes X W → CallKJ X W (.ref C) ks R R' m r
theorem MkK.nice {γ δ ε : Type} {P : Program} {w : World} {K : PySem.W.Frag} {mg : Str → Option Value} {base : Heap} {k : Nat} {C : Addr} {ks : List Str} {R : Hp → Hp → List V → δ → Prop} {R' : Hp → Hp → List V → ε → Prop} {m m' : δ → ε → Res γ} {r : Ra γ} (F : MkK P w K mg base k C ks R R' m r) (h : ∀ d e, m' d e = .stuck ∨ m' d e = m d e) : MkK P w K mg base k C ks R R' m' r := fun X W e1 e2 e3 e4 e5 hr tk I H σ Q vs zs d ee s a b p => by
  refine F X W e1 e2 e3 e4 e5 hr tk I H σ Q vs zs d ee s a b ?_
  rcases h d ee with e | e
  · rw [show m' d ee = _ from e] at p; exact p.elim
  · rw [← e]; exact p
end L2.Tr

namespace L2.Tr
open PySem PySem.Spec PyProof.Rows
/-! ### the greatest common divisor -/
abbrev absI (x : Int) : Int := if x < 0 then -x else x
theorem absI_eq (x : Int) : absI x = (x.natAbs : Int) := by unfold absI; split <;> omega
theorem modI_ok {x y : Int} (h : y ≠ 0) : modI x y = .ok (x.fmod y) := Res.guard_pos h _
theorem cd_loop {c : Int × Int → Res Bool} {f : Int × Int → Res (Int × Int)} (hc : ∀ s, c s = .ok (!decide (s.2 = 0))) (hf : ∀ s, s.2 ≠ 0 → f s = .ok (s.2, s.1.fmod s.2)) : ∀ (k : Nat) (a b : Nat), b < k → whileM c f k ((a : Int), (b : Int)) = .ok ((Nat.gcd b a : Int), 0)
  | 0, _, _, h => by omega
  | k + 1, a, b, h => by
    show (c _).bind _ = _
    rw [hc]
    by_cases hb : b = 0
    · subst hb
      simp
    · have hb' : ¬ ((b : Int) = 0) := by omega
      simp only [Res.ok_bind, decide_eq_false hb', Bool.not_false, if_true]
      rw [hf _ hb', Int.fmod_eq_emod_of_nonneg _ (by omega)]
      show whileM c f k (((b : Nat) : Int), (((a % b : Nat)) : Int)) = _
      rw [cd_loop hc hf k b (a % b) (by have := Nat.mod_lt a (Nat.pos_of_ne_zero hb); omega)]
      rw [Nat.gcd_rec b a]
/-! ### Fraction(t, b) -/
def eBF : Exn := ⟨"BadFraction", []⟩
def qRaw (t b : Int) : Res Rat := if b = 0 then .err eBF else Res.guard ((Int.gcd t b).log2 < 9000) (.ok (Rat.divInt t b))
def qMk (t b : Int) : Res Rat := if b = 0 then .err eBF else Res.guard (b.natAbs.log2 < 9000) (.ok (Rat.divInt t b))
theorem log2_mono {a b : Nat} (h : a ≤ b) : a.log2 ≤ b.log2 := by
  by_cases ha : a = 0
  · subst ha; simp
  · have hb : b ≠ 0 := by omega
    exact (Nat.le_log2 hb).mpr (Nat.le_trans (Nat.log2_self_le ha) h)
theorem qMk_raw (t b : Int) : qMk t b = .stuck ∨ qMk t b = qRaw t b := by
  unfold qMk qRaw
  by_cases hb : b = 0
  · simp [hb]
  · rw [if_neg hb, if_neg hb]
    by_cases h : b.natAbs.log2 < 9000
    · right
      have : (Int.gcd t b).log2 ≤ b.natAbs.log2 := log2_mono (Int.gcd_le_natAbs_right t hb)
      rw [Res.guard_pos h, Res.guard_pos (by omega)]
    · left; unfold Res.guard; rw [if_neg h]
theorem div_num {t b : Int} (hb : b ≠ 0) (dv : Int) (hd : dv = if b < 0 then -(Int.gcd t b : Int) else (Int.gcd t b : Int)) : t.fdiv dv = (Rat.divInt t b).num ∧ b.fdiv dv = ((Rat.divInt t b).den : Int) := by
  have hg : (Int.gcd t b : Int) ≠ 0 := by
    intro h
    have := Int.gcd_eq_zero_iff.mp (by exact_mod_cast h : Int.gcd t b = 0)
    exact hb this.2
  obtain ⟨x, hx⟩ : (Int.gcd t b : Int) ∣ t := Int.gcd_dvd_left t b
  obtain ⟨y, hy⟩ : (Int.gcd t b : Int) ∣ b := Int.gcd_dvd_right t b
  have hgp : (0 : Int) < (Int.gcd t b : Int) := by omega
  rw [Rat.num_divInt, Rat.den_divInt, if_neg hb, Int.gcd_comm b t]
  generalize hG : (Int.gcd t b) = G at *
  have e1 : ∀ z : Int, ((G : Int) * z).fdiv G = z := fun z => by rw [Int.mul_comm]; exact Int.mul_fdiv_cancel z hg
  have e2 : ∀ z : Int, ((G : Int) * z).fdiv (-G) = -z := fun z => by
    have : (G : Int) * z = (-z) * (-(G : Int)) := by rw [Int.neg_mul_neg, Int.mul_comm]
    rw [this]; exact Int.mul_fdiv_cancel _ (by omega)
  have e3 : ∀ z : Int, ((G : Int) * z) / G = z := fun z => Int.mul_ediv_cancel_left z hg
  by_cases h : b < 0
  · rw [if_pos h] at hd
    subst hd
    have sg : b.sign = -1 := Int.sign_eq_neg_one_of_neg h
    refine ⟨?_, ?_⟩
    · rw [sg, hx, e2, show (-1 : Int) * ((G : Int) * x) = (G : Int) * (-x) from by rw [Int.mul_neg, Int.neg_mul, Int.one_mul], e3]
    · have e4 : ((b.natAbs / G : Nat) : Int) = -y := by
        rw [Int.natCast_ediv, show (b.natAbs : Int) = (G : Int) * (-y) from by rw [Int.mul_neg, ← hy]; omega, e3]
      rw [e4]
      conv => lhs; rw [hy]
      exact e2 y
  · rw [if_neg h] at hd
    subst hd
    have sg : b.sign = 1 := Int.sign_eq_one_of_pos (by omega)
    refine ⟨?_, ?_⟩
    · rw [sg, Int.one_mul]
      conv => lhs; rw [hx]
      conv => rhs; rw [hx]
      rw [e1, e3]
    · have e4 : ((b.natAbs / G : Nat) : Int) = y := by
        rw [Int.natCast_ediv, show (b.natAbs : Int) = (G : Int) * y from by rw [← hy]; omega, e3]
      rw [e4]
      conv => lhs; rw [hy]
      exact e1 y
theorem frF_of {I : Hp} {fs : List (Str × V)} {q : Rat} {n d : Int} (hn : n = q.num) (hd : d = q.den) (h : FldR I fs [("top", ⟨rInt, n⟩), ("bottom", ⟨rInt, d⟩)]) : fs = frF q := by
  subst hn; subst hd
  match fs, h with
  | [(a, u), (b, v)], ⟨e1, e2, e3, e4, _⟩ =>
    cases (show a = _ from e1); cases (show u = _ from e2); cases (show b = _ from e3); cases (show v = _ from e4)
    rfl
/-! ### the defs of exact.py -/
def n_cd (a b : Int) : Res Int := .ok (Int.gcd a b : Int)
def qInt (n : Int) : Res Rat := .ok (n : Rat)
theorem qInt_raw (n : Int) : qInt n = .stuck ∨ qInt n = qRaw n 1 := by
  right
  unfold qInt qRaw
  rw [if_neg (by decide), Res.guard_pos (by rw [Int.gcd_one]; decide)]
  congr 1
  exact Rat.ext (by rw [Rat.num_divInt]; simp) (by rw [Rat.den_divInt]; simp)
theorem weak_nil : weakC [] [] := True.intro
theorem weak_some {a : SF} {c d : List (Option SF)} (h : weakC c d) : weakC (some a :: c) (some a :: d) := ⟨rfl, h⟩
theorem weak_none {a : Option SF} {c d : List (Option SF)} (h : weakC c d) : weakC (a :: c) (none :: d) := h
theorem Stt.recast {I0 H0 I H : Hp} {ctx : List (Option SF)} {mem : List MF} {σ : L2.St} (s : Stt I0 H0 ctx mem I H σ) (i : Nat) {a b : SF} (hc : ctx[i]? = some (some a)) (h : ∀ v, a.r I v a.x → b.r I v b.x) : Stt I0 H0 (ctx.set i (some b)) mem I H σ := by
  refine ⟨s.fm, by rw [List.length_set]; exact s.len, fun j sf e => ?_, s.me⟩
  by_cases hj : j = i
  · subst hj
    rw [List.getElem?_set] at e
    have hl : j < ctx.length := (List.getElem?_eq_some_iff.mp hc).1
    simp only [hl, if_true] at e
    cases e
    obtain ⟨v, e1, q⟩ := s.sl j a hc
    exact ⟨v, e1, h v q⟩
  · rw [List.getElem?_set_ne (Ne.symm hj)] at e
    exact s.sl j sf e
theorem JR.num {γ : Type} {X : Cx} {I0 H0 : Hp} {W : WX} {Kx : KnowsX} {ctx : List (Option SF)} {mem : List MF} {ss : List Stmt} {rr : Ra γ} {K : PySem.W.Frag} (i : Nat) {x : Num} {f1 : Int → Res γ} {f2 : Rat → Res γ} (k1 : ∀ n, JR X I0 H0 W Kx (Stt I0 H0 (ctx.set i (some ⟨rInt, n⟩)) mem) ss (f1 n) rr) (k2 : ∀ r, JR X I0 H0 W Kx (Stt I0 H0 (ctx.set i (some ⟨rFrac K, r⟩)) mem) ss (f2 r) rr)
    (hc : ctx[i]? = some (some ⟨rNum K, x⟩) := by rfl) : JR X I0 H0 W Kx (Stt I0 H0 ctx mem) ss (match x with | .i n => f1 n | .q r => f2 r) rr := fun I H σ D g p => by
  cases x with
  | i n => exact k1 n I H σ D (g.recast i (b := ⟨rInt, n⟩) hc fun v h => h) p
  | q r => exact k2 r I H σ D (g.recast i (b := ⟨rFrac K, r⟩) hc fun v h => h) p
theorem JR.dead {γ : Type} {X : Cx} {I0 H0 : Hp} {W : WX} {Kx : KnowsX} {G : Knows} {ss : List Stmt} {rr : Ra γ} : JR X I0 H0 W Kx G ss (.stuck : Res γ) rr := fun _ _ _ _ _ p => p.elim
theorem JN.dead {S : Type} {X : Cx} {W : WX} {Kx : KnowsX} {G : Knows} {ss : List Stmt} {G' : S → Knows} : JN X W Kx G ss (.stuck : Res S) G' := fun _ _ _ _ _ p => p.elim
theorem paired_ints (I H : Hp) : ∀ ns : List Int, Paired (rp rInt I H) (ns.map V.int) ns
  | [] => .nil
  | _ :: ns => .cons rfl (paired_ints I H ns)
/-! ### a law's cell -/
def cellAt (ns : List Int) (k : Nat) : Int := ns.getD k 0
theorem atM_nat {α : Type} {xs : List α} {k : Nat} {x : α} (h : xs[k]? = some x) : atM xs (k : Int) = .ok x := by unfold atM; rw [atI_nat h]
theorem mulI_ok {x y : Int} (h : x.natAbs.log2 + y.natAbs.log2 < 1000000) : mulI x y = .ok (x * y) := Res.guard_pos h _
theorem fdivI_ok {x y : Int} (h0 : y ≠ 0) (h : y.natAbs.log2 < 9000) : fdivI x y = .ok (x.fdiv y) := Res.guard_pos ⟨h0, h⟩ _
theorem FnOk.no {P : Program} {w : World} {K : PySem.W.Frag} {mg : Str → Option Value} {base : Heap} {k : Nat} {f : Addr} {fd : FuncData} {ps : List Str} {sp : Sp} (F : FnOk P w K mg base (L2N.CX P w) k f fd ps sp) : FnOk P w K mg base CX0 k f fd ps (fun vs H Q _ => sp vs H Q fun _ _ _ => False) :=
  ⟨fun vs H Q _ h => F.len vs H Q _ h, fun A outer s H args us vs Q E hr e0 hb hv h => codeAny_mono (F.run A outer s H args us vs Q _ hr e0 hb hv h) fun r s' hq => by
    cases r with
    | error e => exact cx_false hq
    | ok fl => cases fl <;> exact hq⟩
end L2.Tr

namespace L2.Tr
open PySem PySem.Spec PyProof.Rows
/-! ### what is walked -/
/-- J walks the values vs while ok holds of the heap -/
def ItR (J : It) (vs : List V) (ok : Hp → Prop) : Prop := ∀ (i : Nat) (H : Hp), ok H → (i < vs.length → J.go i H ∧ ∀ x H', J.yld i H x H' → H' = H ∧ vs[i]? = some x) ∧ (vs.length ≤ i → J.stop i H)
theorem itr_list {K : PySem.W.Frag} {l : Addr} {vs : List V} : ItR (Itl K l) vs (fun H => SqL K H l vs) := fun i H q => ⟨fun h => ⟨⟨vs, vs[i], q, by simp [h]⟩, fun x H' y => ⟨y.1, y.2 vs q⟩⟩, fun h => ⟨vs, q, h⟩⟩
theorem itr_tup {K : PySem.W.Frag} {l : Addr} {vs : List V} : ItR (Itt K l) vs (fun H => SqT K H l vs) := fun i H q => ⟨fun h => ⟨⟨vs, vs[i], q, by simp [h]⟩, fun x H' y => ⟨y.1, y.2 vs q⟩⟩, fun h => ⟨vs, q, h⟩⟩
def rngV (lo : Int) (n : Nat) : List V := (List.range n).map fun (i : Nat) => .int (lo + (i : Int))
def rngI (lo : Int) (n : Nat) : List Int := (List.range n).map fun (i : Nat) => lo + (i : Int)
theorem itr_rng {lo : Int} {n : Nat} : ItR (Itr lo n) (rngV lo n) (fun _ => True) := fun i H _ => by
  have e : (rngV lo n).length = n := by simp [rngV]
  rw [e]
  exact ⟨fun h => ⟨h, fun x H' y => ⟨y.1, by rw [y.2]; simp [rngV, h]⟩⟩, fun h => h⟩
theorem rng_pair {I : Hp} {lo : Int} {n : Nat} : Paired (rInt I) (rngV lo n) (rngI lo n) := by
  unfold rngV rngI
  generalize List.range n = l
  induction l with
  | nil => exact .nil
  | cons a l ih => exact .cons rfl ih
section
variable {α β γ δ S : Type} {X : Cx} {I0 H0 : Hp} {W : WX} {Kx : KnowsX} {G : Knows} {ctx cw : List (Option SF)} {mem : List MF} {e a b c o tg iter : Expr} {es bs : List Expr} {ss body : List Stmt} {pos pos' : Pos} {n : Str} {ra : Ra α} {rr : Ra γ} {ma : Res α}
def wI (X : Cx) (tg iter : Expr) : TI := fun σ H R => ∀ (pins : List (Addr × Obj)) (s : Shared), Inv X pins σ H s → wpAny (model X.prog X.w) X.A (eval iter X.env) (fun v s1 => wpAny (model X.prog X.w) X.A (pyIter v) (PIEC X pins σ tg R) X.xe s1) X.xe s
theorem pi_W : PIC X tg iter (wI X tg iter) := ⟨fun pins s _ _ _ I h => h pins s I⟩
theorem PI.w {t : TI} {σ : St} {H : Hp} {R : It → Hp → Prop} (p : PIC X tg iter t) (h : t σ H R) : wI X tg iter σ H R := fun pins s I => p.run pins s σ H R I h
/-- what an iterable is worth: its items -/
def JI (X : Cx) (I0 H0 : Hp) (W : WX) (ctx : List (Option SF)) (mem : List MF) (tg iter : Expr) (m : Res (List β)) (r : Rp β) : Prop :=
  ∀ (I H : Hp) (σ : St) (R : It → Hp → Prop), Stt I0 H0 ctx mem I H σ → (match m with
    | .ok xs => ∀ I' H' J vs (okp : Hp → Prop), Fm I H I' H' → ItR J vs okp → (∀ I'' H'', Same I' I'' → Same I'' H'' → Same H0 H'' → okp H'') → Paired (r I') vs xs → R J H'
    | .err e => ∀ I' H' cls d, Fm I H I' H' → Fr H d ∧ ExR X.K I' H' e cls d → W cls d σ H'
    | .stuck => False) → wI X tg iter σ H R
theorem JI.list {r : Rp β} {m : Res (List β)} (j : JE X I0 H0 W ctx mem iter m (rp (rL r))) : JI X I0 H0 W ctx mem tg iter m r := fun I H σ R st p => by
  refine PI.w (pi_listC pe_W) (j I H σ _ st ?_)
  cases m with
  | ok xs =>
    rintro I1 H1 v f1 ⟨l, vs, rfl, hl, pr⟩
    exact ⟨l, rfl, ⟨vs, SqL.of (f1.ih _ _ hl)⟩, p I1 H1 _ vs _ f1 itr_list (fun I2 H2 s1 s2 _ => SqL.of (s2 _ _ (s1 _ _ hl))) pr⟩
  | err e => exact p
  | stuck => exact p
theorem JI.tup {r : Rp β} {m : Res (List β)} (j : JE X I0 H0 W ctx mem iter m (rp (rT r))) : JI X I0 H0 W ctx mem tg iter m r := fun I H σ R st p => by
  refine PI.w (pi_tupC pe_W) (j I H σ _ st ?_)
  cases m with
  | ok xs =>
    rintro I1 H1 v f1 ⟨l, vs, rfl, hl, pr⟩
    exact ⟨l, rfl, ⟨vs, SqT.of (f1.ih _ _ hl)⟩, p I1 H1 _ vs _ f1 itr_tup (fun I2 H2 s1 s2 _ => SqT.of (s2 _ _ (s1 _ _ hl))) pr⟩
  | err e => exact p
  | stuck => exact p
/-- a parameter's list -/
theorem JI.par (i : Nat) {r : Rp β} {mo : Mo (fun I v x => rdL X.K (rp r) I H0 v x)} {x : List β} [m : Mo r] (hc : ctx[i]? = some (some (@SF.mk (List β) (fun I v x => rdL X.K (rp r) I H0 v x) mo x)) := by rfl) (hN : X.N[i]? = some n := by rfl) (hv : Vis X.env.scope n := by first | exact Or.inl rfl | exact Or.inr (Or.inl rfl) | exact Or.inr (Or.inr rfl)) (hd : (n == ("__debug__" : Str)) = false := by decide)
    (hcd : (n == ("__classdict__" : Str)) = false := by decide) : JI X I0 H0 W ctx mem tg (.Name n pos) (.ok x) r := fun I H σ R st p => by
  obtain ⟨v, e, l, vs, ev, hl, pr⟩ := st.sl i _ hc
  subst ev
  refine PI.w (pi_listC pe_W) (w_var i ⟨l, rfl, ⟨vs, st.fm.h.seq hl⟩, ?_⟩ e hN hv hd hcd)
  exact p I H _ vs _ (Fm.refl st.same) itr_list (fun I2 H2 s1 s2 s3 => s3.seq hl) pr
def rangeM1 (hi : Int) : Res (List Int) := Res.guard (-(2 ^ 62) ≤ hi ∧ hi < 2 ^ 62) (.ok (rngI 0 hi.toNat))
theorem JI.range1 {m : Res Int} (j : JE X I0 H0 W ctx mem a m (rp rInt)) (hm : X.mg "range" = none) (hg : Gl X "range" := by rfl) (hs : starEach [a] X.env = (false, eval a X.env) :: starEach [] X.env := by rfl) : JI X I0 H0 W ctx mem tg (.Call (.Name "range" pos') [a] [] pos) (m.bind fun x => rangeM1 x) rInt := fun I H σ R st p => by
  refine PI.w (pi_range1C hg hm (pa_cons pe_W pa_nil hs) hs) (j I H σ _ st ?_)
  cases m with
  | ok x =>
    intro I1 H1 v f1 r1
    cases (show v = V.int x from r1)
    by_cases hh : -(2 ^ 62) ≤ x ∧ x < 2 ^ 62
    · have e : ((Res.ok x).bind fun x => rangeM1 x) = .ok (rngI 0 x.toNat) := Res.guard_pos hh _
      rw [e] at p
      exact ⟨x, rfl, hh.1, hh.2, p I1 H1 _ _ _ f1 itr_rng (fun _ _ _ _ _ => True.intro) rng_pair⟩
    · have e : ((Res.ok x).bind fun x => rangeM1 x) = .stuck := if_neg hh
      rw [e] at p
      exact p.elim
  | err e => exact p
  | stuck => exact p
/-! ### for: a body that goes on -/
def forS (f : β → S → Res S) : List β → S → Res S
  | [], s => .ok s
  | x :: xs, s => (f x s).bind fun s' => forS f xs s'
theorem paired_drop {F : α → β → Prop} {xs : List α} {ys : List β} (p : Paired F xs ys) (i : Nat) {x : α} (h : xs[i]? = some x) : ∃ y, ys[i]? = some y ∧ F x y := by
  have hl := Paired.length p
  have hi : i < ys.length := by rw [← hl]; exact (List.getElem?_eq_some_iff.mp h).1
  obtain ⟨x', e1, e2⟩ := paired_get p (List.getElem?_eq_getElem hi)
  rw [h] at e1
  cases e1
  exact ⟨_, List.getElem?_eq_getElem hi, e2⟩
theorem forS_drop {f : β → S → Res S} {xs : List β} {i : Nat} {x : β} (h : xs[i]? = some x) (s : S) : forS f (xs.drop i) s = (f x s).bind fun s' => forS f (xs.drop (i + 1)) s' := by
  have hi := (List.getElem?_eq_some_iff.mp h).1
  rw [List.drop_eq_getElem_cons hi]
  have : xs[i] = x := (List.getElem?_eq_some_iff.mp h).2
  rw [this]
  rfl
theorem J1.forS (j : Nat) {r : Rp β} [mo : Mo r] {m : Res (List β)} {cx : S → List (Option SF)} {me : S → List MF} {f : β → S → Res S} {s0 : S} (hp : PassesOwn (model X.prog X.w) X.A X.env X.xe) (ji : JI X I0 H0 W ctx (me s0) (.Name n pos') iter m r)
    (jb : ∀ x s, JN X W Kx (Stt I0 H0 ((cx s).set j (some ⟨r, x⟩)) (me s)) body (f x s) fun s' => Stt I0 H0 (cx s') (me s')) (hx : ∀ I H σ d, Stt I0 H0 ctx (me s0) I H σ → Fr H0 d → Kx I H σ d) (hw : weakC ctx (cx s0)) (hN : X.N.Nodup) (hc : Cool X := by first | exact .inl rfl | exact .inr ⟨_, by assumption, List.mem_cons_self⟩)
    (hj : X.N[j]? = some n := by rfl) (hl : Loc X.env.scope n := by first | exact Or.inl rfl | exact Or.inr rfl) (hf : X.fn n = true ∨ X.env.scope.names.lookup n = some .local := by first | exact .inl rfl | exact .inr rfl | assumption) (hs : ∀ x, foldedSetIterable iter X.env x = pure x := by intro _; rfl) :
    J1 X W Kx (Stt I0 H0 ctx (me s0)) (.For (.Name n pos') iter body [] pos) (m.bind fun xs => Tr.forS f xs s0) (fun s => Stt I0 H0 (cx s) (me s)) := fun I H σ D g p => by
  refine PS.w (ps_forC hp hc pi_W (pg_name (i := j) hN hj hl hf) pss_W hs) (ji I H σ _ g ?_)
  cases m with
  | ok xs =>
    intro I1 H1 J vs okp f1 itr stay pr
    have p0 : PostB X W Kx I1 (Tr.forS f xs s0) (fun s => Stt I0 H0 (cx s) (me s)) D := PostB.up p f1.i
    have hlen := Paired.length pr
    refine ⟨fun i k σ' H' => k + i = vs.length ∧ ∃ I' s, Same I1 I' ∧ Stt I0 H0 (cx s) (me s) I' H' σ' ∧ PostB X W Kx I' (Tr.forS f (xs.drop i) s) (fun s => Stt I0 H0 (cx s) (me s)) D, ⟨vs.length, rfl, I1, s0, Same.refl _, (g.step f1).weak hw, p0⟩, ?_⟩
    rintro i k σ' H' ⟨hk, I', s, si, g', p'⟩
    have hok := stay I' H' si g'.same g'.fm.h
    by_cases hi : i < vs.length
    · obtain ⟨go, yl⟩ := (itr i H' hok).1 hi
      refine .inr ⟨go, fun σ2 H2 => ∃ I2 s2, Same I1 I2 ∧ Stt I0 H0 (cx s2) (me s2) I2 H2 σ2 ∧ PostB X W Kx I2 (Tr.forS f (xs.drop (i + 1)) s2) (fun s => Stt I0 H0 (cx s) (me s)) D, fun σ2 H2 h => ⟨k - 1, by omega, by omega, h⟩, fun v H2 hy => ?_⟩
      obtain ⟨rfl, ev⟩ := yl v H2 hy
      obtain ⟨x, ex, hr⟩ := paired_drop pr i ev
      rw [forS_drop ex] at p'
      have key := jb x s I' H2 (σ'.set j (some v)) { D with nx := fun σ2 H2 => ∃ I2 s2, Same I' I2 ∧ Stt I0 H0 (cx s2) (me s2) I2 H2 σ2 ∧ PostB X W Kx I2 (Tr.forS f (xs.drop (i + 1)) s2) (fun s => Stt I0 H0 (cx s) (me s)) D, ct := fun _ _ => False, bk := fun _ _ => False } (g'.set j (mo.up si hr)) ?_
      · refine b_mono key (fun σ2 H2 ⟨I2, s2, q1, q2, q3⟩ => ⟨I2, s2, si.trans q1, q2, q3⟩) (fun _ _ z => z) (fun _ _ z => z.elim) (fun _ _ z => z.elim)
      · revert p'
        generalize f x s = z
        intro p'
        cases z with
        | ok s2 => exact fun I2 H2 σ2 q1 q2 => ⟨I2, s2, q1, q2, PostB.up p' q1⟩
        | err e => exact p'
        | stuck => exact p'.elim
    · refine .inl ⟨(itr i H' hok).2 (by omega), ?_⟩
      have : xs.drop i = [] := List.drop_eq_nil_of_le (by omega)
      rw [this] at p'
      exact p' I' H' σ' (Same.refl _) g'
  | err e => exact fun I' H' c d f x => p I' H' σ c d (hx _ _ _ _ (g.step f) (x.1.back g.fm.h)) x.2
  | stuck => exact p.elim
end
end L2.Tr

namespace L2.Tr
open PySem PySem.Spec PyProof.Rows
/-! ### general flow: a block may go on, return, break or continue -/
inductive Fl (S L γ : Type)
  | nx (s : S)
  | rt (y : γ)
  | bk (l : L)
  | ct (l : L)
section
variable {α β γ δ S T L L' : Type}
def Fl.then (f : S → Res (Fl T L γ)) : Fl S L γ → Res (Fl T L γ)
  | .nx s => f s
  | .rt y => .ok (.rt y)
  | .bk l => .ok (.bk l)
  | .ct l => .ok (.ct l)
def Fl.out (f : S → Res γ) : Fl S L γ → Res γ
  | .nx s => f s
  | .rt y => .ok y
  | .bk _ => .stuck
  | .ct _ => .stuck
@[simp] theorem Fl.then_nx (f : S → Res (Fl T L γ)) (s : S) : Fl.then f (.nx s) = f s := rfl
@[simp] theorem Fl.then_rt (f : S → Res (Fl T L γ)) (y : γ) : Fl.then f (.rt y) = .ok (.rt y) := rfl
@[simp] theorem Fl.then_bk (f : S → Res (Fl T L γ)) (y : L) : Fl.then f (.bk y) = .ok (.bk y) := rfl
@[simp] theorem Fl.then_ct (f : S → Res (Fl T L γ)) (y : L) : Fl.then f (.ct y) = .ok (.ct y) := rfl
@[simp] theorem Fl.out_nx (f : S → Res γ) (s : S) : Fl.out (L := L) f (.nx s) = f s := rfl
@[simp] theorem Fl.out_rt (f : S → Res γ) (y : γ) : Fl.out (L := L) f (.rt y) = .ok y := rfl
def forG (f : β → S → Res (Fl S S γ)) : List β → S → Res (Fl S L γ)
  | [], s => .ok (.nx s)
  | x :: xs, s => (f x s).bind fun
    | .nx s' => forG f xs s'
    | .ct s' => forG f xs s'
    | .bk s' => .ok (.nx s')
    | .rt y => .ok (.rt y)
def PostG (X : Cx) (I0 H0 : Hp) (W : WX) (Kx : KnowsX) (I : Hp) (m : Res (Fl S L γ)) (G : S → Knows) (GL : L → Knows) (r : Ra γ) (D : Ends) : Prop := match m with
  | .ok (.nx s) => ∀ I' H' σ', Same I I' → G s I' H' σ' → D.nx σ' H'
  | .ok (.bk s) => ∀ I' H' σ', Same I I' → GL s I' H' σ' → D.bk σ' H'
  | .ok (.ct s) => ∀ I' H' σ', Same I I' → GL s I' H' σ' → D.ct σ' H'
  | .ok (.rt y) => ∀ I' H' v, Fm I0 H0 I' H' → r I' H' v y → D.rt v H'
  | .err e => ∀ I' H' σ' cls d, Kx I' H' σ' d → ExR X.K I' H' e cls d → W cls d σ' H'
  | .stuck => False
theorem PostG.up {X : Cx} {I0 H0 : Hp} {W : WX} {Kx : KnowsX} {I I1 : Hp} {m : Res (Fl S L γ)} {G : S → Knows} {GL : L → Knows} {r : Ra γ} {D : Ends} (p : PostG X I0 H0 W Kx I m G GL r D) (s : Same I I1) : PostG X I0 H0 W Kx I1 m G GL r D := by
  cases m with
  | ok a => cases a with
    | nx s => exact fun I' H' σ' q => p I' H' σ' (Same.trans ‹Same I I1› q)
    | bk s => exact fun I' H' σ' q => p I' H' σ' (Same.trans ‹Same I I1› q)
    | ct s => exact fun I' H' σ' q => p I' H' σ' (Same.trans ‹Same I I1› q)
    | rt y => exact p
  | err e => exact p
  | stuck => exact p
def J1G (X : Cx) (I0 H0 : Hp) (W : WX) (Kx : KnowsX) (G : Knows) (st : Stmt) (m : Res (Fl S L γ)) (G' : S → Knows) (GL : L → Knows) (r : Ra γ) : Prop := ∀ (I H : Hp) (σ : St) (D : Ends), G I H σ → PostG X I0 H0 W Kx I m G' GL r D → wS X st D σ H
def JG (X : Cx) (I0 H0 : Hp) (W : WX) (Kx : KnowsX) (G : Knows) (ss : List Stmt) (m : Res (Fl S L γ)) (G' : S → Knows) (GL : L → Knows) (r : Ra γ) : Prop := ∀ (I H : Hp) (σ : St) (D : Ends), G I H σ → PostG X I0 H0 W Kx I m G' GL r D → wB X ss D σ H
variable {X : Cx} {I0 H0 : Hp} {W : WX} {Kx : KnowsX} {G : Knows} {ctx : List (Option SF)} {mem : List MF} {e a b c o iter : Expr} {es bs : List Expr} {st : Stmt} {ss s1 s2 body : List Stmt} {pos pos' : Pos} {n : Str} {ra : Ra α} {rr : Ra γ} {ma : Res α} {mc : Res Bool} {GL : L → Knows}
theorem JG.nil {s : S} {G' : S → Knows} (h : ∀ I H σ, G I H σ → G' s I H σ) : JG X I0 H0 W Kx G [] (.ok (.nx s)) G' GL rr := fun I H σ D g p => b_nil (p I H σ (Same.refl _) (h _ _ _ g))
theorem JG.seq {m : Res S} {G1 : S → Knows} {f : S → Res (Fl T L γ)} {G2 : T → Knows} (j : J1 X W Kx G st m G1) (k : ∀ s, JG X I0 H0 W Kx (G1 s) ss (f s) G2 GL rr) : JG X I0 H0 W Kx G (st :: ss) (m.bind f) G2 GL rr := fun I H σ D g p => by
  refine b_cons (j I H σ _ g ?_)
  cases m with
  | ok s => exact fun I' H' σ' si g' => k s I' H' σ' D g' (PostG.up p si)
  | err e => exact p
  | stuck => exact p
theorem JG.seqG {m : Res (Fl S L γ)} {G1 : S → Knows} {f : S → Res (Fl T L γ)} {G2 : T → Knows} (j : J1G X I0 H0 W Kx G st m G1 GL rr) (k : ∀ s, JG X I0 H0 W Kx (G1 s) ss (f s) G2 GL rr) : JG X I0 H0 W Kx G (st :: ss) (m.bind (Fl.then f)) G2 GL rr := fun I H σ D g p => by
  refine b_cons (j I H σ _ g ?_)
  cases m with
  | ok a => cases a with
    | nx s => exact fun I' H' σ' si g' => k s I' H' σ' D g' (PostG.up p si)
    | bk s => exact p
    | ct s => exact p
    | rt s => exact p
  | err e => exact p
  | stuck => exact p
theorem JR.seqG {m : Res (Fl S L γ)} {G1 : S → Knows} {f : S → Res γ} (j : J1G X I0 H0 W Kx G st m G1 GL rr) (k : ∀ s, JR X I0 H0 W Kx (G1 s) ss (f s) rr) : JR X I0 H0 W Kx G (st :: ss) (m.bind (Fl.out f)) rr := fun I H σ D g p => by
  refine b_cons (j I H σ _ g ?_)
  cases m with
  | ok a => cases a with
    | nx s => exact fun I' H' σ' si g' => k s I' H' σ' D g' p
    | bk s => exact p.elim
    | ct s => exact p.elim
    | rt s => exact p
  | err e => exact p
  | stuck => exact p
theorem JG.rt {m : Res γ} {G' : S → Knows} (j : JR X I0 H0 W Kx G ss m rr) : JG X I0 H0 W Kx G ss (m.bind fun y => .ok (.rt y)) G' GL rr := fun I H σ D g p => by
  refine j I H σ D g ?_
  cases m with
  | ok y => exact p
  | err e => exact p
  | stuck => exact p
theorem J1G.of {m : Res S} {G' : S → Knows} (j : J1 X W Kx G st m G') : J1G X I0 H0 W Kx G st (m.bind fun s => .ok (.nx s)) G' GL rr := fun I H σ D g p => by
  refine j I H σ D g ?_
  cases m with
  | ok y => exact p
  | err e => exact p
  | stuck => exact p
theorem JG.ifT {m1 m2 : Res (Fl S L γ)} {G' : S → Knows} (j : JT X I0 H0 W ctx mem c mc) (k1 : JG X I0 H0 W Kx (Stt I0 H0 ctx mem) s1 m1 (fun _ _ _ _ => False) GL rr) (k2 : JG X I0 H0 W Kx (Stt I0 H0 ctx mem) ss m2 G' GL rr) (hx : ∀ I H σ d, Stt I0 H0 ctx mem I H σ → Fr H0 d → Kx I H σ d) :
    JG X I0 H0 W Kx (Stt I0 H0 ctx mem) (.If c s1 [] pos :: ss) (mc.bind fun x => if x = true then m1 else m2) G' GL rr := fun I H σ D g p => by
  refine b_cons (s_if (j I H σ _ g ?_))
  cases mc with
  | ok x =>
    intro I1 H1 v f r y hy
    cases r; cases hy
    cases x with
    | true =>
      refine iteT (b_mono (k1 I1 H1 σ { D with nx := fun _ _ => False } (g.step f) ?_) (fun _ _ z => z.elim) (fun _ _ z => z) (fun _ _ z => z) (fun _ _ z => z))
      have p1 : PostG X I0 H0 W Kx I1 m1 _ _ _ _ := PostG.up p f.i
      cases m1 with
      | ok a => cases a with
        | nx s => exact fun _ _ _ _ z => z
        | bk s => exact p1
        | ct s => exact p1
        | rt s => exact p1
      | err e => exact p1
      | stuck => exact p1
    | false => exact iteF (b_nil (k2 I1 H1 σ D (g.step f) (PostG.up p f.i)))
  | err e => exact fun I' H' c d f x => p I' H' σ c d (hx _ _ _ _ (g.step f) (x.1.back g.fm.h)) x.2
  | stuck => exact p
theorem J1G.if {m1 m2 : Res (Fl S L γ)} {G' : S → Knows} (j : JT X I0 H0 W ctx mem c mc) (k1 : JG X I0 H0 W Kx (Stt I0 H0 ctx mem) s1 m1 G' GL rr) (k2 : JG X I0 H0 W Kx (Stt I0 H0 ctx mem) s2 m2 G' GL rr) (hx : ∀ I H σ d, Stt I0 H0 ctx mem I H σ → Fr H0 d → Kx I H σ d) :
    J1G X I0 H0 W Kx (Stt I0 H0 ctx mem) (.If c s1 s2 pos) (mc.bind fun x => if x = true then m1 else m2) G' GL rr := fun I H σ D g p => by
  refine s_if (j I H σ _ g ?_)
  cases mc with
  | ok x =>
    intro I1 H1 v f r y hy
    cases r; cases hy
    cases x with
    | true => exact iteT (k1 I1 H1 σ D (g.step f) (PostG.up p f.i))
    | false => exact iteF (k2 I1 H1 σ D (g.step f) (PostG.up p f.i))
  | err e => exact fun I' H' c d f x => p I' H' σ c d (hx _ _ _ _ (g.step f) (x.1.back g.fm.h)) x.2
  | stuck => exact p
theorem JG.bk {l : L} {G' : S → Knows} (h : ∀ I H σ, G I H σ → GL l I H σ) : JG X I0 H0 W Kx G (.Break pos :: ss) (.ok (.bk l)) G' GL rr := fun I H σ D g p => b_cons (PS.w ps_break (p I H σ (Same.refl _) (h _ _ _ g)))
theorem JG.ct {l : L} {G' : S → Knows} (h : ∀ I H σ, G I H σ → GL l I H σ) : JG X I0 H0 W Kx G (.Continue pos :: ss) (.ok (.ct l)) G' GL rr := fun I H σ D g p => b_cons (PS.w ps_continue (p I H σ (Same.refl _) (h _ _ _ g)))
theorem forG_drop {f : β → S → Res (Fl S S γ)} {xs : List β} {i : Nat} {x : β} (h : xs[i]? = some x) (s : S) : (forG f (xs.drop i) s : Res (Fl S L γ)) = (f x s).bind fun
    | .nx s' => forG f (xs.drop (i + 1)) s'
    | .ct s' => forG f (xs.drop (i + 1)) s'
    | .bk s' => .ok (.nx s')
    | .rt y => .ok (.rt y) := by
  have hi := (List.getElem?_eq_some_iff.mp h).1
  rw [List.drop_eq_getElem_cons hi]
  have : xs[i] = x := (List.getElem?_eq_some_iff.mp h).2
  rw [this]
  rfl
theorem J1G.forG (j : Nat) {r : Rp β} [mo : Mo r] {m : Res (List β)} {cx : S → List (Option SF)} {me : S → List MF} {f : β → S → Res (Fl S S γ)} {s0 : S} (hp : PassesOwn (model X.prog X.w) X.A X.env X.xe) (ji : JI X I0 H0 W ctx (me s0) (.Name n pos') iter m r)
    (jb : ∀ x s, JG X I0 H0 W Kx (Stt I0 H0 ((cx s).set j (some ⟨r, x⟩)) (me s)) body (f x s) (fun s' => Stt I0 H0 (cx s') (me s')) (fun s' => Stt I0 H0 (cx s') (me s')) rr) (hx : ∀ I H σ d, Stt I0 H0 ctx (me s0) I H σ → Fr H0 d → Kx I H σ d) (hw : weakC ctx (cx s0)) (hN : X.N.Nodup) (hc : Cool X := by first | exact .inl rfl | exact .inr ⟨_, by assumption, List.mem_cons_self⟩)
    (hj : X.N[j]? = some n := by rfl) (hl : Loc X.env.scope n := by first | exact Or.inl rfl | exact Or.inr rfl) (hf : X.fn n = true ∨ X.env.scope.names.lookup n = some .local := by first | exact .inl rfl | exact .inr rfl | assumption) (hs : ∀ x, foldedSetIterable iter X.env x = pure x := by intro _; rfl) :
    J1G X I0 H0 W Kx (Stt I0 H0 ctx (me s0)) (.For (.Name n pos') iter body [] pos) (m.bind fun xs => (Tr.forG f xs s0 : Res (Fl S L γ))) (fun s => Stt I0 H0 (cx s) (me s)) GL rr := fun I H σ D g p => by
  refine PS.w (ps_forC hp hc pi_W (pg_name (i := j) hN hj hl hf) pss_W hs) (ji I H σ _ g ?_)
  cases m with
  | ok xs =>
    intro I1 H1 J vs okp f1 itr stay pr
    have p0 : PostG X I0 H0 W Kx I1 (Tr.forG f xs s0) (fun s => Stt I0 H0 (cx s) (me s)) GL rr D := PostG.up p f1.i
    have hlen := Paired.length pr
    refine ⟨fun i k σ' H' => k + i = vs.length ∧ ∃ I' s, Same I1 I' ∧ Stt I0 H0 (cx s) (me s) I' H' σ' ∧ PostG X I0 H0 W Kx I' (Tr.forG f (xs.drop i) s) (fun s => Stt I0 H0 (cx s) (me s)) GL rr D, ⟨vs.length, rfl, I1, s0, Same.refl _, (g.step f1).weak hw, p0⟩, ?_⟩
    rintro i k σ' H' ⟨hk, I', s, si, g', p'⟩
    have hok := stay I' H' si g'.same g'.fm.h
    by_cases hi : i < vs.length
    · obtain ⟨go, yl⟩ := (itr i H' hok).1 hi
      refine .inr ⟨go, fun σ2 H2 => ∃ I2 s2, Same I1 I2 ∧ Stt I0 H0 (cx s2) (me s2) I2 H2 σ2 ∧ PostG X I0 H0 W Kx I2 (Tr.forG f (xs.drop (i + 1)) s2) (fun s => Stt I0 H0 (cx s) (me s)) GL rr D, fun σ2 H2 h => ⟨k - 1, by omega, by omega, h⟩, fun v H2 hy => ?_⟩
      obtain ⟨rfl, ev⟩ := yl v H2 hy
      obtain ⟨x, ex, hr⟩ := paired_drop pr i ev
      rw [forG_drop ex] at p'
      refine jb x s I' H2 (σ'.set j (some v)) _ (g'.set j (mo.up si hr)) ?_
      revert p'
      generalize f x s = z
      intro p'
      cases z with
      | ok a => cases a with
        | nx s2 => exact fun I2 H2 σ2 q1 q2 => ⟨I2, s2, si.trans q1, q2, PostG.up p' q1⟩
        | ct s2 => exact fun I2 H2 σ2 q1 q2 => ⟨I2, s2, si.trans q1, q2, PostG.up p' q1⟩
        | bk s2 => exact p'
        | rt y => exact p'
      | err e => exact p'
      | stuck => exact p'.elim
    · refine .inl ⟨(itr i H' hok).2 (by omega), ?_⟩
      have : xs.drop i = [] := List.drop_eq_nil_of_le (by omega)
      rw [this] at p'
      exact p' I' H' σ' (Same.refl _) g'
  | err e => exact fun I' H' c d f x => p I' H' σ c d (hx _ _ _ _ (g.step f) (x.1.back g.fm.h)) x.2
  | stuck => exact p.elim
end
end L2.Tr
namespace L2.Tr
open PySem PySem.Spec PyProof.Rows
def Fl.get {S L γ : Type} : Fl S L γ → Res S
  | .nx s => .ok s
  | _ => .stuck
end L2.Tr

namespace L2.Tr
open PySem PySem.Spec PyProof.Rows
/-! ### fractions in plain Lean -/
abbrev big : Nat := 2 ^ 4000
def fitI (n : Int) : Prop := n.natAbs ≤ big
def fits (q : Rat) : Prop := q.num.natAbs ≤ big ∧ q.den ≤ big
instance (n : Int) : Decidable (fitI n) := inferInstanceAs (Decidable (_ ≤ _))
instance (q : Rat) : Decidable (fits q) := inferInstanceAs (Decidable (_ ∧ _))
theorem log_big {n : Nat} (h : n ≤ big) : n.log2 ≤ 4000 := by
  have := log2_mono h
  have e : big.log2 = 4000 := Nat.log2_two_pow
  omega
theorem big_mul {a b : Nat} (ha : a ≤ big) (hb : b ≤ big) : (a * b).log2 < 9000 := by
  have h1 : a * b ≤ 2 ^ 8000 := by
    have := Nat.mul_le_mul ha hb
    rwa [show big * big = 2 ^ 8000 from by rw [← Nat.pow_add]] at this
  have := log2_mono h1
  rw [Nat.log2_two_pow] at this
  omega
theorem mul_fit {a b : Int} (ha : a.natAbs ≤ big) (hb : b.natAbs ≤ big) : mulI a b = .ok (a * b) := mulI_ok (by have := log_big ha; have := log_big hb; omega)
theorem fits_int {n : Int} : fits (n : Rat) ↔ fitI n := by
  unfold fits fitI
  rw [Rat.num_intCast, Rat.den_intCast]
  exact ⟨fun h => h.1, fun h => ⟨h, Nat.one_le_two_pow⟩⟩
theorem den_nz (x : Rat) : (x.den : Int) ≠ 0 := by have := x.den_nz; omega
theorem qMk_ok {t b : Int} (hb : b ≠ 0) (hl : b.natAbs.log2 < 9000) : qMk t b = .ok (Rat.divInt t b) := by unfold qMk; rw [if_neg hb, Res.guard_pos hl]
def gQ (x : Rat) (y : Num) (r : Rat) : Res Rat := Res.guard (fits x ∧ fits y.val) (.ok r)
def gB (x : Rat) (y : Num) (r : Bool) : Res Bool := Res.guard (fits x ∧ fits y.val) (.ok r)
def qMul (x : Rat) (y : Num) : Res Rat := gQ x y (x * y.val)
def qRsub (x : Rat) (y : Int) : Res Rat := gQ x (.i y) ((y : Rat) - x)
def qEq (x : Rat) (y : Num) : Res Bool := .ok (decide (x = y.val))
def qLe (x : Rat) (y : Num) : Res Bool := gB x y (decide (x ≤ y.val))
def qGe (x : Rat) (y : Num) : Res Bool := gB x y (decide (y.val ≤ x))
def qAs (y : Num) : Res Rat := .ok y.val
def qOver (x : Rat) (y : Num) : Res Rat := Res.guard (fits x ∧ fits y.val) (if y.val = 0 then .err eBF else .ok (x / y.val))
theorem stuck_or {α : Type} {p : Prop} [Decidable p] {m r : Res α} (h : p → m = r) : Res.guard p m = .stuck ∨ Res.guard p m = r := by
  by_cases hp : p
  · exact .inr (by rw [Res.guard_pos hp, h hp])
  · exact .inl (if_neg hp)
theorem fd {x : Rat} (h : fits x) : ((x.den : Int)).natAbs ≤ big := by rw [Int.natAbs_natCast]; exact h.2
theorem qMk_dd {x y : Rat} (hx : fits x) (hy : fits y) (t : Int) : qMk t ((x.den : Int) * (y.den : Int)) = .ok (Rat.divInt t ((x.den : Int) * (y.den : Int))) :=
  qMk_ok (Int.mul_ne_zero (den_nz x) (den_nz y)) (by rw [Int.natAbs_mul, Int.natAbs_natCast, Int.natAbs_natCast]; exact big_mul hx.2 hy.2)
theorem qMk_d {x : Rat} (hx : fits x) (t : Int) : qMk t (x.den : Int) = .ok (Rat.divInt t (x.den : Int)) :=
  qMk_ok (den_nz x) (by rw [Int.natAbs_natCast]; have := log_big hx.2; omega)
theorem add_divs (x y : Rat) : Rat.divInt (x.num * (y.den : Int) + y.num * (x.den : Int)) ((x.den : Int) * (y.den : Int)) = x + y := by
  conv => rhs; rw [← Rat.num_divInt_den x, ← Rat.num_divInt_den y, Rat.divInt_add_divInt _ _ (den_nz x) (den_nz y)]
theorem sub_divs (x y : Rat) : Rat.divInt (x.num * (y.den : Int) - y.num * (x.den : Int)) ((x.den : Int) * (y.den : Int)) = x - y := by
  conv => rhs; rw [← Rat.num_divInt_den x, ← Rat.num_divInt_den y, Rat.divInt_sub_divInt _ _ (den_nz x) (den_nz y)]
theorem mul_divs (x y : Rat) : Rat.divInt (x.num * y.num) ((x.den : Int) * (y.den : Int)) = x * y := by
  conv => rhs; rw [← Rat.num_divInt_den x, ← Rat.num_divInt_den y, Rat.divInt_mul_divInt _ _]
theorem sub_div1 (x : Rat) (n : Int) : Rat.divInt (x.num - n * (x.den : Int)) (x.den : Int) = x - (n : Rat) := by
  have := sub_divs x (n : Rat)
  rw [Rat.num_intCast, Rat.den_intCast] at this
  simpa using this
theorem mul_div1 (x : Rat) (n : Int) : Rat.divInt (x.num * n) (x.den : Int) = x * (n : Rat) := by
  have := mul_divs x (n : Rat)
  rw [Rat.num_intCast, Rat.den_intCast] at this
  simpa using this
theorem eq_dec (x y : Rat) : (if decide (x.num = y.num) = true then Res.ok (decide ((x.den : Int) = (y.den : Int))) else .ok false) = .ok (decide (x = y)) := by
  by_cases h : x = y
  · subst h; simp
  · rw [decide_eq_false h]
    by_cases h1 : x.num = y.num
    · rw [decide_eq_true h1, if_pos rfl, decide_eq_false]
      intro h2
      exact h (Rat.ext h1 (by exact_mod_cast h2))
    · rw [decide_eq_false h1, if_neg (by decide)]
theorem eq_dec1 (x : Rat) (n : Int) : (if decide ((x.den : Int) = 1) = true then Res.ok (decide (x.num = n)) else .ok false) = .ok (decide (x = (n : Rat))) := by
  have h := eq_dec x (n : Rat)
  rw [Rat.num_intCast, Rat.den_intCast] at h
  rw [← h]
  by_cases h1 : (x.den : Int) = 1 <;> by_cases h2 : x.num = n <;> simp [h1, h2]
theorem le_int (x : Rat) (n : Int) : x ≤ (n : Rat) ↔ x.num ≤ n * (x.den : Int) := by
  rw [Rat.le_iff, Rat.num_intCast, Rat.den_intCast]; simp
theorem ge_int (x : Rat) (n : Int) : (n : Rat) ≤ x ↔ n * (x.den : Int) ≤ x.num := by
  rw [Rat.le_iff, Rat.num_intCast, Rat.den_intCast]; simp
/-! ### sizes -/
def Sz (s : Nat) (q : Rat) : Prop := q.num.natAbs ≤ 2 ^ s ∧ q.den ≤ 2 ^ s
theorem Sz.fits {s : Nat} {q : Rat} (h : Sz s q) (hs : s ≤ 4000 := by decide) : fits q := ⟨Nat.le_trans h.1 (Nat.pow_le_pow_right (by decide) hs), Nat.le_trans h.2 (Nat.pow_le_pow_right (by decide) hs)⟩
theorem Sz.mono {s t : Nat} {q : Rat} (h : Sz s q) (hs : s ≤ t) : Sz t q := ⟨Nat.le_trans h.1 (Nat.pow_le_pow_right (by decide) hs), Nat.le_trans h.2 (Nat.pow_le_pow_right (by decide) hs)⟩
theorem sz_divInt {t b : Int} {s : Nat} (h1 : t.natAbs ≤ 2 ^ s) (h2 : b.natAbs ≤ 2 ^ s) : Sz s (Rat.divInt t b) := by
  by_cases hb : b = 0
  · subst hb
    rw [Rat.divInt_zero]
    exact ⟨by simp, Nat.one_le_two_pow⟩
  · refine ⟨?_, ?_⟩
    · obtain ⟨m, m0, e1, _⟩ := Rat.divInt_num_den hb (show Rat.divInt t b = ⟨(Rat.divInt t b).num, (Rat.divInt t b).den, (Rat.divInt t b).den_nz, (Rat.divInt t b).reduced⟩ from rfl)
      have h3 : t.natAbs = (Rat.divInt t b).num.natAbs * m.natAbs := by rw [← Int.natAbs_mul, ← e1]
      refine Nat.le_trans ?_ h1
      rw [h3]
      exact Nat.le_mul_of_pos_right _ (by omega)
    · rw [Rat.den_divInt, if_neg hb]
      exact Nat.le_trans (Nat.div_le_self _ _) h2
theorem sz_int {n : Int} {s : Nat} (h : n.natAbs ≤ 2 ^ s) : Sz s (n : Rat) := by
  unfold Sz
  rw [Rat.num_intCast, Rat.den_intCast]
  exact ⟨h, Nat.one_le_two_pow⟩
theorem pow2_mul {a b s t : Nat} (ha : a ≤ 2 ^ s) (hb : b ≤ 2 ^ t) : a * b ≤ 2 ^ (s + t) := by
  rw [Nat.pow_add]; exact Nat.mul_le_mul ha hb
theorem Sz.mul {s t : Nat} {x y : Rat} (hx : Sz s x) (hy : Sz t y) : Sz (s + t) (x * y) := by
  rw [← mul_divs]
  refine sz_divInt ?_ ?_
  · rw [Int.natAbs_mul]; exact pow2_mul hx.1 hy.1
  · rw [Int.natAbs_mul, Int.natAbs_natCast, Int.natAbs_natCast]; exact pow2_mul hx.2 hy.2
theorem Sz.add {s t : Nat} {x y : Rat} (hx : Sz s x) (hy : Sz t y) : Sz (s + t + 1) (x + y) := by
  rw [← add_divs]
  have a1 := pow2_mul hx.1 hy.2
  have a2 := pow2_mul hx.2 hy.1
  have a3 := pow2_mul hx.2 hy.2
  have e : 2 ^ (s + t + 1) = 2 ^ (s + t) + 2 ^ (s + t) := by rw [Nat.pow_succ]; omega
  refine sz_divInt ?_ ?_
  · refine Nat.le_trans (Int.natAbs_add_le _ _) ?_
    rw [Int.natAbs_mul, Int.natAbs_mul, Int.natAbs_natCast, Int.natAbs_natCast, Nat.mul_comm y.num.natAbs]
    omega
  · rw [Int.natAbs_mul, Int.natAbs_natCast, Int.natAbs_natCast]; omega
theorem Sz.neg {s : Nat} {x : Rat} (hx : Sz s x) : Sz s (-x) := by
  refine ⟨?_, ?_⟩
  · show (-x.num).natAbs ≤ _; rw [Int.natAbs_neg]; exact hx.1
  · exact hx.2
theorem Sz.sub {s t : Nat} {x y : Rat} (hx : Sz s x) (hy : Sz t y) : Sz (s + t + 1) (x - y) := by
  rw [Rat.sub_eq_add_neg]; exact hx.add hy.neg
theorem Sz.inv {s : Nat} {x : Rat} (hx : Sz s x) : Sz s x⁻¹ := by
  rw [Rat.inv_def]
  exact sz_divInt (by rw [Int.natAbs_natCast]; exact hx.2) hx.1
theorem Sz.div {s t : Nat} {x y : Rat} (hx : Sz s x) (hy : Sz t y) : Sz (s + t) (x / y) := by
  rw [Rat.div_def]; exact hx.mul hy.inv
theorem div_divs (x y : Rat) (h : y ≠ 0) : Rat.divInt (x.num * (y.den : Int)) ((x.den : Int) * y.num) = x / y := by
  rw [Rat.div_def, Rat.inv_def]
  conv => rhs; rw [← Rat.num_divInt_den x, Rat.divInt_mul_divInt]
theorem num_zero {y : Rat} : y.num = 0 ↔ y = 0 := Rat.num_eq_zero
theorem qMk_dn {x y : Rat} (hx : fits x) (hy : fits y) (h : y ≠ 0) (t : Int) : qMk t ((x.den : Int) * y.num) = .ok (Rat.divInt t ((x.den : Int) * y.num)) :=
  qMk_ok (Int.mul_ne_zero (den_nz x) (fun e => h (num_zero.mp e))) (by rw [Int.natAbs_mul, Int.natAbs_natCast]; exact big_mul hx.2 hy.1)
theorem qMul_ok {x : Rat} {y : Num} (hx : fits x) (hy : fits y.val) : qMul x y = .ok (x * y.val) := Res.guard_pos ⟨hx, hy⟩ _
theorem qRsub_ok {x : Rat} {y : Int} (hx : fits x) (hy : fits (y : Rat)) : qRsub x y = .ok ((y : Rat) - x) := Res.guard_pos ⟨hx, hy⟩ _
theorem qLe_ok {x : Rat} {y : Num} (hx : fits x) (hy : fits y.val) : qLe x y = .ok (decide (x ≤ y.val)) := Res.guard_pos ⟨hx, hy⟩ _
theorem qGe_ok {x : Rat} {y : Num} (hx : fits x) (hy : fits y.val) : qGe x y = .ok (decide (y.val ≤ x)) := Res.guard_pos ⟨hx, hy⟩ _
theorem qOver_ok {x : Rat} {y : Num} (hx : fits x) (hy : fits y.val) (h : y.val ≠ 0) : qOver x y = .ok (x / y.val) := by unfold qOver; rw [Res.guard_pos ⟨hx, hy⟩, if_neg h]
end L2.Tr

/-! in-place operators of an own class without in-place methods; abs and bool of an own class -/
namespace PySem.W
open PySem PySem.Calls PyProof.Rows
section
variable {prog : Program} {w : World} {A : Around} {E : Value → Shared → Prop} {s : Shared} {K : Frag} {x C dx L f : Addr} {h₀ : Heap} {m : Str → Option Value} {ox : Obj} {od : Option Obj} {nm : String}
end
end PySem.W
namespace L2.Tr
open PySem PySem.Spec PyProof.Rows He
section
variable {α β γ δ S : Type} {X : Cx} {I0 H0 : Hp} {W : WX} {Kx : KnowsX} {ctx : List (Option SF)} {mem : List MF} {e a b c o : Expr} {es bs : List Expr} {pos pos' : Pos} {n : Str} {ra : Ra α} {rb : Ra β} {rc : Ra γ} {ma : Res α} {mb : Res β}
variable {f f' : Addr} {k k' : Nat} {g : Rat × Num × Unit → Res γ} {g' : Rat × Int × Unit → Res γ}
theorem opi_add : OpJ X W (inplaceOp .Add) (rp rInt) (rp rInt) (fun x y => .ok (x + y)) (rp rInt) := fun I H σ Q u v x y s a b p => OpR.w iop_add ⟨x, y, a, b, p I H _ (Fm.refl s) rfl⟩
end
end L2.Tr

namespace L2.Tr
open PySem PySem.Spec PyProof.Rows
section
variable {K : PySem.W.Frag} {x qual : Str} {params : Arguments} {body : List Stmt} {scope : Scope} {kws : List (Str × V)} {f : Addr} {fd : FuncData} {ps : List Str}
/-- keywords at a def without defaults -/
theorem kbindsN (F : FunD K x qual params body scope [] kws f fd) (n : Nat) (ks : List Str) (g : {α : Type} → List α → List α → List α) (hrel : ∀ {vs zs : List V} {us ws : List Value}, Vals vs us → Vals zs ws → Vals (g vs zs) (g us ws))
    (h : ∀ (kV doc pm : Value) (an : Option Addr) (cdv ct : Value) (us ws : List Value), us.length = n → ws.length = ks.length → bindArgs (PySem.W.fnOf x qual params body scope .none kV doc pm an cdv ct) ⟨us, ks.zip ws⟩ = pure (ps.zip (g us ws))) : KBn K fd ps n ks g g := by
  obtain ⟨oc, od, dV, kV, doc, pm, an, cdv, ct, osl, rfl, lk, hcd, hD, hK⟩ := F.ex
  rcases hD with ⟨_, rfl⟩ | ⟨e, _⟩
  · exact ⟨fun s us ws _ l1 l2 => .of_eq (h kV doc pm an cdv ct us ws l1 l2), hrel⟩
  · exact absurd rfl e
end
section
variable {α β γ δ ε : Type} {X : Cx} {I0 H0 : Hp} {W : WX} {ctx : List (Option SF)} {mem : List MF} {e a b c o : Expr} {es bs : List Expr} {kws : List Keyword} {pos pos' kpos : Pos} {n x : Str} {nm : Option Str} {ra : Ra α} {rb : Ra β} {rc : Ra γ} {ma : Res α} {mb : Res β}
variable {R : Hp → Hp → List V → δ → Prop} {R' : Hp → Hp → List V → ε → Prop} {md : Res δ} {me : Res ε} {g : δ → ε → Res γ} {ks : List Str}
end
end L2.Tr
namespace L2.Tr
open PySem PySem.Spec PyProof.Rows
/-! ### contexts written out -/
section
variable {γ S L : Type} {X : Cx} {I0 H0 : Hp} {W : WX} {Kx : KnowsX} {G : Knows} {st : Stmt} {ss : List Stmt} {mem : List MF} {rr : Ra γ}
theorem J1.cx {m : Res S} {c c' : S → List (Option SF)} {me : S → List MF} (j : J1 X W Kx G st m (fun s => Stt I0 H0 (c s) (me s))) (h : ∀ s, c s = c' s := by intro _; rfl) : J1 X W Kx G st m (fun s => Stt I0 H0 (c' s) (me s)) := by
  have e : c = c' := funext h
  rw [← e]; exact j
theorem JN.at {m : Res S} {G' : S → Knows} {c c' : List (Option SF)} (j : JN X W Kx (Stt I0 H0 c' mem) ss m G') (h : c = c' := by rfl) : JN X W Kx (Stt I0 H0 c mem) ss m G' := by
  rw [h]; exact j
theorem JG.at {m : Res (Fl S L γ)} {G' : S → Knows} {GL : L → Knows} {c c' : List (Option SF)} (j : JG X I0 H0 W Kx (Stt I0 H0 c' mem) ss m G' GL rr) (h : c = c' := by rfl) : JG X I0 H0 W Kx (Stt I0 H0 c mem) ss m G' GL rr := by
  rw [h]; exact j
theorem JR.at {m : Res γ} {c c' : List (Option SF)} (j : JR X I0 H0 W Kx (Stt I0 H0 c' mem) ss m rr) (h : c = c' := by rfl) : JR X I0 H0 W Kx (Stt I0 H0 c mem) ss m rr := by
  rw [h]; exact j
end
end L2.Tr

namespace L2.Tr
open PySem PySem.Spec PyProof.Rows
/-! ### sizes by instances -/
class Bd (x : Int) (s : outParam Nat) : Prop where
  le : x.natAbs ≤ 2 ^ s
class NZ (x : Int) : Prop where
  ne : x ≠ 0
class SzC (q : Rat) (s : outParam Nat) : Prop where
  sz : Sz s q
instance {x y : Int} {s t : Nat} [h : Bd x s] [k : Bd y t] : Bd (x * y) (s + t) := ⟨by rw [Int.natAbs_mul]; exact pow2_mul h.le k.le⟩
theorem pow_add1 (s t : Nat) : 2 ^ s + 2 ^ t ≤ 2 ^ (s + t + 1) := by
  have a := Nat.pow_le_pow_right (show 0 < 2 by decide) (show s ≤ s + t by omega)
  have b := Nat.pow_le_pow_right (show 0 < 2 by decide) (show t ≤ s + t by omega)
  rw [Nat.pow_succ]; omega
instance {x y : Int} {s t : Nat} [h : Bd x s] [k : Bd y t] : Bd (x + y) (s + t + 1) := ⟨by
  have := Int.natAbs_add_le x y; have := h.le; have := k.le; have := pow_add1 s t; omega⟩
instance {x y : Int} {s t : Nat} [h : Bd x s] [k : Bd y t] : Bd (x - y) (s + t + 1) := ⟨by
  have := Int.natAbs_sub_le x y; have := h.le; have := k.le; have := pow_add1 s t; omega⟩
instance {x : Int} {s : Nat} [h : Bd x s] : Bd (-x) s := ⟨by rw [Int.natAbs_neg]; exact h.le⟩
instance {x : Int} {s : Nat} [h : Bd x s] : Bd (x.natAbs : Int) s := ⟨by rw [Int.natAbs_natCast]; exact h.le⟩
instance : Bd 0 0 := ⟨by decide⟩
instance : Bd 1 0 := ⟨by decide⟩
instance {x y : Int} [h : NZ x] [k : NZ y] : NZ (x * y) := ⟨Int.mul_ne_zero h.ne k.ne⟩
instance {x : Int} [h : NZ x] : NZ (-x) := ⟨Int.neg_ne_zero.mpr h.ne⟩
instance {x y : Rat} {s t : Nat} [h : SzC x s] [k : SzC y t] : SzC (x + y) (s + t + 1) := ⟨h.sz.add k.sz⟩
instance {x y : Rat} {s t : Nat} [h : SzC x s] [k : SzC y t] : SzC (x - y) (s + t + 1) := ⟨h.sz.sub k.sz⟩
instance {x y : Rat} {s t : Nat} [h : SzC x s] [k : SzC y t] : SzC (x * y) (s + t) := ⟨h.sz.mul k.sz⟩
instance {x y : Rat} {s t : Nat} [h : SzC x s] [k : SzC y t] : SzC (x / y) (s + t) := ⟨h.sz.div k.sz⟩
instance {x : Rat} {s : Nat} [h : SzC x s] : SzC (-x) s := ⟨h.sz.neg⟩
instance {n : Int} {s : Nat} [h : Bd n s] : SzC (n : Rat) s := ⟨sz_int h.le⟩
instance {n : Int} {m : Int} {s t : Nat} [h : Bd n s] [k : Bd m t] : SzC (Rat.divInt n m) (s + t) := ⟨sz_divInt (Nat.le_trans h.le (Nat.pow_le_pow_right (by decide) (by omega))) (Nat.le_trans k.le (Nat.pow_le_pow_right (by decide) (by omega)))⟩
instance : SzC 0 0 := ⟨⟨by decide, by decide⟩⟩
instance : SzC 1 0 := ⟨⟨by decide, by decide⟩⟩
theorem Bd.big {x : Int} {s : Nat} (b : Bd x s) (h : s ≤ 4000) : x.natAbs ≤ big := Nat.le_trans b.le (Nat.pow_le_pow_right (by decide) h)
section
variable {x y : Rat} {n : Int} {s t : Nat} [h : SzC x s]
end
end L2.Tr

namespace L2.Tr
open PySem PySem.Spec PyProof.Rows
section
variable {α β γ δ S L : Type} {X : Cx} {I0 H0 I H : Hp} {W : WX} {Kx : KnowsX} {G : Knows} {ctx : List (Option SF)} {mem : List MF} {e a b c o : Expr} {es bs : List Expr} {st : Stmt} {ss s1 s2 : List Stmt} {pos pos' : Pos} {n : Str} {ra : Ra α} {rb : Ra β} {rr : Ra γ} {ma : Res α} {mb : Res β} {σ : St}
/-- a cell that stands is taken up -/
theorem Stt.adopt {I1 H1 : Hp} {l : Addr} {r : Rp α} {mo : Mo r} {xs : List α} {vs : List V} (s : Stt I0 H0 ctx mem I H σ) (f : Fm I H I1 H1) (hl : H l = none) (hI : I1 l = none) (h1 : H1 l = some (.lst vs)) (h : Paired (r I1) vs xs) : Stt I0 H0 ctx (MF.lst l r xs :: mem) I1 H1 σ :=
  s.adoptR (fp := [l]) f (by simp) (fun a ha => by rw [List.mem_singleton.mp ha]; exact ⟨hl, hI, by rw [h1]; intro z; cases z⟩) ⟨rfl, _, h1, vs, rfl, h⟩
/-- a new cell -/
theorem Stt.push {l : Addr} {r : Rp α} {mo : Mo r} {xs : List α} {vs : List V} (s : Stt I0 H0 ctx mem I H σ) (hl : H l = none) (h : Paired (r I) vs xs) : Stt I0 H0 ctx (MF.lst l r xs :: mem) I (upd H l (.lst vs)) σ :=
  s.adopt (Fm.newM s.same hl) hl (s.same.free hl) upd_same h
/-- the list of cell j is changed -/
theorem Stt.relst {l : Addr} {r : Rp α} {mo : Mo r} {xs zs : List α} {vs : List V} (s : Stt I0 H0 ctx mem I H σ) (j : Nat) (hj : mem[j]? = some (MF.lst l r xs)) (h : Paired (r I) vs zs) : Stt I0 H0 ctx (mem.set j (MF.lst l r zs)) I (upd H l (.lst vs)) σ :=
  s.cellAt (c' := MF.lst l r zs) j hj (fun q => q.1) ⟨rfl, _, upd_same, vs, rfl, h⟩
/-! ### expressions that make a new list -/
def JM (X : Cx) (I0 H0 : Hp) (W : WX) (ctx : List (Option SF)) (mem : List MF) (e : Expr) (m : Res (List α)) (r : Rp α) : Prop :=
  ∀ (I H : Hp) (σ : St) (Q : VK), Stt I0 H0 ctx mem I H σ → (match m with
    | .ok xs => ∀ I1 H1 l vs, Fm I H I1 H1 → H l = none → I1 l = none → H1 l = some (.lst vs) → Paired (r I1) vs xs → Q (.ref l) H1
    | .err e => ∀ I' H' cls d, Fm I H I' H' → Fr H d ∧ ExR X.K I' H' e cls d → W cls d σ H'
    | .stuck => False) → wE X e σ H Q
/-- the list is laid now -/
theorem mpost {Q : VK} {I H I1 H1 : Hp} {r : Rp α} {xs : List α} (p : ∀ I1 H1 l vs, Fm I H I1 H1 → H l = none → I1 l = none → H1 l = some (.lst vs) → Paired (r I1) vs xs → Q (.ref l) H1) {l : Addr} {vs : List V} (f : Fm I H I1 H1) (hl : H1 l = none) (pr : Paired (r I1) vs xs) : Q (.ref l) (upd H1 l (.lst vs)) :=
  p I1 (upd H1 l (.lst vs)) l vs (f.trans (Fm.newM f.ih hl)) (f.h.free hl) (f.ih.free hl) upd_same pr
/-- a cell that stands unfrozen is frozen -/
theorem Fm.ice {I H I1 H1 : Hp} {l : Addr} {o : HO} (f : Fm I H I1 H1) (hl : H l = none) (hI : I1 l = none) (h : H1 l = some o) : Fm I H (upd I1 l o) H1 ∧ Same I1 (upd I1 l o) := by
  have sm : Same I1 (upd I1 l o) := fun b u e => by
    have : b ≠ l := fun q => by rw [q, hI] at e; cases e
    rw [upd_ne this]; exact e
  refine ⟨⟨f.i.trans sm, f.h, fun b u e => ?_, fun b e nn => ?_⟩, sm⟩
  · by_cases hb : b = l
    · subst hb; rw [upd_same] at e; cases e; exact h
    · rw [upd_ne hb] at e; exact f.ih _ _ e
  · have : b ≠ l := fun q => nn (q ▸ hl)
    rw [upd_ne this]; exact f.mu b e nn
theorem JE.ofM {r : Rp α} [mo : Mo r] {m : Res (List α)} (j : JM X I0 H0 W ctx mem e m r) : JE X I0 H0 W ctx mem e m (rp (rL r)) := fun I H σ Q st p => by
  refine j I H σ Q st ?_
  cases m with
  | ok xs =>
    intro I1 H1 l vs f hl hI h1 pr
    obtain ⟨f2, sm⟩ := f.ice hl hI h1
    exact p _ H1 _ f2 ⟨l, vs, rfl, upd_same, Paired.mapP pr fun _ _ z => mo.up sm z⟩
  | err e => exact p
  | stuck => exact p
theorem JM.lst {k : Nat} {r : Rp α} {m : Res (List α)} (j : JA X I0 H0 W ctx mem es m (lR k (rp r))) (hk : k ≤ sizeLine := by decide) : JM X I0 H0 W ctx mem (.List es pos) m r := fun I H σ Q st p => by
  refine w_lst (j I H σ _ st ?_)
  cases m with
  | ok xs => exact fun I1 H1 vs f1 r1 => ⟨by rw [r1.1]; exact hk, fun q hq => mpost p f1 hq r1.2⟩
  | err e => exact p
  | stuck => exact p
/-- x = [..], the list may still be changed -/
theorem J1.setM (i : Nat) {r : Rp α} [Mo r] {m : Res (List α)} (j : JM X I0 H0 W ctx mem e m r) (hx : ∀ I H σ d, Stt I0 H0 ctx mem I H σ → Fr H0 d → Kx I H σ d) (hN : X.N.Nodup) (hi : X.N[i]? = some n := by rfl) (hl : Loc X.env.scope n := by first | exact Or.inl rfl | exact Or.inr rfl) (hs : swapsWith e (some (.Name n pos')) pos.line X.env = pure false := by rfl)
    (hf : X.fn n = true ∨ X.env.scope.names.lookup n = some .local := by first | exact .inl rfl | exact .inr rfl | assumption) : J1 X W Kx (Stt I0 H0 ctx mem) (.Assign [.Name n pos'] e pos) m (fun xs I H σ => ∃ l, Stt I0 H0 (ctx.set i (some ⟨rRef l, ()⟩)) (MF.lst l r xs :: mem) I H σ) := fun I H σ D g p => by
  refine s_set i (j I H σ _ g ?_) hN hi hl hs hf
  cases m with
  | ok xs => exact fun I1 H1 l vs f hl hI h1 pr => p I1 _ _ f.i ⟨l, (g.adopt f hl hI h1 pr).set i rfl⟩
  | err e => exact fun I' H' c d f x => p I' H' σ c d (hx _ _ _ _ (g.step f) (x.1.back g.fm.h)) x.2
  | stuck => exact p
theorem JN.ex {ι : Type} {Gi : ι → Knows} {m : Res S} {G' : S → Knows} (j : ∀ l, JN X W Kx (Gi l) ss m G') : JN X W Kx (fun I H σ => ∃ l, Gi l I H σ) ss m G' := fun I H σ D ⟨l, g⟩ p => j l I H σ D g p
theorem JR.ex {ι : Type} {Gi : ι → Knows} {m : Res γ} (j : ∀ l, JR X I0 H0 W Kx (Gi l) ss m rr) : JR X I0 H0 W Kx (fun I H σ => ∃ l, Gi l I H σ) ss m rr := fun I H σ D ⟨l, g⟩ p => j l I H σ D g p
theorem JG.ex {ι : Type} {Gi : ι → Knows} {m : Res (Fl S L γ)} {G' : S → Knows} {GL : L → Knows} (j : ∀ l, JG X I0 H0 W Kx (Gi l) ss m G' GL rr) : JG X I0 H0 W Kx (fun I H σ => ∃ l, Gi l I H σ) ss m G' GL rr := fun I H σ D ⟨l, g⟩ p => j l I H σ D g p
/-- a list of the call's own is frozen: a ghost step -/
theorem Stt.frz {r : Rp α} [mo : Mo r] {l : Addr} {xs : List α} (s : Stt I0 H0 ctx mem I H σ) (i j : Nat) (hj : mem[j]? = some (MF.lst l r xs)) (hc : ctx[i]? = some (some (SF.mk (rRef l) ()))) : ∃ I', Same I I' ∧ Stt I0 H0 (ctx.set i (some ⟨rL r, xs⟩)) (mem.eraseIdx j) I' H σ := by
  obtain ⟨fp, ⟨e, o, hH, vs, eo, pr⟩, _, sm, s2⟩ := s.freezeAt j hj
  subst e; subst eo
  refine ⟨_, sm, s2.recast i (b := ⟨rL r, xs⟩) hc fun v h => ?_⟩
  exact ⟨l, vs, h, by rw [ice_in (List.mem_singleton_self l)]; exact hH, Paired.mapP pr fun _ _ z => mo.up sm z⟩
theorem JN.frz (i j : Nat) {r : Rp α} [mo : Mo r] {l : Addr} {xs : List α} {m : Res S} {G' : S → Knows} (k : JN X W Kx (Stt I0 H0 (ctx.set i (some ⟨rL r, xs⟩)) (mem.eraseIdx j)) ss m G') (hj : mem[j]? = some (MF.lst l r xs) := by rfl) (hc : ctx[i]? = some (some (SF.mk (rRef l) ())) := by rfl) : JN X W Kx (Stt I0 H0 ctx mem) ss m G' := fun I H σ D g p => by
  obtain ⟨I', sm, g'⟩ := g.frz i j hj hc
  exact k I' H σ D g' (PostB.up p sm)
theorem JR.frz (i j : Nat) {r : Rp α} [mo : Mo r] {l : Addr} {xs : List α} {m : Res γ} (k : JR X I0 H0 W Kx (Stt I0 H0 (ctx.set i (some ⟨rL r, xs⟩)) (mem.eraseIdx j)) ss m rr) (hj : mem[j]? = some (MF.lst l r xs) := by rfl) (hc : ctx[i]? = some (some (SF.mk (rRef l) ())) := by rfl) : JR X I0 H0 W Kx (Stt I0 H0 ctx mem) ss m rr := fun I H σ D g p => by
  obtain ⟨I', sm, g'⟩ := g.frz i j hj hc
  exact k I' H σ D g' p
theorem JG.frz (i j : Nat) {r : Rp α} [mo : Mo r] {l : Addr} {xs : List α} {m : Res (Fl S L γ)} {G' : S → Knows} {GL : L → Knows} (k : JG X I0 H0 W Kx (Stt I0 H0 (ctx.set i (some ⟨rL r, xs⟩)) (mem.eraseIdx j)) ss m G' GL rr) (hj : mem[j]? = some (MF.lst l r xs) := by rfl) (hc : ctx[i]? = some (some (SF.mk (rRef l) ())) := by rfl) : JG X I0 H0 W Kx (Stt I0 H0 ctx mem) ss m G' GL rr := fun I H σ D g p => by
  obtain ⟨I', sm, g'⟩ := g.frz i j hj hc
  exact k I' H σ D g' (PostG.up p sm)
/-- the name of such a list, to be read -/
theorem JE.rdM (i j : Nat) {r : Rp α} [mo : Mo r] {l : Addr} {xs : List α} (hj : mem[j]? = some (MF.lst l r xs) := by rfl) (hc : ctx[i]? = some (some (SF.mk (rRef l) ())) := by rfl) (hN : X.N[i]? = some n := by rfl) (hv : Vis X.env.scope n := by first | exact Or.inl rfl | exact Or.inr (Or.inl rfl) | exact Or.inr (Or.inr rfl)) (hd : (n == ("__debug__" : Str)) = false := by decide)
    (hcd : (n == ("__classdict__" : Str)) = false := by decide) : JE X I0 H0 W ctx mem (.Name n pos) (.ok xs) (rdL X.K (rp r)) := fun I H σ Q st p => by
  obtain ⟨u, eu, hu⟩ := st.sl i _ hc
  cases (show u = V.ref l from hu)
  obtain ⟨_, _, o, zH, vs, eo, pr⟩ := st.lstAt hj
  subst eo
  exact w_var i (p I H _ (Fm.refl st.same) ⟨l, vs, rfl, SqL.of zH, pr⟩) eu hN hv hd hcd
def appM (xs : List α) (y : α) : Res (List α) := Res.guard (xs.length < sizeLine) (.ok (xs ++ [y]))
theorem paired_app {F : α → β → Prop} : ∀ {xs xs' : List α} {ys ys' : List β}, Paired F xs ys → Paired F xs' ys' → Paired F (xs ++ xs') (ys ++ ys')
  | _, _, _, _, .nil, q => q
  | _, _, _, _, .cons h t, q => .cons h (paired_app t q)
/-- x.append(e) -/
theorem J1.app (i j : Nat) {r : Rp α} [mo : Mo r] {l : Addr} {xs : List α} {m : Res α} {p1 apos cpos : Pos} (je : JE X I0 H0 W ctx mem e m (rp r)) (hx : ∀ I H σ d, Stt I0 H0 ctx mem I H σ → Fr H0 d → Kx I H σ d)
    (hj : mem[j]? = some (MF.lst l r xs) := by rfl) (hc : ctx[i]? = some (some (SF.mk (rRef l) ())) := by rfl) (hN : X.N[i]? = some n := by rfl) (hv : Vis X.env.scope n := by first | exact Or.inl rfl | exact Or.inr (Or.inl rfl) | exact Or.inr (Or.inr rfl)) (hd : (n == ("__debug__" : Str)) = false := by decide)
    (hcd : (n == ("__classdict__" : Str)) = false := by decide) (hbase : attributeBase (.Name n p1) "append" X.env (eval (.Name n p1) X.env) = eval (.Name n p1) X.env := by rfl)
    (hfew : ((backTo cpos (starEach [e] X.env)).all (fun x => !x.1) && (backToKw cpos (keywordEach [] X.env)).all (fun x => x.1.isSome) && decide ([e].length + ([] : List Keyword).length + (if ([] : List Keyword).isEmpty then 0 else 1) < 30)) = true := by rfl)
    (hline : (apos.endLine == cpos.line) = true := by rfl) (hst : starEach [e] X.env = (false, eval e X.env) :: starEach [] X.env := by rfl) (hplain : (backTo cpos (starEach [] X.env)).any (·.1) = false := by rfl) (hs : swapsWith (.Call (.Attribute (.Name n p1) "append" apos) [e] [] cpos) none pos.line X.env = pure false := by rfl) :
    J1 X W Kx (Stt I0 H0 ctx mem) (.Expr (.Call (.Attribute (.Name n p1) "append" apos) [e] [] cpos) pos) (m.bind fun y => appM xs y) (fun zs => Stt I0 H0 ctx (mem.set j (MF.lst l r zs))) := fun I H σ D g p => by
  obtain ⟨u, eu, hu⟩ := g.sl i _ hc
  cases (show u = V.ref l from hu)
  obtain ⟨_, _, o, zH, vs, eo, pr⟩ := g.lstAt hj
  subst eo
  refine s_expr (PE.w (pe_bm PySem.F.plainAttrs_list PySem.F.slot_list_append PySem.F.type_list_append mt_append pe_W pa_W hbase hfew hline hst hplain) (w_var i ?_ eu hN hv hd hcd)) hs
  refine ⟨.inl ⟨rfl, vs, SqL.of zH⟩, ?_⟩
  refine Tr.w_cons (je I H σ _ g ?_) hst
  cases m with
  | ok y =>
    intro I1 H1 v f1 h1
    have g1 := g.step f1
    obtain ⟨_, _, o, zH1, vs1, eo, pr1⟩ := g1.lstAt hj
    subst eo
    by_cases hz : xs.length < sizeLine
    · refine w_nil ⟨l, vs1, v, rfl, rfl, zH1, by rw [Paired.length pr1]; exact hz, ?_⟩
      have e1 : ((Res.ok y).bind fun y => appM xs y) = .ok (xs ++ [y]) := Res.guard_pos hz _
      rw [e1] at p
      exact p I1 _ σ f1.i (g1.relst j hj (paired_app pr1 (.cons h1 .nil)))
    · have e1 : ((Res.ok y).bind fun y => appM xs y) = .stuck := if_neg hz
      rw [e1] at p
      exact p.elim
  | err e => exact fun I' H' c d f x => p I' H' σ c d (hx _ _ _ _ (g.step f) (x.1.back g.fm.h)) x.2
  | stuck => exact p.elim
end
end L2.Tr

namespace L2.Tr
open PySem PySem.Spec PyProof.Rows
section
variable {α β γ δ S L : Type} {X : Cx} {I0 H0 I H : Hp} {W : WX} {Kx : KnowsX} {G : Knows} {ctx : List (Option SF)} {mem : List MF} {e a b c o : Expr} {es bs : List Expr} {st : Stmt} {ss s1 s2 : List Stmt} {pos pos' p2 : Pos} {n : Str} {ra : Ra α} {rb : Ra β} {rr : Ra γ} {ma : Res α} {mb : Res β} {σ : St} {r : Rp α}
/-! ### lists of the heap, frozen or not -/
def rH (r : Rp α) : Ra (List α) := fun I H v xs => ∃ l vs, v = .ref l ∧ H l = some (.lst vs) ∧ Paired (r I) vs xs
instance [m : Mo r] : MoA (rH r) := ⟨fun s t ⟨l, vs, e, h, p⟩ => ⟨l, vs, e, t _ _ h, Paired.mapP p fun _ _ q => m.up s q⟩⟩
theorem JE.hp {m : Res (List α)} (j : JE X I0 H0 W ctx mem e m (rp (rL r))) : JE X I0 H0 W ctx mem e m (rH r) := j.co fun _ _ _ _ s ⟨l, vs, e, h, p⟩ => ⟨l, vs, e, s _ _ h, p⟩
theorem JE.hM (i j : Nat) [mo : Mo r] {l : Addr} {xs : List α} (hj : mem[j]? = some (MF.lst l r xs) := by rfl) (hc : ctx[i]? = some (some (SF.mk (rRef l) ())) := by rfl) (hN : X.N[i]? = some n := by rfl) (hv : Vis X.env.scope n := by first | exact Or.inl rfl | exact Or.inr (Or.inl rfl) | exact Or.inr (Or.inr rfl)) (hd : (n == ("__debug__" : Str)) = false := by decide)
    (hcd : (n == ("__classdict__" : Str)) = false := by decide) : JE X I0 H0 W ctx mem (.Name n pos) (.ok xs) (rH r) := fun I H σ Q st p => by
  obtain ⟨u, eu, hu⟩ := st.sl i _ hc
  cases (show u = V.ref l from hu)
  obtain ⟨_, _, o, zH, vs, eo, pr⟩ := st.lstAt hj
  subst eo
  exact w_var i (p I H _ (Fm.refl st.same) ⟨l, vs, rfl, zH, pr⟩) eu hN hv hd hcd
def catM (xs ys : List α) : Res (List α) := Res.guard (xs.length + ys.length ≤ sizeLine) (.ok (xs ++ ys))
def repM (xs : List α) (k : Int) : Res (List α) := Res.guard (-(2 ^ 63) ≤ k ∧ k < 2 ^ 63 ∧ xs.length * k.toNat ≤ sizeLine) (.ok (List.replicate k.toNat xs).flatten)
theorem paired_rep {F : α → β → Prop} {xs : List α} {ys : List β} (p : Paired F xs ys) : ∀ k : Nat, Paired F (List.replicate k xs).flatten (List.replicate k ys).flatten
  | 0 => .nil
  | k + 1 => by
    rw [List.replicate_succ, List.replicate_succ, List.flatten_cons, List.flatten_cons]
    exact paired_app p (paired_rep p k)
theorem JM.cat [mo : Mo r] {m m' : Res (List α)} (ja : JE X I0 H0 W ctx mem a m (rH r)) (jb : JE X I0 H0 W ctx mem b m' (rH r)) : JM X I0 H0 W ctx mem (.BinOp a .Add b pos) (m.bind fun xs => m'.bind fun ys => catM xs ys) r := fun I H σ Q st p => by
  refine w_bin (ja I H σ _ st ?_)
  cases m with
  | ok xs =>
    intro I1 H1 u f1 r1
    refine jb I1 H1 σ _ (st.step f1) ?_
    cases m' with
    | ok ys =>
      intro I2 H2 v f2 r2
      obtain ⟨l, vs, rfl, hl, pr⟩ := MoA.up (r := rH r) f2.i f2.h r1
      obtain ⟨l', vs', rfl, hl', pr'⟩ := r2
      by_cases hz : xs.length + ys.length ≤ sizeLine
      · have e1 : ((Res.ok xs).bind fun xs => (Res.ok ys).bind fun ys => catM xs ys) = .ok (xs ++ ys) := Res.guard_pos hz _
        rw [e1] at p
        exact OpR.w op_cat ⟨l, l', vs, vs', rfl, rfl, hl, hl', by rw [Paired.length pr, Paired.length pr']; exact hz, fun q hq => mpost p (f1.trans f2) hq (paired_app pr pr')⟩
      · have e1 : ((Res.ok xs).bind fun xs => (Res.ok ys).bind fun ys => catM xs ys) = .stuck := if_neg hz
        rw [e1] at p
        exact p.elim
    | err e => exact fun I2 H2 c d f2 x => p I2 H2 c d (f1.trans f2) ⟨x.1.back f1.h, x.2⟩
    | stuck => exact p
  | err e => exact p
  | stuck => exact p
theorem JM.rep [mo : Mo r] {m : Res (List α)} {mi : Res Int} (ja : JE X I0 H0 W ctx mem a m (rH r)) (jb : JE X I0 H0 W ctx mem b mi (rp rInt)) : JM X I0 H0 W ctx mem (.BinOp a .Mult b pos) (m.bind fun xs => mi.bind fun k => repM xs k) r := fun I H σ Q st p => by
  refine w_bin (ja I H σ _ st ?_)
  cases m with
  | ok xs =>
    intro I1 H1 u f1 r1
    refine jb I1 H1 σ _ (st.step f1) ?_
    cases mi with
    | ok k =>
      intro I2 H2 v f2 r2
      obtain ⟨l, vs, rfl, hl, pr⟩ := MoA.up (r := rH r) f2.i f2.h r1
      by_cases hz : -(2 ^ 63) ≤ k ∧ k < 2 ^ 63 ∧ xs.length * k.toNat ≤ sizeLine
      · have e1 : ((Res.ok xs).bind fun xs => (Res.ok k).bind fun k => repM xs k) = .ok (List.replicate k.toNat xs).flatten := Res.guard_pos hz _
        rw [e1] at p
        exact OpR.w op_rep ⟨l, k, vs, rfl, r2, hl, hz.1, hz.2.1, by rw [Paired.length pr]; exact hz.2.2, fun q hq => mpost p (f1.trans f2) hq (paired_rep pr _)⟩
      · have e1 : ((Res.ok xs).bind fun xs => (Res.ok k).bind fun k => repM xs k) = .stuck := if_neg hz
        rw [e1] at p
        exact p.elim
    | err e => exact fun I2 H2 c d f2 x => p I2 H2 c d (f1.trans f2) ⟨x.1.back f1.h, x.2⟩
    | stuck => exact p
  | err e => exact p
  | stuck => exact p
/-! ### slices -/
def cutL (xs : List α) (lo hi : Option Int) : List α := (xs.drop (HT.sIx xs.length 0 lo)).take (HT.sIx xs.length xs.length hi - HT.sIx xs.length 0 lo)
theorem paired_dropN {F : α → β → Prop} : ∀ {xs : List α} {ys : List β} (k : Nat), Paired F xs ys → Paired F (xs.drop k) (ys.drop k)
  | _, _, 0, p => p
  | _, _, _ + 1, .nil => .nil
  | _, _, k + 1, .cons _ t => paired_dropN k t
theorem paired_takeN {F : α → β → Prop} : ∀ {xs : List α} {ys : List β} (k : Nat), Paired F xs ys → Paired F (xs.take k) (ys.take k)
  | _, _, 0, _ => .nil
  | _, _, _ + 1, .nil => .nil
  | _, _, k + 1, .cons h t => .cons h (paired_takeN k t)
theorem paired_cut {F : V → β → Prop} {xs : List V} {ys : List β} (p : Paired F xs ys) (lo hi : Option Int) : Paired F (cutV xs lo hi) (cutL ys lo hi) := by
  unfold cutV cutL
  rw [Paired.length p]
  exact paired_takeN _ (paired_dropN _ p)
/-- a part of a slice -/
def JO (X : Cx) (I0 H0 : Hp) (W : WX) (ctx : List (Option SF)) (mem : List MF) (e : Option Expr) (m : Res (Option Int)) : Prop := match e with
  | none => m = .ok none
  | some e => ∃ mi : Res Int, m = mi.bind (fun i => .ok (some i)) ∧ JE X I0 H0 W ctx mem e mi (rp rInt)
theorem JO.no : JO X I0 H0 W ctx mem none (.ok none) := rfl
theorem JO.at {m : Res Int} (j : JE X I0 H0 W ctx mem e m (rp rInt)) : JO X I0 H0 W ctx mem (some e) (m.bind fun i => .ok (some i)) := ⟨m, rfl, j⟩
def PostO (X : Cx) (W : WX) (σ : St) (I H : Hp) (m : Res (Option Int)) (Q : Option Int → Hp → Prop) : Prop := match m with
  | .ok o => ∀ I' H', Fm I H I' H' → Q o H'
  | .err e => ∀ I' H' cls d, Fm I H I' H' → Fr H d ∧ ExR X.K I' H' e cls d → W cls d σ H'
  | .stuck => False
theorem JO.po {e : Option Expr} {m : Res (Option Int)} (j : JO X I0 H0 W ctx mem e m) : ∃ t, PO X e t ∧ ∀ (I H : Hp) (σ : St) (Q : Option Int → Hp → Prop), Stt I0 H0 ctx mem I H σ → PostO X W σ I H m Q → t σ H Q := by
  cases e with
  | none =>
    obtain rfl : m = .ok none := j
    exact ⟨_, po_none, fun I H σ Q st p => p I H (Fm.refl st.same)⟩
  | some e =>
    obtain ⟨mi, rfl, ji⟩ := j
    refine ⟨_, po_some pe_W, fun I H σ Q st p => ji I H σ _ st ?_⟩
    cases mi with
    | ok i => exact fun I1 H1 v f r => ⟨i, r, p I1 H1 f⟩
    | err e => exact p
    | stuck => exact p
theorem JM.sl [mo : Mo r] {lo hi : Option Expr} {m : Res (List α)} {ml mh : Res (Option Int)} (ja : JE X I0 H0 W ctx mem a m (rdL X.K (rp r))) (jl : JO X I0 H0 W ctx mem lo ml) (jh : JO X I0 H0 W ctx mem hi mh) :
    JM X I0 H0 W ctx mem (.Subscript a (.Slice lo hi none p2) pos) (m.bind fun xs => ml.bind fun x => mh.bind fun y => .ok (cutL xs x y)) r := fun I H σ Q st p => by
  obtain ⟨tl, pl, hl⟩ := jl.po
  obtain ⟨th, ph, hh⟩ := jh.po
  refine PE.w (pe_slice sl_list pe_W pl ph) (ja I H σ _ st ?_)
  cases m with
  | ok xs =>
    intro I1 H1 u f1 r1
    refine hl I1 H1 σ _ (st.step f1) ?_
    cases ml with
    | ok x =>
      intro I2 H2 f2
      refine hh I2 H2 σ _ ((st.step f1).step f2) ?_
      cases mh with
      | ok y =>
        intro I3 H3 f3
        obtain ⟨l, vs, rfl, hs, pr⟩ := MoA.up (r := rdL X.K (rp r)) (f2.trans f3).i (f2.trans f3).h r1
        exact ⟨l, vs, rfl, hs, fun q hq => mpost p (f1.trans (f2.trans f3)) hq (paired_cut pr x y)⟩
      | err e => exact fun I' H' c d f z => p I' H' c d (f1.trans (f2.trans f)) ⟨(z.1.back f2.h).back f1.h, z.2⟩
      | stuck => exact p
    | err e => exact fun I' H' c d f z => p I' H' c d (f1.trans f) ⟨z.1.back f1.h, z.2⟩
    | stuck => exact p
  | err e => exact p
  | stuck => exact p
/-- list(x) of a list -/
theorem JM.list [mo : Mo r] {m : Res (List α)} (ja : JE X I0 H0 W ctx mem a m (rdL X.K (rp r))) (hm : X.mg "list" = none) (hg : Gl X "list" := by rfl) (hs : starEach [a] X.env = (false, eval a X.env) :: starEach [] X.env := by rfl) (hpl : (backTo pos (starEach [] X.env)).any (·.1) = false := by rfl) :
    JM X I0 H0 W ctx mem (.Call (.Name "list" pos') [a] [] pos) (m.bind fun xs => .ok xs) r := fun I H σ Q st p => by
  refine w_callTy (T := "list") (Tr.w_cons (ja I H σ _ st ?_) hs) hm (by decide +kernel) hg (by decide) (by decide) hs hpl
  cases m with
  | ok xs =>
    rintro I1 H1 u f1 ⟨l, vs, rfl, hs, pr⟩
    exact w_nil (CallR.w call_list_of ⟨l, vs, rfl, .inl hs, fun q hq => mpost p f1 hq pr⟩)
  | err e => exact p
  | stuck => exact p
end
end L2.Tr

namespace L2.Tr
open PySem PySem.Spec PyProof.Rows
section
variable {α β γ δ S L : Type} {X : Cx} {I0 H0 I H : Hp} {W : WX} {Kx : KnowsX} {G : Knows} {ctx : List (Option SF)} {mem : List MF} {e a b c o ix : Expr} {es bs : List Expr} {st : Stmt} {ss s1 s2 : List Stmt} {pos pos' p2 : Pos} {n : Str} {ra : Ra α} {rb : Ra β} {rr : Ra γ} {ma : Res α} {mb : Res β} {σ : St} {r : Rp α}
def putM (xs : List α) (k : Int) (y : α) : Res (List α) := match ixN xs.length k with
  | some j => .ok (xs.set j y)
  | none => .stuck
theorem paired_set {F : α → β → Prop} {x : α} {y : β} (h : F x y) : ∀ {xs : List α} {ys : List β} (k : Nat), Paired F xs ys → Paired F (xs.set k x) (ys.set k y)
  | _, _, _, .nil => .nil
  | _, _, 0, .cons _ t => .cons h t
  | _, _, k + 1, .cons h' t => .cons h' (paired_set h k t)
/-- x[k] = e -/
theorem J1.put (i j : Nat) [mo : Mo r] {l : Addr} {xs : List α} {m : Res α} {mi : Res Int} {p1 : Pos} (je : JE X I0 H0 W ctx mem e m (rp r)) (ji : JE X I0 H0 W ctx mem ix mi (rp rInt)) (hx : ∀ I H σ d, Stt I0 H0 ctx mem I H σ → Fr H0 d → Kx I H σ d)
    (hj : mem[j]? = some (MF.lst l r xs) := by rfl) (hc : ctx[i]? = some (some (SF.mk (rRef l) ())) := by rfl) (hN : X.N[i]? = some n := by rfl) (hv : Vis X.env.scope n := by first | exact Or.inl rfl | exact Or.inr (Or.inl rfl) | exact Or.inr (Or.inr rfl)) (hd : (n == ("__debug__" : Str)) = false := by decide)
    (hcd : (n == ("__classdict__" : Str)) = false := by decide) (ha : ∀ v, assign (.Subscript (.Name n p1) ix pos') X.env v = (do
      let ov ← holding [v] (eval (.Name n p1) X.env)
      let iv ← holding [v, ov] (eval ix X.env)
      standAt pos'
      holding [v, ov, iv] (setItem ov iv v)
      release [v, ov, iv] []) := by intro _; rfl)
    (hs : swapsWithSole [.Subscript (.Name n p1) ix pos'] e pos.line X.env = pure false := by rfl) (hw : swappedStores [.Subscript (.Name n p1) ix pos'] e X.env = pure none := by rfl)
    (h1 : (assignEach [.Subscript (.Name n p1) ix pos'] X.env).map (·.2) = [assign (.Subscript (.Name n p1) ix pos') X.env] := by rfl) :
    J1 X W Kx (Stt I0 H0 ctx mem) (.Assign [.Subscript (.Name n p1) ix pos'] e pos) (m.bind fun y => mi.bind fun k => putM xs k y) (fun zs => Stt I0 H0 ctx (mem.set j (MF.lst l r zs))) := fun I H σ D g p => by
  refine PS.w (ps_asg pe_W (pg_sub pe_W pe_W set_list ha) hs hw h1) (je I H σ _ g ?_)
  cases m with
  | ok y =>
    intro I1 H1 v f1 r1
    have g1 := g.step f1
    obtain ⟨u, eu, hu⟩ := g1.sl i _ hc
    cases (show u = V.ref l from hu)
    refine w_var i (ji I1 H1 σ _ g1 ?_) eu hN hv hd hcd
    cases mi with
    | ok k =>
      intro I2 H2 vk f2 r2
      cases (show vk = V.int k from r2)
      have g2 := g1.step f2
      obtain ⟨_, _, o, zH, vs, eo, pr⟩ := g2.lstAt hj
      subst eo
      have p' : PostB X W Kx I (putM xs k y) _ D := p
      unfold putM at p'
      cases ek : ixN xs.length k with
      | none => rw [ek] at p'; exact p'.elim
      | some q =>
        rw [ek] at p'
        refine ⟨l, vs, k, q, rfl, rfl, zH, by rw [Paired.length pr]; exact ek, ?_⟩
        exact p' I2 _ σ (f1.i.trans f2.i) (g2.relst j hj (paired_set (mo.up f2.i r1) q pr))
    | err e => exact fun I' H' c d f x => p I' H' σ c d (hx _ _ _ _ (g1.step f) (x.1.back g1.fm.h)) x.2
    | stuck => exact p.elim
  | err e => exact fun I' H' c d f x => p I' H' σ c d (hx _ _ _ _ (g.step f) (x.1.back g.fm.h)) x.2
  | stuck => exact p.elim
end
end L2.Tr

namespace L2.Tr
open PySem PySem.Spec PyProof.Rows
/-! ### list comprehensions -/
def lcM {α β : Type} (f : β → Res α) : List β → Res (List α)
  | [] => .ok []
  | x :: xs => match f x with
    | .ok y => (lcM f xs).bind fun ys => .ok (y :: ys)
    | _ => .stuck
abbrev W0 : WX := fun _ _ _ _ => False
theorem takes0 {X : Cx} : L2N.Takes X W0 := fun u s' ⟨_, _, _, _, _, _, _, _, _, _, _, _, _, _, _, _, w⟩ => w.elim
section
variable {α β γ δ S L : Type} {X : Cx} {I0 H0 I H : Hp} {W : WX} {Kx : KnowsX} {ctx : List (Option SF)} {mem : List MF} {e a b c o elt iter : Expr} {pos pos' p2 : Pos} {n : Str} {σ : St} {r : Rp α} {rb : Rp β}
theorem Stt.wipe1 (s : Stt I0 H0 ctx mem I H σ) (j : Nat) : Stt I0 H0 (ctx.set j none) mem I H (σ.set j none) := by
  refine ⟨s.fm, by rw [List.length_set, List.length_set]; exact s.len, fun k sf e => ?_, s.me⟩
  by_cases hk : k = j
  · subst hk
    rw [List.getElem?_set] at e
    by_cases hl : k < ctx.length
    · simp only [hl, if_true] at e; cases e
    · simp only [hl, if_true, if_false] at e; cases e
  · rw [List.getElem?_set_ne (Ne.symm hk)] at e
    obtain ⟨w, e1, q⟩ := s.sl k sf e
    exact ⟨w, by rw [List.getElem?_set_ne (Ne.symm hk)]; exact e1, q⟩
def wEb (X : Cx) (scope : Scope) (elt : Expr) : TE := fun σ H Q => ∀ (s : Shared) (H' : Hp) (C : Addr) (cl : List (Str × Addr)) (fp : List Addr), wE (X.blkC s H' scope (compEnvC scope cl C X.env) fp) elt σ H Q
theorem pe_Wb (s : Shared) (H' : Hp) (C : Addr) (cl : List (Str × Addr)) (fp : List Addr) {scope : Scope} : PE (X.blkC s H' scope (compEnvC scope cl C X.env) fp) elt (wEb X scope elt) := ⟨fun pins s1 _ _ _ I h => h s H' C cl fp pins s1 I⟩
theorem Fm.updNew {I1 H1 : Hp} {D : Addr} {o : HO} (f : Fm I H I1 H1) (hD : H D = none) (hI : I1 D = none) : Fm I H I1 (upd H1 D o) :=
  ⟨f.i, fun b u e => by rw [upd_ne (ne_of_none e hD)]; exact f.h _ _ e, fun b u e => by rw [upd_ne (ne_of_none e hI)]; exact f.ih _ _ e, f.mu⟩
def lcR (f : β → Res α) (xs : List β) : Res (List α) := Res.guard (xs.length ≤ sizeLine) (lcM f xs)
theorem lcM_drop {f : β → Res α} {xs : List β} {i : Nat} {x : β} (h : xs[i]? = some x) : lcM f (xs.drop i) = (match f x with
    | .ok y => (lcM f (xs.drop (i + 1))).bind fun ys => .ok (y :: ys)
    | _ => .stuck) := by
  have hi := (List.getElem?_eq_some_iff.mp h).1
  rw [List.drop_eq_getElem_cons hi]
  have : xs[i] = x := (List.getElem?_eq_some_iff.mp h).2
  rw [this]
  rfl
def PostM (X : Cx) (W : WX) (σ : St) (I H : Hp) (m : Res (List α)) (r : Rp α) (Q : VK) : Prop := match m with
  | .ok xs => ∀ I1 H1 l vs, Fm I H I1 H1 → H l = none → I1 l = none → H1 l = some (.lst vs) → Paired (r I1) vs xs → Q (.ref l) H1
  | .err e => ∀ I' H' cls d, Fm I H I' H' → Fr H d ∧ ExR X.K I' H' e cls d → W cls d σ H'
  | .stuck => False
theorem lc_post (j : Nat) [mo : Mo r] [mb : Mo rb] {m : Res (List β)} {f : β → Res α} {scope : Scope} (ji : JI X I0 H0 W ctx mem (.Name n pos') iter m rb)
    (je : ∀ (s : Shared) (H : Hp) (C : Addr) (cl : List (Str × Addr)) (fp : List Addr) (D : Addr) (acc : List α) (x : β), JE (X.blkC s H scope (compEnvC scope cl C X.env) fp) I0 H0 W0 (ctx.set j (some ⟨rb, x⟩)) (MF.lst D r acc :: mem) elt (f x) (rp r))
    (I H : Hp) (σ : St) (Q : VK) (st : Stt I0 H0 ctx mem I H σ) (p : PostM X W σ I H (m.bind fun xs => lcR f xs) r Q) : tLc (wI X (.Name n pos') iter) (gName j) tYes (wEb X scope elt) [j] σ H Q := by
  refine ji I H σ _ st ?_
  cases m with
  | ok xs =>
    intro I1 H1 J vs okp f1 itr stay pr D hD
    have hlen := Paired.length pr
    by_cases hz : xs.length ≤ sizeLine
    · have e0 : ((Res.ok xs).bind fun xs => lcR f xs) = lcM f xs := Res.guard_pos hz _
      rw [e0] at p
      have hD0 : H D = none := f1.h.free hD
      cases et : lcM f xs with
      | ok tot =>
        rw [et] at p
        refine ⟨fun i k H' => k + i = vs.length ∧ ∃ I' acc ys, Same I1 I' ∧ Fm I H I' H' ∧ Stt I0 H0 ctx (MF.lst D r acc :: mem) I' H' σ ∧ acc.length ≤ i ∧ lcM f (xs.drop i) = .ok ys ∧ tot = acc ++ ys, ⟨vs.length, rfl, I1, [], tot, Same.refl _, f1.trans (Fm.newM f1.ih hD), (st.step f1).push hD .nil, Nat.le_refl _, et, rfl⟩, ?_⟩
        rintro i k H' ⟨hk, I', acc, ys, si, fm, g', ha, el, eq⟩
        have hok := stay I' H' si g'.same g'.fm.h
        by_cases hi : i < vs.length
        · obtain ⟨go, yl⟩ := (itr i H' hok).1 hi
          refine .inr ⟨go, fun H2 => ∃ I2 acc2 ys2, Same I1 I2 ∧ Fm I H I2 H2 ∧ Stt I0 H0 ctx (MF.lst D r acc2 :: mem) I2 H2 σ ∧ acc2.length ≤ i + 1 ∧ lcM f (xs.drop (i + 1)) = .ok ys2 ∧ tot = acc2 ++ ys2, fun H2 h => ⟨k - 1, by omega, by omega, h⟩, fun v H2 hy => ?_⟩
          obtain ⟨rfl, ev⟩ := yl v H2 hy
          obtain ⟨x, ex, hr⟩ := paired_drop pr i ev
          rw [lcM_drop ex] at el
          show (fun σ2 H2 => wipe σ2 [j] = wipe σ [j] ∧ _) (((σ.set j none)).set j (some v)) H2
          refine ⟨?_, ?_⟩
          · show ((σ.set j none).set j (some v)).set j none = σ.set j none
            rw [List.set_set, List.set_set]
          · show wEb X scope elt ((σ.set j none).set j (some v)) H2 _
            rw [List.set_set]
            intro s3 H3 C cl fp
            refine je s3 H3 C cl fp D acc x I' H2 (σ.set j (some v)) _ (g'.set j (mb.up si hr)) ?_
            revert el
            generalize f x = z
            intro el
            cases z with
            | ok y =>
              cases el2 : lcM f (xs.drop (i + 1)) with
              | ok ys2 =>
                dsimp only at el
                rw [el2] at el
                cases el
                intro I4 H4 vy f4 r4
                have g4 := g'.step f4
                obtain ⟨z0, zI, oo, zH, vacc, eo, pacc⟩ := g4.lstAt (j := 0) rfl
                subst eo
                have hla := Paired.length pacc
                have hlt := (List.getElem?_eq_some_iff.mp ex).1
                refine ⟨vacc, zH, by omega, I4, acc ++ [y], ys2, si.trans f4.i, (fm.trans f4).updNew hD0 zI, g4.relst 0 rfl (paired_app pacc (.cons r4 .nil)), by rw [List.length_append, List.length_singleton]; omega, rfl, by rw [eq, List.append_assoc]; rfl⟩
              | err e => dsimp only at el; rw [el2] at el; cases el
              | stuck => dsimp only at el; rw [el2] at el; cases el
            | err e => cases el
            | stuck => cases el
        · refine .inl ⟨(itr i H' hok).2 (by omega), ?_⟩
          have e1 : xs.drop i = [] := List.drop_eq_nil_of_le (by omega)
          rw [e1] at el
          cases el
          rw [List.append_nil] at eq
          subst eq
          obtain ⟨z0, zI, oo, zH, vacc, eo, pacc⟩ := g'.lstAt (j := 0) rfl
          subst eo
          exact p I' H' D vacc fm hD0 zI zH pacc
      | err e =>
        exfalso
        have : ∀ l : List β, lcM f l ≠ .err e := fun l => by
          induction l with
          | nil => intro h; cases h
          | cons x l ih =>
            intro h
            unfold lcM at h
            cases q : f x with
            | ok y =>
              rw [q] at h
              dsimp only at h
              cases q2 : lcM f l with
              | ok ys => rw [q2] at h; cases h
              | err e2 => rw [q2] at h ih; cases h; exact ih rfl
              | stuck => rw [q2] at h; cases h
            | err e2 => rw [q] at h; cases h
            | stuck => rw [q] at h; cases h
        exact this xs et
      | stuck => rw [et] at p; exact p.elim
    · have e0 : ((Res.ok xs).bind fun xs => lcR f xs) = .stuck := if_neg hz
      rw [e0] at p
      exact p.elim
  | err e => exact p
  | stuck => exact p
theorem JM.lc (j : Nat) [mo : Mo r] [mb : Mo rb] {m : Res (List β)} {f : β → Res α} {scope : Scope} (ji : JI X I0 H0 W ctx mem (.Name n pos') iter m rb)
    (je : ∀ (s : Shared) (H : Hp) (C : Addr) (cl : List (Str × Addr)) (fp : List Addr) (D : Addr) (acc : List α) (x : β), JE (X.blkC s H scope (compEnvC scope cl C X.env) fp) I0 H0 W0 (ctx.set j (some ⟨rb, x⟩)) (MF.lst D r acc :: mem) elt (f x) (rp r))
    (hN : X.N.Nodup) (ok : BlkOk X.N X.env.scope scope [(n, j)]) (hj : X.N[j]? = some n := by rfl) (hc : Cool X := by first | exact .inl rfl | exact .inr ⟨_, by assumption, List.mem_cons_self⟩) (hsc : Loc (relabel scope X.env) n := by first | exact Or.inl rfl | exact Or.inr rfl) (hfn : (scope.names.lookup n == some .cell) = true ∨ (relabel scope X.env).names.lookup n = some .local := by first | exact .inr rfl | exact .inl rfl) (hs : ∀ x, foldedSetIterable iter X.env x = pure x := by intro _; rfl) :
    JM X I0 H0 W ctx mem (.ListComp elt [⟨.Name n pos', iter, [], 0⟩] scope pos) (m.bind fun xs => lcR f xs) r := fun I H σ Q st p =>
  PE.w (pe_lcC (own := [(n, j)]) hc hN pi_W ok (fun s H C cl fp => pg_name (i := j) hN hj hsc hfn) (fun s H C cl fp => pts_nil) (fun s H C cl fp => pe_Wb s H C cl fp) hs) (lc_post j ji je I H σ Q st p)
/-- y = [.. for ..] on one line -/
theorem J1.setLc (i j : Nat) {y : Str} {py spos : Pos} [mo : Mo r] [mb : Mo rb] {m : Res (List β)} {f : β → Res α} {scope : Scope} (ji : JI X I0 H0 W ctx mem (.Name n pos') iter m rb)
    (je : ∀ (s : Shared) (H : Hp) (C : Addr) (cl : List (Str × Addr)) (fp : List Addr) (D : Addr) (acc : List α) (x : β), JE (X.blkC s H scope (compEnvC scope cl C X.env) fp) I0 H0 W0 (ctx.set j (some ⟨rb, x⟩)) (MF.lst D r acc :: mem) elt (f x) (rp r))
    (hx : ∀ I H σ d, Stt I0 H0 ctx mem I H σ → Fr H0 d → Kx I H σ d) (hN : X.N.Nodup) (ok : BlkOk X.N X.env.scope scope [(n, j)]) (hi : X.N[i]? = some y := by rfl) (hyl : X.env.scope.names.lookup y = some .local := by rfl)
    (hsw : swapsWith (.ListComp elt [⟨.Name n pos', iter, [], 0⟩] scope pos) (some (.Name y py)) spos.line X.env = pure true := by rfl) (hj : X.N[j]? = some n := by rfl) (hc : Cool X := by first | exact .inl rfl | exact .inr ⟨_, by assumption, List.mem_cons_self⟩) (hsc : Loc (relabel scope X.env) n := by first | exact Or.inl rfl | exact Or.inr rfl) (hfn : (scope.names.lookup n == some .cell) = true ∨ (relabel scope X.env).names.lookup n = some .local := by first | exact .inr rfl | exact .inl rfl) (hs : ∀ x, foldedSetIterable iter X.env x = pure x := by intro _; rfl) :
    J1 X W Kx (Stt I0 H0 ctx mem) (.Assign [.Name y py] (.ListComp elt [⟨.Name n pos', iter, [], 0⟩] scope pos) spos) (m.bind fun xs => lcR f xs) (fun xs I H σ => ∃ l, Stt I0 H0 (ctx.set i (some ⟨rRef l, ()⟩)) (MF.lst l r xs :: mem) I H σ) := fun I H σ D g p => by
  refine PS.w (ps_setLcC (own := [(n, j)]) hc hN hi hyl hsw pi_W ok (fun s H C cl fp => pg_name (i := j) hN hj hsc hfn) (fun s H C cl fp => pts_nil) (fun s H C cl fp => pe_Wb s H C cl fp) hs) (lc_post j ji je I H σ (fun x H1 => gName i x σ H1 D.nx) g ?_)
  revert p
  generalize (m.bind fun xs => lcR f xs) = z
  intro p
  cases z with
  | ok xs => exact fun I1 H1 l vs f hl hI h1 pr => p I1 _ _ f.i ⟨l, (g.adopt f hl hI h1 pr).set i rfl⟩
  | err e => exact fun I' H' c d f x => p I' H' σ c d (hx _ _ _ _ (g.step f) (x.1.back g.fm.h)) x.2
  | stuck => exact p
end
end L2.Tr

namespace L2.Tr
open PySem PySem.Spec PyProof.Rows
/-! ### contexts and cells written out -/
section
variable {α γ S L : Type} {X : Cx} {I0 H0 I H : Hp} {W : WX} {Kx : KnowsX} {G : Knows} {st : Stmt} {ss : List Stmt} {ctx ctx' : List (Option SF)} {mem mem' : List MF} {rr : Ra γ} {σ : St}
theorem J1.cm {m : Res S} {c c' : S → List (Option SF)} {me me' : S → List MF} (j : J1 X W Kx G st m (fun s => Stt I0 H0 (c s) (me s))) (h : ∀ s, c s = c' s := by intro _; rfl) (h2 : ∀ s, me s = me' s := by intro _; rfl) : J1 X W Kx G st m (fun s => Stt I0 H0 (c' s) (me' s)) := by
  have e : c = c' := funext h
  have e2 : me = me' := funext h2
  rw [← e, ← e2]; exact j
/-- a new cell: its address is named -/
theorem J1.cn {ι : Type} {m : Res S} {c c' : S → ι → List (Option SF)} {me me' : S → ι → List MF} (j : J1 X W Kx G st m (fun s I H σ => ∃ l, Stt I0 H0 (c s l) (me s l) I H σ)) (h : ∀ s l, c s l = c' s l := by intro _ _; rfl) (h2 : ∀ s l, me s l = me' s l := by intro _ _; rfl) : J1 X W Kx G st m (fun s I H σ => ∃ l, Stt I0 H0 (c' s l) (me' s l) I H σ) := by
  have e : c = c' := funext fun s => funext fun l => h s l
  have e2 : me = me' := funext fun s => funext fun l => h2 s l
  rw [← e, ← e2]; exact j
variable (i j : Nat) {r : Rp α} [mo : Mo r] {l : Addr} {xs : List α}
theorem JN.fz {m : Res S} {G' : S → Knows} (k : JN X W Kx (Stt I0 H0 ctx' mem') ss m G') (hj : mem[j]? = some (MF.lst l r xs) := by rfl) (hc : ctx[i]? = some (some (SF.mk (rRef l) ())) := by rfl) (h1 : ctx.set i (some ⟨rL r, xs⟩) = ctx' := by rfl) (h2 : mem.eraseIdx j = mem' := by rfl) : JN X W Kx (Stt I0 H0 ctx mem) ss m G' :=
  JN.frz i j (by rw [h1, h2]; exact k) hj hc
theorem JR.fz {m : Res γ} (k : JR X I0 H0 W Kx (Stt I0 H0 ctx' mem') ss m rr) (hj : mem[j]? = some (MF.lst l r xs) := by rfl) (hc : ctx[i]? = some (some (SF.mk (rRef l) ())) := by rfl) (h1 : ctx.set i (some ⟨rL r, xs⟩) = ctx' := by rfl) (h2 : mem.eraseIdx j = mem' := by rfl) : JR X I0 H0 W Kx (Stt I0 H0 ctx mem) ss m rr :=
  JR.frz i j (by rw [h1, h2]; exact k) hj hc
theorem JG.fz {m : Res (Fl S L γ)} {G' : S → Knows} {GL : L → Knows} (k : JG X I0 H0 W Kx (Stt I0 H0 ctx' mem') ss m G' GL rr) (hj : mem[j]? = some (MF.lst l r xs) := by rfl) (hc : ctx[i]? = some (some (SF.mk (rRef l) ())) := by rfl) (h1 : ctx.set i (some ⟨rL r, xs⟩) = ctx' := by rfl) (h2 : mem.eraseIdx j = mem' := by rfl) : JG X I0 H0 W Kx (Stt I0 H0 ctx mem) ss m G' GL rr :=
  JG.frz i j (by rw [h1, h2]; exact k) hj hc
end
end L2.Tr

namespace L2.Tr
open PySem PySem.Spec PyProof.Rows
section
variable {α β γ δ S L : Type} {X : Cx} {I0 H0 I H : Hp} {W : WX} {Kx : KnowsX} {ctx : List (Option SF)} {mem : List MF} {e a b c o : Expr} {pos pos' p2 : Pos} {n : Str} {σ : St} {r : Rp α} {ra : Ra α}
theorem JE.at {m : Res α} {c c' : List (Option SF)} (j : JE X I0 H0 W c' mem e m ra) (h : c = c' := by rfl) : JE X I0 H0 W c mem e m ra := by rw [h]; exact j
end
end L2.Tr

namespace PySem.W
open PySem PySem.Spec PySem.Calls PyProof.Rows
section
variable {prog : Program} {w : World} {A : Around} {E : Value → Shared → Prop} {s : Shared} {K : Frag} {x C f : Addr} {ox : Obj} {od : Option Obj}
end
end PySem.W
namespace L2.Tr
open PySem PySem.Spec PyProof.Rows He
/-! ### objects of own classes, frozen -/
section
variable {α β γ δ S L : Type} {X : Cx} {I0 H0 I H : Hp} {W : WX} {Kx : KnowsX} {ctx : List (Option SF)} {mem : List MF} {e a b c o : Expr} {es : List Expr} {pos pos' p2 : Pos} {n : Str} {σ : St} {Q : VK} {r : Rp α} {ra : Ra α} {rb : Ra β} {rc : Ra γ} {ma : Res α} {mb : Res β} {md : Res δ}
def rIns (C : Addr) (gs : α → List (Str × SF)) : Rp α := fun I v x => ∃ a dx fs, v = .ref a ∧ I a = some (.ins C dx fs) ∧ FldR I fs (gs x)
instance {C : Addr} {gs : α → List (Str × SF)} : Mo (rIns C gs) := ⟨fun s ⟨a, dx, fs, e, h, f⟩ => ⟨a, dx, fs, e, s _ _ h, FldR.up s f⟩⟩
theorem FldR.look {I : Hp} {f : Str} : ∀ {fs : List (Str × V)} {gs : List (Str × SF)} {sf : SF}, FldR I fs gs → gs.lookup f = some sf → ∃ v, fs.lookup f = some v ∧ sf.r I v sf.x
  | [], [], _, _, e => by simp at e
  | (k, v) :: fs, (k', q) :: gs, sf, ⟨h1, h2, h3⟩, e => by
    cases (show k = k' from h1)
    rw [List.lookup_cons] at e ⊢
    by_cases hk : (f == k) = true
    · rw [hk] at e ⊢
      cases e
      exact ⟨v, rfl, h2⟩
    · rw [Bool.not_eq_true] at hk
      rw [hk] at e ⊢
      exact FldR.look h3 e
  | [], _ :: _, _, h, _ => h.elim
  | _ :: _, [], _, h, _ => h.elim
theorem FldR.none {I : Hp} {f : Str} : ∀ {fs : List (Str × V)} {gs : List (Str × SF)}, FldR I fs gs → gs.lookup f = none → fs.lookup f = none
  | [], [], _, _ => rfl
  | (k, v) :: fs, (k', q) :: gs, ⟨h1, h2, h3⟩, e => by
    cases (show k = k' from h1)
    rw [List.lookup_cons] at e ⊢
    by_cases hk : (f == k) = true
    · rw [hk] at e; cases e
    · rw [Bool.not_eq_true] at hk
      rw [hk] at e ⊢
      exact FldR.none h3 e
  | [], _ :: _, h, _ => h.elim
  | _ :: _, [], h, _ => h.elim
theorem insOfI {C : Addr} {gs : α → List (Str × SF)} {m : Str} (h : ∀ x, (gs x).lookup m = none) : InsOf C (rp (rIns C gs)) m := fun I H v x s ⟨a, dx, fs, e, hi, f⟩ => ⟨a, dx, fs, e, s _ _ hi, f.none (h x)⟩
theorem fldI {K : PySem.W.Frag} {C : Addr} {gs : α → List (Str × SF)} {f : Str} {r : Rp β} {mo : Mo r} {get : α → β} (h : ∀ x, (gs x).lookup f = some (SF.mk r (get x))) : FldOf K C (rp (rIns C gs)) f get (rp r) := fun I H v x s ⟨a, dx, fs, e, hi, q⟩ => by
  obtain ⟨w, h1, h2⟩ := q.look (h x)
  exact ⟨a, dx, fs, w, e, s _ _ hi, h1, h2⟩
/-! ### properties -/
structure PropP (K : PySem.W.Frag) (C : Addr) (f : Str) (p g : Addr) : Prop where
  po : PropOf K C f p g
/-- o.f, a property; an error in it is not covered -/
def noErr (m : Res α) : Res α := match m with
  | .err _ => .stuck
  | m => m
/-! ### C.m(..), a staticmethod -/
structure SMet (K : PySem.W.Frag) (C : Addr) (mc : Value) (m : Str) (p g : Addr) : Prop where
  rd : PySem.W.readsIn K C mc = true
  ga : PySem.W.specialIn K (.ref C) "__getattribute__" = some (some (.builtin "type.__getattribute__"))
  at_ : PySem.W.findCls K (.ref C) mc m = some (.get (.builtin "staticmethod.__get__") (.ref p) .none (.ref C))
  rc : ∃ rest, PySem.W.recIn K p "staticmethod" = some (.ref g :: rest)
  kp : PySem.W.keepIn K (.ref g) = true
/-! ### sequences: a list or a tuple -/
def rSq (K : PySem.W.Frag) (r : Ra α) : Ra (List α) := fun I H v xs => ∃ l vs, v = .ref l ∧ (SqL K H l vs ∨ SqT K H l vs) ∧ Paired (r I H) vs xs
theorem Same.seqT {K : PySem.W.Frag} {H H' : Hp} {a : Addr} {xs : List V} (s : Same H H') (h : SqT K H a xs) : SqT K H' a xs := by
  rcases h with h | h
  · rcases h with h | ⟨h1, h2⟩
    · exact .inl (.inl (s _ _ h))
    · exact .inl (.inr ⟨h1, s _ _ h2⟩)
  · exact .inr h
instance {K : PySem.W.Frag} {r : Ra α} [m : MoA r] : MoA (rSq K r) := ⟨fun s t ⟨l, vs, e, h, p⟩ => ⟨l, vs, e, h.imp (fun h => t.seq h) (fun h => Same.seqT t h), Paired.mapP p fun _ _ q => m.up s t q⟩⟩
theorem JE.sqL {m : Res (List α)} (j : JE X I0 H0 W ctx mem e m (rdL X.K ra)) : JE X I0 H0 W ctx mem e m (rSq X.K ra) := j.co fun _ _ _ _ _ ⟨l, vs, e, h, p⟩ => ⟨l, vs, e, .inl h, p⟩
theorem cj_lenS : CallJ X W (.builtin "len") (R1 (rSq X.K ra)) (fun d => .ok (d.1.length : Int)) (rp rInt) := fun I H σ Q vs x s a p => by
  obtain ⟨v, ws, rfl, ⟨l, vs, rfl, hl, pr⟩, rfl⟩ := a
  exact CallR.w call_len_seq ⟨l, vs, rfl, hl, by rw [Paired.length pr]; exact p I H _ (Fm.refl s) rfl⟩
/-- what is walked is a parameter: a list or a tuple -/
theorem JI.parS {tg : Expr} (i : Nat) {mo : Mo (fun I v x => rSq X.K (rp r) I H0 v x)} {x : List α} [m : Mo r] (hc : ctx[i]? = some (some (@SF.mk (List α) (fun I v x => rSq X.K (rp r) I H0 v x) mo x)) := by rfl) (hN : X.N[i]? = some n := by rfl) (hv : Vis X.env.scope n := by first | exact Or.inl rfl | exact Or.inr (Or.inl rfl) | exact Or.inr (Or.inr rfl)) (hd : (n == ("__debug__" : Str)) = false := by decide)
    (hcd : (n == ("__classdict__" : Str)) = false := by decide) : JI X I0 H0 W ctx mem tg (.Name n pos) (.ok x) r := fun I H σ R st p => by
  obtain ⟨v, e, l, vs, ev, hl, pr⟩ := st.sl i _ hc
  subst ev
  rcases hl with hl | hl
  · refine PI.w (pi_listC pe_W) (w_var i ⟨l, rfl, ⟨vs, st.fm.h.seq hl⟩, ?_⟩ e hN hv hd hcd)
    exact p I H _ vs _ (Fm.refl st.same) itr_list (fun I2 H2 s1 s2 s3 => s3.seq hl) pr
  · refine PI.w (pi_tupC pe_W) (w_var i ⟨l, rfl, ⟨vs, Same.seqT st.fm.h hl⟩, ?_⟩ e hN hv hd hcd)
    exact p I H _ vs _ (Fm.refl st.same) itr_tup (fun I2 H2 s1 s2 s3 => Same.seqT s3 hl) pr
theorem JM.listS [mo : Mo r] {m : Res (List α)} (ja : JE X I0 H0 W ctx mem a m (rSq X.K (rp r))) (hm : X.mg "list" = none) (hg : Gl X "list" := by rfl) (hs : starEach [a] X.env = (false, eval a X.env) :: starEach [] X.env := by rfl) (hpl : (backTo pos (starEach [] X.env)).any (·.1) = false := by rfl) :
    JM X I0 H0 W ctx mem (.Call (.Name "list" pos') [a] [] pos) (m.bind fun xs => .ok xs) r := fun I H σ Q st p => by
  refine w_callTy (T := "list") (Tr.w_cons (ja I H σ _ st ?_) hs) hm (by decide +kernel) hg (by decide) (by decide) hs hpl
  cases m with
  | ok xs =>
    rintro I1 H1 u f1 ⟨l, vs, rfl, hs, pr⟩
    exact w_nil (CallR.w call_list_of ⟨l, vs, rfl, hs, fun q hq => mpost p f1 hq pr⟩)
  | err e => exact p
  | stuck => exact p
/-! ### coercions of items -/
theorem paired_map {F : β → α → Prop} {G : β → γ → Prop} {f : α → γ} (h : ∀ v x, F v x → G v (f x)) : ∀ {vs : List β} {xs : List α}, Paired F vs xs → Paired G vs (xs.map f)
  | _, _, .nil => .nil
  | _, _, .cons a t => .cons (h _ _ a) (paired_map h t)
theorem JM.map {m : Res (List α)} {rb : Rp β} {f : α → β} (j : JM X I0 H0 W ctx mem e m r) (h : ∀ I H v x, rp r I H v x → rp rb I H v (f x)) : JM X I0 H0 W ctx mem e (m.bind fun xs => .ok (xs.map f)) rb := fun I H σ Q st p => j I H σ Q st (by
  cases m with
  | ok xs => exact fun I1 H1 l vs f1 a b c pr => p I1 H1 l vs f1 a b c (paired_map (h I1 H1) pr)
  | err e => exact p
  | stuck => exact p)
/-! ### all, any, sum -/
theorem paired_bl {I H : Hp} : ∀ {vs : List V} {xs : List Bool}, Paired (rp rBl I H) vs xs → vs = xs.map V.bl
  | _, _, .nil => rfl
  | _, _, .cons h t => by rw [List.map_cons, ← paired_bl t, show _ = _ from h]
theorem paired_in {I H : Hp} : ∀ {vs : List V} {xs : List Int}, Paired (rp rInt I H) vs xs → vs = xs.map V.int
  | _, _, .nil => rfl
  | _, _, .cons h t => by rw [List.map_cons, ← paired_in t, show _ = _ from h]
theorem cj_any (hc : X.calm = true) : CallJ X W (.builtin "any") (R1 (rdL X.K (rp rBl))) (fun d => .ok (d.1.any id)) (rp rBl) := fun I H σ Q vs x s a p => by
  obtain ⟨v, ws, rfl, ⟨l, vs, rfl, hl, pr⟩, rfl⟩ := a
  exact CallR.w (cr_any hc) ⟨l, x.1, rfl, by rw [← paired_bl pr]; exact hl, p I H _ (Fm.refl s) rfl⟩
theorem cj_sum (hc : X.calm = true) : CallJ X W (.builtin "sum") (R1 (rdL X.K (rp rInt))) (fun d => .ok d.1.sum) (rp rInt) := fun I H σ Q vs x s a p => by
  obtain ⟨v, ws, rfl, ⟨l, vs, rfl, hl, pr⟩, rfl⟩ := a
  exact CallR.w (cr_sum hc) ⟨l, x.1, rfl, by rw [← paired_in pr]; exact hl, p I H _ (Fm.refl s) rfl⟩
end
end L2.Tr

namespace L2.Tr
open PySem PySem.Spec PyProof.Rows He
section
variable {α β γ δ S L : Type} {X : Cx} {I0 H0 I H : Hp} {W : WX} {Kx : KnowsX} {G : Knows} {ctx : List (Option SF)} {mem : List MF} {e a b c o : Expr} {es : List Expr} {ss : List Stmt} {pos pos' p2 : Pos} {n : Str} {σ : St} {Q : VK} {r : Rp α} {ra : Ra α} {rb : Ra β} {rc : Ra γ} {ma : Res α} {mb : Res β} {md : Res δ} {R : Hp → Hp → List V → δ → Prop}
/-! ### defs that hand back a new list -/
def rNew (H0 : Hp) (r : Rp α) : Ra (List α) := fun I H v xs => ∃ l vs, v = .ref l ∧ H0 l = none ∧ I l = none ∧ H l = some (.lst vs) ∧ Paired (r I) vs xs
def spN (K : PySem.W.Frag) (R : Hp → Hp → List V → δ → Prop) (m : δ → Res (List α)) (r : Rp α) : Sp := fun vs H Q E => ∃ I d, Same I H ∧ R I H vs d ∧ PostE K (m d) (rNew H r) I H E Q
def CallN (X : Cx) (W : WX) (f : Value) (R : Hp → Hp → List V → δ → Prop) (g : δ → Res (List α)) (r : Rp α) : Prop :=
  ∀ (I H : Hp) (σ : St) (Q : VK) (vs : List V) (x : δ), Same I H → R I H vs x → PostM X W σ I H (g x) r Q → callW X f σ vs H Q
theorem post_new {m : Res (List α)} (p : PostM X W σ I H m r Q) : PostE X.K m (rNew H r) I H (fun cls d H' => W cls d σ H') Q := by
  cases m with
  | ok xs => exact fun I' H' v f ⟨l, vs, e, h1, h2, h3, pr⟩ => by subst e; exact p I' H' l vs f h1 h2 h3 pr
  | err e => exact p
  | stuck => exact p
theorem PostM.up {m : Res (List α)} {I1 H1 : Hp} (p : PostM X W σ I H m r Q) (f : Fm I H I1 H1) : PostM X W σ I1 H1 m r Q := by
  cases m with
  | ok xs => exact fun I' H' l vs f2 h1 h2 h3 pr => p I' H' l vs (f.trans f2) (f.h.free h1) h2 h3 pr
  | err e => exact fun I' H' c d g x => p I' H' c d (f.trans g) ⟨x.1.back f.h, x.2⟩
  | stuck => exact p
theorem cn_of {k : Nat} {f : Addr} {m : δ → Res (List α)} (F : FnR X.prog X.w X.K X.mg X.base (L2N.CX X.prog X.w) k f (spN X.K R m r)) (hr : Room k X.A) (tk : L2N.Takes X W) : CallN X W (.ref f) R m r := fun I H σ Q vs d s h p => run_W F hr tk ⟨I, d, s, h, post_new p⟩
theorem FnN.nice {P : Program} {w : World} {K : PySem.W.Frag} {mg : Str → Option Value} {base : Heap} {k : Nat} {f : Addr} {m m' : δ → Res (List α)} (F : FnR P w K mg base (L2N.CX P w) k f (spN K R m r)) (h : ∀ d, m' d = .stuck ∨ m' d = m d) : FnR P w K mg base (L2N.CX P w) k f (spN K R m' r) := F.imp fun vs H Q E ⟨I, d, s, r, p⟩ => ⟨I, d, s, r, by
  rcases h d with e | e
  · rw [show m' d = _ from e] at p; exact p.elim
  · rw [← e]; exact p⟩
theorem FnOk.frN0 {P : Program} {w : World} {K : PySem.W.Frag} {mg : Str → Option Value} {base : Heap} {k : Nat} {f : Addr} {fd : FuncData} {ps : List Str} {m : δ → Res (List α)} (F : FnOk P w K mg base (L2N.CX P w) k f fd ps (spN K R m r)) (hb : Binds K fd ps []) :
    FnR P w K mg base (L2N.CX P w) k f (spN K R m r) := (FnOk.raw F hb .nil).imp fun vs H Q E h => by rw [List.append_nil]; exact h
theorem JA.callM {g : δ → Res (List α)} (k : JA X I0 H0 W ctx mem es md R) {f : Value} (cn : CallN X W f R g r) (st : Stt I0 H0 ctx mem I H σ) (p : PostM X W σ I H (md.bind g) r Q) : wA X es σ H fun vs H1 => callW X f σ vs H1 Q := by
  refine k I H σ _ st ?_
  cases md with
  | ok x => exact fun I1 H1 vs f1 r1 => cn I1 H1 σ Q vs x f1.ih r1 (PostM.up (m := g x) p f1)
  | err e => exact p
  | stuck => exact p
theorem JM.call {f : Addr} {g : δ → Res (List α)} (k : JA X I0 H0 W ctx mem (e :: es) md R) (cn : CallN X W (.ref f) R g r) (hm : X.mg n = some (.ref f)) (hk : PySem.W.keepIn X.K (.ref f) = true) (hg : Gl X n := by rfl) (hdb : (n == ("__debug__" : Str)) = false := by decide)
    (he : starEach (e :: es) X.env = (false, eval e X.env) :: starEach es X.env := by rfl) (hpl : (backTo pos (starEach es X.env)).any (·.1) = false := by rfl) : JM X I0 H0 W ctx mem (.Call (.Name n pos') (e :: es) [] pos) (md.bind g) r := fun I H σ Q st p =>
  w_call (k.callM cn st p) hm hk hg hdb he hpl
theorem JM.meth {pl : Sem Bool} {m : Str} {C f : Addr} {apos : Pos} {g : β × δ → Res (List α)} [MoA rb] (j : JE X I0 H0 W ctx mem o mb rb) (hi : InsOf C rb m) (k : JA X I0 H0 W ctx mem (e :: es) md R) (cn : CallN X W (.ref f) (aCons rb R) g r) (c : Cls X.K C) (hm : Meth X.K C m f)
    (hst : starEach (e :: es) X.env = (false, eval e X.env) :: starEach es X.env := by rfl) (hpl : (backTo pos (starEach es X.env)).any (·.1) = false := by rfl)
    (ht : eval (.Call (.Attribute o m apos) (e :: es) [] pos) X.env = (do
      let ov ← eval o X.env
      standAt apos.atName
      let (f, first) ← holding [ov] (getMethod ov m pl)
      callWith pos f first (backTo pos (starEach (e :: es) X.env)) (backToKw pos (keywordEach [] X.env))) := by rfl) : JM X I0 H0 W ctx mem (.Call (.Attribute o m apos) (e :: es) [] pos) (mb.bind fun x => md.bind fun y => g (x, y)) r := fun I H σ Q st p => by
  refine w_meth (j I H σ _ st ?_) c hm hst hpl ht
  cases mb with
  | ok x =>
    intro I1 H1 v f1 r1
    obtain ⟨a, dx, fs, ev, ha, hl⟩ := hi I1 H1 v x f1.ih r1
    refine ⟨a, dx, fs, ev, ha, hl, k I1 H1 σ _ (st.step f1) ?_⟩
    cases md with
    | ok y => exact fun I2 H2 vs f2 r2 => cn I2 H2 σ Q (v :: vs) (x, y) f2.ih ⟨v, vs, rfl, MoA.up f2.i f2.h r1, r2⟩ (PostM.up (m := g (x, y)) p (f1.trans f2))
    | err e => exact fun I' H' c d f x => p I' H' c d (f1.trans f) ⟨x.1.back f1.h, x.2⟩
    | stuck => exact p
  | err e => exact p
  | stuck => exact p
theorem JM.meth0 {pl : Sem Bool} {m : Str} {C f : Addr} {apos : Pos} {g : β × Unit → Res (List α)} (j : JE X I0 H0 W ctx mem o mb rb) (hi : InsOf C rb m) (cn : CallN X W (.ref f) (aCons rb aNil) g r) (c : Cls X.K C) (hm : Meth X.K C m f)
    (ht : eval (.Call (.Attribute o m apos) [] [] pos) X.env = (do
      let ov ← eval o X.env
      standAt apos.atName
      let (f, first) ← holding [ov] (getMethod ov m pl)
      callWith pos f first (backTo pos (starEach [] X.env)) (backToKw pos (keywordEach [] X.env))) := by rfl) : JM X I0 H0 W ctx mem (.Call (.Attribute o m apos) [] [] pos) (mb.bind fun x => g (x, ())) r := fun I H σ Q st p => by
  refine w_meth0 (j I H σ _ st ?_) c hm ht
  cases mb with
  | ok x =>
    intro I1 H1 v f1 r1
    obtain ⟨a, dx, fs, ev, ha, hl⟩ := hi I1 H1 v x f1.ih r1
    exact ⟨a, dx, fs, ev, ha, hl, cn I1 H1 σ Q [v] (x, ()) f1.ih ⟨v, [], rfl, r1, rfl⟩ (PostM.up (m := g (x, ())) p f1)⟩
  | err e => exact p
  | stuck => exact p
/-- return e, a new list -/
theorem JR.retM {m : Res (List α)} (j : JM X I0 H0 W ctx mem e m r) (hx : ∀ I H σ d, Stt I0 H0 ctx mem I H σ → Fr H0 d → Kx I H σ d) : JR X I0 H0 W Kx (Stt I0 H0 ctx mem) (.Return (some e) pos :: ss) m (rNew H0 r) := fun I H σ D g p => by
  refine b_cons (s_ret (j I H σ _ g ?_))
  cases m with
  | ok xs => exact fun I1 H1 l vs f h1 h2 h3 pr => p I1 H1 _ (g.fm.trans f) ⟨l, vs, rfl, g.fm.h.free h1, h2, h3, pr⟩
  | err e => exact fun I' H' c d f x => p I' H' σ c d (hx _ _ _ _ (g.step f) (x.1.back g.fm.h)) x.2
  | stuck => exact p
/-- return x, x a list of the call's own -/
theorem JR.retC (i j : Nat) [mo : Mo r] {l : Addr} {xs : List α} (hj : mem[j]? = some (MF.lst l r xs) := by rfl) (hc : ctx[i]? = some (some (SF.mk (rRef l) ())) := by rfl) (hN : X.N[i]? = some n := by rfl) (hv : Vis X.env.scope n := by first | exact Or.inl rfl | exact Or.inr (Or.inl rfl) | exact Or.inr (Or.inr rfl)) (hd : (n == ("__debug__" : Str)) = false := by decide)
    (hcd : (n == ("__classdict__" : Str)) = false := by decide) : JR X I0 H0 W Kx (Stt I0 H0 ctx mem) (.Return (some (.Name n pos')) pos :: ss) (.ok xs) (rNew H0 r) := fun I H σ D g p => by
  obtain ⟨u, eu, hu⟩ := g.sl i _ hc
  cases (show u = V.ref l from hu)
  obtain ⟨z1, z2, oo, zH, vs, eo, pr⟩ := g.lstAt hj
  subst eo
  exact b_cons (s_ret (w_var i (p I H _ g.fm ⟨l, vs, rfl, z1, z2, zH, pr⟩) eu hN hv hd hcd))
theorem FunD.fnN {P : Program} {w : World} {K : PySem.W.Frag} {mg : Str → Option Value} {base : Heap} {x qual : Str} {params : Arguments} {body : List Stmt} {scope : Scope} {dvs : List V} {kws : List (Str × V)} {f : Addr} {fd : FuncData} {N ps : List Str} {k : Nat} {m : δ → Res (List α)} (F : FunD K x qual params body scope dvs kws f fd) (Sc : FnScope N ps scope) (len : ∀ I H vs d, R I H vs d → vs.length = ps.length)
    (hb : ∀ (cdv : Value) (A : Around) (outer : List Env) (s : Shared) (I0 H0 : Hp) (E : XK) (vs : List V) (d : δ), Room k (A.deeper (envOfC qual scope s.heap.objs.size f cdv)) → Same I0 H0 → R I0 H0 vs d →
      ∃ G : Knows, G I0 H0 (start N vs) ∧ JR (bx P w K mg base N qual scope f cdv A outer s H0 E) I0 H0 (bW E) (bK I0 H0) G body (m d) (rNew H0 r)) : FnOk P w K mg base (L2N.CX P w) (k + 1) f fd ps (spN K R m r) := by
  refine F.ok Sc (fun vs H Q E ⟨I, d, _, h, _⟩ => len I H vs d h) fun cdv A outer s H vs Q E hr ⟨I, d, sm, h, p⟩ => ⟨_, pss_W, ?_⟩
  obtain ⟨G, g, j⟩ := hb cdv A outer s I H E vs d hr sm h
  refine j I H _ _ g ?_
  revert p
  show PostE K (m d) (rNew H r) I H E Q → PostR _ _ _ _ _ (m d) _ _
  generalize m d = z
  intro p
  cases z with
  | ok y => exact p
  | err e => exact fun I' H' _ c d f x => p I' H' c d f.1 ⟨f.2, x⟩
  | stuck => exact p
/-! ### __init__ -/
/-- self.f within __init__ -/
theorem JE.fldS (i j : Nat) {x C dx : Addr} {f sn : Str} {p1 : Pos} {gs : List (Str × SF)} {mo : Mo r} {z : α} (cl : Cls X.K C) (hn : NoAttr X.K C f) (hj : mem[j]? = some (MF.ins x C dx gs) := by rfl) (hg : gs.lookup f = some (SF.mk r z) := by rfl)
    (hc : ctx[i]? = some (some (SF.mk (rRef x) ())) := by rfl) (hN : X.N[i]? = some sn := by rfl) (hv : Vis X.env.scope sn := by first | exact Or.inl rfl | exact Or.inr (Or.inl rfl) | exact Or.inr (Or.inr rfl)) (hd : (sn == ("__debug__" : Str)) = false := by decide)
    (hcd : (sn == ("__classdict__" : Str)) = false := by decide) (hb : attributeBase (.Name sn p1) f X.env (eval (.Name sn p1) X.env) = eval (.Name sn p1) X.env := by rfl) : JE X I0 H0 W ctx mem (.Attribute (.Name sn p1) f pos) (.ok z) (rp r) := fun I H σ Q st p => by
  obtain ⟨u, eu, hu⟩ := st.sl i _ hc
  cases (show u = V.ref x from hu)
  obtain ⟨_, _, oo, zH, fs, eo, hf⟩ := st.insAt hj
  subst eo
  obtain ⟨w, h1, h2⟩ := hf.look hg
  exact w_fld (w_var i ⟨x, C, dx, fs, w, rfl, zH, cl, hn, h1, p I H _ (Fm.refl st.same) h2⟩ eu hN hv hd hcd) hb
/-- self.f = e within __init__ -/
theorem J1.sfldJ (i j : Nat) {x C dx : Addr} {f sn : Str} {p1 : Pos} {gs : List (Str × SF)} [mo : Mo r] {m : Res α} (je : JE X I0 H0 W ctx mem e m (rp r)) (cl : Cls X.K C) (hn : NoAttr X.K C f) (hg : gs.length < 1000) (hx : ∀ I H σ d, Stt I0 H0 ctx mem I H σ → Fr H0 d → Kx I H σ d) (hj : mem[j]? = some (MF.ins x C dx gs) := by rfl)
    (hc : ctx[i]? = some (some (SF.mk (rRef x) ())) := by rfl) (hN : X.N[i]? = some sn := by rfl) (hv : Vis X.env.scope sn := by first | exact Or.inl rfl | exact Or.inr (Or.inl rfl) | exact Or.inr (Or.inr rfl)) (hd : (sn == ("__debug__" : Str)) = false := by decide)
    (hcd : (sn == ("__classdict__" : Str)) = false := by decide) (hs : swapsWith e (some (.Attribute (.Name sn p1) f pos')) pos.line X.env = pure false := by rfl) :
    J1 X W Kx (Stt I0 H0 ctx mem) (.Assign [.Attribute (.Name sn p1) f pos'] e pos) m (fun y => Stt I0 H0 ctx (mem.set j (.ins x C dx (putG f ⟨r, y⟩ gs)))) := fun I H σ D g p => by
  refine s_fld (je I H σ _ g ?_) hs
  cases m with
  | ok y =>
    intro I1 H1 v f1 h1
    have g1 := g.step f1
    obtain ⟨u, eu, hu⟩ := g1.sl i _ hc
    cases (show u = V.ref x from hu)
    obtain ⟨_, _, oo, zH, fs, eo, hf⟩ := g1.insAt (l := x) hj
    subst eo
    refine w_var i ⟨x, C, dx, fs, rfl, zH, cl, hn, ?_, ?_⟩ eu hN hv hd hcd
    · rw [hf.length]; exact hg
    · exact p I1 _ σ f1.i (g1.cellAt (l := x) (c' := .ins x C dx (putG f ⟨r, y⟩ gs)) j hj (fun q => q.1) ⟨rfl, _, upd_same, _, rfl, hf.put h1⟩)
  | err e => exact fun I' H' c d f x => p I' H' σ c d (hx _ _ _ _ (g.step f) (x.1.back g.fm.h)) x.2
  | stuck => exact p
/-- an __init__ that makes its object whole, with the fields gs -/
theorem FunD.initI {P : Program} {w : World} {K : PySem.W.Frag} {mg : Str → Option Value} {base : Heap} {x qual : Str} {params : Arguments} {body : List Stmt} {scope : Scope} {dvs : List V} {kws : List (Str × V)} {f C : Addr} {fd : FuncData} {N ps : List Str} {k : Nat} {m : δ → Res α} {gs : α → List (Str × SF)} (F : FunD K x qual params body scope dvs kws f fd) (Sc : FnScope N ps scope) (len : ∀ I H vs d, R I H vs d → vs.length + 1 = ps.length)
    (hb : ∀ (cdv : Value) (A : Around) (outer : List Env) (s : Shared) (I0 H0 H1 : Hp) (E : XK) (vs : List V) (d : δ) (y dx : Addr), Room k (A.deeper (envOfC qual scope s.heap.objs.size f cdv)) → Same I0 H0 → R I0 H0 vs d → H1 = upd (upd H0 dx (.own y)) y (.ins C dx []) →
      ∃ ctx : List (Option SF), ctx.length = N.length ∧ vs.length + 1 ≤ N.length ∧ IniR I0 (.ref y :: vs) ctx ∧ JN (bx P w K mg base N qual scope f cdv A outer s H1 E) (bW E) (bK I0 H0) (Stt I0 H0 ctx [.ins y C dx []]) body (m d) (fun s I H σ => ∃ ctx, Stt I0 H0 ctx [.ins y C dx (gs s)] I H σ)) : FnOk P w K mg base (L2N.CX P w) (k + 1) f fd ps (spI K C R m (rp (rIns C gs))) := by
  refine FunD.init (S := α) F Sc len fun cdv A outer s I0 H0 H1 E vs d y dx hr sm h n1 n2 n3 eH => ?_
  obtain ⟨ctx, l1, l2, ini, j⟩ := hb cdv A outer s I0 H0 H1 E vs d y dx hr sm h eH
  refine ⟨_, α, m d, _, ?_, j, ?_⟩
  · subst eH
    have hl : (L2.start N (.ref y :: vs)).length = ctx.length := by
      rw [l1]; show (List.map some (V.ref y :: vs) ++ List.replicate (N.length - (V.ref y :: vs).length) none).length = _
      rw [List.length_append, List.length_map, List.length_replicate, List.length_cons]; omega
    exact Stt.fresh sm n1 n2 n3 hl fun i sf e => ini.get i sf e
  · generalize m d = z
    cases z with
    | err e => rfl
    | stuck => rfl
    | ok q =>
      refine ⟨q, rfl, fun I' H' σ' ⟨ctx, g⟩ => ?_⟩
      obtain ⟨fs, I2, e1, hf, g2, sm2, e2⟩ := g.freeze
      exact ⟨I2, g2.fm, y, dx, fs, rfl, e2, FldR.up sm2 hf⟩
/-! ### tuples of kinds -/
def rTu (R : Hp → Hp → List V → δ → Prop) : Rp δ := fun I v x => ∃ l vs, v = .ref l ∧ I l = some (.tup vs) ∧ R I I vs x
instance [m : MoR R] : Mo (rTu R) := ⟨fun s ⟨l, vs, e, h, p⟩ => ⟨l, vs, e, s _ _ h, m.up s s p⟩⟩
/-- arguments that lean on the frozen heap alone -/
class Ice (R : Hp → Hp → List V → δ → Prop) : Prop where
  ice : ∀ {I H H' : Hp} {vs : List V} {x : δ}, R I H vs x → R I H' vs x
instance : Ice aNil := ⟨fun h => h⟩
instance [m : Ice R] : Ice (aCons (rp r) R) := ⟨fun ⟨v, ws, e, h, h'⟩ => ⟨v, ws, e, h, m.ice h'⟩⟩
theorem JE.tupD {k : Nat} {x1} [m : MoR R] [ic : Ice R] (j : JA X I0 H0 W ctx mem es md R) (hk : ∀ I H vs x, R I H vs x → vs.length = k) (hz : k ≤ sizeLine := by decide) : JE X I0 H0 W ctx mem (.Tuple es x1 pos) md (rp (rTu R)) := fun I H σ Q st p => by
  refine w_tup (j I H σ _ st ?_)
  cases md with
  | ok x =>
    intro I1 H1 vs f1 r1
    refine ⟨by rw [hk _ _ _ _ r1]; exact hz, fun q hq => ?_⟩
    have fn := Fm.new (o := .tup vs) f1.ih hq
    exact p _ _ _ (f1.trans fn) ⟨q, vs, rfl, upd_same, m.up fn.i fn.i (ic.ice r1)⟩
  | err e => exact p
  | stuck => exact p
/-- the k-th item -/
def AtR (R : Hp → Hp → List V → δ → Prop) (k : Nat) (r : Rp α) (get : δ → α) : Prop := ∀ I vs x, R I I vs x → ∃ w, vs[k]? = some w ∧ r I w (get x)
theorem AtR.zero : AtR (aCons (rp r) R) 0 r (fun x => x.1) := fun I vs x ⟨v, ws, e, h, _⟩ => ⟨v, by rw [e]; rfl, h⟩
theorem AtR.succ {k : Nat} {get : δ → α} (h : AtR R k r get) : AtR (aCons rb R) (k + 1) r (fun x => get x.2) := fun I vs x ⟨v, ws, e, _, h'⟩ => by
  obtain ⟨w, h1, h2⟩ := h I ws x.2 h'
  exact ⟨w, by rw [e]; exact h1, h2⟩
theorem atI_nat {xs : List V} {k : Nat} {w : V} (h : xs[k]? = some w) : atI xs (k : Int) = some w := by
  have hl := (List.getElem?_eq_some_iff.mp h).1
  unfold atI ixN
  rw [if_pos (by omega), if_pos (by omega), Option.bind_some, Int.toNat_natCast]
  exact h
theorem JE.ixD (k : Nat) {j : Nat} {i : Int} {get : δ → α} [mo : Mo r] (ja : JE X I0 H0 W ctx mem a md (rp (rTu R))) (hat : AtR R k r get) (hi : i = (k : Int) := by rfl) (hs : PlainIx (.Constant (.int i) j p2) := by exact fun _ _ => rfl) :
    JE X I0 H0 W ctx mem (.Subscript a (.Constant (.int i) j p2) pos) (md.bind fun x => .ok (get x)) (rp r) := fun I H σ Q st p => by
  refine PE.w (pe_ix ix_tup pe_W pe_W hs) (ja I H σ _ st ?_)
  cases md with
  | ok x =>
    rintro I1 H1 u f1 ⟨l, vs, rfl, hl, pr⟩
    obtain ⟨w, h1, h2⟩ := hat I1 vs x pr
    exact w_int ⟨l, vs, i, w, rfl, rfl, SqT.of (f1.ih _ _ hl), by rw [hi]; exact atI_nat h1, p I1 H1 w f1 h2⟩
  | err e => exact p
  | stuck => exact p
end
def fnX (K : PySem.W.Frag) (a : Addr) : FnW := match K.lookup a with
  | some ⟨_, _, .func fd, _⟩ => some (fd.name, fd.qualname, fd.params, fd.body, fd.scope, fd.globals, fd.closure, fd.builtins)
  | _ => none
structure DX where
  at_ : PySem.W.Frag → Addr
  name : Str
  qual : Str
  params : Arguments
  body : List Stmt
  scope : Scope
  dfl : List Dv
  kwd : List (Str × Dv)
def DX.val (d : DX) : FnW := some (d.name, d.qual, d.params, .stmts d.body, d.scope, mainGlobals, [], builtinsNs)
def DX.ok (d : DX) (K : PySem.W.Frag) : Bool := PySem.W.keepIn K (.ref (d.at_ K)) && (match K.lookup (d.at_ K) with
  | some ⟨_, _, .func fd, _⟩ => PySem.W.codeIn K fd.code d.qual && (dflB K fd.defaults (d.dfl.map (Dv.v K)) && kwdB K fd.kwdefaults (d.kwd.map fun q => (q.1, q.2.v K)))
  | _ => false)
theorem DX.funD {K : PySem.W.Frag} {d : DX} (e : fnX K (d.at_ K) = d.val) (c : d.ok K = true) : ∃ fd, FunD K d.name d.qual d.params d.body d.scope (d.dfl.map (Dv.v K)) (d.kwd.map fun q => (q.1, q.2.v K)) (d.at_ K) fd := by
  obtain ⟨kp, c2⟩ := ba c
  unfold fnX at e
  generalize ha : d.at_ K = ad at *
  cases q : K.lookup ad with
  | none => rw [q] at c2; cases c2
  | some ob =>
    obtain ⟨oc, od, dt, osl⟩ := ob
    rw [q] at c2 e
    cases dt with
    | func fd =>
      obtain ⟨n1, n2, n3, n4, n5, n6, n7, n8, n9, n10, n11, n12, n13, n14, n15⟩ := fd
      have e2 : (some (n1, n2, n3, n4, n5, n6, n7, n15) : FnW) = some (d.name, d.qual, d.params, .stmts d.body, d.scope, mainGlobals, [], builtinsNs) := e
      simp only [Option.some.injEq, Prod.mk.injEq] at e2
      obtain ⟨h1, h2, h3, h4, h5, h6, h7, h8⟩ := e2
      subst h1 h2 h3 h4 h5 h6 h7 h8
      have c3 : (PySem.W.codeIn K n13 d.qual && (dflB K n8 (d.dfl.map (Dv.v K)) && kwdB K n9 (d.kwd.map fun q => (q.1, q.2.v K)))) = true := c2
      obtain ⟨k1, k2⟩ := ba c3
      obtain ⟨k3, k4⟩ := ba k2
      exact ⟨_, ⟨oc, od, n8, n9, n10, n11, n12, n13, n14, osl, rfl, q, k1, dflB_ok k3, kwdB_ok k4⟩, kp⟩
    | _ => cases c2
def obsY (fs : List FB) (fn : List DX) (K : PySem.W.Frag) : AlX := ((fs.all fun f => f K) && fn.all fun d => d.ok K, fn.map fun d => fnX K (d.at_ K))
def valY (fn : List DX) : AlX := (true, fn.map DX.val)
def SaysY (fs : List FB) (fn : List DX) (K : PySem.W.Frag) : Prop := obsY fs fn K = valY fn
theorem SaysY.fact {fs : List FB} {fn : List DX} {K : PySem.W.Frag} (c : SaysY fs fn K) (i : Nat) {f : FB} (h : fs[i]? = some f := by rfl) : f K = true := by
  have c1 := (ba (show ((fs.all fun f => f K) && fn.all fun d => d.ok K) = true from congrArg (fun z : AlX => z.1) c)).1
  exact List.all_eq_true.mp c1 f (List.mem_of_getElem? h)
theorem SaysY.def_ {fs : List FB} {fn : List DX} {K : PySem.W.Frag} (c : SaysY fs fn K) (i : Nat) {d : DX} (h : fn[i]? = some d := by rfl) : ∃ fd, FunD K d.name d.qual d.params d.body d.scope (d.dfl.map (Dv.v K)) (d.kwd.map fun q => (q.1, q.2.v K)) (d.at_ K) fd := by
  have c2 := (ba (show ((fs.all fun f => f K) && fn.all fun d => d.ok K) = true from congrArg (fun z : AlX => z.1) c)).2
  have e : fn.map (fun d => fnX K (d.at_ K)) = fn.map DX.val := congrArg (fun z : AlX => z.2) c
  have e2 : (fn.map fun d => fnX K (d.at_ K))[i]? = (fn.map DX.val)[i]? := by rw [e]
  rw [List.getElem?_map, List.getElem?_map, h] at e2
  exact DX.funD (Option.some.inj e2) (List.all_eq_true.mp c2 d (List.mem_of_getElem? h))
end L2.Tr

namespace L2.Tr
open PySem PySem.Spec PyProof.Rows He
section
variable {α β γ δ S L : Type} {X : Cx} {I0 H0 I H : Hp} {W : WX} {Kx : KnowsX} {G : Knows} {ctx : List (Option SF)} {mem : List MF} {e a b c o : Expr} {es : List Expr} {st : Stmt} {ss s1 : List Stmt} {pos pos' p2 : Pos} {n : Str} {σ : St} {Q : VK} {r : Rp α} {ra : Ra α} {rb : Ra β} {rc : Ra γ} {rr : Ra γ} {ma : Res α} {mb : Res β} {mc : Res Bool} {md : Res δ} {R : Hp → Hp → List V → δ → Prop} {K : PySem.W.Frag}
theorem JN.raiseP {x m : Str} {j : Nat} {p1 p2 p3 : Pos} {G' : S → Knows} (hc : X.calm = true) (tk : L2N.Takes X W) (ep : ExcP X.K X.mg x) (hx : ∀ I H σ d, Stt I0 H0 ctx mem I H σ → Fr H0 d → Kx I H σ d) (hg : Gl X x := by rfl) (hdb : (x == ("__debug__" : Str)) = false := by decide) :
    JN X W Kx (Stt I0 H0 ctx mem) (.Raise (some (.Call (.Name x p1) [.Constant (.str m) j p2] [] p3)) none pos :: ss) (.err ⟨x, []⟩ : Res S) G' := fun I H σ D g p =>
  b_cons (J1.raiseP (S := S) (G' := G') hc tk ep hx hg hdb I H σ _ g p)
theorem JN.ifT {m1 m2 : Res S} {G' : S → Knows} (j : JT X I0 H0 W ctx mem c mc) (k1 : JN X W Kx (Stt I0 H0 ctx mem) s1 m1 (fun _ _ _ _ => False)) (k2 : JN X W Kx (Stt I0 H0 ctx mem) ss m2 G') (hx : ∀ I H σ d, Stt I0 H0 ctx mem I H σ → Fr H0 d → Kx I H σ d) :
    JN X W Kx (Stt I0 H0 ctx mem) (.If c s1 [] pos :: ss) (mc.bind fun x => if x = true then m1 else m2) G' := fun I H σ D g p => by
  refine b_cons (s_if (j I H σ _ g ?_))
  cases mc with
  | ok x =>
    intro I1 H1 v f r y hy
    cases r; cases hy
    cases x with
    | true =>
      refine iteT (b_mono (k1 I1 H1 σ { D with nx := fun _ _ => False } (g.step f) ?_) (fun _ _ z => z.elim) (fun _ _ z => z) (fun _ _ z => z) (fun _ _ z => z))
      have p1 : PostB X W Kx I1 m1 _ _ := PostB.up p f.i
      cases m1 with
      | ok a => exact fun _ _ _ _ z => z
      | err e => exact p1
      | stuck => exact p1
    | false => exact iteF (b_nil (k2 I1 H1 σ D (g.step f) (PostB.up p f.i)))
  | err e => exact fun I' H' c d f x => p I' H' σ c d (hx _ _ _ _ (g.step f) (x.1.back g.fm.h)) x.2
  | stuck => exact p
/-! ### comprehensions: what may be raised within is handed on -/
theorem JM.lcT {iter elt : Expr} {rb : Rp β} (j : Nat) [mo : Mo r] [mb : Mo rb] {m : Res (List β)} {f : β → Res α} {scope : Scope} (ji : JI X I0 H0 W ctx mem (.Name n pos') iter m rb)
    (je : ∀ (s : Shared) (H : Hp) (C : Addr) (cl : List (Str × Addr)) (fp : List Addr) (D : Addr) (acc : List α) (x : β), L2N.Takes (X.blkC s H scope (compEnvC scope cl C X.env) fp) W0 → JE (X.blkC s H scope (compEnvC scope cl C X.env) fp) I0 H0 W0 (ctx.set j (some ⟨rb, x⟩)) (MF.lst D r acc :: mem) elt (f x) (rp r))
    (hN : X.N.Nodup) (ok : BlkOk X.N X.env.scope scope [(n, j)]) (hj : X.N[j]? = some n := by rfl) (hc : Cool X := by first | exact .inl rfl | exact .inr ⟨_, by assumption, List.mem_cons_self⟩) (hsc : Loc (relabel scope X.env) n := by first | exact Or.inl rfl | exact Or.inr rfl) (hfn : (scope.names.lookup n == some .cell) = true ∨ (relabel scope X.env).names.lookup n = some .local := by first | exact .inr rfl | exact .inl rfl) (hs : ∀ x, foldedSetIterable iter X.env x = pure x := by intro _; rfl) :
    JM X I0 H0 W ctx mem (.ListComp elt [⟨.Name n pos', iter, [], 0⟩] scope pos) (m.bind fun xs => lcR f xs) r := JM.lc j ji (fun s H C cl fp D acc x => je s H C cl fp D acc x takes0) hN ok hj hc hsc hfn hs
theorem J1.setLcT {iter elt : Expr} {rb : Rp β} (i j : Nat) {y : Str} {py spos : Pos} [mo : Mo r] [mb : Mo rb] {m : Res (List β)} {f : β → Res α} {scope : Scope} (ji : JI X I0 H0 W ctx mem (.Name n pos') iter m rb)
    (je : ∀ (s : Shared) (H : Hp) (C : Addr) (cl : List (Str × Addr)) (fp : List Addr) (D : Addr) (acc : List α) (x : β), L2N.Takes (X.blkC s H scope (compEnvC scope cl C X.env) fp) W0 → JE (X.blkC s H scope (compEnvC scope cl C X.env) fp) I0 H0 W0 (ctx.set j (some ⟨rb, x⟩)) (MF.lst D r acc :: mem) elt (f x) (rp r))
    (hx : ∀ I H σ d, Stt I0 H0 ctx mem I H σ → Fr H0 d → Kx I H σ d) (hN : X.N.Nodup) (ok : BlkOk X.N X.env.scope scope [(n, j)]) (hi : X.N[i]? = some y := by rfl) (hyl : X.env.scope.names.lookup y = some .local := by rfl)
    (hsw : swapsWith (.ListComp elt [⟨.Name n pos', iter, [], 0⟩] scope pos) (some (.Name y py)) spos.line X.env = pure true := by rfl) (hj : X.N[j]? = some n := by rfl) (hc : Cool X := by first | exact .inl rfl | exact .inr ⟨_, by assumption, List.mem_cons_self⟩) (hsc : Loc (relabel scope X.env) n := by first | exact Or.inl rfl | exact Or.inr rfl) (hfn : (scope.names.lookup n == some .cell) = true ∨ (relabel scope X.env).names.lookup n = some .local := by first | exact .inr rfl | exact .inl rfl) (hs : ∀ x, foldedSetIterable iter X.env x = pure x := by intro _; rfl) :
    J1 X W Kx (Stt I0 H0 ctx mem) (.Assign [.Name y py] (.ListComp elt [⟨.Name n pos', iter, [], 0⟩] scope pos) spos) (m.bind fun xs => lcR f xs) (fun xs I H σ => ∃ l, Stt I0 H0 (ctx.set i (some ⟨rRef l, ()⟩)) (MF.lst l r xs :: mem) I H σ) :=
  J1.setLc i j ji (fun s H C cl fp D acc x => je s H C cl fp D acc x takes0) hx hN ok hi hyl hsw hj hc hsc hfn hs
end
/-! ### a comprehension's names -/
def blkB (N : List Str) (sc scope : Scope) (own : List (Str × Nat)) : Bool := decide (scope.kind = .function) && ((scope.names.all fun y => decide (scope.names.lookup y.1 = some y.2)) && ((own.all fun p => decide (N[p.2]? = some p.1)) &&
  ((scope.names.all fun y => !decide (y.2 = .free) || (decide (sc.names.lookup y.1 = some .cell) || decide (sc.names.lookup y.1 = some .free))) && (scope.names.all fun y => !(decide (y.2 = .local) || decide (y.2 = .cell)) || ((own.map (·.1)).contains y.1 || !N.contains y.1)))))
theorem blkok_of {N : List Str} {sc scope : Scope} {own : List (Str × Nat)} (h : blkB N sc scope own = true) : BlkOk N sc scope own := by
  obtain ⟨h1, h⟩ := ba h
  obtain ⟨h2, h⟩ := ba h
  obtain ⟨h3, h⟩ := ba h
  obtain ⟨h4, h5⟩ := ba h
  refine ⟨of_decide_eq_true h1, fun y hy => of_decide_eq_true (List.all_eq_true.mp h2 y hy), fun p hp => of_decide_eq_true (List.all_eq_true.mp h3 p hp), fun y hy e => ?_, fun y hy e => ?_⟩
  · have z := List.all_eq_true.mp h4 y hy
    rw [decide_eq_true e, Bool.not_true, Bool.false_or, Bool.or_eq_true] at z
    exact z.imp of_decide_eq_true of_decide_eq_true
  · have z := List.all_eq_true.mp h5 y hy
    have e2 : (decide (y.2 = .local) || decide (y.2 = .cell)) = true := by
      rcases e with e | e
      · rw [decide_eq_true e, Bool.true_or]
      · rw [decide_eq_true e, Bool.or_true]
    rw [e2, Bool.not_true, Bool.false_or, Bool.or_eq_true] at z
    rcases z with z | z
    · exact .inl (by simpa using z)
    · exact .inr (by simpa using z)
end L2.Tr

namespace L2.Tr
open PySem PySem.Spec PyProof.Rows
/-! ### plain Lean: mirrors that end well -/
theorem Res.okb {α β : Type} (a : α) (f : α → Res β) : (Res.ok a).bind f = f a := by
  have h : ∀ m : Res α, m = .ok a → m.bind f = f a := fun m e => by subst e; rfl
  exact h _ rfl
theorem Fl.okb_nx {S T L γ : Type} (f : S → Res (Fl T L γ)) (s : S) : Fl.then f (.nx s) = f s := by
  have h : ∀ m : Fl S L γ, m = .nx s → Fl.then f m = f s := fun m e => by subst e; rfl
  exact h _ rfl
theorem Fl.okb_out {S L γ : Type} (f : S → Res γ) (s : S) : Fl.out (L := L) f (.nx s) = f s := by
  have h : ∀ m : Fl S L γ, m = .nx s → Fl.out f m = f s := fun m e => by subst e; rfl
  exact h _ rfl
section
variable {α β γ S L : Type} {m : Res α} {P P' : α → Prop} {f : α → Res β} {Q : β → Prop}
def Ok (m : Res α) (P : α → Prop) : Prop := ∃ a, m = .ok a ∧ P a
theorem Ok.ok {a : α} (h : P a) : Ok (.ok a) P := ⟨a, rfl, h⟩
theorem Ok.bind (h : Ok m P) (k : ∀ a, P a → Ok (f a) Q) : Ok (m.bind f) Q := by
  obtain ⟨a, e, p⟩ := h
  rw [e]; exact k a p
theorem Ok.mono (h : Ok m P) (k : ∀ a, P a → P' a) : Ok m P' := by
  obtain ⟨a, e, p⟩ := h
  exact ⟨a, e, k a p⟩
theorem Ok.of {a : α} (e : m = .ok a) (h : P a) : Ok m P := ⟨a, e, h⟩
theorem Ok.eq {a : α} (h : Ok m (fun x => x = a)) : m = .ok a := by
  obtain ⟨b, e, p⟩ := h
  rw [e, p]
theorem Ok.guard {p : Prop} [Decidable p] (hp : p) (h : Ok m P) : Ok (Res.guard p m) P := by rw [Res.guard_pos hp]; exact h
/-- a loop -/
theorem forS_ok {f : β → S → Res S} (Inv : Nat → S → Prop) : ∀ {xs : List β} {k : Nat} {s : S}, Inv k s → (∀ i x s, xs[i]? = some x → Inv (k + i) s → Ok (f x s) (Inv (k + i + 1))) → Ok (forS f xs s) (Inv (k + xs.length))
  | [], k, s, h, _ => .ok h
  | x :: xs, k, s, h, hf => by
    refine Ok.bind (hf 0 x s rfl h) fun s' h' => ?_
    have := forS_ok (f := f) Inv (xs := xs) (k := k + 1) (s := s') h' fun i y t e ht => by
      have := hf (i + 1) y t (by simpa using e) (by rw [show k + (i + 1) = k + 1 + i by omega]; exact ht)
      rw [show k + 1 + i + 1 = k + (i + 1) + 1 by omega]; exact this
    rw [List.length_cons, show k + (xs.length + 1) = k + 1 + xs.length by omega]
    exact this
theorem Ok.forS {f : β → S → Res S} {xs : List β} {s : S} (Inv : Nat → S → Prop) (h0 : Inv 0 s) (hf : ∀ i x s, xs[i]? = some x → Inv i s → Ok (f x s) (Inv (i + 1))) : Ok (Tr.forS f xs s) (Inv xs.length) := by
  have := forS_ok (f := f) Inv (xs := xs) (k := 0) h0 fun i x t e ht => by rw [Nat.zero_add] at ht ⊢; exact hf i x t e ht
  rwa [Nat.zero_add] at this
/-- what a turn of a loop with early ends hands on -/
def FlP (N : S → Prop) (B : S → Prop) (R : γ → Prop) : Fl S S γ → Prop
  | .nx s => N s
  | .ct s => N s
  | .bk s => B s
  | .rt y => R y
def FlQ (N : S → Prop) (R : γ → Prop) : Fl S L γ → Prop
  | .nx s => N s
  | .rt y => R y
  | _ => False
theorem forG_ok {L : Type} {f : β → S → Res (Fl S S γ)} (Inv : Nat → S → Prop) (B : S → Prop) (R : γ → Prop) : ∀ {xs : List β} {k : Nat} {s : S}, Inv k s → (∀ i x s, xs[i]? = some x → Inv (k + i) s → Ok (f x s) (FlP (Inv (k + i + 1)) B R)) → Ok (forG f xs s : Res (Fl S L γ)) (FlQ (fun s => Inv (k + xs.length) s ∨ B s) R)
  | [], k, s, h, _ => .ok (.inl h)
  | x :: xs, k, s, h, hf => by
    refine Ok.bind (hf 0 x s rfl h) fun r hr => ?_
    have next : ∀ s', Inv (k + 1) s' → Ok (forG f xs s' : Res (Fl S L γ)) (FlQ (fun s => Inv (k + (x :: xs).length) s ∨ B s) R) := fun s' h' => by
      have : Ok (forG f xs s' : Res (Fl S L γ)) _ := forG_ok (f := f) Inv B R (xs := xs) (k := k + 1) (s := s') h' fun i y t e ht => by
        have := hf (i + 1) y t (by simpa using e) (by rw [show k + (i + 1) = k + 1 + i by omega]; exact ht)
        rw [show k + 1 + i + 1 = k + (i + 1) + 1 by omega]; exact this
      rw [List.length_cons, show k + (xs.length + 1) = k + 1 + xs.length by omega]
      exact this
    cases r with
    | nx s' => exact next s' hr
    | ct s' => exact next s' hr
    | bk s' => exact .ok (.inr hr)
    | rt y => exact .ok hr
theorem Ok.forG {f : β → S → Res (Fl S S γ)} {xs : List β} {s : S} (Inv : Nat → S → Prop) (B : S → Prop) (R : γ → Prop) (h0 : Inv 0 s) (hf : ∀ i x s, xs[i]? = some x → Inv i s → Ok (f x s) (FlP (Inv (i + 1)) B R)) : Ok (Tr.forG f xs s : Res (Fl S L γ)) (FlQ (fun s => Inv xs.length s ∨ B s) R) := by
  have := forG_ok (L := L) (f := f) Inv B R (xs := xs) (k := 0) h0 fun i x t e ht => by rw [Nat.zero_add] at ht ⊢; exact hf i x t e ht
  rwa [Nat.zero_add] at this
/-- a loop that only tests: no early end -/
theorem forG_all {f : β → Unit → Res (Fl Unit Unit γ)} {xs : List β} (hf : ∀ x, x ∈ xs → f x () = .ok (.nx ())) : (Tr.forG f xs () : Res (Fl Unit L γ)) = .ok (.nx ()) := by
  induction xs with
  | nil => rfl
  | cons x xs ih =>
    show (f x ()).bind _ = _
    rw [hf x (List.mem_cons_self)]
    exact ih fun y hy => hf y (List.mem_cons_of_mem _ hy)
theorem Ok.whileM {c : S → Res Bool} {f : S → Res S} (Inv : S → Prop) (E : S → Prop) (μ : S → Nat) (hc : ∀ s, Inv s → Ok (c s) fun b => (b = true → Ok (f s) fun s' => Inv s' ∧ μ s' < μ s) ∧ (b = false → E s)) : ∀ {n : Nat} {s : S}, Inv s → μ s < n → Ok (Tr.whileM c f n s) E
  | 0, _, _, h => absurd h (Nat.not_lt_zero _)
  | n + 1, s, hi, hm => by
    refine Ok.bind (hc s hi) fun b hb => ?_
    cases b with
    | true =>
      rw [if_pos rfl]
      exact Ok.bind (hb.1 rfl) fun s' h' => Ok.whileM Inv E μ hc h'.1 (by omega)
    | false => rw [if_neg (by decide)]; exact .ok (hb.2 rfl)
/-! comprehensions -/
theorem lcM_eq {f : β → Res α} {g : β → α} : ∀ {xs : List β}, (∀ x, x ∈ xs → f x = .ok (g x)) → lcM f xs = .ok (xs.map g)
  | [], _ => rfl
  | x :: xs, h => by
    unfold lcM
    rw [h x (List.mem_cons_self), lcM_eq (xs := xs) fun y hy => h y (List.mem_cons_of_mem _ hy)]
    rfl
theorem lcR_eq {f : β → Res α} {g : β → α} {xs : List β} (hl : xs.length ≤ sizeLine) (h : ∀ x, x ∈ xs → f x = .ok (g x)) : lcR f xs = .ok (xs.map g) := by
  unfold lcR
  rw [Res.guard_pos hl, lcM_eq h]
theorem lcM_ok {f : β → Res α} {P : β → α → Prop} : ∀ {xs : List β}, (∀ x, x ∈ xs → Ok (f x) (P x)) → Ok (lcM f xs) fun ys => ys.length = xs.length ∧ ∀ (i : Nat) x y, xs[i]? = some x → ys[i]? = some y → P x y
  | [], _ => .ok ⟨rfl, fun i x y e => by simp at e⟩
  | x :: xs, h => by
    unfold lcM
    obtain ⟨y, e, p⟩ := h x (List.mem_cons_self)
    rw [e]
    refine Ok.bind (lcM_ok (xs := xs) fun z hz => h z (List.mem_cons_of_mem _ hz)) fun ys ⟨h1, h2⟩ => .ok ⟨by rw [List.length_cons, List.length_cons, h1], fun i a b ea eb => ?_⟩
    cases i with
    | zero => simp at ea eb; rw [← ea, ← eb]; exact p
    | succ i => exact h2 i a b (by simpa using ea) (by simpa using eb)
theorem Ok.lcR {f : β → Res α} {P : β → α → Prop} {xs : List β} (hl : xs.length ≤ sizeLine) (h : ∀ x, x ∈ xs → Ok (f x) (P x)) : Ok (Tr.lcR f xs) fun ys => ys.length = xs.length ∧ ∀ (i : Nat) x y, xs[i]? = some x → ys[i]? = some y → P x y := .guard hl (lcM_ok h)
/-! ranges, indices -/
theorem rngI_len (lo : Int) (n : Nat) : (rngI lo n).length = n := by simp [rngI]
theorem rngI_get {lo : Int} {n i : Nat} {x : Int} (h : (rngI lo n)[i]? = some x) : x = lo + (i : Int) ∧ i < n := by
  have hl := (List.getElem?_eq_some_iff.mp h).1
  rw [rngI_len] at hl
  refine ⟨?_, hl⟩
  unfold rngI at h
  rw [List.getElem?_map, List.getElem?_range hl] at h
  simpa using h.symm
theorem rngI_mem {lo : Int} {n : Nat} {x : Int} (h : x ∈ rngI lo n) : lo ≤ x ∧ x < lo + (n : Int) := by
  obtain ⟨i, e⟩ := List.getElem?_of_mem h
  obtain ⟨e1, e2⟩ := rngI_get e
  omega
theorem rangeM1_ok {hi : Int} (h : -(2 ^ 62) ≤ hi ∧ hi < 2 ^ 62) : rangeM1 hi = .ok (rngI 0 hi.toNat) := Res.guard_pos h _
theorem rngI_eq (n : Nat) : rngI 0 n = (List.range n).map fun (i : Nat) => (i : Int) := by simp [rngI]
theorem atM_get {xs : List α} {i : Int} {x : α} (h0 : 0 ≤ i) (h : xs[i.toNat]? = some x) : atM xs i = .ok x := by
  have e := atM_nat h
  rwa [Int.toNat_of_nonneg h0] at e
theorem atM_last {xs : List α} (h : 0 < xs.length) : atM xs (-1) = .ok (xs[xs.length - 1]'(by omega)) := by
  unfold atM atI ixN
  rw [if_neg (by omega), if_pos (by omega), Option.bind_some]
  have : (-1 + (xs.length : Int)).toNat = xs.length - 1 := by omega
  rw [this, List.getElem?_eq_getElem (by omega)]
end
/-! ### whole numbers by sizes -/
theorem mulI_le {a b : Int} {s t : Nat} (ha : a.natAbs ≤ 2 ^ s) (hb : b.natAbs ≤ 2 ^ t) (hs : s + t < 1000000) : mulI a b = .ok (a * b) := mulI_ok (by
  have h1 := log2_mono ha
  have h2 := log2_mono hb
  rw [Nat.log2_two_pow] at h1 h2
  omega)
theorem powI_le {x : Int} {y s : Nat} (h : x.natAbs ≤ 2 ^ s) (hs : (s + 1) * y ≤ 2 ^ 27) : powI x (y : Int) = .ok (x ^ y) := by
  have h1 := log2_mono h
  rw [Nat.log2_two_pow] at h1
  unfold powI
  rw [Res.guard_pos ⟨by omega, .inr (by rw [Int.toNat_natCast]; exact Nat.le_trans (Nat.mul_le_mul_right y (by omega)) hs)⟩]
  rfl
theorem fdivI_pos {x y : Int} (h : 0 < y) (hl : y < 2 ^ 4000) : fdivI x y = .ok (x / y) := by
  have e : y.natAbs ≤ 2 ^ 4000 := by omega
  have h1 := log2_mono e
  rw [Nat.log2_two_pow] at h1
  rw [fdivI_ok (by omega) (by omega), Int.fdiv_eq_ediv_of_nonneg _ (by omega)]
theorem modI_pos {x y : Int} (h : 0 < y) : modI x y = .ok (x % y) := by
  rw [modI_ok (by omega), Int.fmod_eq_emod_of_nonneg _ (by omega)]
/-! ### fractions z / D with a whole z of at most B -/
def DB (D B : Nat) (q : Rat) : Prop := 0 < D ∧ ∃ z : Int, q = Rat.divInt z (D : Int) ∧ z.natAbs ≤ B
theorem DB.fits {D B : Nat} {q : Rat} (h : DB D B q) (hD : D ≤ 2 ^ 4000) (hB : B ≤ 2 ^ 4000) : fits q := by
  obtain ⟨h0, z, e, hz⟩ := h
  rw [e]
  exact Sz.fits (sz_divInt (s := 4000) (by omega) (by rw [Int.natAbs_natCast]; exact hD))
theorem DB.mono {D B C : Nat} {q : Rat} (h : DB D B q) (hB : B ≤ C) : DB D C q := let ⟨h0, z, e, hz⟩ := h; ⟨h0, z, e, Nat.le_trans hz hB⟩
theorem DB.up {D B k : Nat} {q : Rat} (h : DB D B q) (hk : 0 < k) : DB (D * k) (B * k) q := by
  obtain ⟨h0, z, e, hz⟩ := h
  refine ⟨Nat.mul_pos h0 hk, z * (k : Int), ?_, ?_⟩
  · rw [e, Int.natCast_mul, Rat.divInt_mul_right (by omega)]
  · rw [Int.natAbs_mul, Int.natAbs_natCast]; exact Nat.mul_le_mul_right k hz
theorem DB.dvd {D E B : Nat} {q : Rat} (h : DB D B q) (hd : D ∣ E) (hE : 0 < E) : DB E (B * (E / D)) q := by
  obtain ⟨k, e⟩ := hd
  have h0 := h.1
  have hk : 0 < k := by
    rcases Nat.eq_zero_or_pos k with z | z
    · subst z; omega
    · exact z
  rw [e, Nat.mul_div_cancel_left k h0]
  exact h.up hk
theorem DB.add {D B C : Nat} {x y : Rat} (h : DB D B x) (k : DB D C y) : DB D (B + C) (x + y) := by
  obtain ⟨h0, z, e, hz⟩ := h
  obtain ⟨_, u, e', hu⟩ := k
  refine ⟨h0, z + u, ?_, ?_⟩
  · rw [e, e', Rat.divInt_add_divInt _ _ (by omega) (by omega), ← Int.add_mul, Rat.divInt_mul_right (by omega)]
  · have := Int.natAbs_add_le z u; omega
theorem DB.neg {D B : Nat} {x : Rat} (h : DB D B x) : DB D B (-x) := by
  obtain ⟨h0, z, e, hz⟩ := h
  exact ⟨h0, -z, by rw [e, Rat.neg_divInt], by rw [Int.natAbs_neg]; exact hz⟩
theorem DB.sub {D B C : Nat} {x y : Rat} (h : DB D B x) (k : DB D C y) : DB D (B + C) (x - y) := by rw [Rat.sub_eq_add_neg]; exact h.add k.neg
theorem DB.mul {D E B C : Nat} {x y : Rat} (h : DB D B x) (k : DB E C y) : DB (D * E) (B * C) (x * y) := by
  obtain ⟨h0, z, e, hz⟩ := h
  obtain ⟨h1, u, e', hu⟩ := k
  refine ⟨Nat.mul_pos h0 h1, z * u, ?_, ?_⟩
  · rw [e, e', Rat.divInt_mul_divInt, Int.natCast_mul]
  · rw [Int.natAbs_mul]; exact Nat.mul_le_mul hz hu
theorem DB.int (n : Int) : DB 1 n.natAbs (n : Rat) := ⟨by decide, n, (Rat.num_divInt_den (n : Rat)).symm, Nat.le_refl _⟩
theorem DB.zero {D : Nat} (h : 0 < D) (B : Nat) : DB D B 0 := ⟨h, 0, by rw [Rat.zero_divInt], by simp⟩
theorem DB.one : DB 1 1 1 := DB.int 1
theorem DB.mk {t b : Int} (h : 0 < b) : DB b.toNat t.natAbs (Rat.divInt t b) := ⟨by omega, t, by rw [Int.toNat_of_nonneg (by omega)], Nat.le_refl _⟩
theorem DB.self (q : Rat) : DB q.den q.num.natAbs q := ⟨q.den_pos, q.num, (Rat.num_divInt_den q).symm, Nat.le_refl _⟩
end L2.Tr
namespace L2.Tr
open PySem PySem.Spec PyProof.Rows
theorem size_le {n : Nat} (h : n ≤ 1000000) : n ≤ sizeLine := by rw [sizeLine_eq]; omega
theorem appM_ok {α : Type} {xs : List α} {y : α} (h : xs.length < 1000000) : appM xs y = .ok (xs ++ [y]) := Res.guard_pos (by rw [sizeLine_eq]; omega) _
theorem catM_ok {α : Type} {xs ys : List α} (h : xs.length + ys.length ≤ 1000000) : catM xs ys = .ok (xs ++ ys) := Res.guard_pos (size_le h) _
theorem repM_one {α : Type} {x : α} {k : Int} (h0 : 0 ≤ k) (h : k ≤ 1000000) : repM [x] k = .ok (List.replicate k.toNat x) := by
  unfold repM
  rw [Res.guard_pos ⟨by omega, by omega, by rw [sizeLine_eq]; simp; omega⟩]
  congr 1
  generalize k.toNat = n
  induction n with
  | zero => rfl
  | succ n ih => rw [List.replicate_succ, List.flatten_cons, ih]; rfl
theorem putM_ok {α : Type} {xs : List α} {k : Int} {y : α} (h0 : 0 ≤ k) (h : k.toNat < xs.length) : putM xs k y = .ok (xs.set k.toNat y) := by
  unfold putM ixN
  rw [if_pos h0, if_pos (by omega)]
/-- a fraction handed over as two whole numbers -/
abbrev Pr := Int × Int × Unit
def pv (p : Pr) : Rat := Rat.divInt p.1 p.2.1
/-- of at most 2 ^ s -/
def PB (s : Nat) (p : Pr) : Prop := p.1.natAbs ≤ 2 ^ s ∧ 0 < p.2.1 ∧ p.2.1.natAbs ≤ 2 ^ s
theorem PB.sz {s : Nat} {p : Pr} (h : PB s p) : Sz s (pv p) := sz_divInt h.1 h.2.2
theorem PB.mono {s t : Nat} {p : Pr} (h : PB s p) (k : s ≤ t) : PB t p := ⟨Nat.le_trans h.1 (Nat.pow_le_pow_right (by decide) k), h.2.1, Nat.le_trans h.2.2 (Nat.pow_le_pow_right (by decide) k)⟩
end L2.Tr

namespace L2.Tr
open PySem PySem.Spec PyProof.Rows He
section
variable {α β γ δ ζ S L : Type} {X : Cx} {I0 H0 I H : Hp} {W : WX} {Kx : KnowsX} {G : Knows} {ctx : List (Option SF)} {mem : List MF} {e a b c o ix : Expr} {es : List Expr} {st : Stmt} {ss s1 : List Stmt} {pos pos' p2 : Pos} {n : Str} {σ : St} {Q : VK} {r : Rp α} {ra : Ra α} {rb : Ra β} {rc : Ra γ} {rr : Ra γ} {ma : Res α} {mb : Res β} {mc : Res Bool} {md : Res δ} {R : Hp → Hp → List V → δ → Prop} {K : PySem.W.Frag}
/-! ### x[k] op= e -/
theorem get_listP : PGet X (rIxL X.K) := by
  intro pins s σ H x y v u Q Iv hxv hyu w0
  obtain ⟨p, vs, k, z, rfl, rfl, sq, at_, qz⟩ := w0
  cases hxv
  obtain ⟨tok, rfl⟩ := hyu
  obtain ⟨us, vals, pl, _⟩ := Iv.list sq
  obtain ⟨d, e1, e2, e3, e4, e5⟩ := atI_get at_
  obtain ⟨w, ew, rw'⟩ := vals.get e2
  have hl := vals.length
  have hn := line63
  have fin : EP X pins σ Q w s := ⟨z, H, Iv, rw', qz⟩
  by_cases k0 : 0 ≤ k
  · have hd : k.toNat = d := by rw [seqIndex_of k0 e5] at e1; exact Option.some.inj e1
    exact wpAny_getItem_list pl.isList k0 (by omega) (by rw [hd]; simpa using ew) fin
  · have hd : (k + (us.toArray.size : Int)).toNat = d := by
      rw [seqIndex_neg (by omega) e4] at e1
      rw [List.size_toArray, ← hl]; exact Option.some.inj e1
    exact wpAny_getItem_list_neg pl.isList (by omega) (by rw [List.size_toArray] <;> omega) (by omega) (by rw [hd]; simpa using ew) fin
theorem J1.augIx (i j : Nat) {op : Operator} {r2 : Rp β} [mo : Mo r] {h : α → β → Res α} {xs : List α} {m : Res β} {mi : Res Int} {l : Addr} {p1 tpos : Pos} (ji : JE X I0 H0 W ctx mem ix mi (rp rInt)) (je : JE X I0 H0 W ctx mem e m (rp r2)) (op_ : OpJ X W (inplaceOp op) (rp r) (rp r2) h (rp r)) (hx : ∀ I H σ d, Stt I0 H0 ctx mem I H σ → Fr H0 d → Kx I H σ d)
    (hj : mem[j]? = some (MF.lst l r xs) := by rfl) (hc : ctx[i]? = some (some (SF.mk (rRef l) ())) := by rfl) (hN : X.N[i]? = some n := by rfl) (hv : Vis X.env.scope n := by first | exact Or.inl rfl | exact Or.inr (Or.inl rfl) | exact Or.inr (Or.inr rfl)) (hd : (n == ("__debug__" : Str)) = false := by decide)
    (hcd : (n == ("__classdict__" : Str)) = false := by decide) (ha : ∀ ov iv new, augStore ix ov iv new = (do holding [new, ov, iv] (setItem ov iv new); release [new, ov, iv] []; pure .next) := by intros; rfl) :
    J1 X W Kx (Stt I0 H0 ctx mem) (.AugAssign (.Subscript (.Name n p1) ix tpos) op e pos) (mi.bind fun k => (atM xs k).bind fun old => m.bind fun y => (noErr (h old y)).bind fun z => putM xs k z) (fun zs => Stt I0 H0 ctx (mem.set j (MF.lst l r zs))) := fun I H σ D g p => by
  obtain ⟨u, eu, hu⟩ := g.sl i _ hc
  cases (show u = V.ref l from hu)
  refine PS.w (ps_augS (tip := fun u v H Q => ∀ σ, opW X (inplaceOp op) σ u v H Q) pe_W pe_W get_listP pe_W (fun pins s σ H x y v u Q Iv rx ry t => t σ pins s v u Iv rx ry) set_list ha) (w_var i (ji I H σ _ g ?_) eu hN hv hd hcd)
  cases mi with
  | ok k =>
    intro I1 H1 vk f1 r1
    cases (show vk = V.int k from r1)
    have g1 := g.step f1
    obtain ⟨_, _, oo, zH, vs, eo, pr⟩ := g1.lstAt hj
    subst eo
    have p1 : PostB X W Kx I ((atM xs k).bind fun old => m.bind fun y => (noErr (h old y)).bind fun z => putM xs k z) (fun zs => Stt I0 H0 ctx (mem.set j (MF.lst l r zs))) D := p
    unfold atM at p1
    cases ea : atI xs k with
    | none => rw [ea] at p1; exact p1.elim
    | some old =>
      rw [ea] at p1
      obtain ⟨wo, ew, ho⟩ := atI_pair pr ea
      refine ⟨l, vs, k, wo, rfl, rfl, SqL.of zH, ew, je I1 H1 σ _ g1 ?_⟩
      cases m with
      | ok y =>
        intro I2 H2 vy f2 r2 σ2
        have g2 := g1.step f2
        have p2 : PostB X W Kx I ((noErr (h old y)).bind fun z => putM xs k z) (fun zs => Stt I0 H0 ctx (mem.set j (MF.lst l r zs))) D := p1
        refine op_ I2 H2 σ2 _ wo vy old y f2.ih (mo.up f2.i ho) r2 ?_
        revert p2
        generalize h old y = zz
        intro p2
        cases zz with
        | ok z =>
          intro I3 H3 vz f3 r3
          have g3 := g2.step f3
          obtain ⟨_, _, o3, zH3, vs3, eo3, pr3⟩ := g3.lstAt hj
          subst eo3
          have p3 : PostB X W Kx I (putM xs k z) (fun zs => Stt I0 H0 ctx (mem.set j (MF.lst l r zs))) D := p2
          unfold putM at p3
          cases ek : ixN xs.length k with
          | none => rw [ek] at p3; exact p3.elim
          | some q =>
            rw [ek] at p3
            exact ⟨l, vs3, k, q, rfl, rfl, zH3, by rw [Paired.length pr3]; exact ek, p3 I3 _ σ (f1.i.trans (f2.i.trans f3.i)) (g3.relst j hj (paired_set r3 q pr3))⟩
        | err e => exact p2.elim
        | stuck => exact p2.elim
      | err e => exact fun I' H' c d f x => p1 I' H' σ c d (hx _ _ _ _ (g1.step f) (x.1.back g1.fm.h)) x.2
      | stuck => exact p1.elim
  | err e => exact fun I' H' c d f x => p I' H' σ c d (hx _ _ _ _ (g.step f) (x.1.back g.fm.h)) x.2
  | stuck => exact p.elim
theorem inV_int (k : Int) : ∀ xs : List Int, inV (.int k) (xs.map V.int) = xs.contains k
  | [] => rfl
  | x :: xs => by
    have ih := inV_int k xs
    unfold inV at ih ⊢
    rw [List.map_cons, List.any_cons, ih, List.contains_cons]
    congr 1
    show eqV (.int x) (.int k) = (k == x)
    by_cases h : k = x
    · subst h; simp [eqV]
    · have h2 : x ≠ k := fun z => h z.symm
      show (x == k) = (k == x)
      rw [beq_eq_false_iff_ne.mpr h2, beq_eq_false_iff_ne.mpr h]
theorem flat_ints : ∀ xs : List Int, (xs.map V.int).all flatV = true
  | [] => rfl
  | x :: xs => by rw [List.map_cons, List.all_cons, flat_ints xs]; rfl
theorem opj_in : OpJ X W (compareOp .In) (rp rInt) (rSq X.K (rp rInt)) (fun x ys => .ok (ys.contains x)) (rp rBl) := fun I H σ Q u v x y s hu hv p => by
  obtain ⟨l, vs, rfl, hl, pr⟩ := hv
  cases (show u = V.int x from hu)
  obtain rfl := paired_in pr
  refine OpR.w op_in_seq ⟨l, _, rfl, hl, rfl, flat_ints y, ?_⟩
  rw [if_neg (by decide), inV_int]
  exact p I H _ (Fm.refl s) rfl
/-! ### [.. for x in xs for y in ..] -/
def lcM2 (g : β → Res (List ζ)) (f : β → ζ → Res α) : List β → Res (List α)
  | [] => .ok []
  | x :: xs => match g x with
    | .ok zs => (match lcM (f x) zs with
      | .ok a => (match lcM2 g f xs with
        | .ok b => .ok (a ++ b)
        | _ => .stuck)
      | _ => .stuck)
    | _ => .stuck
def lcR2 (g : β → Res (List ζ)) (f : β → ζ → Res α) (xs : List β) : Res (List α) := match lcM2 g f xs with
  | .ok r => Res.guard (r.length ≤ sizeLine) (.ok r)
  | _ => .stuck
theorem lcM2_drop {g : β → Res (List ζ)} {f : β → ζ → Res α} {xs : List β} {i : Nat} {x : β} (h : xs[i]? = some x) : lcM2 g f (xs.drop i) = (match g x with
    | .ok zs => (match lcM (f x) zs with
      | .ok a => (match lcM2 g f (xs.drop (i + 1)) with
        | .ok b => .ok (a ++ b)
        | _ => .stuck)
      | _ => .stuck)
    | _ => .stuck) := by
  have hi := (List.getElem?_eq_some_iff.mp h).1
  rw [List.drop_eq_getElem_cons hi]
  have : xs[i] = x := (List.getElem?_eq_some_iff.mp h).2
  rw [this]
  rfl
def wIb (X : Cx) (scope : Scope) (tg iter : Expr) : TI := fun σ H R => ∀ (s : Shared) (H' : Hp) (C : Addr) (cl : List (Str × Addr)) (fp : List Addr), wI (X.blk s H' scope (compEnvC scope cl C X.env) fp) tg iter σ H R
theorem pi_Wb {tg iter : Expr} (s : Shared) (H' : Hp) (C : Addr) (cl : List (Str × Addr)) (fp : List Addr) {scope : Scope} : PI (X.blk s H' scope (compEnvC scope cl C X.env) fp) tg iter (wIb X scope tg iter) := PIC.calm ⟨fun pins s1 _ _ _ I h => h s H' C cl fp pins s1 I⟩
def wEb0 (X : Cx) (scope : Scope) (elt : Expr) : TE := fun σ H Q => ∀ (s : Shared) (H' : Hp) (C : Addr) (cl : List (Str × Addr)) (fp : List Addr), wE (X.blk s H' scope (compEnvC scope cl C X.env) fp) elt σ H Q
theorem pe_Wb0 {elt : Expr} (s : Shared) (H' : Hp) (C : Addr) (cl : List (Str × Addr)) (fp : List Addr) {scope : Scope} : PE (X.blk s H' scope (compEnvC scope cl C X.env) fp) elt (wEb0 X scope elt) := ⟨fun pins s1 _ _ _ I h => h s H' C cl fp pins s1 I⟩
theorem JM.lc2T {iter iter1 elt : Expr} {n1 : Str} {q1 : Pos} {rb : Rp β} {rz : Rp ζ} (j j1 : Nat) [mo : Mo r] [mb : Mo rb] [mz : Mo rz] {m : Res (List β)} {g : β → Res (List ζ)} {f : β → ζ → Res α} {scope : Scope} (ji : JI X I0 H0 W ctx mem (.Name n pos') iter m rb)
    (ji1 : ∀ (s : Shared) (H : Hp) (C : Addr) (cl : List (Str × Addr)) (fp : List Addr) (D : Addr) (acc : List α) (x : β), L2N.Takes (X.blk s H scope (compEnvC scope cl C X.env) fp) W0 → JI (X.blk s H scope (compEnvC scope cl C X.env) fp) I0 H0 W0 ((ctx.set j (some ⟨rb, x⟩)).set j1 none) (MF.lst D r acc :: mem) (.Name n1 q1) iter1 (g x) rz)
    (je : ∀ (s : Shared) (H : Hp) (C : Addr) (cl : List (Str × Addr)) (fp : List Addr) (D : Addr) (acc : List α) (x : β) (z : ζ), L2N.Takes (X.blk s H scope (compEnvC scope cl C X.env) fp) W0 → JE (X.blk s H scope (compEnvC scope cl C X.env) fp) I0 H0 W0 ((ctx.set j (some ⟨rb, x⟩)).set j1 (some ⟨rz, z⟩)) (MF.lst D r acc :: mem) elt (f x z) (rp r))
    (hN : X.N.Nodup) (ok : BlkOk X.N X.env.scope scope [(n, j), (n1, j1)]) (hne : j ≠ j1 := by decide) (hj : X.N[j]? = some n := by rfl) (hj1 : X.N[j1]? = some n1 := by rfl) (hc : X.calm = true := by rfl) (hsc : Loc (relabel scope X.env) n := by first | exact Or.inl rfl | exact Or.inr rfl) (hfn : (scope.names.lookup n == some .cell) = true ∨ (relabel scope X.env).names.lookup n = some .local := by first | exact .inr rfl | exact .inl rfl) (hsc1 : Loc (relabel scope X.env) n1 := by first | exact Or.inl rfl | exact Or.inr rfl) (hfn1 : (scope.names.lookup n1 == some .cell) = true ∨ (relabel scope X.env).names.lookup n1 = some .local := by first | exact .inr rfl | exact .inl rfl)
    (hs : ∀ x, foldedSetIterable iter X.env x = pure x := by intro _; rfl) (hs1 : ∀ env x, foldedSetIterable iter1 env x = pure x := by intro _ _; rfl) :
    JM X I0 H0 W ctx mem (.ListComp elt [⟨.Name n pos', iter, [], 0⟩, ⟨.Name n1 q1, iter1, [], 0⟩] scope pos) (m.bind fun xs => lcR2 g f xs) r := fun I H σ Q st p => by
  refine PE.w (pe_lc2 (own := [(n, j), (n1, j1)]) (vs1 := [j1]) hc hN pi_W.calm ok (by simp) (fun s H C cl fp => pg_name (i := j) hN hj hsc hfn) (fun s H C cl fp => pts_nil) (fun s H C cl fp => pi_Wb s H C cl fp) (fun s H C cl fp => pg_name (i := j1) hN hj1 hsc1 hfn1) (fun s H C cl fp => pts_nil) (fun s H C cl fp => pe_Wb0 s H C cl fp) hs hs1) ?_
  refine ji I H σ _ st ?_
  cases m with
  | ok xs =>
    intro I1 H1 J vs okp f1 itr stay pr D hD
    have hlen := Paired.length pr
    have hD0 : H D = none := f1.h.free hD
    have p0 : PostM X W σ I H (lcR2 g f xs) r Q := p
    unfold lcR2 at p0
    cases et : lcM2 g f xs with
    | err e => rw [et] at p0; exact p0.elim
    | stuck => rw [et] at p0; exact p0.elim
    | ok tot =>
      rw [et] at p0
      by_cases hz : tot.length ≤ sizeLine
      · have e0 : Res.guard (tot.length ≤ sizeLine) (Res.ok tot) = .ok tot := Res.guard_pos hz _
        have p1 : PostM X W σ I H (.ok tot) r Q := by rw [← e0]; exact p0
        refine ⟨fun i k H' => k + i = vs.length ∧ ∃ I' acc ys, Same I1 I' ∧ Fm I H I' H' ∧ Stt I0 H0 ctx (MF.lst D r acc :: mem) I' H' σ ∧ lcM2 g f (xs.drop i) = .ok ys ∧ tot = acc ++ ys, ⟨vs.length, rfl, I1, [], tot, Same.refl _, f1.trans (Fm.newM f1.ih hD), (st.step f1).push hD .nil, et, rfl⟩, ?_⟩
        rintro i k H' ⟨hk, I', acc, ys, si, fm, g', el, eq⟩
        have hok := stay I' H' si g'.same g'.fm.h
        by_cases hi : i < vs.length
        · obtain ⟨go, yl⟩ := (itr i H' hok).1 hi
          refine .inr ⟨go, fun H2 => ∃ I2 acc2 ys2, Same I1 I2 ∧ Fm I H I2 H2 ∧ Stt I0 H0 ctx (MF.lst D r acc2 :: mem) I2 H2 σ ∧ lcM2 g f (xs.drop (i + 1)) = .ok ys2 ∧ tot = acc2 ++ ys2, fun H2 h => ⟨k - 1, by omega, by omega, h⟩, fun v H2 hy => ?_⟩
          obtain ⟨rfl, ev⟩ := yl v H2 hy
          obtain ⟨x, ex, hr⟩ := paired_drop pr i ev
          rw [lcM2_drop ex] at el
          have wp : wipe σ [j, j1] = (σ.set j1 none).set j none := rfl
          show (fun σ2 H2 => wipe σ2 [j, j1] = wipe σ [j, j1] ∧ _) ((wipe σ [j, j1]).set j (some v)) H2
          refine ⟨?_, ?_⟩
          · show ((((σ.set j1 none).set j none).set j (some v)).set j1 none).set j none = (σ.set j1 none).set j none
            rw [List.set_set, List.set_comm _ _ hne, List.set_set, List.set_set]
          show tYes ((wipe σ [j, j1]).set j (some v)) H2 _
          have hτ : (wipe σ [j, j1]).set j (some v) = (σ.set j (some v)).set j1 none := by rw [wp, List.set_set, List.set_comm _ _ (Ne.symm hne)]
          show (fun (τ : St) => tYes τ H2 fun b H3 => if b = true then wIb X scope (.Name n1 q1) iter1 τ H3 fun J1 H4 => ∃ W1 : Nat → Nat → Hp → Prop, (∃ m, W1 0 m H4) ∧ ∀ jj kk H, W1 jj kk H → (J1.stop jj H ∧ (fun H2 => ∃ I2 acc2 ys2, Same I1 I2 ∧ Fm I _ I2 H2 ∧ Stt I0 H0 ctx (MF.lst D r acc2 :: mem) I2 H2 σ ∧ lcM2 g f (xs.drop (i + 1)) = .ok ys2 ∧ tot = acc2 ++ ys2) H) ∨ (J1.go jj H ∧ ∃ Nx1 : Hp → Prop, (∀ H', Nx1 H' → ∃ k', k' < kk ∧ W1 (jj + 1) k' H') ∧ ∀ x H', J1.yld jj H x H' → gName j1 x (wipe τ [j1]) H' fun σ3 H5 => wipe σ3 [j1] = wipe τ [j1] ∧ tYes σ3 H5 fun b H6 => if b = true then wEb0 X scope elt σ3 H6 fun y H7 => ∃ acc, H7 D = some (.lst acc) ∧ acc.length < sizeLine ∧ Nx1 (upd H7 D (.lst (acc ++ [y]))) else Nx1 H6) else _) ((wipe σ [j, j1]).set j (some v))
          rw [hτ]
          show wIb X scope (.Name n1 q1) iter1 ((σ.set j (some v)).set j1 none) H2 _
          intro s3 H3 C cl fp
          have gx : Stt I0 H0 ((ctx.set j (some ⟨rb, x⟩)).set j1 none) (MF.lst D r acc :: mem) I' H2 ((σ.set j (some v)).set j1 none) := (g'.set j (mb.up si hr)).wipe1 j1
          refine ji1 s3 H3 C cl fp D acc x takes0 I' H2 _ _ gx ?_
          cases eg : g x with
          | err e => rw [eg] at el; cases el
          | stuck => rw [eg] at el; cases el
          | ok zs =>
            rw [eg] at el
            cases ef : lcM (f x) zs with
            | err e => dsimp only at el; rw [ef] at el; cases el
            | stuck => dsimp only at el; rw [ef] at el; cases el
            | ok as_ =>
              cases er : lcM2 g f (xs.drop (i + 1)) with
              | err e => dsimp only at el; rw [ef, er] at el; cases el
              | stuck => dsimp only at el; rw [ef, er] at el; cases el
              | ok rest =>
                dsimp only at el
                rw [ef, er] at el
                cases el
                intro I4 H4 J1 ws okp1 f4 itr1 stay1 pr1
                have hlen1 := Paired.length pr1
                have g4 := g'.step f4
                refine ⟨fun jj kk H5 => kk + jj = ws.length ∧ ∃ I5 acc5 ys5, Same I1 I5 ∧ Same I4 I5 ∧ Fm I H I5 H5 ∧ Stt I0 H0 ctx (MF.lst D r acc5 :: mem) I5 H5 σ ∧ lcM (f x) (zs.drop jj) = .ok ys5 ∧ tot = acc5 ++ (ys5 ++ rest), ⟨ws.length, rfl, I4, acc, as_, si.trans f4.i, Same.refl _, fm.trans f4, g4, ef, eq⟩, ?_⟩
                rintro jj kk H5 ⟨hkk, I5, acc5, ys5, s15, s45, fm5, g5, el5, eq5⟩
                have hok1 := stay1 I5 H5 s45 g5.same g5.fm.h
                by_cases hjj : jj < ws.length
                · obtain ⟨go1, yl1⟩ := (itr1 jj H5 hok1).1 hjj
                  refine .inr ⟨go1, fun H6 => ∃ I6 acc6 ys6, Same I1 I6 ∧ Same I4 I6 ∧ Fm I H I6 H6 ∧ Stt I0 H0 ctx (MF.lst D r acc6 :: mem) I6 H6 σ ∧ lcM (f x) (zs.drop (jj + 1)) = .ok ys6 ∧ tot = acc6 ++ (ys6 ++ rest), fun H6 h => ⟨kk - 1, by omega, by omega, h⟩, fun vz H6 hyz => ?_⟩
                  obtain ⟨rfl, evz⟩ := yl1 vz H6 hyz
                  obtain ⟨z, ez, hrz⟩ := paired_drop pr1 jj evz
                  rw [lcM_drop ez] at el5
                  have w1 : wipe ((σ.set j (some v)).set j1 none) [j1] = (σ.set j (some v)).set j1 none := by show ((σ.set j (some v)).set j1 none).set j1 none = _; rw [List.set_set]
                  show (fun σ3 H5 => wipe σ3 [j1] = wipe ((σ.set j (some v)).set j1 none) [j1] ∧ _) ((wipe ((σ.set j (some v)).set j1 none) [j1]).set j1 (some vz)) H6
                  refine ⟨by rw [w1]; show ((((σ.set j (some v)).set j1 none).set j1 (some vz)).set j1 none) = _; rw [List.set_set, List.set_set], ?_⟩
                  show wEb0 X scope elt ((wipe ((σ.set j (some v)).set j1 none) [j1]).set j1 (some vz)) H6 _
                  rw [w1, List.set_set]
                  intro s7 H7 C7 cl7 fp7
                  refine je s7 H7 C7 cl7 fp7 D acc5 x z takes0 I5 H6 _ _ ((g5.set j (mb.up s15 hr)).set j1 (mz.up s45 hrz)) ?_
                  revert el5
                  generalize f x z = zz
                  intro el5
                  cases zz with
                  | err e => cases el5
                  | stuck => cases el5
                  | ok y =>
                    cases el6 : lcM (f x) (zs.drop (jj + 1)) with
                    | err e => dsimp only at el5; rw [el6] at el5; cases el5
                    | stuck => dsimp only at el5; rw [el6] at el5; cases el5
                    | ok ys6 =>
                      dsimp only at el5
                      rw [el6] at el5
                      cases el5
                      intro I8 H8 vy f8 r8
                      have g8 := g5.step f8
                      obtain ⟨z0, zI, oo, zH, vacc, eo, pacc⟩ := g8.lstAt (j := 0) rfl
                      subst eo
                      have hla := Paired.length pacc
                      have hll : tot.length = acc5.length + ((y :: ys6).length + rest.length) := by rw [eq5, List.length_append, List.length_append]
                      rw [List.length_cons] at hll
                      exact ⟨vacc, zH, by omega, I8, acc5 ++ [y], ys6, s15.trans f8.i, s45.trans f8.i, (fm5.trans f8).updNew hD0 zI, g8.relst 0 rfl (paired_app pacc (.cons r8 .nil)), rfl, by rw [eq5, List.append_assoc]; rfl⟩
                · have e5 : zs.drop jj = [] := List.drop_eq_nil_of_le (by omega)
                  rw [e5] at el5
                  cases el5
                  exact .inl ⟨(itr1 jj H5 hok1).2 (by omega), I5, acc5, rest, s15, fm5, g5, rfl, eq5⟩
        · refine .inl ⟨(itr i H' hok).2 (by omega), ?_⟩
          have e1 : xs.drop i = [] := List.drop_eq_nil_of_le (by omega)
          rw [e1] at el
          cases el
          rw [List.append_nil] at eq
          subst eq
          obtain ⟨z0, zI, oo, zH, vacc, eo, pacc⟩ := g'.lstAt (j := 0) rfl
          subst eo
          exact p1 I' H' D vacc fm hD0 zI zH pacc
      · have e0 : Res.guard (tot.length ≤ sizeLine) (Res.ok tot) = .stuck := if_neg hz
        rw [show PostM X W σ I H (match Res.ok tot with | .ok r => Res.guard (r.length ≤ sizeLine) (.ok r) | _ => .stuck) r Q = PostM X W σ I H (Res.guard (tot.length ≤ sizeLine) (Res.ok tot)) r Q from rfl, e0] at p0
        exact p0.elim
  | err e => exact p
  | stuck => exact p
end
end L2.Tr

namespace L2.Tr
open PySem PySem.Spec PyProof.Rows He
section
variable {α β γ δ ε ζ S L : Type} {X : Cx} {I0 H0 I H : Hp} {W : WX} {Kx : KnowsX} {G : Knows} {ctx : List (Option SF)} {mem : List MF} {e a b c o ix : Expr} {es : List Expr} {st : Stmt} {ss s1 : List Stmt} {pos pos' p2 : Pos} {n : Str} {σ : St} {Q : VK} {r : Rp α} {ra : Ra α} {rb : Ra β} {rc : Ra γ} {rr : Ra γ} {ma : Res α} {mb : Res β} {mc : Res Bool} {md : Res δ} {me : Res ε} {R : Hp → Hp → List V → δ → Prop} {R' : Hp → Hp → List V → ε → Prop} {kws : List Keyword} {ks : List Str}
end
section
variable {K : PySem.W.Frag} {x qual : Str} {params : Arguments} {body : List Stmt} {scope : Scope} {kws : List (Str × V)} {f : Addr} {fd : FuncData} {ps : List Str}
end
/-- a keyword-only default that is an object -/
def kwAt (a : PySem.W.Frag → Addr) (x : Str) (K : PySem.W.Frag) : Addr := match K.lookup (a K) with
  | some ⟨_, _, .func fd, _⟩ => (match fd.kwdefaults with
    | .ref D => (match PySem.W.nsIn K D x with
      | some (some (.ref b)) => b
      | _ => 0)
    | _ => 0)
  | _ => 0
theorem J1.dead {S : Type} {X : Cx} {W : WX} {Kx : KnowsX} {G : Knows} {st : Stmt} {G' : S → Knows} : J1 X W Kx G st (.stuck : Res S) G' := fun _ _ _ _ _ p => p.elim
theorem JI.at {β : Type} {X : Cx} {I0 H0 : Hp} {W : WX} {mem : List MF} {tg iter : Expr} {m : Res (List β)} {r : Rp β} {c c' : List (Option SF)} (j : JI X I0 H0 W c' mem tg iter m r) (h : c = c' := by rfl) : JI X I0 H0 W c mem tg iter m r := by rw [h]; exact j
end L2.Tr

namespace L2.Tr
open PySem PySem.Spec PyProof.Rows
/-! ### lists by their entries -/
section
variable {α β : Type} {n : Nat} {f g : Nat → α}
def vec (n : Nat) (f : Nat → α) : List α := (List.range n).map f
@[simp] theorem vec_len : (vec n f).length = n := by simp [vec]
theorem vec_get {i : Nat} (h : i < n) : (vec n f)[i]? = some (f i) := by unfold vec; rw [List.getElem?_map, List.getElem?_range h]; rfl
theorem vec_none {i : Nat} (h : n ≤ i) : (vec n f)[i]? = none := List.getElem?_eq_none (by rw [vec_len]; exact h)
theorem vec_at {i : Int} (h0 : 0 ≤ i) (h : i.toNat < n) : atM (vec n f) i = .ok (f i.toNat) := atM_get h0 (vec_get h)
theorem vec_atN {i : Nat} (h : i < n) : atM (vec n f) (i : Int) = .ok (f i) := vec_at (Int.natCast_nonneg i) (by rw [Int.toNat_natCast]; exact h)
theorem vec_ext (h : ∀ i, i < n → f i = g i) : vec n f = vec n g := by
  unfold vec
  exact List.map_congr_left fun i hi => h i (List.mem_range.mp hi)
theorem vec_of (xs : List α) (d : α) : xs = vec xs.length (fun i => xs.getD i d) := by
  refine List.ext_getElem? fun i => ?_
  by_cases h : i < xs.length
  · rw [vec_get h, List.getD_eq_getElem?_getD, List.getElem?_eq_getElem h]; rfl
  · rw [vec_none (by omega), List.getElem?_eq_none (by omega)]
theorem vec_mem {x : α} (h : x ∈ vec n f) : ∃ i, i < n ∧ x = f i := by
  obtain ⟨i, h1, h2⟩ := List.mem_map.mp h
  exact ⟨i, List.mem_range.mp h1, h2.symm⟩
theorem mem_vec {i : Nat} (h : i < n) : f i ∈ vec n f := List.mem_map.mpr ⟨i, List.mem_range.mpr h, rfl⟩
theorem vec_put {i : Int} {y : α} (h0 : 0 ≤ i) (h : i.toNat < n) : putM (vec n f) i y = .ok (vec n fun k => if k = i.toNat then y else f k) := by
  rw [putM_ok h0 (by rw [vec_len]; exact h)]
  congr 1
  refine List.ext_getElem? fun k => ?_
  by_cases hk : k < n
  · rw [vec_get hk, List.getElem?_set]
    by_cases e : i.toNat = k
    · subst e; rw [if_pos rfl, if_pos (by rw [vec_len]; exact hk), if_pos rfl]
    · rw [if_neg e, vec_get hk, if_neg (fun z => e z.symm)]
  · rw [vec_none (by omega), List.getElem?_set]
    by_cases e : i.toNat = k
    · omega
    · rw [if_neg e, vec_none (by omega)]
theorem vec_succ : vec (n + 1) f = vec n f ++ [f n] := by unfold vec; rw [List.range_succ, List.map_append]; rfl
theorem vec_app {x : α} (h : n < 1000000) : appM (vec n f) x = .ok (vec (n + 1) fun i => if i = n then x else f i) := by
  rw [appM_ok (by rw [vec_len]; exact h), vec_succ, if_pos rfl]
  congr 2
  exact vec_ext fun i hi => (if_neg (by omega)).symm
theorem rep_vec {x : α} {k : Int} (h0 : 0 ≤ k) (h : k ≤ 1000000) : repM [x] k = .ok (vec k.toNat fun _ => x) := by
  rw [repM_one h0 h]
  congr 1
  refine List.ext_getElem? fun i => ?_
  by_cases hi : i < k.toNat
  · rw [vec_get hi, List.getElem?_replicate, if_pos hi]
  · rw [vec_none (by omega), List.getElem?_replicate, if_neg hi]
theorem lcR_rng {F : Int → Res α} {hi : Int} (h0 : 0 ≤ hi) (h : hi ≤ 1000000) (hF : ∀ i : Nat, i < hi.toNat → F (i : Int) = .ok (f i)) : lcR F (rngI 0 hi.toNat) = .ok (vec hi.toNat f) := by
  rw [lcR_eq (g := fun x => f x.toNat) (size_le (by rw [rngI_len]; omega)) fun x hx => ?_]
  · unfold vec; rw [rngI_eq, List.map_map]; rfl
  · obtain ⟨x1, x2⟩ := rngI_mem hx
    have e := hF x.toNat (by omega)
    rwa [Int.toNat_of_nonneg x1] at e
theorem lcR_vec {F : α → Res β} {h : Nat → β} (hn : n ≤ 1000000) (hF : ∀ i, i < n → F (f i) = .ok (h i)) : lcR F (vec n f) = .ok (vec n h) := by
  have e : ∀ (m : Nat), m ≤ n → lcM F (vec m f) = .ok (vec m h) := fun m hm => by
    have : ∀ xs : List Nat, (∀ i ∈ xs, i < n) → lcM F (xs.map f) = .ok (xs.map h) := fun xs => by
      induction xs with
      | nil => exact fun _ => rfl
      | cons x xs ih =>
        intro hx
        rw [List.map_cons, List.map_cons]
        unfold lcM
        rw [hF x (hx x (List.mem_cons_self)), ih fun i hi => hx i (List.mem_cons_of_mem _ hi)]
        rfl
    exact this (List.range m) fun i hi => by have := List.mem_range.mp hi; omega
  unfold lcR
  rw [Res.guard_pos (size_le (by rw [vec_len]; exact hn)), e n (Nat.le_refl _)]
/-- a loop over range that builds a state -/
theorem for_rng {S : Type} {F : Int → S → Res S} {hi : Int} {s0 : S} (st : Nat → S) (h0 : st 0 = s0) (hF : ∀ i : Nat, i < hi.toNat → F (i : Int) (st i) = .ok (st (i + 1))) : forS F (rngI 0 hi.toNat) s0 = .ok (st hi.toNat) := by
  refine Ok.eq ((Ok.forS (fun i s => s = st i) h0.symm fun i x s e hs => ?_).mono fun s hs => by rw [hs, rngI_len])
  obtain ⟨e1, e2⟩ := rngI_get e
  rw [hs, show x = (i : Int) by omega]
  exact .of (hF i e2) rfl
end
/-! ### sums of Int -/
def sm (f : Nat → Int) : Nat → Int
  | 0 => 0
  | n + 1 => sm f n + f n
section
variable {f g : Nat → Int} {n m : Nat} {c : Int}
@[simp] theorem sm_zero : sm f 0 = 0 := rfl
theorem sm_succ : sm f (n + 1) = sm f n + f n := rfl
theorem sm_congr (h : ∀ i, i < n → f i = g i) : sm f n = sm g n := by
  induction n with
  | zero => rfl
  | succ n ih => rw [sm_succ, sm_succ, ih fun i hi => h i (by omega), h n (by omega)]
theorem sm_add : sm (fun i => f i + g i) n = sm f n + sm g n := by
  induction n with
  | zero => show (0 : Int) = 0 + 0; grind
  | succ n ih => rw [sm_succ, sm_succ, sm_succ, ih]; grind
theorem sm_mul : sm (fun i => c * f i) n = c * sm f n := by
  induction n with
  | zero => show (0 : Int) = c * 0; grind
  | succ n ih => rw [sm_succ, sm_succ, ih]; grind
theorem sm_mulr : sm (fun i => f i * c) n = sm f n * c := by
  rw [show (fun i => f i * c) = fun i => c * f i from funext fun i => by grind, sm_mul]; grind
theorem sm_null (h : ∀ i, i < n → f i = 0) : sm f n = 0 := by
  rw [sm_congr (g := fun _ => 0) h]
  clear h
  induction n with
  | zero => rfl
  | succ n ih => rw [sm_succ, ih]; grind
theorem sm_comm {h : Nat → Nat → Int} : sm (fun i => sm (fun j => h i j) m) n = sm (fun j => sm (fun i => h i j) n) m := by
  induction n with
  | zero => exact (sm_null fun j _ => rfl).symm
  | succ n ih => rw [sm_succ, ih, ← sm_add]; rfl
theorem sm_nonneg (h : ∀ i, i < n → 0 ≤ f i) : 0 ≤ sm f n := by
  induction n with
  | zero => exact (show (0 : Int) ≤ 0 by grind)
  | succ n ih =>
    rw [sm_succ]
    have := ih fun i hi => h i (by omega)
    have := h n (by omega)
    grind
theorem sm_le (h : ∀ i, i < n → f i ≤ g i) : sm f n ≤ sm g n := by
  induction n with
  | zero => exact (show (0 : Int) ≤ 0 by grind)
  | succ n ih =>
    rw [sm_succ, sm_succ]
    have := ih fun i hi => h i (by omega)
    have := h n (by omega)
    grind
/-- the one term -/
theorem sm_one {k : Nat} (hk : k < n) (h : ∀ i, i < n → i ≠ k → f i = 0) : sm f n = f k := by
  induction n with
  | zero => omega
  | succ n ih =>
    rw [sm_succ]
    by_cases e : k = n
    · subst e
      rw [sm_null fun i hi => h i (by omega) (by omega)]; grind
    · rw [ih (by omega) fun i hi => h i (by omega), h n (by omega) (fun z => e z.symm)]; grind
theorem sm_ge {k : Nat} (hk : k < n) (h : ∀ i, i < n → 0 ≤ f i) : f k ≤ sm f n := by
  induction n with
  | zero => omega
  | succ n ih =>
    rw [sm_succ]
    have h1 := sm_nonneg (f := f) (n := n) fun i hi => h i (by omega)
    have h2 := h n (by omega)
    by_cases e : k = n
    · subst e; grind
    · have := ih (by omega) fun i hi => h i (by omega)
      grind
end
/-! ### sums of Rat -/
def smQ (f : Nat → Rat) : Nat → Rat
  | 0 => 0
  | n + 1 => smQ f n + f n
section
variable {f g : Nat → Rat} {n m : Nat} {c : Rat}
@[simp] theorem smQ_zero : smQ f 0 = 0 := rfl
theorem smQ_succ : smQ f (n + 1) = smQ f n + f n := rfl
theorem smQ_congr (h : ∀ i, i < n → f i = g i) : smQ f n = smQ g n := by
  induction n with
  | zero => rfl
  | succ n ih => rw [smQ_succ, smQ_succ, ih fun i hi => h i (by omega), h n (by omega)]
theorem smQ_add : smQ (fun i => f i + g i) n = smQ f n + smQ g n := by
  induction n with
  | zero => show (0 : Rat) = 0 + 0; grind
  | succ n ih => rw [smQ_succ, smQ_succ, smQ_succ, ih]; grind
theorem smQ_sub : smQ (fun i => f i - g i) n = smQ f n - smQ g n := by
  induction n with
  | zero => show (0 : Rat) = 0 - 0; grind
  | succ n ih => rw [smQ_succ, smQ_succ, smQ_succ, ih]; grind
theorem smQ_mul : smQ (fun i => c * f i) n = c * smQ f n := by
  induction n with
  | zero => show (0 : Rat) = c * 0; grind
  | succ n ih => rw [smQ_succ, smQ_succ, ih]; grind
theorem smQ_mulr : smQ (fun i => f i * c) n = smQ f n * c := by
  rw [show (fun i => f i * c) = fun i => c * f i from funext fun i => by grind, smQ_mul]; grind
theorem smQ_null (h : ∀ i, i < n → f i = 0) : smQ f n = 0 := by
  rw [smQ_congr (g := fun _ => 0) h]
  clear h
  induction n with
  | zero => rfl
  | succ n ih => rw [smQ_succ, ih]; grind
theorem smQ_comm {h : Nat → Nat → Rat} : smQ (fun i => smQ (fun j => h i j) m) n = smQ (fun j => smQ (fun i => h i j) n) m := by
  induction n with
  | zero => exact (smQ_null fun j _ => rfl).symm
  | succ n ih => rw [smQ_succ, ih, ← smQ_add]; rfl
theorem smQ_nonneg (h : ∀ i, i < n → 0 ≤ f i) : 0 ≤ smQ f n := by
  induction n with
  | zero => exact (show (0 : Rat) ≤ 0 by grind)
  | succ n ih =>
    rw [smQ_succ]
    have := ih fun i hi => h i (by omega)
    have := h n (by omega)
    grind
theorem smQ_le (h : ∀ i, i < n → f i ≤ g i) : smQ f n ≤ smQ g n := by
  induction n with
  | zero => exact (show (0 : Rat) ≤ 0 by grind)
  | succ n ih =>
    rw [smQ_succ, smQ_succ]
    have := ih fun i hi => h i (by omega)
    have := h n (by omega)
    grind
/-- the one term -/
theorem smQ_one {k : Nat} (hk : k < n) (h : ∀ i, i < n → i ≠ k → f i = 0) : smQ f n = f k := by
  induction n with
  | zero => omega
  | succ n ih =>
    rw [smQ_succ]
    by_cases e : k = n
    · subst e
      rw [smQ_null fun i hi => h i (by omega) (by omega)]; grind
    · rw [ih (by omega) fun i hi => h i (by omega), h n (by omega) (fun z => e z.symm)]; grind
theorem smQ_ge {k : Nat} (hk : k < n) (h : ∀ i, i < n → 0 ≤ f i) : f k ≤ smQ f n := by
  induction n with
  | zero => omega
  | succ n ih =>
    rw [smQ_succ]
    have h1 := smQ_nonneg (f := f) (n := n) fun i hi => h i (by omega)
    have h2 := h n (by omega)
    by_cases e : k = n
    · subst e; grind
    · have := ih (by omega) fun i hi => h i (by omega)
      grind
end
theorem sum_app (xs ys : List Int) : (xs ++ ys).sum = xs.sum + ys.sum := by
  induction xs with
  | nil => simp
  | cons x xs ih => rw [List.cons_append, List.sum_cons, List.sum_cons, ih]; omega
theorem sum_vec (f : Nat → Int) : ∀ n, (vec n f).sum = sm f n
  | 0 => rfl
  | n + 1 => by rw [vec_succ, sum_app, sum_vec f n, sm_succ]; simp
theorem sm_cast {f : Nat → Int} : ∀ n, ((sm f n : Int) : Rat) = smQ (fun i => ((f i : Int) : Rat)) n
  | 0 => rfl
  | n + 1 => by rw [sm_succ, smQ_succ, Rat.intCast_add, sm_cast n]
end L2.Tr
namespace L2.Tr
open PySem PySem.Spec PyProof.Rows
/-- every entry is raised by one loop -/
theorem acc_loop {n : Nat} (f d : Nat → Int) (F : Int → List Int → Res (List Int)) {hi : Int} (hn : hi.toNat = n) (hF : ∀ (c : Nat) (g : Nat → Int), c < n → F (c : Int) (vec n g) = .ok (vec n fun k => if k = c then g k + d k else g k)) : forS F (rngI 0 hi.toNat) (vec n f) = .ok (vec n fun k => f k + d k) := by
  rw [for_rng (fun c => vec n fun k => if k < c then f k + d k else f k) (vec_ext fun i _ => if_neg (by omega)) fun c hc => ?_]
  · rw [hn]
    congr 1
    exact vec_ext fun i hi => if_pos hi
  · rw [hF c _ (by omega)]
    congr 1
    refine vec_ext fun k _ => ?_
    by_cases e : k = c
    · subst e; rw [if_pos rfl, if_neg (by omega), if_pos (by omega)]
    · rw [if_neg e]
      by_cases e2 : k < c
      · rw [if_pos e2, if_pos (by omega)]
      · rw [if_neg e2, if_neg (by omega)]
end L2.Tr

/-! ### for, in a generator's body -/
namespace L2
open PySem PySem.Spec PyProof.Rows GenW
section
variable {M : Model} {A : Around} {R : GenEnd} {Y : Protocol} {n : Nat} {s₀ : Shared} {c : Code} {fs : List Frame} {s : Shared} {env : Env} {K : Flow → Sem PySem.Fin} {J : Value → Sem PySem.Fin} {gd : Bool → Bool} {lv : List Value → List Value}
theorem seg_For {tg iter : Expr} {body : List Stmt} {pos : Pos} (hs : ∀ x, foldedSetIterable iter env x = pure x)
    (h : wpAny M (A.over c fs) (eval iter env) (fun v s1 => wpAny M (A.over c fs) (pyIter v) (fun it s2 => ∀ p, Seg M A R Y n s₀ (.forLoop tg it body [] env) (M.den (.forLoop tg it body [] env))
      (.ret (fun r => ((match r with | .ok f => (.pure f : Sem Flow) | .error e => .raise e).onRaise (cameBack env)).wrap K J gd lv) none (gd false) (lv []) c p [] :: fs) s2)
      (fun x s' => Seg M A R Y n s₀ c (J x) fs s') s1) (fun x s' => Seg M A R Y n s₀ c (J x) fs s') s) :
    Seg M A R Y n s₀ c ((exec (.For tg iter body [] pos) env).wrap K J gd lv) fs s := by
  rw [exec_For]
  refine seg_bind_wrap (wpAny_standAt (seg_bind_wrap (wpAny_mono h (fun v s1 h1 => ?_) fun _ _ x => x)))
  refine seg_bind_wrap (wpAny_of_eq (hs v) (seg_bind_wrap (wpAny_standAt (seg_bind_wrap (wpAny_holding (wpAny_mono h1 (fun it s2 h2 => ?_) fun _ _ x => x))))))
  exact seg_call h2
end
section
variable {prog : Program} {w : World} {A : Around} {R : GenEnd} {Y : Protocol} {n : Nat} {s₀ : Shared} {fs : List Frame} {s : Shared} {env : Env}
theorem seg_forLoop {tg : Expr} {it : Value} {body : List Stmt}
    (h : wpAny (model prog w) (A.over (.forLoop tg it body [] env) fs) (pyNext it) (fun r s1 => match r with
        | none => Seg (model prog w) A R Y n s₀ (.block [] env) (.pure (.done .next)) fs s1
        | some v => wpAny (model prog w) (A.over (.forLoop tg it body [] env) fs) (letOwnedTupleGo tg it v) (fun _ s2 => wpAny (model prog w) (A.over (.forLoop tg it body [] env) fs) (assign tg env v) (fun _ s3 =>
          Seg (model prog w) A R Y n s₀ (.forLoop tg it body [] env) ((execs body env).wrap (fun f => match f with
            | .next | .cont => .pure (.again (.forLoop tg it body [] env))
            | .brk => .pure (.done .next)
            | .ret v => .pure (.done (.ret v))) (fun e => (do noteFrame e env; theTreesLotGoes e : Sem Unit).wrap (fun _ => .raise e) .raise id id) id id) fs s3)
          (fun x s' => Seg (model prog w) A R Y n s₀ (.forLoop tg it body [] env) ((do noteFrame x env; theTreesLotGoes x : Sem Unit).wrap (fun _ => .raise x) .raise id id) fs s') s2)
          (fun x s' => Seg (model prog w) A R Y n s₀ (.forLoop tg it body [] env) ((do noteFrame x env; theTreesLotGoes x : Sem Unit).wrap (fun _ => .raise x) .raise id id) fs s') s1)
      (fun x s' => Seg (model prog w) A R Y n s₀ (.forLoop tg it body [] env) ((do noteFrame x env; theTreesLotGoes x : Sem Unit).wrap (fun _ => .raise x) .raise id id) fs s') s) :
    Seg (model prog w) A R Y n s₀ (.forLoop tg it body [] env) ((model prog w).den (.forLoop tg it body [] env)) fs s := by
  show Seg _ A R Y n s₀ _ ((forTurn tg it body [] env).onRaise (fun x => do noteFrame x env; theTreesLotGoes x)) fs s
  have fix : ∀ x : Value, ((do noteFrame x env; theTreesLotGoes x : Sem Unit).bind fun _ => (.raise x : Sem PySem.Fin)) = (do noteFrame x env; theTreesLotGoes x : Sem Unit).wrap (fun _ => .raise x) .raise id id := fun x => Sem.bind_eq_wrap _ _
  unfold forTurn
  rw [Sem.onRaise_eq_wrap]
  refine seg_bind_wrap (wpAny_standAt (seg_bind_wrap (wpAny_onRaise (wpAny_mono h (fun r s1 h1 => ?_) fun x s' hx => wpAny_standAt ?_))))
  · cases r with
    | none =>
      refine seg_again rfl ?_
      exact h1
    | some v =>
      refine seg_bind_wrap (wpAny_mono h1 (fun _ s2 h2 => ?_) fun x s' hx => by rw [fix]; exact hx)
      refine seg_bind_wrap (wpAny_mono h2 (fun _ s3 h3 => ?_) fun x s' hx => by rw [fix]; exact hx)
      rw [Sem.bind_eq_wrap', Sem.wrap_wrap]
      rw [Sem.wrap_congr (execs body env) _ _ (K' := fun f => match f with
            | .next | .cont => .pure (.again (.forLoop tg it body [] env))
            | .brk => .pure (.done .next)
            | .ret v => .pure (.done (.ret v))) (H' := (fun e => (do noteFrame e env; theTreesLotGoes e : Sem Unit).wrap (fun _ => .raise e) .raise id id))
        (fun f => by cases f <;> rfl) (fun e => by first | exact Sem.bind_eq_wrap _ _ | (show (do noteFrame e env; theTreesLotGoes e : Sem Unit).bind (fun _ => .raise e) = _; rw [Sem.bind_eq_wrap]))]
      exact h3
  · rw [fix]; exact hx
end

section
variable {X : Cx} {tg : Expr}
def tGFor (wi : TI) (g : TG) (tb : TGn) : TGn := fun D ys σ H => wi σ H fun J H1 => ∃ W : Nat → Nat → List V → St → Hp → Prop, (∃ m, W 0 m ys σ H1) ∧ ∀ i m ys σ H, W i m ys σ H →
  (J.stop i H ∧ D.nx ys σ H) ∨ (J.go i H ∧ ∃ N : List V → St → Hp → Prop, (∀ ys' σ' H', N ys' σ' H' → ∃ m', m' < m ∧ W (i + 1) m' ys' σ' H') ∧ ∀ x H', J.yld i H x H' → g x σ H' fun σ2 H2 => tb { D with nx := N, ct := N, bk := D.nx } ys σ2 H2)
theorem gs_for {iter : Expr} {body : List Stmt} {wi : TI} {g : TG} {tb : TGn} {pos : Pos} (hp : PassesOwn (model X.prog X.w) X.A X.env X.xe) (hc : X.calm = true) (hi : PI X tg iter wi) (hg : PG X tg g) (hb : GSs X body tb)
    (hs : ∀ x, foldedSetIterable iter X.env x = pure x := by intro _; rfl) : GS X (.For tg iter body [] pos) (tGFor wi g tb) := by
  refine ⟨fun A S ip R n ys s₀ c fs K J gd lv s σ H D gc hn k hI ht => ?_⟩
  obtain ⟨acc, cc, r, I⟩ := hI
  refine seg_For hs ?_
  rw [gc.over]
  refine wpAny_mono (hi.run _ s σ H _ I ht) (fun v s1 h1 => ?_) fun x s' hx => k.exc n s₀ x s' hx
  refine wpAny_mono h1 (fun itv s2 h2 p => ?_) fun x s' hx => k.exc n s₀ x s' hx
  obtain ⟨it, fp, tn, JJ, H2, e, I2, T, st2, f2, W, ⟨m0, w0⟩, turn⟩ := h2
  subst e
  have gl := fun (kk : Result → Sem PySem.Fin) => gc_loop (k := kk) (c' := .forLoop tg (.ref it) body [] X.env) (l := lv []) (kp := []) (p := p) gc rfl rfl
  have fst : ∀ b ∈ fp, b ≠ X.env.locals ∧ b ∉ X.fs ∧ (b ∈ X.ex ∨ X.s_0.heap.objs.size ≤ b) ∧ (∀ x c, X.env.cells.lookup x = some c → c ≠ b) ∧ b ≠ S ∧ ∀ p ∈ X.pn ++ ip, p.1 ≠ b := fun b hb => by
    obtain ⟨_, q1, q2, q3, q4, q5⟩ := f2 b hb
    refine ⟨q1, q2, q3, q4, fun z => q5 (S, lstObj acc cc) (List.mem_append_right _ List.mem_cons_self) z.symm, fun p hp => ?_⟩
    rcases List.mem_append.mp hp with z | z
    · exact q5 p (List.mem_append_left _ z)
    · exact q5 p (List.mem_append_right _ (List.mem_cons_of_mem _ z))
  have stat : ∀ {H' : Hp} {acc : Array Value} {cc : Nat}, (∀ b ∈ fp, H' b = none) → ∀ b ∈ fp, FpOk X ((S, lstObj acc cc) :: ip) H' b := fun {H' acc cc} hn b hb => by
    obtain ⟨q1, q2, q3, q4, q5, q6⟩ := fst b hb
    refine ⟨hn b hb, q1, q2, q3, q4, fun p hp => ?_⟩
    rcases List.mem_append.mp hp with z | z
    · exact q6 p (List.mem_append_left _ z)
    · rcases List.mem_cons.mp z with z | z
      · rw [z]; exact Ne.symm q5
      · exact q6 p (List.mem_append_right _ z)
  have loop : ∀ (m n i : Nat) (ys : List V) (s₀ s : Shared) (σ : St) (H : Hp), n + ys.length = sizeLine → W i m ys σ H → GI X S ip ys σ H s → tn i s.heap → (∀ b ∈ fp, H b = none) →
      Seg (model X.prog X.w) A R (GY X S) n s₀ (.forLoop tg (.ref it) body [] X.env) ((model X.prog X.w).den (.forLoop tg (.ref it) body [] X.env))
        (.ret (fun r => ((match r with | .ok f => (.pure f : Sem Flow) | .error e => .raise e).onRaise (cameBack X.env)).wrap K J gd lv) none (gd false) (lv []) c p [] :: fs) s := by
    intro m
    induction m using Nat.strongRecOn with
    | ind m ih =>
      intro n i ys s₀ s σ H hn w hI st fr
      have ee : ∀ (n : Nat) (s₀ : Shared) (x : Value) (s' : Shared), X.xe x s' → Seg (model X.prog X.w) A R (GY X S) n s₀ (.forLoop tg (.ref it) body [] X.env)
          ((do noteFrame x X.env; theTreesLotGoes x : Sem Unit).wrap (fun _ => .raise x) .raise id id)
          (.ret (fun r => ((match r with | .ok f => (.pure f : Sem Flow) | .error e => .raise e).onRaise (cameBack X.env)).wrap K J gd lv) none (gd false) (lv []) c p [] :: fs) s' := fun n s₀ x s' hx => by
        refine seg_wrap ?_
        rw [(gl _).over]
        refine wpAny_bind (wpAny_mono (hp x s' hx) (fun _ s'' hcb => wpAny_theTreesLotGoes ?_) fun y s'' hcb => ?_)
        · exact seg_leaf (.error x) (seg_cameBack gc k hcb)
        · exact seg_leaf (.error y) (seg_cameBack gc k hcb)
      refine seg_forLoop ?_
      rw [(gl _).over]
      obtain ⟨acc, cc, r, I⟩ := hI
      rcases turn i m ys σ H w with ⟨stop, qn⟩ | ⟨go, N, hN, step⟩
      · refine wpAny_mono (T.done X rfl rfl rfl hc i _ s σ H X.xe I (stat fr) st stop) (fun r s4 ⟨hr, I4⟩ => ?_) fun x s' hx => ee n s₀ x s' hx
        subst hr
        exact seg_leaf (.ok .next) (k.ok n ys s₀ s4 .next hn ⟨σ, H, ⟨acc, cc, ‹_›, I4⟩, qn⟩)
      · refine wpAny_mono (T.item X rfl rfl rfl hc i _ s σ H X.xe I (stat fr) st go) (fun rr s4 ⟨u, hr, h4⟩ => ?_) fun x s' hx => ee n s₀ x s' hx
        subst hr
        refine wpAny_mono h4 (fun _ s5 ⟨x, H5, I5, r5, y5, st5, fr5⟩ => ?_) fun x s' hx => ee n s₀ x s' hx
        have I5' := I5.pinned (stat fr5) (T.obj _ _ st5)
        refine wpAny_mono (hg.run _ s5 σ H5 x u _ I5' r5 (step x H5 y5)) (fun _ s6 ⟨σ6, H6, I6, q6⟩ => ?_) fun x s' hx => ee n s₀ x s' hx
        have gc' : GC X S (ip ++ pinsAt fp s5.heap) A (.forLoop tg (.ref it) body [] X.env) (.ret (fun r => ((match r with | .ok f => (.pure f : Sem Flow) | .error e => .raise e).onRaise (cameBack X.env)).wrap K J gd lv) none (gd false) (lv []) c p [] :: fs) id :=
          ⟨(gl fun _ => .raise .none).pn, fun q hq => (List.mem_append.mp hq).elim (fun z => gc.ip q z) fun z => (fst q.1 (of_pinsAt z).1).2.2.2.2.1, gc.apart, (gl _).over, (gl _).split, (gl _).guard, rfl⟩
        have un : ∀ {ys' : List V} {σ7 : St} {H7 : Hp} {s7 : Shared}, GI X S (ip ++ pinsAt fp s5.heap) ys' σ7 H7 s7 → GI X S ip ys' σ7 H7 s7 ∧ tn (i + 1) s7.heap ∧ ∀ b ∈ fp, H7 b = none := fun {ys' σ7 H7 s7} h7 => by
          obtain ⟨acc7, c7, r7, I7⟩ := h7
          have I8 : Inv X (((S, lstObj acc7 c7) :: ip) ++ pinsAt fp s5.heap) σ7 H7 s7 := I7
          refine ⟨⟨acc7, c7, r7, I8.unpinned⟩, T.keep _ _ _ st5 fun b hb o e => (I8.pin (b, o) (List.mem_append_right _ (List.mem_append_right _ (mem_pinsAt hb e)))).1, fun b hb => ?_⟩
          obtain ⟨o, e, d⟩ := T.obj _ _ st5 b hb
          exact (I8.pin (b, o) (List.mem_append_right _ (List.mem_append_right _ (mem_pinsAt hb e)))).2.1
        refine hb.run A S (ip ++ pinsAt fp s5.heap) R n ys s₀ _ _ _ _ id id s6 σ6 H6 { D with nx := N, ct := N, bk := D.nx } gc' hn ⟨fun n' ys' s₀' s7 f hn' hs => ?_, fun n' s₀' x s3 hx => ee n' s₀' x s3 hx⟩ ⟨acc, cc, ‹_›, I6⟩ q6
        cases f with
        | next =>
          obtain ⟨σ7, H7, I7, n7⟩ := hs
          obtain ⟨m', hm, w7⟩ := hN ys' σ7 H7 n7
          obtain ⟨u1, u2, u3⟩ := un I7
          exact seg_again rfl (ih m' hm n' (i + 1) ys' s₀' s7 σ7 H7 hn' w7 u1 u2 u3)
        | cont =>
          obtain ⟨σ7, H7, I7, n7⟩ := hs
          obtain ⟨m', hm, w7⟩ := hN ys' σ7 H7 n7
          obtain ⟨u1, u2, u3⟩ := un I7
          exact seg_again rfl (ih m' hm n' (i + 1) ys' s₀' s7 σ7 H7 hn' w7 u1 u2 u3)
        | brk =>
          obtain ⟨σ7, H7, I7, q7⟩ := hs
          exact seg_leaf (.ok .next) (k.ok n' ys' s₀' s7 .next hn' ⟨σ7, H7, (un I7).1, q7⟩)
        | ret v =>
          obtain ⟨x7, σ7, H7, I7, r7, q7⟩ := hs
          exact seg_leaf (.ok (.ret v)) (k.ok n' ys' s₀' s7 (.ret v) hn' ⟨x7, σ7, H7, (un I7).1, r7, q7⟩)
  exact loop m0 n 0 ys s₀ s2 σ H2 hn w0 ⟨acc, cc, r, I2⟩ st2 fun b hb => (f2 b hb).1
end
end L2

/-! ### generators: judgements -/
namespace L2.Tr
open PySem PySem.Spec PyProof.Rows
section
variable {α β γ δ S T : Type}
def wGs (X : Cx) (st : Stmt) : TGn := fun D ys σ H => ∃ t, GS X st t ∧ t D ys σ H
def wGb (X : Cx) (ss : List Stmt) : TGn := fun D ys σ H => ∃ t, GSs X ss t ∧ t D ys σ H
theorem gss_W {X : Cx} {ss : List Stmt} : GSs X ss (wGb X ss) := ⟨fun A S ip R n ys s₀ c fs K J gd lv s σ H D g hn k hI ⟨t, p, q⟩ => p.run A S ip R n ys s₀ c fs K J gd lv s σ H D g hn k hI q⟩
theorem gs_W {X : Cx} {st : Stmt} : GS X st (wGs X st) := ⟨fun A S ip R n ys s₀ c fs K J gd lv s σ H D g hn k hI ⟨t, p, q⟩ => p.run A S ip R n ys s₀ c fs K J gd lv s σ H D g hn k hI q⟩
theorem pairedUp {r : Rp β} [mo : Mo r] {I I' : Hp} (s : Same I I') : ∀ {ys : List V} {xs : List β}, Paired (r I) ys xs → Paired (r I') ys xs
  | _, _, .nil => .nil
  | _, _, .cons h t => .cons (mo.up s h) (pairedUp s t)
def PostY (X : Cx) (W : WX) (Kx : KnowsX) (r : Rp β) (I : Hp) (m : Res (List β × S)) (G : S → Knows) (D : GEnds) : Prop := match m with
  | .ok z => ∀ I' H' σ' ys', Same I I' → G z.2 I' H' σ' → Paired (r I') ys' z.1 → D.nx ys' σ' H'
  | .err e => ∀ I' H' σ' cls d, Kx I' H' σ' d → ExR X.K I' H' e cls d → W cls d σ' H'
  | .stuck => False
def PostYE (X : Cx) (I0 H0 : Hp) (W : WX) (Kx : KnowsX) (r : Rp β) (m : Res (List β)) (D : GEnds) : Prop := match m with
  | .ok z => ∀ I' H' σ' ys', Fm I0 H0 I' H' → Paired (r I') ys' z → D.nx ys' σ' H'
  | .err e => ∀ I' H' σ' cls d, Kx I' H' σ' d → ExR X.K I' H' e cls d → W cls d σ' H'
  | .stuck => False
theorem PostY.up {X : Cx} {W : WX} {Kx : KnowsX} {r : Rp β} {I I1 : Hp} {m : Res (List β × S)} {G : S → Knows} {D : GEnds} (h : PostY X W Kx r I m G D) (s : Same I I1) : PostY X W Kx r I1 m G D := by
  cases m with
  | ok z => exact fun I' H' σ' ys' q => h I' H' σ' ys' (s.trans q)
  | err e => exact h
  | stuck => exact h
/-- a statement of a generator -/
def Y1 (X : Cx) (W : WX) (Kx : KnowsX) (r : Rp β) (G : Knows) (out : List β) (st : Stmt) (m : Res (List β × S)) (G' : S → Knows) : Prop :=
  ∀ (I H : Hp) (σ : St) (D : GEnds) (ys : List V), G I H σ → Paired (r I) ys out → PostY X W Kx r I m G' D → wGs X st D ys σ H
def YN (X : Cx) (W : WX) (Kx : KnowsX) (r : Rp β) (G : Knows) (out : List β) (ss : List Stmt) (m : Res (List β × S)) (G' : S → Knows) : Prop :=
  ∀ (I H : Hp) (σ : St) (D : GEnds) (ys : List V), G I H σ → Paired (r I) ys out → PostY X W Kx r I m G' D → wGb X ss D ys σ H
/-- a block that ends the generator -/
def YE (X : Cx) (I0 H0 : Hp) (W : WX) (Kx : KnowsX) (r : Rp β) (G : Knows) (out : List β) (ss : List Stmt) (m : Res (List β)) : Prop :=
  ∀ (I H : Hp) (σ : St) (D : GEnds) (ys : List V), G I H σ → Paired (r I) ys out → PostYE X I0 H0 W Kx r m D → wGb X ss D ys σ H
variable {X : Cx} {I0 H0 : Hp} {W : WX} {Kx : KnowsX} {G : Knows} {ctx : List (Option SF)} {mem : List MF} {e a b c o iter : Expr} {es : List Expr} {st : Stmt} {ss body : List Stmt} {pos pos' pos2 : Pos} {n : Str} {r : Rp β} {out : List β}
/-- a statement that hands out nothing -/
theorem Y1.of [mo : Mo r] {m : Res S} {G' : S → Knows} (j : J1 X W Kx G st m G') : Y1 X W Kx r G out st (m.bind fun s => .ok (out, s)) G' := fun I H σ D ys g pr p => by
  refine ⟨_, gs_ps ps_W, j I H σ (D.at ys) g ?_⟩
  cases m with
  | ok s => exact fun I' H' σ' si g' => p I' H' σ' ys si g' (pairedUp si pr)
  | err e => exact p
  | stuck => exact p
theorem Y1.yield [mo : Mo r] {m : Res β} (j : JE X I0 H0 W ctx mem e m (rp r)) (hx : ∀ I H σ d, Stt I0 H0 ctx mem I H σ → Fr H0 d → Kx I H σ d) (hco : X.env.scope.isCoroutine = false := by rfl) (hi : interactive X.env = false := by rfl) :
    Y1 X W Kx r (Stt I0 H0 ctx mem) out (.Expr (.Yield (some e) pos') pos) (Res.guard (out.length < sizeLine) (m.bind fun x => .ok (out ++ [x], ()))) (fun _ => Stt I0 H0 ctx mem) := fun I H σ D ys g pr p => by
  by_cases hl : out.length < sizeLine
  · rw [Res.guard_pos hl] at p
    refine ⟨_, gs_yield pe_W hco hi, by rw [Paired.length pr]; exact hl, j I H σ _ g ?_⟩
    cases m with
    | ok x => exact fun I' H' v f h => p I' H' σ _ f.i (g.step f) (paired_app (pairedUp f.i pr) (.cons h .nil))
    | err e => exact fun I' H' c d f x => p I' H' σ c d (hx _ _ _ _ (g.step f) (x.1.back g.fm.h)) x.2
    | stuck => exact p
  · have e : Res.guard (out.length < sizeLine) (m.bind fun x => .ok (out ++ [x], ())) = .stuck := if_neg hl
    rw [e] at p
    exact p.elim
theorem YN.nil [mo : Mo r] {s : S} {G' : S → Knows} (h : ∀ I H σ, G I H σ → G' s I H σ) : YN X W Kx r G out [] (.ok (out, s)) G' := fun I H σ D ys g pr p => ⟨_, gss_nil, p I H σ ys (Same.refl _) (h _ _ _ g) pr⟩
theorem YN.seq [mo : Mo r] {m : Res (List β × S)} {G1 : S → Knows} {f : List β × S → Res (List β × T)} {G2 : T → Knows} (j : Y1 X W Kx r G out st m G1) (k : ∀ z, YN X W Kx r (G1 z.2) z.1 ss (f z) G2) : YN X W Kx r G out (st :: ss) (m.bind f) G2 := fun I H σ D ys g pr p => by
  refine ⟨_, gss_cons gs_W gss_W, j I H σ _ ys g pr ?_⟩
  cases m with
  | ok z => exact fun I' H' σ' ys' si g' pr' => k z I' H' σ' D ys' g' pr' (PostY.up p si)
  | err e => exact p
  | stuck => exact p
theorem YE.nil [mo : Mo r] (h : ∀ I H σ, G I H σ → Fm I0 H0 I H) : YE X I0 H0 W Kx r G out [] (.ok out) := fun I H σ D ys g pr p => ⟨_, gss_nil, p I H σ ys (h _ _ _ g) pr⟩
theorem YE.seq [mo : Mo r] {m : Res (List β × S)} {G1 : S → Knows} {f : List β × S → Res (List β)} (j : Y1 X W Kx r G out st m G1) (k : ∀ z, YE X I0 H0 W Kx r (G1 z.2) z.1 ss (f z)) : YE X I0 H0 W Kx r G out (st :: ss) (m.bind f) := fun I H σ D ys g pr p => by
  refine ⟨_, gss_cons gs_W gss_W, j I H σ _ ys g pr ?_⟩
  cases m with
  | ok z => exact fun I' H' σ' ys' si g' pr' => k z I' H' σ' D ys' g' pr' p
  | err e => exact p
  | stuck => exact p
theorem YE.ex {ι : Type} {G : ι → Knows} {m : Res (List β)} (h : ∀ i, YE X I0 H0 W Kx r (G i) out ss m) : YE X I0 H0 W Kx r (fun I H σ => ∃ i, G i I H σ) out ss m := fun I H σ D ys ⟨i, g⟩ pr p => h i I H σ D ys g pr p
theorem YN.ex {ι : Type} {G : ι → Knows} {m : Res (List β × S)} {G' : S → Knows} (h : ∀ i, YN X W Kx r (G i) out ss m G') : YN X W Kx r (fun I H σ => ∃ i, G i I H σ) out ss m G' := fun I H σ D ys ⟨i, g⟩ pr p => h i I H σ D ys g pr p
theorem Y1.for [mr : Mo r] (j : Nat) {rb : Rp γ} [mo : Mo rb] {m : Res (List γ)} {cx : S → List (Option SF)} {me : S → List MF} {f : γ → List β × S → Res (List β × S)} {s0 : S} (hp : PassesOwn (model X.prog X.w) X.A X.env X.xe) (ji : JI X I0 H0 W ctx (me s0) (.Name n pos') iter m rb)
    (jb : ∀ x z, YN X W Kx r (Stt I0 H0 ((cx z.2).set j (some ⟨rb, x⟩)) (me z.2)) z.1 body (f x z) fun s' => Stt I0 H0 (cx s') (me s')) (hx : ∀ I H σ d, Stt I0 H0 ctx (me s0) I H σ → Fr H0 d → Kx I H σ d) (hw : weakC ctx (cx s0)) (hN : X.N.Nodup) (hc : X.calm = true := by rfl)
    (hj : X.N[j]? = some n := by rfl) (hl : Loc X.env.scope n := by first | exact Or.inl rfl | exact Or.inr rfl) (hf : X.fn n = true ∨ X.env.scope.names.lookup n = some .local := by first | exact .inl rfl | exact .inr rfl | assumption) (hs : ∀ x, foldedSetIterable iter X.env x = pure x := by intro _; rfl) :
    Y1 X W Kx r (Stt I0 H0 ctx (me s0)) out (.For (.Name n pos') iter body [] pos) (m.bind fun xs => forS f xs (out, s0)) (fun s => Stt I0 H0 (cx s) (me s)) := fun I H σ D ys g pr0 p => by
  refine ⟨_, gs_for hp hc pi_W.calm (pg_name (i := j) hN hj hl hf) gss_W hs, ji I H σ _ g ?_⟩
  cases m with
  | ok xs =>
    intro I1 H1 J vs okp f1 itr stay pr
    have p0 : PostY X W Kx r I1 (forS f xs (out, s0)) (fun s => Stt I0 H0 (cx s) (me s)) D := PostY.up p f1.i
    have hlen := Paired.length pr
    refine ⟨fun i k ys' σ' H' => k + i = vs.length ∧ ∃ I' z, Same I1 I' ∧ Stt I0 H0 (cx z.2) (me z.2) I' H' σ' ∧ Paired (r I') ys' z.1 ∧ PostY X W Kx r I' (forS f (xs.drop i) z) (fun s => Stt I0 H0 (cx s) (me s)) D, ⟨vs.length, rfl, I1, (out, s0), Same.refl _, (g.step f1).weak hw, pairedUp f1.i pr0, p0⟩, ?_⟩
    rintro i k ys' σ' H' ⟨hk, I', z, si, g', py, p'⟩
    have hok := stay I' H' si g'.same g'.fm.h
    by_cases hi : i < vs.length
    · obtain ⟨go, yl⟩ := (itr i H' hok).1 hi
      refine .inr ⟨go, fun ys2 σ2 H2 => ∃ I2 z2, Same I1 I2 ∧ Stt I0 H0 (cx z2.2) (me z2.2) I2 H2 σ2 ∧ Paired (r I2) ys2 z2.1 ∧ PostY X W Kx r I2 (forS f (xs.drop (i + 1)) z2) (fun s => Stt I0 H0 (cx s) (me s)) D, fun ys2 σ2 H2 h => ⟨k - 1, by omega, by omega, h⟩, fun v H2 hy => ?_⟩
      obtain ⟨rfl, ev⟩ := yl v H2 hy
      obtain ⟨x, ex, hr⟩ := paired_drop pr i ev
      rw [forS_drop ex] at p'
      refine jb x z I' H2 (σ'.set j (some v)) _ ys' (g'.set j (mo.up si hr)) py ?_
      revert p'
      generalize f x z = q
      intro p'
      cases q with
      | ok s2 => exact fun I2 H2 σ2 ys2 q1 q2 q3 => ⟨I2, s2, si.trans q1, q2, q3, PostY.up p' q1⟩
      | err e => exact p'
      | stuck => exact p'.elim
    · refine .inl ⟨(itr i H' hok).2 (by omega), ?_⟩
      have : xs.drop i = [] := List.drop_eq_nil_of_le (by omega)
      rw [this] at p'
      exact p' I' H' σ' ys' (Same.refl _) g' py
  | err e => exact fun I' H' c d f x => p I' H' σ c d (hx _ _ _ _ (g.step f) (x.1.back g.fm.h)) x.2
  | stuck => exact p.elim
theorem YE.seqP [mo : Mo r] {m : Res S} {G1 : S → Knows} {f : S → Res (List β)} (j : J1 X W Kx G st m G1) (k : ∀ z, YE X I0 H0 W Kx r (G1 z) out ss (f z)) : YE X I0 H0 W Kx r G out (st :: ss) (m.bind f) := fun I H σ D ys g pr p => by
  refine ⟨_, gss_cons gs_W gss_W, Y1.of j I H σ _ ys g pr ?_⟩
  cases m with
  | ok z => exact fun I' H' σ' ys' si g' pr' => k z I' H' σ' D ys' g' pr' p
  | err e => exact p
  | stuck => exact p
theorem YN.seqP [mo : Mo r] {m : Res S} {G1 : S → Knows} {f : S → Res (List β × T)} {G2 : T → Knows} (j : J1 X W Kx G st m G1) (k : ∀ z, YN X W Kx r (G1 z) out ss (f z) G2) : YN X W Kx r G out (st :: ss) (m.bind f) G2 := fun I H σ D ys g pr p => by
  refine ⟨_, gss_cons gs_W gss_W, Y1.of j I H σ _ ys g pr ?_⟩
  cases m with
  | ok z => exact fun I' H' σ' ys' si g' pr' => k z I' H' σ' D ys' g' pr' (PostY.up p si)
  | err e => exact p
  | stuck => exact p
theorem YE.yield [mo : Mo r] {m : Res β} {f : β → Res (List β)} (j : JE X I0 H0 W ctx mem e m (rp r)) (hx : ∀ I H σ d, Stt I0 H0 ctx mem I H σ → Fr H0 d → Kx I H σ d) (k : ∀ x, YE X I0 H0 W Kx r (Stt I0 H0 ctx mem) (out ++ [x]) ss (f x)) (hco : X.env.scope.isCoroutine = false := by rfl) (hi : interactive X.env = false := by rfl) :
    YE X I0 H0 W Kx r (Stt I0 H0 ctx mem) out (.Expr (.Yield (some e) pos') pos :: ss) (Res.guard (out.length < sizeLine) (m.bind f)) := fun I H σ D ys g pr p => by
  refine ⟨_, gss_cons gs_W gss_W, Y1.yield j hx hco hi I H σ _ ys g pr ?_⟩
  by_cases hl : out.length < sizeLine
  · rw [Res.guard_pos hl] at p ⊢
    cases m with
    | ok z => exact fun I' H' σ' ys' si g' pr' => k z I' H' σ' D ys' g' pr' p
    | err e => exact p
    | stuck => exact p
  · have e : Res.guard (out.length < sizeLine) (m.bind f) = .stuck := if_neg hl
    rw [e] at p
    exact p.elim
theorem YN.yield [mo : Mo r] {m : Res β} {f : β → Res (List β × T)} {G2 : T → Knows} (j : JE X I0 H0 W ctx mem e m (rp r)) (hx : ∀ I H σ d, Stt I0 H0 ctx mem I H σ → Fr H0 d → Kx I H σ d) (k : ∀ x, YN X W Kx r (Stt I0 H0 ctx mem) (out ++ [x]) ss (f x) G2) (hco : X.env.scope.isCoroutine = false := by rfl) (hi : interactive X.env = false := by rfl) :
    YN X W Kx r (Stt I0 H0 ctx mem) out (.Expr (.Yield (some e) pos') pos :: ss) (Res.guard (out.length < sizeLine) (m.bind f)) G2 := fun I H σ D ys g pr p => by
  refine ⟨_, gss_cons gs_W gss_W, Y1.yield j hx hco hi I H σ _ ys g pr ?_⟩
  by_cases hl : out.length < sizeLine
  · rw [Res.guard_pos hl] at p ⊢
    cases m with
    | ok z => exact fun I' H' σ' ys' si g' pr' => k z I' H' σ' D ys' g' pr' (PostY.up p si)
    | err e => exact p
    | stuck => exact p
  · have e : Res.guard (out.length < sizeLine) (m.bind f) = .stuck := if_neg hl
    rw [e] at p
    exact p.elim
theorem YN.at {c' : List (Option SF)} {m : Res (List β × S)} {G' : S → Knows} (h : YN X W Kx r (Stt I0 H0 c' mem) out ss m G') (e : ctx = c' := by rfl) : YN X W Kx r (Stt I0 H0 ctx mem) out ss m G' := by subst e; exact h
/-! ### the promise -/
def PostGn (K : PySem.W.Frag) (m : Res (List β)) (r : Rp β) (I H : Hp) (E : XK) (Q : List V → Hp → Prop) : Prop := match m with
  | .ok out => ∀ I' H' ys, Fm I H I' H' → Paired (r I') ys out → Q ys H'
  | .err e => ∀ I' H' cls d', Fm I H I' H' → Fr H d' ∧ ExR K I' H' e cls d' → E cls d' H'
  | .stuck => False
def spGn (K : PySem.W.Frag) (R : Hp → Hp → List V → δ → Prop) (m : δ → Res (List β)) (r : Rp β) : SpG := fun vs H Q E => ∃ I d, Same I H ∧ R I H vs d ∧ PostGn K (m d) r I H E Q
def GnR (P : Program) (w : World) (K : PySem.W.Frag) (mg : Str → Option Value) (base : Heap) (k : Nat) (f : Addr) (sp : SpG) : Prop := ∃ fd ps, GFn P w K mg base k f fd ps sp ∧ Binds K fd ps []
abbrev gx (P : Program) (w : World) (K : PySem.W.Frag) (mg : Str → Option Value) (base : Heap) (N : List Str) (qual : Str) (scope : Scope) (f : Addr) (cdv : Value) (A : Around) (outer : List Env) (s : Shared) (H : Hp) (E : XK) (pn : List (Addr × Obj)) : Cx := gcxOf P w K mg base N qual scope f cdv A outer s H E pn
theorem FunD.gen {P : Program} {w : World} {K : PySem.W.Frag} {mg : Str → Option Value} {base : Heap} {x qual : Str} {params : Arguments} {body : List Stmt} {scope : Scope} {kws : List (Str × V)} {f : Addr} {fd : FuncData} {N ps : List Str} {k : Nat} {R : Hp → Hp → List V → δ → Prop} {m : δ → Res (List β)} (F : FunD K x qual params body scope [] kws f fd) (Sc : GScope N ps scope) (len : ∀ I H vs d, R I H vs d → vs.length = ps.length)
    (hb : ∀ (cdv : Value) (A : Around) (outer : List Env) (s : Shared) (I0 H0 : Hp) (E : XK) (pn : List (Addr × Obj)) (vs : List V) (d : δ), Room k (A.deeper (envOfC qual scope s.heap.objs.size f cdv)) → Same I0 H0 → R I0 H0 vs d →
      ∃ G : Knows, G I0 H0 (start N vs) ∧ YE (gx P w K mg base N qual scope f cdv A outer s H0 E pn) I0 H0 (bW E) (bK I0 H0) r G [] body (m d)) : GFn P w K mg base (k + 1) f fd ps (spGn K R m r) := by
  obtain ⟨oc, od, dV, kV, doc, pm, an, cdv, ct, osl, rfl, lk, hcd, _, _⟩ := F.ex
  refine gfn_of lk hcd Sc (fun vs H Q E ⟨I, d, _, h, _⟩ => len I H vs d h) fun A outer s H vs Q E pn hr ⟨I, d, sm, h, p⟩ => ⟨_, gss_W, ?_⟩
  obtain ⟨G, g, j⟩ := hb cdv A outer s I H E pn vs d hr sm h
  refine j I H _ _ [] g .nil ?_
  revert p
  generalize m d = z
  intro p
  cases z with
  | ok y => exact fun I' H' _ ys f q => p I' H' ys f q
  | err e => exact fun I' H' _ c d f x => p I' H' c d f.1 ⟨f.2, x⟩
  | stuck => exact p
/-! ### list(o.m(..)) -/
theorem JM.listG [mo : Mo r] {k : Nat} {pl : Sem Bool} {m : Str} {C f : Addr} {apos : Pos} {rb : Ra α} {mb : Res α} {md : Res δ} {R : Hp → Hp → List V → δ → Prop} {g : α × δ → Res (List β)} [MoA rb] (j : JE X I0 H0 W ctx mem o mb rb) (hi : InsOf C rb m) (ka : JA X I0 H0 W ctx mem (e :: es) md R) (F : GnR X.prog X.w X.K X.mg X.base k f (spGn X.K (aCons rb R) g r)) (c : Cls X.K C) (hm : Meth X.K C m f)
    (hr : Room (k + 3) X.A) (hmg : X.mg "list" = none) (hg : Gl X "list" := by rfl) (hst : starEach (e :: es) X.env = (false, eval e X.env) :: starEach es X.env := by rfl) (hpl : (backTo pos (starEach es X.env)).any (·.1) = false := by rfl)
    (ht : eval (.Call (.Attribute o m apos) (e :: es) [] pos) X.env = (do
      let ov ← eval o X.env
      standAt apos.atName
      let (f, first) ← holding [ov] (getMethod ov m pl)
      callWith pos f first (backTo pos (starEach (e :: es) X.env)) (backToKw pos (keywordEach [] X.env))) := by rfl)
    (hs2 : starEach [(.Call (.Attribute o m apos) (e :: es) [] pos)] X.env = (false, eval (.Call (.Attribute o m apos) (e :: es) [] pos) X.env) :: starEach [] X.env := by rfl) :
    JM X I0 H0 W ctx mem (.Call (.Name "list" pos') [.Call (.Attribute o m apos) (e :: es) [] pos] [] pos2) (mb.bind fun x => md.bind fun y => noErr (g (x, y))) r := fun I H σ Q st p => by
  obtain ⟨fd, ps, GF, hb⟩ := F
  refine PE.w (pe_listG (E := fun _ _ _ => False) (pgen_meth pe_W c hm GF (hr.mono (by omega)) hb .nil pa_W hst hpl ht) (fun _ _ _ _ _ _ _ z => ?_) (fun _ _ _ z => z.elim) hr hg hmg (by decide +kernel) (by decide) (by decide) hs2) (j I H σ _ st ?_)
  · obtain ⟨_, _, _, _, _, _, _, _, _, _, _, _, hW⟩ := z
    exact hW.elim
  cases mb with
  | ok x =>
    intro I1 H1 v f1 r1
    obtain ⟨a, dx, fs, ev, ha, hl⟩ := hi I1 H1 v x f1.ih r1
    refine ⟨a, dx, fs, ev, ha, hl, ka I1 H1 σ _ (st.step f1) ?_⟩
    cases md with
    | ok y =>
      intro I2 H2 vs f2 r2
      refine ⟨I2, (x, y), f2.ih, by rw [List.append_nil]; exact ⟨v, vs, rfl, MoA.up f2.i f2.h r1, r2⟩, ?_⟩
      have p : PostM X W σ I H (noErr (g (x, y))) r Q := p
      revert p
      generalize g (x, y) = z
      intro p
      cases z with
      | ok out => exact fun I3 H3 ys f3 pr q hq => mpost p ((f1.trans f2).trans f3) hq pr
      | err e => exact p.elim
      | stuck => exact p.elim
    | err e => exact fun I' H' c d f2 x => p I' H' c d (f1.trans f2) ⟨x.1.back f1.h, x.2⟩
    | stuck => exact p.elim
  | err e => exact p
  | stuck => exact p.elim
end
end L2.Tr

namespace L2.Tr
open PySem PySem.Spec PyProof.Rows
/-! ### None or a value -/
section
variable {α β γ δ S L : Type} {X : Cx} {I0 H0 : Hp} {W : WX} {Kx : KnowsX} {ctx : List (Option SF)} {mem : List MF} {e a : Expr} {ss : List Stmt} {pos : Pos} {rr : Ra γ} {r : Rp α}
def rOp (r : Rp α) : Rp (Option α) := fun I v x => match x with
  | none => v = .non
  | some y => r I v y
instance {r : Rp α} [m : Mo r] : Mo (rOp r) := ⟨fun {I I' v x} s h => by
  cases x with
  | none => exact h
  | some y => exact m.up s h⟩
def optM {β : Type} (x : Option α) (f1 : β) (f2 : α → β) : β := match x with
  | none => f1
  | some y => f2 y
class NoN (r : Rp α) : Prop where
  ne : ∀ I v x, r I v x → v ≠ .non
instance : NoN rInt := ⟨fun _ _ _ h z => by rw [show _ = V.int _ from h] at z; cases z⟩
instance : NoN rBl := ⟨fun _ _ _ h z => by rw [show _ = V.bl _ from h] at z; cases z⟩
instance : NoN rStr := ⟨fun _ _ _ h z => by rw [show _ = V.str _ from h] at z; cases z⟩
instance {K : PySem.W.Frag} : NoN (rFrac K) := ⟨fun _ _ _ ⟨_, _, e, _⟩ z => by rw [e] at z; cases z⟩
instance {K : PySem.W.Frag} : NoN (rNum K) := ⟨fun I v x h => by
  cases x with
  | i n => exact NoN.ne (r := rInt) I v n h
  | q q => exact NoN.ne (r := rFrac K) I v q h⟩
instance {r : Rp α} : NoN (rL r) := ⟨fun _ _ _ ⟨_, _, e, _⟩ z => by rw [e] at z; cases z⟩
instance {r : Rp α} : NoN (rT r) := ⟨fun _ _ _ ⟨_, _, e, _⟩ z => by rw [e] at z; cases z⟩
instance {R : Hp → Hp → List V → δ → Prop} : NoN (rTu R) := ⟨fun _ _ _ ⟨_, _, e, _⟩ z => by rw [e] at z; cases z⟩
instance {C : Addr} {gs : α → List (Str × SF)} : NoN (rIns C gs) := ⟨fun _ _ _ ⟨_, _, _, e, _⟩ z => by rw [e] at z; cases z⟩
theorem JT.dead : JT X I0 H0 W ctx mem e (.stuck : Res Bool) := fun _ _ _ _ _ p => p.elim
theorem JW.dead : JW X I0 H0 W ctx mem e (.stuck : Res Bool) := fun _ _ _ _ _ p => p.elim
theorem JE.dead {r : Ra α} : JE X I0 H0 W ctx mem e (.stuck : Res α) r := fun _ _ _ _ _ p => p.elim
theorem JG.dead {G : Knows} {G' : S → Knows} {GL : L → Knows} : JG X I0 H0 W Kx G ss (.stuck : Res (Fl S L γ)) G' GL rr := fun _ _ _ _ _ p => p.elim
end
end L2.Tr

namespace L2.Tr
open PySem PySem.Spec PyProof.Rows He
/-! ### own errors with values -/
/-- C(e, ..) of an own error, its context still None -/
theorem pmk_oexN {X : Cx} {e : Expr} {es : List Expr} {ta : TA} {p pos : Pos} {CX : CXT} {x : Str} {C fI : Addr} {k : Nat} {fd : FuncData} {ps : List Str} {sp : Sp} (T : OexC X.K C) (iC : PySem.W.findIn X.K (.ref C) "__init__" = some (some (.ref fI))) (tI : PySem.W.typeIn X.K (.ref fI) = some (.type "function"))
    (F1 : FnOk X.prog X.w X.K X.mg X.base CX k fI fd ps sp) (hr : Room (k + 1) X.A) (hb : Binds X.K fd ps []) (hx : Passes CX X (fun _ _ _ => False)) (hg : Gl X x) (hm : X.mg x = some (.ref C)) (ha : PA X (e :: es) ta)
    (hdb : (x == ("__debug__" : Str)) = false := by decide) (he : starEach (e :: es) X.env = (false, eval e X.env) :: starEach es X.env := by rfl) (hpl : (backTo pos (starEach es X.env)).any (·.1) = false := by rfl) :
    L2N.PMk X (.Call (.Name x p) (e :: es) [] pos) (tMkO C sp [] ta) := by
  intro pins s σ H Q I h
  obtain ⟨nm, q, N, bs, bm, sn, sub, ab, col, dd, k0, k1, k2, k3, k5, hC, hbm⟩ := T.cls
  refine wpAny_Call_Name_kw (ld_glob I hg hm ?_ hdb)
  refine PySem.W.callWith_K (h₀ := X.base) I.ok.mod.kin T.kC (thn (ha.run pos pins s σ H _ I h) fun us s1 ⟨vs, H1, I1, r1, hz, q1⟩ => ⟨I1.kIn, ?_⟩) he hpl
  show wpAny _ _ (call (.ref C) us) _ _ _
  obtain ⟨hp, g, dr, tk, os⟩ := s1
  have hq := q1 (hp.objs.size + 1) (I1.hok.fresh (Nat.le_succ _))
  rw [List.append_nil] at hq
  have kk : ∀ b o, hp.get? b = some o → ((hp.push (PySem.W.kdv_tup us)).push (PySem.HandSPX.excO C hp.objs.size)).get? b = some o := fun b o e => Heap.get?_push_of_some _ (Heap.get?_push_of_some _ e)
  have hget : ((hp.push (PySem.W.kdv_tup us)).push (PySem.HandSPX.excO C hp.objs.size)).get? (hp.objs.size + 1) = some (PySem.HandSPX.excO C hp.objs.size) := by heap_get
  have I2 : Inv X pins σ (upd H1 (hp.objs.size + 1) (exo (hp.objs.size + 1) C none)) ⟨(hp.push (PySem.W.kdv_tup us)).push (PySem.HandSPX.excO C hp.objs.size), g, dr, tk, os⟩ :=
    I1.laid (t' := tk) (a := hp.objs.size + 1) (o := exo (hp.objs.size + 1) C none) (h' := (hp.push (PySem.W.kdv_tup us)).push (PySem.HandSPX.excO C hp.objs.size)) kk (Nat.le_succ _) (exo_ok hget)
  have r2 : Vals (V.ref (hp.objs.size + 1) :: vs) (Value.ref (hp.objs.size + 1) :: us) := .cons rfl r1
  have hl : (Value.ref (hp.objs.size + 1) :: us ++ []).length = ps.length := by
    have e := r2.length
    rw [F1.len _ _ _ _ hq] at e
    rw [List.append_nil]
    exact e.symm
  have hus : us.length ≤ sizeLine := by
    rw [← Paired.length r1, sizeLine_eq]
    omega
  have bnd := hb ⟨(hp.push (PySem.W.kdv_tup us)).push (PySem.HandSPX.excO C hp.objs.size), g, dr, tk, os⟩ (Value.ref (hp.objs.size + 1) :: us) I2.kIn hl
  rw [List.append_nil] at bnd
  refine wpAny_call (PySem.HandSPX.call_own F.excBase_ValueError (fun Y => PySem.HandSPX.refsVE_contains Y bm hbm) (I1.kIn _ _ hC) (PySem.W.looks_findIn I1.kIn iC) (fun self => PySem.W.bind_fn I1.kIn self tI) hus
    (codeAny_mono (F1.run _ X.stack _ _ ⟨Value.ref (hp.objs.size + 1) :: us, []⟩ (Value.ref (hp.objs.size + 1) :: us) _ _ (fun _ _ _ => False) (hr.make C us []) (I2.env0.make C us []) bnd r2 hq) fun r s' hq' => ?_))
  cases r with
  | error er => exact hx pins σ _ _ er s' I2 hq'
  | ok fl =>
    cases fl with
    | ret u =>
      obtain ⟨v, H2, os2, bare2, un2, hok2, rv, ev, d, fs, ea, ed, hd1, q2⟩ := hq'
      subst ev
      obtain ⟨h2, g2, d2, t2, os'⟩ := s'
      obtain ⟨t0, G, J, kG, ge, hoe, na⟩ := mk_end0 (d2 := d2) (t2 := t2) I1 (Nat.le_succ _) kk un2 hok2 os2 bare2 ea ed hd1
      exact ⟨rv, _, _, _, ⟨G, g2, d2, t2, os'⟩, _, .ref C, some d, rfl, J, kG, ge, hoe, ⟨rfl, rfl, fun vs z => by cases z; rfl⟩, rfl, rfl, na, rfl, bare2, raises_own T.exC T.tyC, q2⟩
    | next => exact False.elim hq'
    | brk => exact False.elim hq'
    | cont => exact False.elim hq'
structure ExcV (K : PySem.W.Frag) (mg : Str → Option Value) (x : Str) (fs : List Str) : Prop where
  oex : OexC K (ga K x)
  ini : PySem.W.findIn K (.ref (ga K x)) "__init__" = some (some (.ref (ma K (ga K x) "__init__")))
  tyI : PySem.W.typeIn K (.ref (ma K (ga K x) "__init__")) = some (.type "function")
  no : ∀ f, f ∈ fs → PySem.W.findIn K (.ref (ga K x)) f = some none
  gl : mg x = some (.ref (ga K x))
  xf : XfC K (ga K x)
def isOex (K : PySem.W.Frag) (C : Addr) : Bool := match List.lookup C K with
  | some ⟨.type "type", _, .cls cd, sl⟩ => (match cd.mro, sl.toList with
    | .ref C' :: bm, [_, _, _, _, some (.builtin n), _] => C' == C && (n == "ValueError.__new__" && (cd.hasDict && (!cd.hasDel && HandSPX.refsVE bm)))
    | _, _ => false)
  | _ => false
theorem isOex_ok {K : PySem.W.Frag} {C : Addr} (h : isOex K C = true) : ∃ nm q N bs bm sn sub ab col dd k0 k1 k2 k3 k5, List.lookup C K = some (excClassObj nm q C N bs bm true sn sub ab col dd k0 k1 k2 k3 k5 "ValueError.__new__") ∧ HandSPX.refsVE bm = true := by
  unfold isOex at h
  split at h
  · rename_i dd cd sl e
    split at h
    · rename_i C' bm k0 k1 k2 k3 n k5 e1 e2
      simp only [Bool.and_eq_true, beq_iff_eq, Bool.not_eq_true'] at h
      obtain ⟨h1, h2, h3, h4, h5⟩ := h
      obtain ⟨nm, bs, mro, N, q, hd, sn, sub, ab, col, del⟩ := cd
      dsimp only at e1 h3 h4
      subst h1; subst h2; subst h3; subst h4; subst e1
      refine ⟨nm, q, N, bs, bm, sn, sub, ab, col, dd, k0, k1, k2, k3, k5, ?_, h5⟩
      rw [e]
      congr 2
      exact Array.toList_inj.mp e2
    · cases h
  · cases h
def fExcV (x : Str) (fs : List Str) : FB := fun K => isOex K (ga K x) && (eqO (PySem.W.findIn K (.ref (ga K x)) "__setattr__") (some (some (.builtin "object.__setattr__"))) && (decide (PySem.W.subIn K (.ref (ga K x)) (.type "BaseException") = some true) && (decide (PySem.W.typeIn K (.ref (ga K x)) = some (.type "type")) && (PySem.W.keepIn K (.ref (ga K x)) &&
  (eqO (PySem.W.findIn K (.ref (ga K x)) "__init__") (some (some (.ref (ma K (ga K x) "__init__")))) && (decide (PySem.W.typeIn K (.ref (ma K (ga K x) "__init__")) = some (.type "function")) && (fs.all (fun f => eqO (PySem.W.findIn K (.ref (ga K x)) f) (some none)) && ((Fa.glo x).ok K &&
  (eqO (PySem.W.findIn K (.ref (ga K x)) "__getattribute__") (some (some (.builtin "BaseException.__getattribute__"))) && (eqO (PySem.W.findIn K (.ref (ga K x)) "__getattr__") (some none) && PySem.W.hasDictIn K (ga K x)))))))))))
theorem excV_of {K : PySem.W.Frag} {mg : Str → Option Value} {h : Heap} (X : K.In h) (G : h.Ns mainGlobals mg) {x : Str} {fs : List Str} (c : fExcV x fs K = true) : ExcV K mg x fs := by
  obtain ⟨c1, c⟩ := ba c
  obtain ⟨c2, c⟩ := ba c
  obtain ⟨c3, c⟩ := ba c
  obtain ⟨c4, c⟩ := ba c
  obtain ⟨c5, c⟩ := ba c
  obtain ⟨c6, c⟩ := ba c
  obtain ⟨c7, c⟩ := ba c
  obtain ⟨c8, c⟩ := ba c
  obtain ⟨c9, c⟩ := ba c
  obtain ⟨c10, c⟩ := ba c
  obtain ⟨c11, c12⟩ := ba c
  exact ⟨⟨isOex_ok c1, of_decide_eq_true c2, of_decide_eq_true c3, of_decide_eq_true c4, c5⟩, of_decide_eq_true c6, of_decide_eq_true c7, fun f hf => of_decide_eq_true (List.all_eq_true.mp c8 f hf), glo_ok X G c9, ⟨of_decide_eq_true c10, of_decide_eq_true c11, of_decide_eq_true c3, c12⟩⟩
section
variable {P : Program} {w : World} {K : PySem.W.Frag} {mg : Str → Option Value} {base : Heap}
def sp1 (C : Addr) (f : Str) : Sp := fun vs H Q _ => ∃ a v, vs = [.ref a, v] ∧ H a = some (exo a C none) ∧ ∀ dx, H dx = none → dx ≠ a → Q .non (upd (upd H dx (exd dx [(f, v)])) a (exo a C (some dx)))
theorem init1 {x qual : Str} {params : Arguments} {body : List Stmt} {scope : Scope} {fl : Addr} {fd : FuncData} {p f : Str} {p1 p2 p3 pos : Pos} {C : Addr} (F : FunD K x qual params body scope [] [] fl fd) (S : FnScope ["self", p] ["self", p] scope) (hb : body = [.Assign [.Attribute (.Name "self" p1) f p2] (.Name p p3) pos]) (T : OexC K C) (hno : PySem.W.findIn K (.ref C) f = some none)
    (hv0 : Vis scope "self") (hv1 : Vis scope p) (hd : (p == ("__debug__" : Str)) = false) (hcd : (p == ("__classdict__" : Str)) = false) : FnOk P w K mg base (L2N.CX P w) 1 fl fd ["self", p] (sp1 C f) := by
  refine F.ok (k := 0) S (fun vs H Q E ⟨a, v, e, _⟩ => by rw [e]; rfl) fun cdv A outer s H vs Q E hr ⟨a, v, e, ha, h⟩ => ⟨_, pss_W, ?_⟩
  subst e; subst hb
  refine b_cons (PS.w (ps_ost pe_W pe_W) (w_var 1 (v := v) (w_var 0 (v := .ref a) ?_ rfl rfl hv0 (by decide) (by decide)) rfl rfl hv1 hd hcd))
  refine ⟨a, C, rfl, T, hno, .inl ⟨ha, fun dx h1 h2 => ?_⟩⟩
  exact b_nil (h dx h1 h2)
/-- the promise of an error's making -/
abbrev ErR1 (P : Program) (w : World) (K : PySem.W.Frag) (mg : Str → Option Value) (base : Heap) (x f : Str) : Prop := ExcV K mg x [f] ∧ ∃ fd ps, FnOk P w K mg base (L2N.CX P w) 1 (ma K (ga K x) "__init__") fd ps (sp1 (ga K x) f) ∧ Binds K fd ps []
end
section
variable {α β γ δ S L : Type} {X : Cx} {I0 H0 : Hp} {W : WX} {Kx : KnowsX} {ctx cw : List (Option SF)} {mem : List MF} {e a b : Expr} {ss body suite : List Stmt} {b₀ : Stmt} {pos pos' np p1 p3 : Pos} {n x f g : Str} {rr : Ra γ} {r : Rp α} {r2 : Rp β} {G : Knows}
theorem passNo : Passes (L2N.CX X.prog X.w) X (fun _ _ _ => False) := fun _ _ _ _ _ _ _ ⟨_, _, _, _, _, _, _, _, _, _, _, _, h⟩ => h.elim
def ErrP (X : Cx) (W : WX) (Kx : KnowsX) (e : Exn) : Prop := ∀ I' H' σ' cls d, Kx I' H' σ' d → ExR X.K I' H' e cls d → W cls d σ' H'
theorem err_last {fs : List (Str × V)} {ps : List (Str × Pay)} {I H : Hp} {σ : L2.St} {a dx : Addr} (st : Stt I0 H0 ctx mem I H σ) (hx : ∀ I H σ d, Stt I0 H0 ctx mem I H σ → Fr H0 d → Kx I H σ d) (p : ErrP X W Kx ⟨x, ps⟩) (hp : ps ≠ []) (pr : Paired (fun (p : Str × V) (q : Str × Pay) => p.1 = q.1 ∧ PayR X.K I p.2 q.2) fs ps) (ha : H a = none) (h1 : H dx = none) (h2 : dx ≠ a) {H2 : Hp} (hH2 : ∀ b, b ≠ a → b ≠ dx → H2 b = H b) : W (.ref (ga X.K x)) (some dx) σ (upd (del H2 a) dx (.xd fs)) := by
  have e : upd (del H2 a) dx (.xd fs) = upd H dx (.xd fs) := funext fun b => by
    by_cases hb : b = dx
    · subst hb; rw [upd_same, upd_same]
    · rw [upd_ne hb, upd_ne hb]
      by_cases hb2 : b = a
      · subst hb2
        rw [ha]
        simp [del]
      · have : del H2 a b = H2 b := by simp [del, hb2]
        rw [this, hH2 b hb2 hb]
  rw [e]
  have f1 : Fm I H I (upd H dx (.xd fs)) := Fm.newM st.same h1
  refine p I _ σ _ (some dx) (hx _ _ _ _ (st.step f1) fun q z => by cases z; exact st.fm.h.free h1) ⟨rfl, hp, fs, upd_same, st.same.free h1, pr⟩
theorem raise1_core {m : Res α} {pay : α → Pay} {D : Ends} {I H : Hp} {σ : L2.St} (hc : X.calm = true) (tk : L2N.Takes X W) (er : ErR1 X.prog X.w X.K X.mg X.base x f) (hr : Room 2 X.A) (je : JE X I0 H0 W ctx mem e m (rp r)) (pc : ∀ I v y, r I v y → PayR X.K I v (pay y)) (hx : ∀ I H σ d, Stt I0 H0 ctx mem I H σ → Fr H0 d → Kx I H σ d) (st : Stt I0 H0 ctx mem I H σ)
    (p : match m with | .ok y => ErrP X W Kx ⟨x, [(f, pay y)]⟩ | .err ee => ErrP X W Kx ee | .stuck => False) (hg : Gl X x := by rfl) (hdb : (x == ("__debug__" : Str)) = false := by decide) (hs : starEach [e] X.env = (false, eval e X.env) :: starEach [] X.env := by rfl) (hpl : (backTo p3 (starEach [] X.env)).any (·.1) = false := by rfl) :
    wS X (.Raise (some (.Call (.Name x p1) [e] [] p3)) none pos) D σ H := by
  obtain ⟨ev, fd, ps, F1, hb⟩ := er
  refine s_raise hc tk (pmk_oexN ev.oex ev.ini ev.tyI F1 hr hb passNo hg ev.gl pa_W hdb hs hpl) ?_
  refine Tr.w_cons (je I H σ _ st ?_) hs
  cases m with
  | ok y =>
    intro I1 H1 v f1 r1
    refine w_nil ⟨by simp, fun q hq => ⟨q, v, rfl, upd_same, fun dx h1 h2 => ⟨rfl, dx, [(f, v)], upd_same, by rw [upd_ne h2, upd_same], by rwa [upd_ne h2] at h1, ?_⟩⟩⟩
    refine err_last (st.step f1) hx p (by simp) (.cons ⟨rfl, pc I1 v y r1⟩ .nil) hq (by rwa [upd_ne h2] at h1) h2 fun b h3 h4 => ?_
    rw [upd_ne h3, upd_ne h4, upd_ne h3]
  | err ee => exact fun I' H' c d f y => p I' H' σ c d (hx _ _ _ _ (st.step f) (y.1.back st.fm.h)) y.2
  | stuck => exact p
/-! the rules -/
theorem J1.raise1 {m : Res α} {pay : α → Pay} {G' : S → Knows} (hc : X.calm = true) (tk : L2N.Takes X W) (er : ErR1 X.prog X.w X.K X.mg X.base x f) (hr : Room 2 X.A) (je : JE X I0 H0 W ctx mem e m (rp r)) (pc : ∀ I v y, r I v y → PayR X.K I v (pay y)) (hx : ∀ I H σ d, Stt I0 H0 ctx mem I H σ → Fr H0 d → Kx I H σ d) (hg : Gl X x := by rfl) (hdb : (x == ("__debug__" : Str)) = false := by decide) (hs : starEach [e] X.env = (false, eval e X.env) :: starEach [] X.env := by rfl) (hpl : (backTo p3 (starEach [] X.env)).any (·.1) = false := by rfl) :
    J1 X W Kx (Stt I0 H0 ctx mem) (.Raise (some (.Call (.Name x p1) [e] [] p3)) none pos) (m.bind fun y => (.err ⟨x, [(f, pay y)]⟩ : Res S)) G' := fun I H σ D st p => by
  refine raise1_core hc tk er hr je pc hx st ?_ hg hdb hs hpl
  cases m with
  | ok y => exact p
  | err ee => exact p
  | stuck => exact p
theorem JN.raise1 {m : Res α} {pay : α → Pay} {G' : S → Knows} (hc : X.calm = true) (tk : L2N.Takes X W) (er : ErR1 X.prog X.w X.K X.mg X.base x f) (hr : Room 2 X.A) (je : JE X I0 H0 W ctx mem e m (rp r)) (pc : ∀ I v y, r I v y → PayR X.K I v (pay y)) (hx : ∀ I H σ d, Stt I0 H0 ctx mem I H σ → Fr H0 d → Kx I H σ d) (hg : Gl X x := by rfl) (hdb : (x == ("__debug__" : Str)) = false := by decide) (hs : starEach [e] X.env = (false, eval e X.env) :: starEach [] X.env := by rfl) (hpl : (backTo p3 (starEach [] X.env)).any (·.1) = false := by rfl) :
    JN X W Kx (Stt I0 H0 ctx mem) (.Raise (some (.Call (.Name x p1) [e] [] p3)) none pos :: ss) (m.bind fun y => (.err ⟨x, [(f, pay y)]⟩ : Res S)) G' := fun I H σ D st p => by
  refine b_cons (raise1_core hc tk er hr je pc hx st ?_ hg hdb hs hpl)
  cases m with
  | ok y => exact p
  | err ee => exact p
  | stuck => exact p
theorem JR.raise1 {m : Res α} {pay : α → Pay} (hc : X.calm = true) (tk : L2N.Takes X W) (er : ErR1 X.prog X.w X.K X.mg X.base x f) (hr : Room 2 X.A) (je : JE X I0 H0 W ctx mem e m (rp r)) (pc : ∀ I v y, r I v y → PayR X.K I v (pay y)) (hx : ∀ I H σ d, Stt I0 H0 ctx mem I H σ → Fr H0 d → Kx I H σ d) (hg : Gl X x := by rfl) (hdb : (x == ("__debug__" : Str)) = false := by decide) (hs : starEach [e] X.env = (false, eval e X.env) :: starEach [] X.env := by rfl) (hpl : (backTo p3 (starEach [] X.env)).any (·.1) = false := by rfl) :
    JR X I0 H0 W Kx (Stt I0 H0 ctx mem) (.Raise (some (.Call (.Name x p1) [e] [] p3)) none pos :: ss) (m.bind fun y => (.err ⟨x, [(f, pay y)]⟩ : Res γ)) rr := fun I H σ D st p => by
  refine b_cons (raise1_core hc tk er hr je pc hx st ?_ hg hdb hs hpl)
  cases m with
  | ok y => exact p
  | err ee => exact p
  | stuck => exact p
theorem pay_int {K : PySem.W.Frag} : ∀ I v y, rInt I v y → PayR K I v (.int y) := fun _ _ _ h => h
theorem pay_str {K : PySem.W.Frag} : ∀ I v y, rStr I v y → PayR K I v (.str y) := fun _ _ _ h => h
/-- a region that holds nothing but the frozen heap's history -/
def MF.same (I1 : Hp) : MF := ⟨fun I _ fp => fp = [] ∧ Same I1 I, fun s ⟨e, h⟩ => ⟨e, h.trans s⟩, fun _ h => h⟩
theorem Regs.snoc {I H : Hp} {c : MF} : ∀ {mem : List MF} {fps : List (List Addr)} {fp : List Addr}, Regs I H mem fps → c.Q I H fp → Regs I H (mem ++ [c]) (fps ++ [fp])
  | [], [], _, _, h => ⟨h, True.intro⟩
  | _ :: _, _ :: _, _, ⟨a, b⟩, h => ⟨a, Regs.snoc b h⟩
  | [], _ :: _, _, h, _ => h.elim
  | _ :: _, [], _, h, _ => h.elim
def dInt : Pay → Option Int
  | .int n => some n
  | _ => none
def dStr : Pay → Option Str
  | .str n => some n
  | _ => none
def dFrac : Pay → Option Rat
  | .frac n => some n
  | _ => none
def dNum : Pay → Option Num
  | .int n => some (.i n)
  | .frac q => some (.q q)
  | _ => none
class PayD (K : PySem.W.Frag) (dp : Pay → Option α) (r : Rp α) : Prop where
  ok : ∀ I v p y, PayR K I v p → dp p = some y → r I v y
instance {K : PySem.W.Frag} : PayD K dInt rInt := ⟨fun I v p y h e => by cases p <;> first | (cases e; exact h) | cases e⟩
instance {K : PySem.W.Frag} : PayD K dStr rStr := ⟨fun I v p y h e => by cases p <;> first | (cases e; exact h) | cases e⟩
instance {K : PySem.W.Frag} : PayD K dFrac (rFrac K) := ⟨fun I v p y h e => by cases p <;> first | (cases e; exact h) | cases e⟩
instance {K : PySem.W.Frag} : PayD K dNum (rNum K) := ⟨fun I v p y h e => by cases p <;> first | (cases e; exact h) | cases e⟩
end
end L2.Tr

namespace L2.Tr
open PySem PySem.Spec PyProof.Rows He
section
variable {α β γ δ S L : Type} {X : Cx} {I0 H0 I H : Hp} {W : WX} {Kx : KnowsX} {G : Knows} {ctx : List (Option SF)} {mem : List MF} {e a b c o : Expr} {es : List Expr} {st : Stmt} {ss s1 : List Stmt} {pos pos' p2 : Pos} {n : Str} {σ : St} {Q : VK} {r : Rp α} {ra : Ra α} {rb : Ra β} {rc : Ra γ} {rr : Ra γ} {ma : Res α} {mb : Res β} {mc : Res Bool} {md : Res δ} {R : Hp → Hp → List V → δ → Prop} {K : PySem.W.Frag}
end
end L2.Tr

/-! lists of numbers that are equal item by item: != tells False -/
namespace GQ
open PySem PySem.SeqAt
open AutoSeq1 (wpAny_loadPart')
open MeetsSeq MeetsSeq2 MeetsSeq3 SeqRoads2
section
variable {prog : Program} {w : World} {A : Around} {R : Result → Shared → Prop} {E : Value → Shared → Prop} {s : Shared}
end
end GQ
namespace L2.Tr
open PySem PySem.Spec PyProof.Rows He
instance : DecidableEq Num := fun x y => match x, y with
  | .i a, .i b => if h : a = b then .isTrue (by rw [h]) else .isFalse fun e => h (by cases e; rfl)
  | .q a, .q b => if h : a = b then .isTrue (by rw [h]) else .isFalse fun e => h (by cases e; rfl)
  | .i _, .q _ => .isFalse fun e => nomatch e
  | .q _, .i _ => .isFalse fun e => nomatch e
section
variable {X : Cx} {W : WX} {n : Nat} {D : Eqv}
end
end L2.Tr

namespace L2.Tr
open PySem PySem.Spec PyProof.Rows He
section
variable {α β γ δ S L : Type} {X : Cx} {I0 H0 I H : Hp} {W : WX} {ctx : List (Option SF)} {mem : List MF} {e a b c o : Expr} {es : List Expr} {pos pos' p2 : Pos} {n : Str} {σ : St} {Q : VK} {K : PySem.W.Frag}
/-! ### C.m(k = v, ..), m a classmethod -/
section
variable {ε : Type} {kws : List Keyword} {ks : List Str} {R : Hp → Hp → List V → δ → Prop} {R' : Hp → Hp → List V → ε → Prop} {rc : Ra γ} {me : Res ε}
end
end
end L2.Tr

namespace L2.Tr
open PySem PySem.Spec PyProof.Rows
/-! ### expressions that change regions of the call's own: C t are the regions at the state t -/
section
variable {α β γ δ S T L : Type}
def PostX (X : Cx) (I0 H0 : Hp) (W : WX) (Kx : KnowsX) (ctx : List (Option SF)) (C : T → List MF) (σ : St) (I : Hp) (m : Res (α × T)) (r : Rp α) (Q : VK) : Prop := match m with
  | .ok x => ∀ I' H' v, Same I I' → Stt I0 H0 ctx (C x.2) I' H' σ → r I' v x.1 → Q v H'
  | .err e => ∀ I' H' cls d, Kx I' H' σ d → ExR X.K I' H' e cls d → W cls d σ H'
  | .stuck => False
def PostXT (X : Cx) (I0 H0 : Hp) (W : WX) (Kx : KnowsX) (ctx : List (Option SF)) (C : T → List MF) (σ : St) (I : Hp) (m : Res (Bool × T)) (Q : Bool → Hp → Prop) : Prop := match m with
  | .ok x => ∀ I' H', Same I I' → Stt I0 H0 ctx (C x.2) I' H' σ → Q x.1 H'
  | .err e => ∀ I' H' cls d, Kx I' H' σ d → ExR X.K I' H' e cls d → W cls d σ H'
  | .stuck => False
def PostXA (X : Cx) (I0 H0 : Hp) (W : WX) (Kx : KnowsX) (ctx : List (Option SF)) (C : T → List MF) (σ : St) (I : Hp) (m : Res (δ × T)) (R : Hp → Hp → List V → δ → Prop) (Q : List V → Hp → Prop) : Prop := match m with
  | .ok x => ∀ I' H' vs, Same I I' → Stt I0 H0 ctx (C x.2) I' H' σ → R I' H' vs x.1 → Q vs H'
  | .err e => ∀ I' H' cls d, Kx I' H' σ d → ExR X.K I' H' e cls d → W cls d σ H'
  | .stuck => False
/-- a new list, still of the call's own -/
def PostXM (X : Cx) (I0 H0 : Hp) (W : WX) (Kx : KnowsX) (ctx : List (Option SF)) (C : T → List MF) (σ : St) (I : Hp) (m : Res (List α × T)) (r : Rp α) (Q : VK) : Prop := match m with
  | .ok x => ∀ I' H' l (mo : Mo r), Same I I' → Stt I0 H0 ctx (MF.lst l r x.1 :: C x.2) I' H' σ → Q (.ref l) H'
  | .err e => ∀ I' H' cls d, Kx I' H' σ d → ExR X.K I' H' e cls d → W cls d σ H'
  | .stuck => False
def PostXI (X : Cx) (I0 H0 : Hp) (W : WX) (Kx : KnowsX) (ctx : List (Option SF)) (C : T → List MF) (σ : St) (I : Hp) (m : Res (List β × T)) (r : Rp β) (R : It → Hp → Prop) : Prop := match m with
  | .ok x => ∀ I' H' J vs (okp : Hp → Prop), Same I I' → Stt I0 H0 ctx (C x.2) I' H' σ → ItR J vs okp → (∀ I'' H'', Same I' I'' → Same I'' H'' → Same H0 H'' → okp H'') → Paired (r I') vs x.1 → R J H'
  | .err e => ∀ I' H' cls d, Kx I' H' σ d → ExR X.K I' H' e cls d → W cls d σ H'
  | .stuck => False
def JX (X : Cx) (I0 H0 : Hp) (W : WX) (Kx : KnowsX) (ctx : List (Option SF)) (C : T → List MF) (t0 : T) (e : Expr) (m : Res (α × T)) (r : Rp α) : Prop :=
  ∀ (I H : Hp) (σ : St) (Q : VK), Stt I0 H0 ctx (C t0) I H σ → PostX X I0 H0 W Kx ctx C σ I m r Q → wE X e σ H Q
def JXT (X : Cx) (I0 H0 : Hp) (W : WX) (Kx : KnowsX) (ctx : List (Option SF)) (C : T → List MF) (t0 : T) (e : Expr) (m : Res (Bool × T)) : Prop :=
  ∀ (I H : Hp) (σ : St) (Q : Bool → Hp → Prop), Stt I0 H0 ctx (C t0) I H σ → PostXT X I0 H0 W Kx ctx C σ I m Q → wT X e σ H Q
def JXW (X : Cx) (I0 H0 : Hp) (W : WX) (Kx : KnowsX) (ctx : List (Option SF)) (C : T → List MF) (t0 : T) (e : Expr) (m : Res (Bool × T)) : Prop :=
  ∀ (I H : Hp) (σ : St) (Q : Bool → Hp → Prop), Stt I0 H0 ctx (C t0) I H σ → PostXT X I0 H0 W Kx ctx C σ I m Q → wW X e σ H Q
def JXA (X : Cx) (I0 H0 : Hp) (W : WX) (Kx : KnowsX) (ctx : List (Option SF)) (C : T → List MF) (t0 : T) (es : List Expr) (m : Res (δ × T)) (R : Hp → Hp → List V → δ → Prop) : Prop :=
  ∀ (I H : Hp) (σ : St) (Q : List V → Hp → Prop), Stt I0 H0 ctx (C t0) I H σ → PostXA X I0 H0 W Kx ctx C σ I m R Q → wA X es σ H Q
def JXM (X : Cx) (I0 H0 : Hp) (W : WX) (Kx : KnowsX) (ctx : List (Option SF)) (C : T → List MF) (t0 : T) (e : Expr) (m : Res (List α × T)) (r : Rp α) : Prop :=
  ∀ (I H : Hp) (σ : St) (Q : VK), Stt I0 H0 ctx (C t0) I H σ → PostXM X I0 H0 W Kx ctx C σ I m r Q → wE X e σ H Q
def JXI (X : Cx) (I0 H0 : Hp) (W : WX) (Kx : KnowsX) (ctx : List (Option SF)) (C : T → List MF) (t0 : T) (tg iter : Expr) (m : Res (List β × T)) (r : Rp β) : Prop :=
  ∀ (I H : Hp) (σ : St) (R : It → Hp → Prop), Stt I0 H0 ctx (C t0) I H σ → PostXI X I0 H0 W Kx ctx C σ I m r R → wI X tg iter σ H R
abbrev HX (I0 H0 : Hp) (Kx : KnowsX) (ctx : List (Option SF)) (C : T → List MF) : Prop := ∀ (t : T) (I H : Hp) (σ : St) (d : Option Addr), Stt I0 H0 ctx (C t) I H σ → Fr H0 d → Kx I H σ d
/-- a value and a state handed on -/
def Res.bindX (m : Res (α × T)) (f : α → T → Res β) : Res β := m.bind fun x => f x.1 x.2
@[simp] theorem Res.ok_bindX (a : α) (t : T) (f : α → T → Res β) : (Res.ok (a, t)).bindX f = f a t := rfl
@[simp] theorem Res.err_bindX (e : Exn) (f : α → T → Res β) : (Res.err e).bindX f = .err e := rfl
@[simp] theorem Res.stuck_bindX (f : α → T → Res β) : (Res.stuck).bindX f = .stuck := rfl
variable {X : Cx} {I0 H0 I H I1 : Hp} {W : WX} {Kx : KnowsX} {G : Knows} {ctx : List (Option SF)} {C : T → List MF} {t0 t : T} {e a b c o iter elt : Expr} {es bs : List Expr} {st : Stmt} {ss s1 s2 : List Stmt} {pos pos' p2 : Pos} {n : Str} {ra : Rp α} {rb : Rp β} {rc : Rp γ} {r : Rp α} {σ : St} {Q : VK} {R : Hp → Hp → List V → δ → Prop}
theorem PostX.up {m : Res (α × T)} (p : PostX X I0 H0 W Kx ctx C σ I m r Q) (s : Same I I1) : PostX X I0 H0 W Kx ctx C σ I1 m r Q := by
  cases m with
  | ok x => exact fun I' H' v q => p I' H' v (s.trans q)
  | err e => exact p
  | stuck => exact p
theorem PostXT.up {m : Res (Bool × T)} {Q : Bool → Hp → Prop} (p : PostXT X I0 H0 W Kx ctx C σ I m Q) (s : Same I I1) : PostXT X I0 H0 W Kx ctx C σ I1 m Q := by
  cases m with
  | ok x => exact fun I' H' q => p I' H' (s.trans q)
  | err e => exact p
  | stuck => exact p
theorem PostXA.up {m : Res (δ × T)} {Q : List V → Hp → Prop} (p : PostXA X I0 H0 W Kx ctx C σ I m R Q) (s : Same I I1) : PostXA X I0 H0 W Kx ctx C σ I1 m R Q := by
  cases m with
  | ok x => exact fun I' H' v q => p I' H' v (s.trans q)
  | err e => exact p
  | stuck => exact p
theorem PostX.pe {m : Res α} (st : Stt I0 H0 ctx (C t) I H σ) (hx : HX I0 H0 Kx ctx C) (p : PostX X I0 H0 W Kx ctx C σ I (m.bind fun z => .ok (z, t)) r Q) : PostE X.K m (rp r) I H (fun cls d H' => W cls d σ H') Q := by
  cases m with
  | ok a => exact fun I' H' v f h => p I' H' v f.i (st.step f) h
  | err e => exact fun I' H' c d f x => p I' H' c d (hx _ _ _ _ _ (st.step f) (x.1.back st.fm.h)) x.2
  | stuck => exact p
theorem JX.of {m : Res α} (j : JE X I0 H0 W ctx (C t0) e m (rp r)) (hx : HX I0 H0 Kx ctx C) : JX X I0 H0 W Kx ctx C t0 e (m.bind fun a => .ok (a, t0)) r := fun I H σ Q st p => j I H σ Q st (PostX.pe st hx p)
theorem JXT.of {m : Res Bool} (j : JT X I0 H0 W ctx (C t0) c m) (hx : HX I0 H0 Kx ctx C) : JXT X I0 H0 W Kx ctx C t0 c (m.bind fun a => .ok (a, t0)) := fun I H σ Q st p => j I H σ Q st (by
  cases m with
  | ok a => exact fun I' H' v f h b hb => by cases h; cases hb; exact p I' H' f.i (st.step f)
  | err e => exact fun I' H' c d f x => p I' H' c d (hx _ _ _ _ _ (st.step f) (x.1.back st.fm.h)) x.2
  | stuck => exact p)
theorem JXA.of {m : Res δ} (j : JA X I0 H0 W ctx (C t0) es m R) (hx : HX I0 H0 Kx ctx C) : JXA X I0 H0 W Kx ctx C t0 es (m.bind fun a => .ok (a, t0)) R := fun I H σ Q st p => j I H σ Q st (by
  cases m with
  | ok a => exact fun I' H' v f h => p I' H' v f.i (st.step f) h
  | err e => exact fun I' H' c d f x => p I' H' c d (hx _ _ _ _ _ (st.step f) (x.1.back st.fm.h)) x.2
  | stuck => exact p)
theorem JXM.of [mo : Mo r] {m : Res (List α)} (j : JM X I0 H0 W ctx (C t0) e m r) (hx : HX I0 H0 Kx ctx C) : JXM X I0 H0 W Kx ctx C t0 e (m.bind fun a => .ok (a, t0)) r := fun I H σ Q st p => j I H σ Q st (by
  cases m with
  | ok a => exact fun I' H' l vs f h1 h2 h3 pr => p I' H' l mo f.i (st.adopt f h1 h2 h3 pr)
  | err e => exact fun I' H' c d f x => p I' H' c d (hx _ _ _ _ _ (st.step f) (x.1.back st.fm.h)) x.2
  | stuck => exact p)
theorem JXI.of {tg : Expr} {m : Res (List β)} (j : JI X I0 H0 W ctx (C t0) tg iter m rb) (hx : HX I0 H0 Kx ctx C) : JXI X I0 H0 W Kx ctx C t0 tg iter (m.bind fun a => .ok (a, t0)) rb := fun I H σ R st p => j I H σ R st (by
  cases m with
  | ok a => exact fun I' H' J vs okp f h1 h2 pr => p I' H' J vs okp f.i (st.step f) h1 h2 pr
  | err e => exact fun I' H' c d f x => p I' H' c d (hx _ _ _ _ _ (st.step f) (x.1.back st.fm.h)) x.2
  | stuck => exact p)
theorem JX.map {m : Res (α × T)} {r' : Rp β} {g : α → β} (j : JX X I0 H0 W Kx ctx C t0 e m r) (h : ∀ I v x, r I v x → r' I v (g x)) : JX X I0 H0 W Kx ctx C t0 e (m.bindX fun x t => .ok (g x, t)) r' := fun I H σ Q st p => j I H σ Q st (by
  cases m with
  | ok x => exact fun I' H' v s g' q => p I' H' v s g' (h _ _ _ q)
  | err e => exact p
  | stuck => exact p)
theorem JX.bin {op : Operator} {g : α → β → Res γ} {ma : Res (α × T)} {mb : T → Res (β × T)} [Mo ra] (ja : JX X I0 H0 W Kx ctx C t0 a ma ra) (jb : ∀ t, JX X I0 H0 W Kx ctx C t b (mb t) rb) (o : OpJ X W (binaryOp op) (rp ra) (rp rb) g (rp rc)) (hx : HX I0 H0 Kx ctx C) :
    JX X I0 H0 W Kx ctx C t0 (.BinOp a op b pos) (ma.bindX fun x t => (mb t).bindX fun y t' => (g x y).bind fun z => .ok (z, t')) rc := fun I H σ Q st p => by
  refine w_bin (ja I H σ _ st ?_)
  cases ma with
  | ok x =>
    intro I1 H1 u s1 g1 r1
    refine jb x.2 I1 H1 σ _ g1 ?_
    have p1 : PostX X I0 H0 W Kx ctx C σ I1 ((mb x.2).bindX fun y t' => (g x.1 y).bind fun z => .ok (z, t')) rc Q := PostX.up p s1
    revert p1
    generalize mb x.2 = z
    intro p1
    cases z with
    | ok y => exact fun I2 H2 v s2 g2 r2 => o I2 H2 σ Q u v x.1 y.1 g2.same (Mo.up (r := ra) s2 r1) r2 (PostX.pe g2 hx (PostX.up p1 s2))
    | err e => exact p1
    | stuck => exact p1
  | err e => exact p
  | stuck => exact p
theorem JX.cmp {op : CmpOp} {g : α → β → Res γ} {ma : Res (α × T)} {mb : T → Res (β × T)} [Mo ra] (ja : JX X I0 H0 W Kx ctx C t0 a ma ra) (jb : ∀ t, JX X I0 H0 W Kx ctx C t b (mb t) rb) (o : OpJ X W (compareOp op) (rp ra) (rp rb) g (rp rc)) (hx : HX I0 H0 Kx ctx C) (hm : behindInMarks op b = false := by first | exact nomark _ | rfl) :
    JX X I0 H0 W Kx ctx C t0 (.Compare a [op] [b] pos) (ma.bindX fun x t => (mb t).bindX fun y t' => (g x y).bind fun z => .ok (z, t')) rc := fun I H σ Q st p => by
  refine w_cmp (ja I H σ _ st ?_) hm
  cases ma with
  | ok x =>
    intro I1 H1 u s1 g1 r1
    refine jb x.2 I1 H1 σ _ g1 ?_
    have p1 : PostX X I0 H0 W Kx ctx C σ I1 ((mb x.2).bindX fun y t' => (g x.1 y).bind fun z => .ok (z, t')) rc Q := PostX.up p s1
    revert p1
    generalize mb x.2 = z
    intro p1
    cases z with
    | ok y => exact fun I2 H2 v s2 g2 r2 => o I2 H2 σ Q u v x.1 y.1 g2.same (Mo.up (r := ra) s2 r1) r2 (PostX.pe g2 hx (PostX.up p1 s2))
    | err e => exact p1
    | stuck => exact p1
  | err e => exact p
  | stuck => exact p
theorem PostXT.px {m : Res (Bool × T)} {Q : Bool → Hp → Prop} (p : PostXT X I0 H0 W Kx ctx C σ I m Q) : PostX X I0 H0 W Kx ctx C σ I m rBl (fun v H' => truW X σ v H' Q) := by
  cases m with
  | ok x => exact fun I' H' v s g q => by cases q; exact tru_bl (p I' H' s g)
  | err e => exact p
  | stuck => exact p
theorem JXT.cmp {op : CmpOp} {g : α → β → Res Bool} {ma : Res (α × T)} {mb : T → Res (β × T)} [Mo ra] (ja : JX X I0 H0 W Kx ctx C t0 a ma ra) (jb : ∀ t, JX X I0 H0 W Kx ctx C t b (mb t) rb) (o : OpJ X W (compareOp op) (rp ra) (rp rb) g (rp rBl)) (hx : HX I0 H0 Kx ctx C) (hm : behindInMarks op b = false := by first | exact nomark _ | rfl) :
    JXT X I0 H0 W Kx ctx C t0 (.Compare a [op] [b] pos) (ma.bindX fun x t => (mb t).bindX fun y t' => (g x y).bind fun z => .ok (z, t')) := fun I H σ Q st p => by
  refine w_tcmp (ja I H σ _ st ?_) hm
  have p := p.px
  cases ma with
  | ok x =>
    intro I1 H1 u s1 g1 r1
    refine jb x.2 I1 H1 σ _ g1 ?_
    have p1 : PostX X I0 H0 W Kx ctx C σ I1 ((mb x.2).bindX fun y t' => (g x.1 y).bind fun z => .ok (z, t')) rBl _ := PostX.up p s1
    revert p1
    generalize mb x.2 = z
    intro p1
    cases z with
    | ok y => exact fun I2 H2 v s2 g2 r2 => o I2 H2 σ _ u v x.1 y.1 g2.same (Mo.up (r := ra) s2 r1) r2 (PostX.pe g2 hx (PostX.up p1 s2))
    | err e => exact p1
    | stuck => exact p1
  | err e => exact p
  | stuck => exact p
theorem JXT.not {m : Res (Bool × T)} (j : JXT X I0 H0 W Kx ctx C t0 e m) : JXT X I0 H0 W Kx ctx C t0 (.UnaryOp .Not e pos) (m.bindX fun b t => .ok (!b, t)) := fun I H σ Q st p => by
  refine w_not (j I H σ _ st ?_)
  cases m with
  | ok k => exact fun I1 H1 s g => p I1 H1 s g
  | err e => exact p
  | stuck => exact p
theorem JX.un {op : UnaryOp} {g : α → Res γ} {ma : Res (α × T)} (ja : JX X I0 H0 W Kx ctx C t0 a ma ra) (o : UnJ X W (unaryOp op) (rp ra) g (rp rc)) (hx : HX I0 H0 Kx ctx C) : JX X I0 H0 W Kx ctx C t0 (.UnaryOp op a pos) (ma.bindX fun x t => (g x).bind fun z => .ok (z, t)) rc := fun I H σ Q st p => by
  refine w_un (ja I H σ _ st ?_)
  cases ma with
  | ok x => exact fun I1 H1 u s1 g1 r1 => o I1 H1 σ Q u x.1 g1.same r1 (PostX.pe g1 hx (PostX.up p s1))
  | err e => exact p
  | stuck => exact p
theorem JXT.bool {op} {m : Res (Bool × T)} (j : JXW X I0 H0 W Kx ctx C t0 (.BoolOp op es pos) m) : JXT X I0 H0 W Kx ctx C t0 (.BoolOp op es pos) m := fun I H σ Q st p => w_tbool (j I H σ Q st p)
theorem JXW.and1 {m : Res (Bool × T)} (j : JXT X I0 H0 W Kx ctx C t0 a m) : JXW X I0 H0 W Kx ctx C t0 (.BoolOp .And [a] pos) m := fun I H σ Q st p => w_and1 (j I H σ Q st p)
theorem JXW.or1 {m : Res (Bool × T)} (j : JXT X I0 H0 W Kx ctx C t0 a m) : JXW X I0 H0 W Kx ctx C t0 (.BoolOp .Or [a] pos) m := fun I H σ Q st p => w_or1 (j I H σ Q st p)
theorem JXW.and {m : Res (Bool × T)} {m2 : T → Res (Bool × T)} (j : JXT X I0 H0 W Kx ctx C t0 a m) (k : ∀ t, JXW X I0 H0 W Kx ctx C t (.BoolOp .And (b :: bs) pos) (m2 t)) : JXW X I0 H0 W Kx ctx C t0 (.BoolOp .And (a :: b :: bs) pos) (m.bindX fun x t => if x = true then m2 t else .ok (false, t)) := fun I H σ Q st p => by
  refine w_and (j I H σ _ st ?_)
  cases m with
  | ok x =>
    obtain ⟨x, t⟩ := x
    intro I1 H1 s g
    have p1 := PostXT.up p s
    cases x with
    | true => exact iteT (k t I1 H1 σ Q g p1)
    | false => exact iteF (p1 I1 H1 (Same.refl _) g)
  | err e => exact p
  | stuck => exact p
theorem JXW.or {m : Res (Bool × T)} {m2 : T → Res (Bool × T)} (j : JXT X I0 H0 W Kx ctx C t0 a m) (k : ∀ t, JXW X I0 H0 W Kx ctx C t (.BoolOp .Or (b :: bs) pos) (m2 t)) : JXW X I0 H0 W Kx ctx C t0 (.BoolOp .Or (a :: b :: bs) pos) (m.bindX fun x t => if x = true then .ok (true, t) else m2 t) := fun I H σ Q st p => by
  refine w_or (j I H σ _ st ?_)
  cases m with
  | ok x =>
    obtain ⟨x, t⟩ := x
    intro I1 H1 s g
    have p1 := PostXT.up p s
    cases x with
    | true => exact iteT (p1 I1 H1 (Same.refl _) g)
    | false => exact iteF (k t I1 H1 σ Q g p1)
  | err e => exact p
  | stuck => exact p
/-! ### arguments, calls -/
theorem JXA.nil : JXA X I0 H0 W Kx ctx C t0 [] (.ok ((), t0)) aNil := fun I H σ Q st p => w_nil (p I H [] (Same.refl _) st rfl)
class MoN (R : Hp → Hp → List V → δ → Prop) : Prop where
  up : ∀ {I H I' H' : Hp} {vs : List V} {x : δ}, Same I I' → R I H vs x → R I' H' vs x
theorem JXA.cons {ma : Res (α × T)} {m : T → Res (δ × T)} [Mo ra] (j : JX X I0 H0 W Kx ctx C t0 e ma ra) (k : ∀ t, JXA X I0 H0 W Kx ctx C t es (m t) R) (hs : starEach (e :: es) X.env = (false, eval e X.env) :: starEach es X.env := by rfl) :
    JXA X I0 H0 W Kx ctx C t0 (e :: es) (ma.bindX fun x t => (m t).bindX fun y t' => .ok ((x, y), t')) (aCons (rp ra) R) := fun I H σ Q st p => by
  refine Tr.w_cons (j I H σ _ st ?_) hs
  cases ma with
  | ok x =>
    intro I1 H1 v s1 g1 r1
    refine k x.2 I1 H1 σ _ g1 ?_
    have p1 : PostXA X I0 H0 W Kx ctx C σ I1 ((m x.2).bindX fun y t' => .ok ((x.1, y), t')) (aCons (rp ra) R) Q := PostXA.up p s1
    revert p1
    generalize m x.2 = z
    intro p1
    cases z with
    | ok y => exact fun I2 H2 vs s2 g2 r2 => p1 I2 H2 _ s2 g2 ⟨v, vs, rfl, Mo.up (r := ra) s2 r1, r2⟩
    | err e => exact p1
    | stuck => exact p1
  | err e => exact p
  | stuck => exact p
theorem JXA.nilL : JXA X I0 H0 W Kx ctx C t0 [] (.ok ([], t0)) (lR 0 (rp r)) := fun I H σ Q st p => w_nil (p I H [] (Same.refl _) st ⟨rfl, .nil⟩)
theorem JXA.consL {k : Nat} {ma : Res (α × T)} {m : T → Res (List α × T)} [mo : Mo r] (j : JX X I0 H0 W Kx ctx C t0 e ma r) (jk : ∀ t, JXA X I0 H0 W Kx ctx C t es (m t) (lR k (rp r))) (hs : starEach (e :: es) X.env = (false, eval e X.env) :: starEach es X.env := by rfl) :
    JXA X I0 H0 W Kx ctx C t0 (e :: es) (ma.bindX fun x t => (m t).bindX fun y t' => .ok (x :: y, t')) (lR (k + 1) (rp r)) := fun I H σ Q st p => by
  refine Tr.w_cons (j I H σ _ st ?_) hs
  cases ma with
  | ok x =>
    intro I1 H1 v s1 g1 r1
    refine jk x.2 I1 H1 σ _ g1 ?_
    have p1 : PostXA X I0 H0 W Kx ctx C σ I1 ((m x.2).bindX fun y t' => .ok (x.1 :: y, t')) (lR (k + 1) (rp r)) Q := PostXA.up p s1
    revert p1
    generalize m x.2 = z
    intro p1
    cases z with
    | ok y => exact fun I2 H2 vs s2 g2 r2 => p1 I2 H2 _ s2 g2 ⟨by rw [List.length_cons, r2.1], .cons (mo.up s2 r1) r2.2⟩
    | err e => exact p1
    | stuck => exact p1
  | err e => exact p
  | stuck => exact p
variable {md : Res (δ × T)} {g : δ → Res γ}
theorem JXA.call (k : JXA X I0 H0 W Kx ctx C t0 es md R) {f : Value} (cj : CallJ X W f R g (rp rc)) (hx : HX I0 H0 Kx ctx C) (st : Stt I0 H0 ctx (C t0) I H σ) (p : PostX X I0 H0 W Kx ctx C σ I (md.bindX fun x t => (g x).bind fun z => .ok (z, t)) rc Q) : wA X es σ H fun vs H1 => callW X f σ vs H1 Q := by
  refine k I H σ _ st ?_
  cases md with
  | ok x => exact fun I1 H1 vs s1 g1 r1 => cj I1 H1 σ Q vs x.1 g1.same r1 (PostX.pe g1 hx (PostX.up p s1))
  | err e => exact p
  | stuck => exact p
theorem JX.call {f : Addr} (k : JXA X I0 H0 W Kx ctx C t0 (e :: es) md R) (cj : CallJ X W (.ref f) R g (rp rc)) (hx : HX I0 H0 Kx ctx C) (hm : X.mg n = some (.ref f)) (hk : PySem.W.keepIn X.K (.ref f) = true) (hg : Gl X n := by rfl) (hdb : (n == ("__debug__" : Str)) = false := by decide)
    (he : starEach (e :: es) X.env = (false, eval e X.env) :: starEach es X.env := by rfl) (hpl : (backTo pos (starEach es X.env)).any (·.1) = false := by rfl) : JX X I0 H0 W Kx ctx C t0 (.Call (.Name n pos') (e :: es) [] pos) (md.bindX fun x t => (g x).bind fun z => .ok (z, t)) rc := fun I H σ Q st p =>
  w_call (k.call cj hx st p) hm hk hg hdb he hpl
theorem JX.callB {id : String} (k : JXA X I0 H0 W Kx ctx C t0 (e :: es) md R) (cj : CallJ X W (.builtin id) R g (rp rc)) (hx : HX I0 H0 Kx ctx C) (hm : X.mg n = none) (hv : bootBuiltins n = some (.builtin id)) (hg : Gl X n := by rfl) (hn : n ≠ "__name__" := by decide) (hdb : (n == ("__debug__" : Str)) = false := by decide)
    (he : starEach (e :: es) X.env = (false, eval e X.env) :: starEach es X.env := by rfl) (hpl : (backTo pos (starEach es X.env)).any (·.1) = false := by rfl) : JX X I0 H0 W Kx ctx C t0 (.Call (.Name n pos') (e :: es) [] pos) (md.bindX fun x t => (g x).bind fun z => .ok (z, t)) rc := fun I H σ Q st p =>
  w_callB (k.call cj hx st p) hm hv hg hn hdb he hpl
theorem JX.callTy {N : String} (k : JXA X I0 H0 W Kx ctx C t0 (e :: es) md R) (cj : CallJ X W (.type N) R g (rp rc)) (hx : HX I0 H0 Kx ctx C) (hm : X.mg n = none) (hv : bootBuiltins n = some (.type N)) (hg : Gl X n := by rfl) (hn : n ≠ "__name__" := by decide) (hdb : (n == ("__debug__" : Str)) = false := by decide)
    (he : starEach (e :: es) X.env = (false, eval e X.env) :: starEach es X.env := by rfl) (hpl : (backTo pos (starEach es X.env)).any (·.1) = false := by rfl) : JX X I0 H0 W Kx ctx C t0 (.Call (.Name n pos') (e :: es) [] pos) (md.bindX fun x t => (g x).bind fun z => .ok (z, t)) rc := fun I H σ Q st p =>
  w_callTy (k.call cj hx st p) hm hv hg hn hdb he hpl
/-! ### subscripts, displays -/
theorem JX.ix {m : Res (List α × T)} {mi : T → Res (Int × T)} [mo : Mo r] (ja : JX X I0 H0 W Kx ctx C t0 a m (rL r)) (jb : ∀ t, JX X I0 H0 W Kx ctx C t b (mi t) rInt) (hs : PlainIx b := by exact fun _ _ => rfl) :
    JX X I0 H0 W Kx ctx C t0 (.Subscript a b pos) (m.bindX fun xs t => (mi t).bindX fun i t' => (atM xs i).bind fun z => .ok (z, t')) r := fun I H σ Q st p => by
  refine PE.w (pe_ix ix_list pe_W pe_W hs) (ja I H σ _ st ?_)
  cases m with
  | ok xs =>
    intro I1 H1 u s1 g1 r1
    refine jb xs.2 I1 H1 σ _ g1 ?_
    have p1 : PostX X I0 H0 W Kx ctx C σ I1 ((mi xs.2).bindX fun i t' => (atM xs.1 i).bind fun z => .ok (z, t')) r Q := PostX.up p s1
    revert p1
    generalize mi xs.2 = z
    intro p1
    cases z with
    | ok i =>
      intro I2 H2 v s2 g2 r2
      obtain ⟨l, vs, rfl, hl, pr⟩ := Mo.up (r := rL r) s2 r1
      have p2 : PostX X I0 H0 W Kx ctx C σ I2 ((atM xs.1 i.1).bind fun z => .ok (z, i.2)) r Q := PostX.up p1 s2
      unfold atM at p2
      cases e : atI xs.1 i.1 with
      | none => rw [e] at p2; exact p2.elim
      | some x =>
        rw [e] at p2
        obtain ⟨w, ew, hw⟩ := atI_pair pr e
        exact ⟨l, vs, i.1, w, rfl, r2, SqL.of (g2.same _ _ hl), ew, p2 I2 H2 w (Same.refl _) g2 hw⟩
    | err e => exact p1
    | stuck => exact p1
  | err e => exact p
  | stuck => exact p
theorem JX.tupD {k : Nat} {x1} [m : MoR R] [ic : Ice R] (j : JXA X I0 H0 W Kx ctx C t0 es md R) (hk : ∀ I H vs x, R I H vs x → vs.length = k) (hz : k ≤ sizeLine := by decide) : JX X I0 H0 W Kx ctx C t0 (.Tuple es x1 pos) md (rTu R) := fun I H σ Q st p => by
  refine w_tup (j I H σ _ st ?_)
  cases md with
  | ok x =>
    intro I1 H1 vs s1 g1 r1
    refine ⟨by rw [hk _ _ _ _ r1]; exact hz, fun q hq => ?_⟩
    have fn := Fm.new (o := .tup vs) g1.same hq
    exact p _ _ _ (s1.trans fn.i) (g1.step fn) ⟨q, vs, rfl, upd_same, m.up fn.i fn.i (ic.ice r1)⟩
  | err e => exact p
  | stuck => exact p
theorem JXM.lst {k : Nat} {m : Res (List α × T)} [mo : Mo r] (j : JXA X I0 H0 W Kx ctx C t0 es m (lR k (rp r))) (hk : k ≤ sizeLine := by decide) : JXM X I0 H0 W Kx ctx C t0 (.List es pos) m r := fun I H σ Q st p => by
  refine w_lst (j I H σ _ st ?_)
  cases m with
  | ok xs => exact fun I1 H1 vs s1 g1 r1 => ⟨by rw [r1.1]; exact hk, fun q hq => p _ _ _ mo s1 (g1.push hq r1.2)⟩
  | err e => exact p
  | stuck => exact p
/-- a region's first list is frozen -/
theorem Stt.ice1 [mo : Mo r] {mem : List MF} {l : Addr} {xs : List α} (s : Stt I0 H0 ctx (MF.lst l r xs :: mem) I H σ) : ∃ I', Same I I' ∧ Stt I0 H0 ctx mem I' H σ ∧ rL r I' (.ref l) xs := by
  obtain ⟨fp, ⟨e, o, hH, vs, eo, pr⟩, _, sm, s2⟩ := s.freezeAt 0 rfl
  subst e; subst eo
  exact ⟨_, sm, s2, l, vs, rfl, by rw [ice_in (List.mem_singleton_self l)]; exact hH, Paired.mapP pr fun _ _ z => mo.up sm z⟩
theorem JX.ofM [mo : Mo r] {m : Res (List α × T)} (j : JXM X I0 H0 W Kx ctx C t0 e m r) : JX X I0 H0 W Kx ctx C t0 e m (rL r) := fun I H σ Q st p => by
  refine j I H σ Q st ?_
  cases m with
  | ok x =>
    intro I1 H1 l _ s g
    obtain ⟨I2, s2, g2, h⟩ := g.ice1
    exact p I2 H1 _ (s.trans s2) g2 h
  | err e => exact p
  | stuck => exact p
/-! ### calls that change a region -/
/-- a region behind a call -/
structure RgF (I H1 I' H' : Hp) (c : MF) (fp : List Addr) : Prop where
  fm : Fm I H1 I' H'
  nd : fp.Nodup
  own : ∀ a, a ∈ fp → H1 a = none ∧ I' a = none ∧ H' a ≠ none
  q : c.Q I' H' fp
def PostC (K : PySem.W.Frag) (M : β → MF) (kp : Bool) (b : β) (m : Res (γ × β)) (rc : Rp γ) (I H : Hp) (fp : List Addr) (E : XK) (Q : VK) : Prop := match m with
  | .ok x => ∀ I' H' v fp', RgF I (rm H fp) I' H' (M x.2) fp' → rc I' v x.1 → Q v H'
  | .err e => ∀ I' H' cls d, Fm I (rm H fp) I' H' → (kp = true → ∃ fp', RgF I (rm H fp) I' H' (M b) fp') → Fr (rm H fp) d → ExR K I' H' e cls d → E cls d H'
  | .stuck => False
structure RgS (I H : Hp) (c : MF) (fp : List Addr) : Prop where
  s : Same I H
  q : c.Q I H fp
  nd : fp.Nodup
  own : ∀ a, a ∈ fp → I a = none ∧ H a ≠ none
def spX (K : PySem.W.Frag) (RG : Addr → β → MF) (R : Addr → Hp → Hp → List V → δ → Prop) (g : δ → β → Res (γ × β)) (rc : Rp γ) (kp : Bool) : Sp := fun vs H Q E => ∃ I l b fp d, RgS I H (RG l b) fp ∧ R l I H vs d ∧ PostC K (RG l) kp b (g d b) rc I H fp E Q
end
end L2.Tr

namespace L2.Tr
open PySem PySem.Spec PyProof.Rows
section
variable {α β γ δ S T L : Type} {X : Cx} {I0 H0 I H I1 : Hp} {W : WX} {Kx : KnowsX} {G : Knows} {ctx : List (Option SF)} {mem : List MF} {C : T → List MF} {t0 t : T} {e a b c o iter elt ix : Expr} {es bs : List Expr} {st : Stmt} {ss s1 s2 body : List Stmt} {pos pos' p2 : Pos} {n : Str} {ra : Rp α} {rb : Rp β} {rc : Rp γ} {r : Rp α} {σ : St} {Q : VK} {R : Hp → Hp → List V → δ → Prop} {rr : Ra γ}
/-! ### comprehensions whose items change regions -/
def lcXM (f : β → T → Res (α × T)) : List β → T → Res (List α × T)
  | [], t => .ok ([], t)
  | x :: xs, t => match f x t with
    | .ok y => (lcXM f xs y.2).bind fun z => .ok (y.1 :: z.1, z.2)
    | _ => .stuck
def lcX (f : β → T → Res (α × T)) (xs : List β) (t : T) : Res (List α × T) := Res.guard (xs.length ≤ sizeLine) (lcXM f xs t)
theorem lcXM_drop {f : β → T → Res (α × T)} {xs : List β} {i : Nat} {x : β} (h : xs[i]? = some x) (t : T) : lcXM f (xs.drop i) t = (match f x t with
    | .ok y => (lcXM f (xs.drop (i + 1)) y.2).bind fun z => .ok (y.1 :: z.1, z.2)
    | _ => .stuck) := by
  have hi := (List.getElem?_eq_some_iff.mp h).1
  rw [List.drop_eq_getElem_cons hi]
  have : xs[i] = x := (List.getElem?_eq_some_iff.mp h).2
  rw [this]
  rfl
theorem lcXM_noerr {f : β → T → Res (α × T)} {e : Exn} : ∀ (l : List β) (t : T), lcXM f l t ≠ .err e
  | [], t, h => by cases h
  | x :: l, t, h => by
    unfold lcXM at h
    cases q : f x t with
    | ok y =>
      rw [q] at h
      dsimp only at h
      cases q2 : lcXM f l y.2 with
      | ok ys => rw [q2] at h; cases h
      | err e2 => rw [q2] at h; cases h; exact lcXM_noerr l y.2 q2
      | stuck => rw [q2] at h; cases h
    | err e2 => rw [q] at h; cases h
    | stuck => rw [q] at h; cases h
/-- a name's slot as it was ahead -/
theorem Stt.back {mem' : List MF} {I' H' : Hp} {j : Nat} {q : Option SF} {v : Option V} (g : Stt I0 H0 ctx mem I H σ) (g' : Stt I0 H0 (ctx.set j q) mem' I' H' (σ.set j v)) (s : Same I I') : Stt I0 H0 ctx mem' I' H' σ := by
  refine ⟨g'.fm, g.len, fun i sf e => ?_, g'.me⟩
  by_cases hi : i = j
  · obtain ⟨w, e1, h⟩ := g.sl i sf e
    exact ⟨w, e1, sf.mo.up s h⟩
  · obtain ⟨w, e1, h⟩ := g'.sl i sf (by rw [List.getElem?_set_ne (Ne.symm hi)]; exact e)
    rw [List.getElem?_set_ne (Ne.symm hi)] at e1
    exact ⟨w, e1, h⟩
theorem lcX_post (j : Nat) [mo : Mo r] [mb : Mo rb] {m : Res (List β × T)} {f : β → T → Res (α × T)} {scope : Scope} (ji : JXI X I0 H0 W Kx ctx C t0 (.Name n pos') iter m rb)
    (je : ∀ (s : Shared) (H : Hp) (Ca : Addr) (cl : List (Str × Addr)) (fp : List Addr) (D : Addr) (acc : List α) (x : β) (t : T), JX (X.blkC s H scope (compEnvC scope cl Ca X.env) fp) I0 H0 W0 (fun _ _ _ _ => True) (ctx.set j (some ⟨rb, x⟩)) (fun t => MF.lst D r acc :: C t) t elt (f x t) r)
    (I H : Hp) (σ : St) (Q : VK) (st : Stt I0 H0 ctx (C t0) I H σ) (p : PostXM X I0 H0 W Kx ctx C σ I (m.bindX fun xs t => lcX f xs t) r Q) : tLc (wI X (.Name n pos') iter) (gName j) tYes (wEb X scope elt) [j] σ H Q := by
  refine ji I H σ _ st ?_
  cases m with
  | ok x0 =>
    obtain ⟨xs, t1⟩ := x0
    intro I1 H1 J vs okp f1 g1 itr stay pr D hD
    have hlen : vs.length = xs.length := Paired.length pr
    by_cases hz : xs.length ≤ sizeLine
    · have e0 : ((Res.ok (xs, t1)).bindX fun xs t => lcX f xs t) = lcXM f xs t1 := Res.guard_pos hz _
      rw [e0] at p
      cases et : lcXM f xs t1 with
      | ok tot =>
        rw [et] at p
        refine ⟨fun i k H' => k + i = vs.length ∧ ∃ I' acc t ys, Same I1 I' ∧ Stt I0 H0 ctx (MF.lst D r acc :: C t) I' H' σ ∧ acc.length ≤ i ∧ lcXM f (xs.drop i) t = .ok (ys, tot.2) ∧ tot.1 = acc ++ ys, ⟨vs.length, rfl, I1, [], t1, tot.1, Same.refl _, g1.push hD .nil, Nat.le_refl _, et, rfl⟩, ?_⟩
        rintro i k H' ⟨hk, I', acc, t, ys, si, g', ha, el, eq⟩
        have hok := stay I' H' si g'.same g'.fm.h
        by_cases hi : i < vs.length
        · obtain ⟨go, yl⟩ := (itr i H' hok).1 hi
          refine .inr ⟨go, fun H2 => ∃ I2 acc2 t2 ys2, Same I1 I2 ∧ Stt I0 H0 ctx (MF.lst D r acc2 :: C t2) I2 H2 σ ∧ acc2.length ≤ i + 1 ∧ lcXM f (xs.drop (i + 1)) t2 = .ok (ys2, tot.2) ∧ tot.1 = acc2 ++ ys2, fun H2 h => ⟨k - 1, by omega, by omega, h⟩, fun v H2 hy => ?_⟩
          obtain ⟨rfl, ev⟩ := yl v H2 hy
          obtain ⟨x, ex, hr⟩ := paired_drop pr i ev
          rw [lcXM_drop ex] at el
          show (fun σ2 H2 => wipe σ2 [j] = wipe σ [j] ∧ _) (((σ.set j none)).set j (some v)) H2
          refine ⟨?_, ?_⟩
          · show ((σ.set j none).set j (some v)).set j none = σ.set j none
            rw [List.set_set, List.set_set]
          · show wEb X scope elt ((σ.set j none).set j (some v)) H2 _
            rw [List.set_set]
            intro s3 H3 Ca cl fp
            refine je s3 H3 Ca cl fp D acc x t I' H2 (σ.set j (some v)) _ (g'.set j (mb.up si hr)) ?_
            revert el
            generalize f x t = z
            intro el
            cases z with
            | ok y =>
              cases el2 : lcXM f (xs.drop (i + 1)) y.2 with
              | ok ys2 =>
                dsimp only at el
                rw [el2] at el
                have el' : (y.1 :: ys2.1, ys2.2) = (ys, tot.2) := by injection el
                obtain ⟨e3, e4⟩ := Prod.mk.inj el'
                intro I4 H4 vy s4 g4 r4
                have g5 := g'.back g4 s4
                obtain ⟨z0, zI, oo, zH, vacc, eo, pacc⟩ := g5.lstAt (j := 0) rfl
                subst eo
                have hla := Paired.length pacc
                have hlt := (List.getElem?_eq_some_iff.mp ex).1
                refine ⟨vacc, zH, by omega, I4, acc ++ [y.1], y.2, ys2.1, si.trans s4, g5.relst 0 rfl (paired_app pacc (.cons r4 .nil)), by rw [List.length_append, List.length_singleton]; omega, by rw [el2, ← e4], by rw [eq, ← e3, List.append_assoc]; rfl⟩
              | err e => dsimp only at el; rw [el2] at el; cases el
              | stuck => dsimp only at el; rw [el2] at el; cases el
            | err e => cases el
            | stuck => cases el
        · refine .inl ⟨(itr i H' hok).2 (by omega), ?_⟩
          have e1 : xs.drop i = [] := List.drop_eq_nil_of_le (by omega)
          rw [e1] at el
          have el' : (([] : List α), t) = (ys, tot.2) := by injection el
          obtain ⟨e3, e4⟩ := Prod.mk.inj el'
          rw [← e3, List.append_nil] at eq
          rw [e4, ← eq] at g'
          exact p I' H' D mo (f1.trans si) g'
      | err e => exact absurd et (lcXM_noerr _ _)
      | stuck => rw [et] at p; exact p.elim
    · have e0 : ((Res.ok (xs, t1)).bindX fun xs t => lcX f xs t) = .stuck := if_neg hz
      rw [e0] at p
      exact p.elim
  | err e => exact p
  | stuck => exact p
theorem JXM.lc (j : Nat) [mo : Mo r] [mb : Mo rb] {m : Res (List β × T)} {f : β → T → Res (α × T)} {scope : Scope} (ji : JXI X I0 H0 W Kx ctx C t0 (.Name n pos') iter m rb)
    (je : ∀ (s : Shared) (H : Hp) (Ca : Addr) (cl : List (Str × Addr)) (fp : List Addr) (D : Addr) (acc : List α) (x : β) (t : T), L2N.Takes (X.blkC s H scope (compEnvC scope cl Ca X.env) fp) W0 → JX (X.blkC s H scope (compEnvC scope cl Ca X.env) fp) I0 H0 W0 (fun _ _ _ _ => True) (ctx.set j (some ⟨rb, x⟩)) (fun t => MF.lst D r acc :: C t) t elt (f x t) r)
    (hN : X.N.Nodup) (ok : BlkOk X.N X.env.scope scope [(n, j)]) (hj : X.N[j]? = some n := by rfl) (hc : Cool X := by first | exact .inl rfl | exact .inr ⟨_, by assumption, List.mem_cons_self⟩) (hsc : Loc (relabel scope X.env) n := by first | exact Or.inl rfl | exact Or.inr rfl) (hfn : (scope.names.lookup n == some .cell) = true ∨ (relabel scope X.env).names.lookup n = some .local := by first | exact .inr rfl | exact .inl rfl) (hs : ∀ x, foldedSetIterable iter X.env x = pure x := by intro _; rfl) :
    JXM X I0 H0 W Kx ctx C t0 (.ListComp elt [⟨.Name n pos', iter, [], 0⟩] scope pos) (m.bindX fun xs t => lcX f xs t) r := fun I H σ Q st p =>
  PE.w (pe_lcC (own := [(n, j)]) hc hN pi_W ok (fun s H C cl fp => pg_name (i := j) hN hj hsc hfn) (fun s H C cl fp => pts_nil) (fun s H C cl fp => pe_Wb s H C cl fp) hs) (lcX_post j ji (fun s H Ca cl fp D acc x t => je s H Ca cl fp D acc x t takes0) I H σ Q st p)
theorem JXI.range1 {tg : Expr} {m : Res (Int × T)} (j : JX X I0 H0 W Kx ctx C t0 a m rInt) (hm : X.mg "range" = none) (hg : Gl X "range" := by rfl) (hs : starEach [a] X.env = (false, eval a X.env) :: starEach [] X.env := by rfl) : JXI X I0 H0 W Kx ctx C t0 tg (.Call (.Name "range" pos') [a] [] pos) (m.bindX fun x t => (rangeM1 x).bind fun z => .ok (z, t)) rInt := fun I H σ R st p => by
  refine PI.w (pi_range1C hg hm (pa_cons pe_W pa_nil hs) hs) (j I H σ _ st ?_)
  cases m with
  | ok x =>
    intro I1 H1 v s1 g1 r1
    cases (show v = V.int x.1 from r1)
    by_cases hh : -(2 ^ 62) ≤ x.1 ∧ x.1 < 2 ^ 62
    · have e : ((Res.ok x).bindX fun x t => (rangeM1 x).bind fun z => .ok (z, t)) = .ok (rngI 0 x.1.toNat, x.2) := by
        show (rangeM1 x.1).bind _ = _
        rw [show rangeM1 x.1 = _ from Res.guard_pos hh _]; rfl
      rw [e] at p
      exact ⟨x.1, rfl, hh.1, hh.2, p I1 H1 _ _ _ s1 g1 itr_rng (fun _ _ _ _ _ => True.intro) rng_pair⟩
    · have e : ((Res.ok x).bindX fun x t => (rangeM1 x).bind fun z => .ok (z, t)) = .stuck := by
        show (rangeM1 x.1).bind _ = _
        rw [show rangeM1 x.1 = _ from if_neg hh]; rfl
      rw [e] at p
      exact p.elim
  | err e => exact p
  | stuck => exact p
/-- the iterable of a for, put ahead: as if its items were drawn first -/
theorem JXI.forS (j : Nat) [mb : Mo rb] {m : Res (List β × T)} {cx : S → List (Option SF)} {me : S → List MF} {f : β → S → Res S} {s0 : T → S} (hp : PassesOwn (model X.prog X.w) X.A X.env X.xe) (ji : JXI X I0 H0 W Kx ctx C t0 (.Name n pos') iter m rb)
    (jb : ∀ x s, JN X W Kx (Stt I0 H0 ((cx s).set j (some ⟨rb, x⟩)) (me s)) body (f x s) fun s' => Stt I0 H0 (cx s') (me s')) (hC : ∀ t, C t = me (s0 t)) (hw : ∀ t, weakC ctx (cx (s0 t))) (hN : X.N.Nodup) (hc : Cool X := by first | exact .inl rfl | exact .inr ⟨_, by assumption, List.mem_cons_self⟩)
    (hj : X.N[j]? = some n := by rfl) (hl : Loc X.env.scope n := by first | exact Or.inl rfl | exact Or.inr rfl) (hf : X.fn n = true ∨ X.env.scope.names.lookup n = some .local := by first | exact .inl rfl | exact .inr rfl | assumption) (hs : ∀ x, foldedSetIterable iter X.env x = pure x := by intro _; rfl) :
    J1 X W Kx (Stt I0 H0 ctx (C t0)) (.For (.Name n pos') iter body [] pos) (m.bindX fun xs t => Tr.forS f xs (s0 t)) (fun s => Stt I0 H0 (cx s) (me s)) := fun I H σ D g p => by
  refine PS.w (ps_forC hp hc pi_W (pg_name (i := j) hN hj hl hf) pss_W hs) (ji I H σ _ g ?_)
  cases m with
  | ok x0 =>
    obtain ⟨xs, t1⟩ := x0
    intro I1 H1 J vs okp f1 g1 itr stay pr
    have p0 : PostB X W Kx I1 (Tr.forS f xs (s0 t1)) (fun s => Stt I0 H0 (cx s) (me s)) D := PostB.up p f1
    have hlen : vs.length = xs.length := Paired.length pr
    have g1 : Stt I0 H0 (cx (s0 t1)) (me (s0 t1)) I1 H1 σ := by rw [← hC t1]; exact g1.weak (hw t1)
    refine ⟨fun i k σ' H' => k + i = vs.length ∧ ∃ I' s, Same I1 I' ∧ Stt I0 H0 (cx s) (me s) I' H' σ' ∧ PostB X W Kx I' (Tr.forS f (xs.drop i) s) (fun s => Stt I0 H0 (cx s) (me s)) D, ⟨vs.length, rfl, I1, s0 t1, Same.refl _, g1, p0⟩, ?_⟩
    rintro i k σ' H' ⟨hk, I', s, si, g', p'⟩
    have hok := stay I' H' si g'.same g'.fm.h
    by_cases hi : i < vs.length
    · obtain ⟨go, yl⟩ := (itr i H' hok).1 hi
      refine .inr ⟨go, fun σ2 H2 => ∃ I2 s2, Same I1 I2 ∧ Stt I0 H0 (cx s2) (me s2) I2 H2 σ2 ∧ PostB X W Kx I2 (Tr.forS f (xs.drop (i + 1)) s2) (fun s => Stt I0 H0 (cx s) (me s)) D, fun σ2 H2 h => ⟨k - 1, by omega, by omega, h⟩, fun v H2 hy => ?_⟩
      obtain ⟨rfl, ev⟩ := yl v H2 hy
      obtain ⟨x, ex, hr⟩ := paired_drop pr i ev
      rw [forS_drop ex] at p'
      have key := jb x s I' H2 (σ'.set j (some v)) { D with nx := fun σ2 H2 => ∃ I2 s2, Same I' I2 ∧ Stt I0 H0 (cx s2) (me s2) I2 H2 σ2 ∧ PostB X W Kx I2 (Tr.forS f (xs.drop (i + 1)) s2) (fun s => Stt I0 H0 (cx s) (me s)) D, ct := fun _ _ => False, bk := fun _ _ => False } (g'.set j (mb.up si hr)) ?_
      · refine b_mono key (fun σ2 H2 ⟨I2, s2, q1, q2, q3⟩ => ⟨I2, s2, si.trans q1, q2, q3⟩) (fun _ _ z => z) (fun _ _ z => z.elim) (fun _ _ z => z.elim)
      · revert p'
        generalize f x s = z
        intro p'
        cases z with
        | ok s2 => exact fun I2 H2 σ2 q1 q2 => ⟨I2, s2, q1, q2, PostB.up p' q1⟩
        | err e => exact p'
        | stuck => exact p'.elim
    · refine .inl ⟨(itr i H' hok).2 (by omega), ?_⟩
      have : xs.drop i = [] := List.drop_eq_nil_of_le (by omega)
      rw [this] at p'
      exact p' I' H' σ' (Same.refl _) g'
  | err e => exact fun I' H' c d x => p I' H' σ c d x
  | stuck => exact p.elim
/-! ### defs that change a region of the caller's -/
/-- what such a def hands back: its value and the region -/
def rReg (M : β → MF) (H0 : Hp) (rc : Rp γ) : Ra (γ × β) := fun I H v x => rc I v x.1 ∧ ∃ fp, fp.Nodup ∧ (∀ a, a ∈ fp → H0 a = none ∧ I a = none ∧ H a ≠ none) ∧ (M x.2).Q I H fp
end
theorem FunD.fnX {γ δ β : Type} {P : Program} {w : World} {K : PySem.W.Frag} {mg : Str → Option Value} {base : Heap} {x qual : Str} {params : Arguments} {body : List Stmt} {scope : Scope} {dvs : List V} {kws : List (Str × V)} {f : Addr} {fd : FuncData} {N ps : List Str} {k : Nat} {RG : Addr → β → MF} {R : Addr → Hp → Hp → List V → δ → Prop} {m : δ → β → Res (γ × β)} {rc : Rp γ} (F : FunD K x qual params body scope dvs kws f fd) (Sc : FnScope N ps scope) (len : ∀ l I H vs d, R l I H vs d → vs.length = ps.length)
    (hb : ∀ (cdv : Value) (A : Around) (outer : List Env) (s : Shared) (I0 H0 H1 : Hp) (E : XK) (vs : List V) (d : δ) (l : Addr) (b : β), Room k (A.deeper (envOfC qual scope s.heap.objs.size f cdv)) → Same I0 H1 → R l I0 H1 vs d →
      ∃ ctx : List (Option SF), ctx.length = N.length ∧ vs.length ≤ N.length ∧ IniR I0 vs ctx ∧ JR (bx P w K mg base N qual scope f cdv A outer s H1 E) I0 H0 (bW E) (bK I0 H0) (Stt I0 H0 ctx [RG l b]) body (m d b) (rReg (RG l) H0 rc)) : FnOk P w K mg base (L2N.CX P w) (k + 1) f fd ps (spX K RG R m rc false) := by
  refine F.ok Sc (fun vs H Q E ⟨I, l, b, fp, d, _, h, _⟩ => len l I H vs d h) fun cdv A outer s H vs Q E hr ⟨I, l, b, fp, d, rs, h, p⟩ => ⟨_, pss_W, ?_⟩
  obtain ⟨ctx, l1, l2, ini, j⟩ := hb cdv A outer s I (rm H fp) H E vs d l b hr rs.s h
  refine j I H _ _ ?_ ?_
  · refine ⟨⟨Same.refl _, fun a u e => ?_, rs.s, fun a e n => e⟩, ?_, fun i sf e => IniR.get ini i sf e, [fp], ⟨rs.q, True.intro⟩, ?_, fun a ha => ?_⟩
    · by_cases hf : a ∈ fp
      · rw [rm_in hf] at e; cases e
      · rw [rm_out hf] at e; exact e
    · unfold L2.start
      rw [List.length_append, List.length_map, List.length_replicate, l1]
      omega
    · simpa using rs.nd
    · have ha : a ∈ fp := by simpa using ha
      exact ⟨rm_in ha, rs.own a ha⟩
  · revert p
    show PostC K (RG l) false b (m d b) rc I H fp E Q → PostR _ _ _ _ _ (m d b) _ _
    generalize m d b = z
    intro p
    cases z with
    | ok y => exact fun I' H' v fm ⟨r, fp', nd, own, q⟩ => p I' H' v fp' ⟨fm, nd, own, q⟩ r
    | err e => exact fun I' H' _ c d f x => p I' H' c d f.1 (fun z => by cases z) f.2 x
    | stuck => exact p
end L2.Tr

namespace L2.Tr
open PySem PySem.Spec PyProof.Rows
section
variable {α β γ δ S T L : Type} {X : Cx} {I0 H0 I H I1 : Hp} {W : WX} {Kx : KnowsX} {G : Knows} {ctx : List (Option SF)} {mem : List MF} {C : T → List MF} {t0 t : T} {e a b c o iter elt ix : Expr} {es bs : List Expr} {st : Stmt} {ss s1 s2 body : List Stmt} {pos pos' p2 : Pos} {n : Str} {ra : Rp α} {rb : Rp β} {rc : Rp γ} {r : Rp α} {σ : St} {Q : VK} {R : Hp → Hp → List V → δ → Prop} {rr : Ra γ}
theorem JX.at {m : Res (α × T)} {c c' : List (Option SF)} {C C' : T → List MF} (j : JX X I0 H0 W Kx c' C' t0 e m r) (h : c = c' := by rfl) (h2 : C = C' := by rfl) : JX X I0 H0 W Kx c C t0 e m r := by rw [h, h2]; exact j
theorem JXI.list {tg : Expr} {m : Res (List β × T)} (j : JX X I0 H0 W Kx ctx C t0 iter m (rL rb)) : JXI X I0 H0 W Kx ctx C t0 tg iter m rb := fun I H σ R st p => by
  refine PI.w (pi_listC pe_W) (j I H σ _ st ?_)
  cases m with
  | ok xs =>
    rintro I1 H1 v s1 g1 ⟨l, vs, rfl, hl, pr⟩
    exact ⟨l, rfl, ⟨vs, SqL.of (g1.same _ _ hl)⟩, p I1 H1 _ vs _ s1 g1 itr_list (fun I2 H2 s1 s2 _ => SqL.of (s2 _ _ (s1 _ _ hl))) pr⟩
  | err e => exact p
  | stuck => exact p
theorem JXI.forG (j : Nat) [mb : Mo rb] {m : Res (List β × T)} {cx : S → List (Option SF)} {me : S → List MF} {f : β → S → Res (Fl S S γ)} {s0 : T → S} {GL : L → Knows} (hp : PassesOwn (model X.prog X.w) X.A X.env X.xe) (ji : JXI X I0 H0 W Kx ctx C t0 (.Name n pos') iter m rb)
    (jb : ∀ x s, JG X I0 H0 W Kx (Stt I0 H0 ((cx s).set j (some ⟨rb, x⟩)) (me s)) body (f x s) (fun s' => Stt I0 H0 (cx s') (me s')) (fun s' => Stt I0 H0 (cx s') (me s')) rr) (hC : ∀ t, C t = me (s0 t)) (hw : ∀ t, weakC ctx (cx (s0 t))) (hN : X.N.Nodup) (hc : Cool X := by first | exact .inl rfl | exact .inr ⟨_, by assumption, List.mem_cons_self⟩)
    (hj : X.N[j]? = some n := by rfl) (hl : Loc X.env.scope n := by first | exact Or.inl rfl | exact Or.inr rfl) (hf : X.fn n = true ∨ X.env.scope.names.lookup n = some .local := by first | exact .inl rfl | exact .inr rfl | assumption) (hs : ∀ x, foldedSetIterable iter X.env x = pure x := by intro _; rfl) :
    J1G X I0 H0 W Kx (Stt I0 H0 ctx (C t0)) (.For (.Name n pos') iter body [] pos) (m.bindX fun xs t => (Tr.forG f xs (s0 t) : Res (Fl S L γ))) (fun s => Stt I0 H0 (cx s) (me s)) GL rr := fun I H σ D g p => by
  refine PS.w (ps_forC hp hc pi_W (pg_name (i := j) hN hj hl hf) pss_W hs) (ji I H σ _ g ?_)
  cases m with
  | ok x0 =>
    obtain ⟨xs, t1⟩ := x0
    intro I1 H1 J vs okp f1 g1 itr stay pr
    have p0 : PostG X I0 H0 W Kx I1 (Tr.forG f xs (s0 t1)) (fun s => Stt I0 H0 (cx s) (me s)) GL rr D := PostG.up p f1
    have hlen : vs.length = xs.length := Paired.length pr
    have g1 : Stt I0 H0 (cx (s0 t1)) (me (s0 t1)) I1 H1 σ := by rw [← hC t1]; exact g1.weak (hw t1)
    refine ⟨fun i k σ' H' => k + i = vs.length ∧ ∃ I' s, Same I1 I' ∧ Stt I0 H0 (cx s) (me s) I' H' σ' ∧ PostG X I0 H0 W Kx I' (Tr.forG f (xs.drop i) s) (fun s => Stt I0 H0 (cx s) (me s)) GL rr D, ⟨vs.length, rfl, I1, s0 t1, Same.refl _, g1, p0⟩, ?_⟩
    rintro i k σ' H' ⟨hk, I', s, si, g', p'⟩
    have hok := stay I' H' si g'.same g'.fm.h
    by_cases hi : i < vs.length
    · obtain ⟨go, yl⟩ := (itr i H' hok).1 hi
      refine .inr ⟨go, fun σ2 H2 => ∃ I2 s2, Same I1 I2 ∧ Stt I0 H0 (cx s2) (me s2) I2 H2 σ2 ∧ PostG X I0 H0 W Kx I2 (Tr.forG f (xs.drop (i + 1)) s2) (fun s => Stt I0 H0 (cx s) (me s)) GL rr D, fun σ2 H2 h => ⟨k - 1, by omega, by omega, h⟩, fun v H2 hy => ?_⟩
      obtain ⟨rfl, ev⟩ := yl v H2 hy
      obtain ⟨x, ex, hr⟩ := paired_drop pr i ev
      rw [forG_drop ex] at p'
      refine jb x s I' H2 (σ'.set j (some v)) _ (g'.set j (mb.up si hr)) ?_
      revert p'
      generalize f x s = z
      intro p'
      cases z with
      | ok a => cases a with
        | nx s2 => exact fun I2 H2 σ2 q1 q2 => ⟨I2, s2, si.trans q1, q2, PostG.up p' q1⟩
        | ct s2 => exact fun I2 H2 σ2 q1 q2 => ⟨I2, s2, si.trans q1, q2, PostG.up p' q1⟩
        | bk s2 => exact p'
        | rt y => exact p'
      | err e => exact p'
      | stuck => exact p'.elim
    · refine .inl ⟨(itr i H' hok).2 (by omega), ?_⟩
      have : xs.drop i = [] := List.drop_eq_nil_of_le (by omega)
      rw [this] at p'
      exact p' I' H' σ' (Same.refl _) g'
  | err e => exact fun I' H' c d x => p I' H' σ c d x
  | stuck => exact p.elim
end
end L2.Tr

namespace L2.Tr
open PySem PySem.Spec PyProof.Rows
section
variable {α β γ δ ε : Type} {X : Cx} {I0 H0 : Hp} {W : WX} {ctx : List (Option SF)} {mem : List MF} {e a b c o : Expr} {es bs : List Expr} {kws : List Keyword} {pos pos' kpos : Pos} {n x : Str} {nm : Option Str} {r : Rp α}
variable {R : Hp → Hp → List V → δ → Prop} {R' : Hp → Hp → List V → ε → Prop} {md : Res δ} {me : Res ε} {g : δ → ε → Res (List α)} {ks : List Str}
end
end L2.Tr

namespace L2.Tr
open PySem PySem.Spec PyProof.Rows
section
variable {α β γ δ T U : Type}
theorem Ok.bindX {m : Res (α × T)} {f : α → T → Res β} {P : α × T → Prop} {Q : β → Prop} (h : Ok m P) (k : ∀ a t, P (a, t) → Ok (f a t) Q) : Ok (m.bindX f) Q := by
  obtain ⟨⟨a, t⟩, e, p⟩ := h
  rw [e]
  exact k a t p
theorem lcXM_ok {f : β → T → Res (α × T)} {P : β → α → Prop} {Inv : T → Prop} : ∀ {xs : List β} {t : T}, Inv t → (∀ x t, x ∈ xs → Inv t → Ok (f x t) fun y => P x y.1 ∧ Inv y.2) → Ok (lcXM f xs t) fun y => y.1.length = xs.length ∧ (∀ (i : Nat) x z, xs[i]? = some x → y.1[i]? = some z → P x z) ∧ Inv y.2
  | [], t, h0, _ => .ok ⟨rfl, fun i x z h _ => by simp at h, h0⟩
  | x :: xs, t, h0, h => by
    obtain ⟨⟨a, t1⟩, e, p, q⟩ := h x t (List.mem_cons_self ..) h0
    unfold lcXM
    rw [e]
    show Ok ((lcXM f xs t1).bind fun z => .ok (a :: z.1, z.2)) _
    refine (lcXM_ok (t := t1) q fun y t hy => h y t (List.mem_cons_of_mem _ hy)).bind fun z ⟨z1, z2, z3⟩ => .ok ⟨by show (a :: z.1).length = _; rw [List.length_cons, List.length_cons, z1], fun i u v hu hv => ?_, z3⟩
    cases i with
    | zero =>
      have hu : x = u := by simpa using hu
      have hv : a = v := by simpa using hv
      rw [← hu, ← hv]; exact p
    | succ i => exact z2 i u v (by simpa using hu) (by simpa using hv)
theorem Ok.lcX {f : β → T → Res (α × T)} {P : β → α → Prop} {Inv : T → Prop} {xs : List β} {t : T} (hl : xs.length ≤ sizeLine) (h0 : Inv t) (h : ∀ x t, x ∈ xs → Inv t → Ok (f x t) fun y => P x y.1 ∧ Inv y.2) : Ok (Tr.lcX f xs t) fun y => y.1.length = xs.length ∧ (∀ (i : Nat) x z, xs[i]? = some x → y.1[i]? = some z → P x z) ∧ Inv y.2 := .guard hl (lcXM_ok h0 h)
end
/-- a tape: a cell and two mixers -/
def TP (t : List Int) : Prop := ∃ a b c : Int, t = [a, b, c] ∧ 0 ≤ a ∧ (0 ≤ b ∧ b < 2 ^ 40) ∧ (0 ≤ c ∧ c < 2 ^ 40)
end L2.Tr

namespace L2.Tr
open PySem PySem.Spec PyProof.Rows He
section
variable {α β γ : Type} {X : Cx} {I0 H0 I H : Hp} {W : WX} {ctx : List (Option SF)} {mem : List MF} {e a b c o : Expr} {pos pos' p2 : Pos} {n : Str} {σ : St} {Q : VK}
/-! ### C.f, a tuple of texts -/
def ctA (K : PySem.W.Frag) (C : Addr) (f : Str) : Addr := match PySem.W.findCls K (.ref C) (.type "type") f with
  | some (.val (.ref a)) => a
  | _ => 0
def isStrs : List Value → List Str → Bool
  | [], [] => true
  | .str x _ :: us, y :: ys => decide (x = y) && isStrs us ys
  | _, _ => false
structure CTup (K : PySem.W.Frag) (C : Addr) (f : Str) (zs : List Str) : Prop where
  rd : ClX.CRead K C (.type "type")
  cv : ClX.CVal K C (.type "type") f (.ref (ctA K C f)) (.ref (ctA K C f))
  sq : ∀ H, SqT K H (ctA K C f) (zs.map V.str)
def fCTup (x f : Str) (zs : List Str) : FB := fun K => PySem.W.readsIn K (ga K x) (.type "type") && (eqO (PySem.W.specialIn K (.ref (ga K x)) "__getattribute__") (some (some (.builtin "type.__getattribute__"))) && ((match PySem.W.findCls K (.ref (ga K x)) (.type "type") f with
  | some (.val (.ref _)) => true
  | _ => false) && (match K.lookup (ctA K (ga K x) f) with
  | some ⟨.type c, _, .seq its _, _⟩ => decide (c = "tuple") && (decide (its.size ≤ 1000) && isStrs its.toList zs)
  | _ => false)))
end
/-! ### the Hook with such tables -/
abbrev AlZ : Type := AlX × List (Option (List (Option (Str × Int))))
def obsZ (fs : List FB) (fn : List DX) (ts : List Tab) (K : PySem.W.Frag) : AlZ := (obsY fs fn K, ts.map fun t => dicW K (t.1 K))
def valZ (fn : List DX) (ts : List Tab) (w : World) : AlZ := (valY fn, ts.map fun t => some (keysIn w.params t.2))
def SaysZ (fs : List FB) (fn : List DX) (ts : List Tab) (w : World) (K : PySem.W.Frag) : Prop := obsZ fs fn ts K = valZ fn ts w
section
variable {fs : List FB} {fn : List DX} {ts : List Tab} {w : World} {K : PySem.W.Frag}
theorem SaysZ.y (c : SaysZ fs fn ts w K) : SaysY fs fn K := congrArg (fun z : AlZ => z.1) c
theorem SaysZ.fact (c : SaysZ fs fn ts w K) (i : Nat) {f : FB} (h : fs[i]? = some f := by rfl) : f K = true := c.y.fact i h
theorem SaysZ.def_ (c : SaysZ fs fn ts w K) (i : Nat) {d : DX} (h : fn[i]? = some d := by rfl) : ∃ fd, FunD K d.name d.qual d.params d.body d.scope (d.dfl.map (Dv.v K)) (d.kwd.map fun q => (q.1, q.2.v K)) (d.at_ K) fd := c.y.def_ i h
theorem SaysZ.tab (c : SaysZ fs fn ts w K) (i : Nat) {t : Tab} (h : ts[i]? = some t := by rfl) : ∃ es n, KDict K w (t.1 K) es n := by
  have e : ts.map (fun t => dicW K (t.1 K)) = ts.map fun t => some (keysIn w.params t.2) := congrArg (fun z : AlZ => z.2) c
  have e2 : (ts.map fun t => dicW K (t.1 K))[i]? = (ts.map fun t => some (keysIn w.params t.2))[i]? := by rw [e]
  rw [List.getElem?_map, List.getElem?_map, h] at e2
  exact dicW_ok (Option.some.inj e2)
end
end L2.Tr

namespace L2.Tr
open PySem PySem.Spec PyProof.Rows
section
variable {α β γ S L : Type} {X : Cx} {I0 H0 : Hp} {W : WX} {Kx : KnowsX} {ctx cw : List (Option SF)} {mem : List MF} {body suite : List Stmt} {b₀ : Stmt} {h₀ : ExceptHandler} {pos pos' np : Pos} {n x f : Str} {rr : Ra γ} {G' : S → Knows} {GL : L → Knows}
/-- what the clauses do with an error -/
def hdsM : List (List (Str × Bool) × (Exn → Res (Fl S L γ))) → Exn → Res (Fl S L γ)
  | [], e => .err e
  | (Ls, h) :: r, e => match Ls.lookup e.cls with
    | some true => (match h e with
      | .ok y => .ok y
      | _ => .stuck)
    | some false => hdsM r e
    | none => .stuck
def tsW (X : Cx) (ss : List Stmt) : Addr → Value → Option Addr → TS := fun a cls d D σ H => ∀ oe pn, L2N.Zn cls d oe → (∃ vs, oe.data = .fields vs) → wB (X.suite a ((a, oe) :: pn)) ss D σ H
inductive JHds (X : Cx) (I0 H0 : Hp) (cw : List (Option SF)) (mem : List MF) (G' : S → Knows) (GL : L → Knows) (rr : Ra γ) : List ExceptHandler → List (Value × (Addr → Value → Option Addr → TS)) → List (List (Str × Bool) × (Exn → Res (Fl S L γ))) → Prop
  | nil : JHds X I0 H0 cw mem G' GL rr [] [] []
  | only {x : Str} {cv : Value} {b₀ : Stmt} {suite : List Stmt} {np pos' : Pos} {hds : List ExceptHandler} {l : List (Value × (Addr → Value → Option Addr → TS))} {Ls : List (Str × Bool)} {mh : Exn → Res (Fl S L γ)} {ms : List (List (Str × Bool) × (Exn → Res (Fl S L γ)))}
      (js : ∀ (a : Addr) (oe : Obj) (ee : Exn) (d : Option Addr) (pn : List (Addr × Obj)), (ee.cls, true) ∈ Ls → JG (X.suite a ((a, oe) :: pn)) I0 H0 (fun _ _ _ _ => False) (fun _ _ _ _ => True) (Stt I0 H0 cw mem) (b₀ :: suite) (mh ee) G' GL rr)
      (hL : ∀ y b, (y, b) ∈ Ls → PySem.W.exmOne X.K (.ref (He.ga X.K y)) cv = some b) (hc : Names X x cv) (r : JHds X I0 H0 cw mem G' GL rr hds l ms) :
      JHds X I0 H0 cw mem G' GL rr (.ExceptHandler (some (.Name x np)) none (b₀ :: suite) pos' :: hds) ((cv, tsW X (b₀ :: suite)) :: l) ((Ls, mh) :: ms)
  | as_ {x n : Str} {cv : Value} {b₀ : Stmt} {suite : List Stmt} {np pos' : Pos} {hds : List ExceptHandler} {l : List (Value × (Addr → Value → Option Addr → TS))} {Ls : List (Str × Bool)} {mh : Exn → Res (Fl S L γ)} {ms : List (List (Str × Bool) × (Exn → Res (Fl S L γ)))} (i : Nat)
      (js : ∀ (a : Addr) (oe : Obj) (ee : Exn) (d : Option Addr) (pn : List (Addr × Obj)), L2N.Zn (.ref (He.ga X.K ee.cls)) d oe → (∃ vs, oe.data = .fields vs) → (ee.cls, true) ∈ Ls → (d = none → ee.pay = []) → (∀ q, d = some q → ee.pay ≠ []) → JG (X.suite a ((a, oe) :: pn)) I0 H0 (fun _ _ _ _ => False) (fun _ _ _ _ => True) (Stt I0 H0 (cw.set i (some ⟨rExc a, ()⟩)) (exm X.K d ee ++ mem)) (b₀ :: suite) (mh ee) (fun s I H σ => G' s I H (σ.set i none)) (fun s I H σ => GL s I H (σ.set i none)) rr)
      (hL : ∀ y b, (y, b) ∈ Ls → PySem.W.exmOne X.K (.ref (He.ga X.K y)) cv = some b) (hc : Names X x cv) (hi : X.N[i]? = some n) (hln : X.env.kindOf n = some .local) (r : JHds X I0 H0 cw mem G' GL rr hds l ms) :
      JHds X I0 H0 cw mem G' GL rr (.ExceptHandler (some (.Name x np)) (some n) (b₀ :: suite) pos' :: hds) ((cv, tsAs i (tsW X (b₀ :: suite))) :: l) ((Ls, mh) :: ms)
theorem JHds.ok {hds : List ExceptHandler} {l : List (Value × (Addr → Value → Option Addr → TS))} {ms : List (List (Str × Bool) × (Exn → Res (Fl S L γ)))} (hN : X.N.Nodup) (h : JHds X I0 H0 cw mem G' GL rr hds l ms) : HdsN X hds l := by
  induction h with
  | nil => exact .nil
  | only js hL hc r ih => exact .only hc (fun a oe cls d pn hz hf => ⟨fun pins s σ H D Iv h => h oe pn hz hf pins s Iv⟩) ih
  | as_ i js hL hc hi hln r ih => exact .as_ hN hi hln hc (fun a oe cls d pn hz hf => ⟨fun pins s σ H D Iv h => h oe pn hz hf pins s Iv⟩) ih
theorem JHds.w {hds : List ExceptHandler} {l : List (Value × (Addr → Value → Option Addr → TS))} {ms : List (List (Str × Bool) × (Exn → Res (Fl S L γ)))} (h : JHds X I0 H0 cw mem G' GL rr hds l ms) {I I' H' : Hp} {σ' : L2.St} {d : Option Addr} {cls : Value} {ee : Exn} {D : Ends} (sm : Same I I') (g : Stt I0 H0 cw mem I' H' σ') (fr : Fr H0 d) (hxr : ExR X.K I' H' ee cls d) (hmx : NoXd mem)
    (hx : ∀ I H σ d, Stt I0 H0 cw mem I H σ → Fr H0 d → Kx I H σ d) (p : PostG X I0 H0 W Kx I (hdsM ms ee) G' GL rr D) : wMany X.K W D l cls d σ' H' := by
  induction h with
  | nil => exact p I' H' σ' cls d (hx _ _ _ _ g fr) hxr
  | @only x cv b₀ suite np pos' hds l Ls mh ms js hL hc r ih =>
    have p1 : PostG X I0 H0 W Kx I (match Ls.lookup ee.cls with
      | some true => (match mh ee with
        | .ok y => .ok y
        | _ => .stuck)
      | some false => hdsM ms ee
      | none => .stuck) G' GL rr D := p
    obtain ⟨ec, hxr2⟩ := id hxr
    cases hl : Ls.lookup ee.cls with
    | none => rw [hl] at p1; exact p1.elim
    | some bb =>
      rw [hl] at p1
      refine ⟨bb, by rw [ec]; exact hL _ _ (lookup_mem hl), fun hb a ha oe pn' hz hf' => ?_, fun hb => ?_⟩
      · subst hb
        refine js a oe ee d pn' (lookup_mem hl) I' H' _ _ g ?_
        have p2 : PostG X I0 H0 W Kx I (match mh ee with
          | .ok y => .ok y
          | _ => .stuck) G' GL rr D := p1
        revert p2
        generalize mh ee = z
        intro p2
        cases z with
        | ok y =>
          cases y with
          | nx s => exact fun I2 H2 σ2 s2 q => p2 I2 H2 _ (sm.trans s2) q
          | bk s => exact fun I2 H2 σ2 s2 q => p2 I2 H2 _ (sm.trans s2) q
          | ct s => exact fun I2 H2 σ2 s2 q => p2 I2 H2 _ (sm.trans s2) q
          | rt y => exact p2
        | err _ => exact p2.elim
        | stuck => exact p2.elim
      · subst hb
        exact ih p1
  | @as_ x n cv b₀ suite np pos' hds l Ls mh ms i js hL hc hi hln r ih =>
    have p1 : PostG X I0 H0 W Kx I (match Ls.lookup ee.cls with
      | some true => (match mh ee with
        | .ok y => .ok y
        | _ => .stuck)
      | some false => hdsM ms ee
      | none => .stuck) G' GL rr D := p
    obtain ⟨ec, hxr2⟩ := id hxr
    cases hl : Ls.lookup ee.cls with
    | none => rw [hl] at p1; exact p1.elim
    | some bb =>
      rw [hl] at p1
      refine ⟨bb, by rw [ec]; exact hL _ _ (lookup_mem hl), fun hb a ha oe pn' hz hf' => ?_, fun hb => ?_⟩
      · subst hb
        rw [ec] at hz
        refine js a oe ee d pn' hz hf' (lookup_mem hl) (fun z => by subst z; exact hxr2) (fun q z => by subst z; exact hxr2.1) I' H' _ _ ((g.set i (r := rExc a) (x := ()) rfl).exm fr hxr hmx) ?_
        have p2 : PostG X I0 H0 W Kx I (match mh ee with
          | .ok y => .ok y
          | _ => .stuck) G' GL rr D := p1
        revert p2
        generalize mh ee = z
        intro p2
        cases z with
        | ok y =>
          cases y with
          | nx s => exact fun I2 H2 σ2 s2 q => p2 I2 H2 _ (sm.trans s2) q
          | bk s => exact fun I2 H2 σ2 s2 q => p2 I2 H2 _ (sm.trans s2) q
          | ct s => exact fun I2 H2 σ2 s2 q => p2 I2 H2 _ (sm.trans s2) q
          | rt y => exact p2
        | err _ => exact p2.elim
        | stuck => exact p2.elim
      · subst hb
        exact ih p1
end
end L2.Tr

namespace L2.Tr
open PySem PySem.Spec PyProof.Rows He
/-! ### nested data compared -/
class DpC {α : Type} (r : Rp α) where
  deq : DecidableEq α
  enc : α → PyData
  lay : α → Bool
  dep : Nat
  dp : ∀ {K : PySem.W.Frag} {I H : Hp} {v : V} {x : α}, Same I H → r I v x → Dp K H v (enc x)
  eq : ∀ x y, PyData.eqv (enc x) (enc y) = decide (x = y)
  cl : ∀ x, lay x = true → PyData.canLay0 (enc x) = true
  dd : ∀ x, PyData.depth (enc x) ≤ dep
instance : DpC rInt where
  deq := inferInstance
  enc := .int
  lay := fun _ => true
  dep := 0
  dp := fun _ h => by rw [show _ = V.int _ from h]; exact .int _
  eq := fun x y => by
    show (x == y) = _
    by_cases h : x = y <;> simp [h]
  cl := fun _ _ => by simp only [PyData.canLay0]
  dd := fun _ => by simp only [PyData.depth]; exact Nat.le_refl _
instance : DpC rStr where
  deq := inferInstance
  enc := .str
  lay := fun x => PyData.strOk x
  dep := 0
  dp := fun _ h => by rw [show _ = V.str _ from h]; exact .str _
  eq := fun x y => by
    show (x == y) = _
    by_cases h : x = y <;> simp [h]
  cl := fun x h => by simp only [PyData.canLay0]; exact h
  dd := fun _ => by simp only [PyData.depth]; exact Nat.le_refl _
instance : DpC rBl where
  deq := inferInstance
  enc := .bool
  lay := fun _ => true
  dep := 0
  dp := fun _ h => by rw [show _ = V.bl _ from h]; exact .bl _
  eq := fun x y => by
    show (x == y) = _
    by_cases h : x = y <;> simp [h]
  cl := fun _ _ => by simp only [PyData.canLay0]
  dd := fun _ => by simp only [PyData.depth]; exact Nat.le_refl _
section
variable {α β : Type} {r : Rp α}
theorem eqvAll_map [d : DpC r] : ∀ xs ys : List α, PyData.eqvAll (xs.map d.enc) (ys.map d.enc) = @decide (xs = ys) (@instDecidableEqList _ d.deq xs ys)
  | [], [] => by simp [PyData.eqvAll]
  | [], _ :: _ => by simp [PyData.eqvAll]
  | _ :: _, [] => by simp [PyData.eqvAll]
  | x :: xs, y :: ys => by
    have := d.deq
    rw [List.map_cons, List.map_cons]
    show (PyData.eqv _ _ && PyData.eqvAll _ _) = _
    rw [eqvAll_map xs ys, d.eq]
    by_cases h : x = y <;> by_cases h' : xs = ys <;> simp [h, h']
theorem dpAll_map [d : DpC r] {K : PySem.W.Frag} {I H : Hp} (s : Same I H) : ∀ {vs : List V} {xs : List α}, Paired (r I) vs xs → DpAll K H vs (xs.map d.enc)
  | _, _, .nil => .nil
  | _, _, .cons h t => .cons (d.dp s h) (dpAll_map s t)
theorem canAll_map [d : DpC r] : ∀ {xs : List α}, xs.all d.lay = true → PyData.canLayAll0 (xs.map d.enc) = true
  | [], _ => by simp only [List.map_nil, PyData.canLayAll0]
  | x :: xs, h => by
    rw [List.all_cons, Bool.and_eq_true] at h
    simp only [List.map_cons, PyData.canLayAll0]
    rw [d.cl x h.1, canAll_map h.2]; rfl
theorem depAll_map [d : DpC r] : ∀ xs : List α, PyData.depthAll (xs.map d.enc) ≤ d.dep
  | [] => by simp only [List.map_nil, PyData.depthAll]; exact Nat.zero_le _
  | x :: xs => by
    simp only [List.map_cons, PyData.depthAll]
    exact Nat.max_le.mpr ⟨d.dd x, depAll_map xs⟩
instance dpcL [d : DpC r] : DpC (rL r) where
  deq := @instDecidableEqList _ d.deq
  enc := fun xs => .list (xs.map d.enc)
  lay := fun xs => xs.all d.lay
  dep := d.dep + 1
  dp := fun s ⟨l, vs, e, h, p⟩ => by rw [e]; exact .lst (SqL.of (s _ _ h)) (dpAll_map s p)
  eq := fun x y => by show PyData.eqvAll _ _ = _; exact eqvAll_map x y
  cl := fun x h => by simp only [PyData.canLay0]; exact canAll_map h
  dd := fun x => by simp only [PyData.depth]; have := depAll_map (r := r) x; omega
instance [d : DpC r] : DpC (rT r) where
  deq := @instDecidableEqList _ d.deq
  enc := fun xs => .tuple (xs.map d.enc)
  lay := fun xs => xs.all d.lay
  dep := d.dep + 1
  dp := fun s ⟨l, vs, e, h, p⟩ => by rw [e]; exact .tup (SqT.of (s _ _ h)) (dpAll_map s p)
  eq := fun x y => by show PyData.eqvAll _ _ = _; exact eqvAll_map x y
  cl := fun x h => by simp only [PyData.canLay0]; exact canAll_map h
  dd := fun x => by simp only [PyData.depth]; have := depAll_map (r := r) x; omega
/-- items of several kinds -/
class DpL {δ : Type} (R : Hp → Hp → List V → δ → Prop) where
  deq : DecidableEq δ
  enc : δ → List PyData
  lay : δ → Bool
  dep : Nat
  dp : ∀ {K : PySem.W.Frag} {I H : Hp} {vs : List V} {x : δ}, Same I H → R I I vs x → DpAll K H vs (enc x)
  eq : ∀ x y, PyData.eqvAll (enc x) (enc y) = decide (x = y)
  cl : ∀ x, lay x = true → PyData.canLayAll0 (enc x) = true
  dd : ∀ x, PyData.depthAll (enc x) ≤ dep
instance : DpL aNil where
  deq := inferInstance
  enc := fun _ => []
  lay := fun _ => true
  dep := 0
  dp := fun _ h => by rw [show _ = [] from h]; exact .nil
  eq := fun _ _ => by simp [PyData.eqvAll]
  cl := fun _ _ => by simp only [PyData.canLayAll0]
  dd := fun _ => by simp only [PyData.depthAll]; exact Nat.le_refl _
instance {δ : Type} {R : Hp → Hp → List V → δ → Prop} [d : DpC r] [l : DpL R] : DpL (aCons (rp r) R) where
  deq := @instDecidableEqProd _ _ d.deq l.deq
  enc := fun x => d.enc x.1 :: l.enc x.2
  lay := fun x => d.lay x.1 && l.lay x.2
  dep := max d.dep l.dep
  dp := fun s ⟨v, ws, e, h, h'⟩ => by rw [e]; exact .cons (d.dp s h) (l.dp s h')
  eq := fun x y => by
    have := d.deq
    have := l.deq
    show (PyData.eqv _ _ && PyData.eqvAll _ _) = _
    rw [d.eq, l.eq]
    obtain ⟨a, b⟩ := x
    obtain ⟨a', b'⟩ := y
    by_cases h : a = a' <;> by_cases h' : b = b' <;> simp [h, h']
  cl := fun x h => by
    rw [Bool.and_eq_true] at h
    simp only [PyData.canLayAll0]
    rw [d.cl _ h.1, l.cl _ h.2]; rfl
  dd := fun x => by
    simp only [PyData.depthAll]
    have h1 := d.dd x.1
    have h2 := l.dd x.2
    omega
instance {δ : Type} {R : Hp → Hp → List V → δ → Prop} [l : DpL R] : DpC (rTu R) where
  deq := l.deq
  enc := fun x => .tuple (l.enc x)
  lay := l.lay
  dep := l.dep + 1
  dp := fun s ⟨a, vs, e, h, p⟩ => by rw [e]; exact .tup (SqT.of (s _ _ h)) (l.dp s p)
  eq := fun x y => by show PyData.eqvAll _ _ = _; exact l.eq x y
  cl := fun x h => by simp only [PyData.canLay0]; exact l.cl x h
  dd := fun x => by simp only [PyData.depth]; have := l.dd x; omega
variable {X : Cx} {W : WX}
end
end L2.Tr

namespace L2.Tr
open PySem PySem.Spec PyProof.Rows He
section
variable {α β γ δ : Type} {X : Cx} {I0 H0 I H : Hp} {W : WX} {ctx : List (Option SF)} {mem : List MF} {e a b c o : Expr} {es : List Expr} {pos pos' p2 apos : Pos} {n : Str} {σ : St} {Q : VK} {r : Rp α} {R : Hp → Hp → List V → δ → Prop} {ma : Res α} {md : Res δ} {rb : Ra β}
/-! ### lists of kinds, only read -/
def rLu (R : Hp → Hp → List V → δ → Prop) : Rp δ := fun I v x => ∃ l vs, v = .ref l ∧ I l = some (.lst vs) ∧ R I I vs x
instance [m : MoR R] : Mo (rLu R) := ⟨fun s ⟨l, vs, e, h, p⟩ => ⟨l, vs, e, s _ _ h, m.up s s p⟩⟩
/-! ### isinstance of a class's tuple -/
theorem CTup.ty {K : PySem.W.Frag} {x f : Str} {zs : List Str} (c : fCTup x f zs K = true) : ∃ o, K.lookup (ctA K (ga K x) f) = some o ∧ o.cls = .type "tuple" := by
  obtain ⟨c1, c⟩ := ba c
  obtain ⟨c2, c⟩ := ba c
  obtain ⟨c3, c4⟩ := ba c
  split at c4
  · rename_i t d its m sl e
    obtain ⟨d1, d⟩ := ba c4
    exact ⟨_, e, by rw [of_decide_eq_true d1]⟩
  · cases c4
/-- the tuple with its type known -/
def rCT (K : PySem.W.Frag) (C : Addr) (f : Str) : Ra Unit := fun _ _ v _ => v = .ref (ctA K C f) ∧ ∃ o, K.lookup (ctA K C f) = some o ∧ o.cls = .type "tuple"
instance {K : PySem.W.Frag} {C : Addr} {f : Str} : MoA (rCT K C f) := ⟨fun _ _ h => h⟩
/-- o.m(), a method of self alone -/
theorem JE.meth01 {pl : Sem Bool} {m : Str} {C f : Addr} {ra : Ra α} {rc : Ra γ} [MoA ra] {g : α → Res γ} (j : JE X I0 H0 W ctx mem o ma ra) (hi : InsOf C ra m) (cj : CallJ X W (.ref f) (aCons ra aNil) (fun d => g d.1) rc) (c : Cls X.K C) (hm : Meth X.K C m f)
    (ht : eval (.Call (.Attribute o m apos) [] [] pos) X.env = (do
      let ov ← eval o X.env
      standAt apos.atName
      let (f, first) ← holding [ov] (getMethod ov m pl)
      callWith pos f first (backTo pos (starEach [] X.env)) (backToKw pos (keywordEach [] X.env))) := by rfl) : JE X I0 H0 W ctx mem (.Call (.Attribute o m apos) [] [] pos) (ma.bind fun x => g x) rc :=
  JE.meth0 (g := fun d => g d.1) j hi cj c hm ht
end
end L2.Tr

namespace L2.Tr
open PySem PySem.Spec PyProof.Rows He
section
variable {X : Cx} {I0 H0 : Hp} {W : WX} {ctx : List (Option SF)} {mem : List MF} {pos : Pos}
end
end L2.Tr

namespace L2.Tr
open PySem PySem.Spec PyProof.Rows
/-! ### x, y, .. = a tuple or a list of known length -/
section
variable {α β γ δ S T : Type} {X : Cx} {I0 H0 : Hp} {W : WX} {Kx : KnowsX} {ctx : List (Option SF)} {mem : List MF} {e a b c o : Expr} {pos : Pos}
end
end L2.Tr

namespace L2.Tr
open PySem PySem.Spec PyProof.Rows
/-! ### an int's name that is to hold any number -/
section
variable {α β γ S L : Type} {X : Cx} {I0 H0 : Hp} {W : WX} {Kx : KnowsX} {ctx ctx' : List (Option SF)} {mem : List MF} {st : Stmt} {rr : Ra γ}
end
end L2.Tr

namespace L2.Tr
open PySem PySem.Spec PyProof.Rows L2H
/-! ### own defs that are called in an except suite: defs that need not know what is handled -/
/-- what such a def promises wherever some object p is pinned -/
def FnL (P : Program) (w : World) (K : PySem.W.Frag) (mg : Str → Option Value) (base : Heap) (k : Nat) (f : Addr) (sp : Sp) : Prop :=
  ∀ (A : Around) (outer : List Env) (s : Shared) (H : Hp) (us : List Value) (vs : List V) (Q : VK) (E : XK) (p : Addr × Obj), RoomH k A → Hot1 A p → PinOk outer H s p → Env0 P w K mg base A outer s H → Vals vs us → sp vs H Q E →
    codeAny (model P w) A (.call (.ref f) ⟨us, []⟩) (CR (L2N.CX P w) outer P w H s Q E) s
section
variable {α β γ δ S L : Type} {P : Program} {w : World} {K : PySem.W.Frag} {mg : Str → Option Value} {base : Heap} {x qual : Str} {params : Arguments} {body : List Stmt} {scope : Scope} {f : Addr} {fd : FuncData} {N ps : List Str} {k : Nat} {r : Ra γ} {R : Hp → Hp → List V → δ → Prop} {m : δ → Res γ}
/-- a nicer mirror -/
theorem FnL.nice {m' : δ → Res γ} (F : FnL P w K mg base k f (spF K R m r)) (h : ∀ d, m' d = .stuck ∨ m' d = m d) : FnL P w K mg base k f (spF K R m' r) := fun A outer s H us vs Q E p hr ho hp e0 rv ⟨I, d, sm, hR, post⟩ => by
  rcases h d with e | e
  · rw [e] at post; exact post.elim
  · rw [e] at post; exact F A outer s H us vs Q E p hr ho hp e0 rv ⟨I, d, sm, hR, post⟩
end
section
variable {α β γ δ : Type} {X : Cx} {W : WX} {f f' : Addr} {k : Nat} {ra : Ra α} {rb : Ra β} {rc : Ra γ} {R : Hp → Hp → List V → δ → Prop} {m : δ → Res γ}
variable {g : Rat × Num × Unit → Res γ}
end
end L2.Tr

namespace L2.Tr
open PySem PySem.Spec PyProof.Rows He
/-! ### objects of the call's own that may still be changed; their lists are theirs alone -/
inductive OF where
  | im (s : SF)
  | ls {α : Type} (r : Rp α) (mo : Mo r) (xs : List α)
def putO (f : Str) (s : OF) : List (Str × OF) → List (Str × OF)
  | [] => [(f, s)]
  | q :: gs => if q.1 = f then (f, s) :: gs else q :: putO f s gs
/-- the fields of the dict, with the addresses of the lists -/
def OFR (I H : Hp) : List (Str × V) → List (Str × OF) → List Addr → Prop
  | [], [], as => as = []
  | p :: fs, (n, .im s) :: gs, as => p.1 = n ∧ s.r I p.2 s.x ∧ OFR I H fs gs as
  | p :: fs, (n, .ls r _ xs) :: gs, as => ∃ a as', as = a :: as' ∧ p.1 = n ∧ p.2 = .ref a ∧ (∃ vs, H a = some (.lst vs) ∧ Paired (r I) vs xs) ∧ OFR I H fs gs as'
  | [], _ :: _, _ => False
  | _ :: _, [], _ => False
theorem OFR.up {I I' H H' : Hp} (s : Same I I') : ∀ {gs : List (Str × OF)} {fs : List (Str × V)} {as : List Addr}, (∀ a, a ∈ as → H' a = H a) → OFR I H fs gs as → OFR I' H' fs gs as
  | [], [], _, _, h => h
  | (n, .im q) :: gs, p :: fs, as, k, ⟨a, b, c⟩ => ⟨a, q.mo.up s b, OFR.up s k c⟩
  | (n, .ls r mo xs) :: gs, p :: fs, as, k, ⟨a, as', e, h1, h2, ⟨vs, h3, h4⟩, h5⟩ => by
    subst e
    exact ⟨a, as', rfl, h1, h2, ⟨vs, by rw [k a List.mem_cons_self]; exact h3, Paired.mapP h4 fun _ _ q => mo.up s q⟩, OFR.up s (fun b hb => k b (List.mem_cons_of_mem _ hb)) h5⟩
  | [], _ :: _, _, _, h => h.elim
  | (_, .im _) :: _, [], _, _, h => h.elim
  | (_, .ls _ _ _) :: _, [], _, _, h => h.elim
theorem OFR.length {I H : Hp} : ∀ {gs : List (Str × OF)} {fs : List (Str × V)} {as : List Addr}, OFR I H fs gs as → fs.length = gs.length
  | [], [], _, _ => rfl
  | (n, .im q) :: gs, p :: fs, as, ⟨_, _, c⟩ => congrArg Nat.succ (OFR.length c)
  | (n, .ls r mo xs) :: gs, p :: fs, as, ⟨_, _, _, _, _, _, c⟩ => congrArg Nat.succ (OFR.length c)
  | [], _ :: _, _, h => h.elim
  | (_, .im _) :: _, [], _, h => h.elim
  | (_, .ls _ _ _) :: _, [], _, h => h.elim
theorem OFR.none {I H : Hp} {f : Str} : ∀ {gs : List (Str × OF)} {fs : List (Str × V)} {as : List Addr}, OFR I H fs gs as → gs.lookup f = none → fs.lookup f = none
  | [], [], _, _, _ => rfl
  | (n, o) :: gs, (k, v) :: fs, as, h, e => by
    have hk : k = n ∧ ∃ as', OFR I H fs gs as' := by
      cases o with
      | im q => exact ⟨h.1, _, h.2.2⟩
      | ls r mo xs => obtain ⟨_, as', _, h1, _, _, h5⟩ := h; exact ⟨h1, as', h5⟩
    obtain ⟨rfl, as', h'⟩ := hk
    rw [List.lookup_cons] at e ⊢
    by_cases hq : (f == k) = true
    · rw [hq] at e; cases e
    · rw [Bool.not_eq_true] at hq
      rw [hq] at e ⊢
      exact OFR.none h' e
  | [], _ :: _, _, h, _ => h.elim
  | (_, .im _) :: _, [], _, h, _ => h.elim
  | (_, .ls _ _ _) :: _, [], _, h, _ => h.elim
theorem OFR.look {I H : Hp} {f : Str} {q : SF} : ∀ {gs : List (Str × OF)} {fs : List (Str × V)} {as : List Addr}, OFR I H fs gs as → gs.lookup f = some (.im q) → ∃ v, fs.lookup f = some v ∧ q.r I v q.x
  | [], [], _, _, e => by simp at e
  | (n, o) :: gs, (k, v) :: fs, as, h, e => by
    have hk : k = n ∧ (∃ as', OFR I H fs gs as') ∧ (∀ s, o = .im s → s.r I v s.x) := by
      cases o with
      | im q => exact ⟨h.1, ⟨_, h.2.2⟩, fun s e => by cases e; exact h.2.1⟩
      | ls r mo xs => obtain ⟨_, as', _, h1, _, _, h5⟩ := h; exact ⟨h1, ⟨as', h5⟩, fun s e => by cases e⟩
    obtain ⟨rfl, ⟨as', h'⟩, hv⟩ := hk
    rw [List.lookup_cons] at e ⊢
    by_cases hq : (f == k) = true
    · rw [hq] at e ⊢
      have e' : o = .im q := by simpa using e
      exact ⟨v, rfl, hv _ e'⟩
    · rw [Bool.not_eq_true] at hq
      rw [hq] at e ⊢
      exact OFR.look h' e
  | [], _ :: _, _, h, _ => h.elim
  | (_, .im _) :: _, [], _, h, _ => h.elim
  | (_, .ls _ _ _) :: _, [], _, h, _ => h.elim
/-- a list of the object's own -/
theorem OFR.list {α : Type} {r : Rp α} {mo : Mo r} {xs : List α} {I H : Hp} {f : Str} : ∀ {gs : List (Str × OF)} {fs : List (Str × V)} {as : List Addr}, OFR I H fs gs as → gs.lookup f = some (.ls r mo xs) →
    ∃ a vs, fs.lookup f = some (.ref a) ∧ a ∈ as ∧ H a = some (.lst vs) ∧ Paired (r I) vs xs ∧ (∀ vs' zs, as.Nodup → Paired (r I) vs' zs → OFR I (upd H a (.lst vs')) fs (putO f (.ls r mo zs) gs) as) ∧
      ∀ l vs' zs, H l = some (.lst vs') → Paired (r I) vs' zs → l ∉ as → ∃ as', OFR I H (putF f (.ref l) fs) (putO f (.ls r mo zs) gs) as' ∧ (as.Nodup → as'.Nodup) ∧ ∀ b, b ∈ as' → b = l ∨ b ∈ as
  | [], [], _, _, e => by simp at e
  | (n, .im q') :: gs, (k, w) :: fs, as, ⟨h1, h2, h3⟩, e => by
    obtain rfl : k = n := h1
    by_cases hq : k = f
    · subst hq; rw [List.lookup_cons, show (k == k) = true from by simp] at e; cases e
    · have hf : (f == k) = false := by simpa using fun z => hq z.symm
      rw [List.lookup_cons, hf] at e
      obtain ⟨a, vs, i1, i2, i3, i4, i5, i6⟩ := OFR.list h3 e
      refine ⟨a, vs, by rw [List.lookup_cons, hf]; exact i1, i2, i3, i4, fun vs' zs nd p => ?_, fun l vs' zs hl p hn => ?_⟩
      · show OFR I _ _ (if k = f then _ else _) as
        rw [if_neg hq]
        exact ⟨rfl, h2, i5 vs' zs nd p⟩
      · obtain ⟨as', j1, j2, j3⟩ := i6 l vs' zs hl p hn
        refine ⟨as', ?_, j2, j3⟩
        show OFR I H (if k = f then _ else _) (if k = f then _ else _) as'
        rw [if_neg hq, if_neg hq]
        exact ⟨rfl, h2, j1⟩
  | (n, .ls r' mo' xs') :: gs, (k, w) :: fs, as, ⟨a, as', e0, h1, h2, ⟨vs, h3, h4⟩, h5⟩, e => by
    obtain rfl : k = n := h1
    obtain rfl : w = .ref a := h2
    subst e0
    by_cases hq : k = f
    · subst hq
      have hkk : (k == k) = true := by simp
      rw [List.lookup_cons, hkk] at e
      have e' : OF.ls r' mo' xs' = OF.ls r mo xs := by simpa using e
      cases e'
      refine ⟨a, vs, by rw [List.lookup_cons, hkk], List.mem_cons_self, h3, h4, fun vs' zs nd p => ?_, fun l vs' zs hl p hn => ?_⟩
      · show OFR I _ _ (if k = k then _ else _) _
        rw [if_pos rfl]
        have hn := (List.nodup_cons.mp nd).1
        exact ⟨a, as', rfl, rfl, rfl, ⟨vs', upd_same, p⟩, OFR.up (Same.refl _) (fun b hb => upd_ne (fun z => hn (z ▸ hb))) h5⟩
      · refine ⟨l :: as', ?_, fun nd => List.nodup_cons.mpr ⟨fun z => hn (List.mem_cons_of_mem _ z), (List.nodup_cons.mp nd).2⟩, fun b hb => ?_⟩
        · show OFR I H (if k = k then _ else _) (if k = k then _ else _) _
          rw [if_pos rfl, if_pos rfl]
          exact ⟨l, as', rfl, rfl, rfl, ⟨vs', hl, p⟩, h5⟩
        · rcases List.mem_cons.mp hb with z | z
          · exact .inl z
          · exact .inr (List.mem_cons_of_mem _ z)
    · have hf : (f == k) = false := by simpa using fun z => hq z.symm
      rw [List.lookup_cons, hf] at e
      obtain ⟨a2, vs2, i1, i2, i3, i4, i5, i6⟩ := OFR.list h5 e
      refine ⟨a2, vs2, by rw [List.lookup_cons, hf]; exact i1, List.mem_cons_of_mem _ i2, i3, i4, fun vs' zs nd p => ?_, fun l vs' zs hl p hn => ?_⟩
      · show OFR I _ _ (if k = f then _ else _) _
        rw [if_neg hq]
        have nd2 := List.nodup_cons.mp nd
        exact ⟨a, as', rfl, rfl, rfl, ⟨vs, (upd_ne (show a ≠ a2 from fun z => nd2.1 (z ▸ i2))).trans h3, h4⟩, i5 vs' zs nd2.2 p⟩
      · obtain ⟨as2, j1, j2, j3⟩ := i6 l vs' zs hl p (fun z => hn (List.mem_cons_of_mem _ z))
        refine ⟨a :: as2, ?_, fun nd => ?_, fun b hb => ?_⟩
        · show OFR I H (if k = f then _ else _) (if k = f then _ else _) _
          rw [if_neg hq, if_neg hq]
          exact ⟨a, as2, rfl, rfl, rfl, ⟨vs, h3, h4⟩, j1⟩
        · have nd2 := List.nodup_cons.mp nd
          refine List.nodup_cons.mpr ⟨fun z => ?_, j2 nd2.2⟩
          rcases j3 a z with y | y
          · exact hn (y ▸ List.mem_cons_self)
          · exact nd2.1 y
        · rcases List.mem_cons.mp hb with z | z
          · exact .inr (z ▸ List.mem_cons_self)
          · rcases j3 b z with y | y
            · exact .inl y
            · exact .inr (List.mem_cons_of_mem _ y)
  | [], _ :: _, _, h, _ => h.elim
  | (_, .im _) :: _, [], _, h, _ => h.elim
  | (_, .ls _ _ _) :: _, [], _, h, _ => h.elim
def MF.obj (l C : Addr) (gs : List (Str × OF)) : MF := ⟨fun I H fp => ∃ dx fs as, fp = l :: as ∧ H l = some (.ins C dx fs) ∧ OFR I H fs gs as, fun s ⟨dx, fs, as, e, h, q⟩ => ⟨dx, fs, as, e, h, q.up s fun _ _ => rfl⟩,
  fun k ⟨dx, fs, as, e, h, q⟩ => ⟨dx, fs, as, e, by rw [k l (by rw [e]; exact List.mem_cons_self)]; exact h, q.up (Same.refl _) fun a ha => k a (by rw [e]; exact List.mem_cons_of_mem _ ha)⟩⟩
section
variable {α β γ δ S T L : Type} {X : Cx} {I0 H0 I H I1 H1 : Hp} {W : WX} {Kx : KnowsX} {G : Knows} {ctx : List (Option SF)} {mem : List MF} {C : T → List MF} {t0 t : T} {e a b c o : Expr} {es : List Expr} {st : Stmt} {ss : List Stmt} {pos pos' p2 : Pos} {n : Str} {σ : St} {Q : VK} {r : Rp α} {ra : Ra α} {rb : Ra β} {rc : Rp γ} {ma : Res α} {md : Res δ} {R : Hp → Hp → List V → δ → Prop}
/-- such an object, to be read -/
def rdO (Cl : Addr) (gs : S → List (Str × OF)) : Ra S := fun I H v x => ∃ l dx fs as, v = .ref l ∧ H l = some (.ins Cl dx fs) ∧ OFR I H fs (gs x) as ∧ ∀ a, a ∈ as → H a ≠ none
theorem same_at {H H' : Hp} {a : Addr} (t : Same H H') (h : H a ≠ none) : H' a = H a := by
  cases z : H a with
  | none => exact absurd z h
  | some o => exact t _ _ z
instance {Cl : Addr} {gs : S → List (Str × OF)} : MoA (rdO Cl gs) := ⟨fun s t ⟨l, dx, fs, as, e, h, q, k⟩ => ⟨l, dx, fs, as, e, t _ _ h, q.up s fun a ha => same_at t (k a ha), fun a ha => by rw [same_at t (k a ha)]; exact k a ha⟩⟩
end
end L2.Tr

namespace L2.Tr
open PySem PySem.Spec PyProof.Rows He
section
variable {α β γ δ ε S T L : Type} {X : Cx} {I0 H0 I H I1 H1 : Hp} {W : WX} {Kx : KnowsX} {G : Knows} {ctx : List (Option SF)} {mem : List MF} {C : T → List MF} {t0 t : T} {e a b c o : Expr} {es : List Expr} {st : Stmt} {ss : List Stmt} {pos pos' p2 : Pos} {n : Str} {σ : St} {Q : VK} {r : Rp α} {ra : Ra α} {rb : Ra β} {rc : Rp γ} {rr : Ra γ} {ma : Res α} {md : Res δ} {R : Hp → Hp → List V → δ → Prop}
/-! ### making such an object -/
def rNewO (Hz : Hp) (Cl : Addr) (gs : S → List (Str × OF)) : Ra S := fun I H v x => ∃ l fp, v = .ref l ∧ fp.Nodup ∧ (∀ a, a ∈ fp → Hz a = none ∧ I a = none ∧ H a ≠ none) ∧ (MF.obj l Cl (gs x)).Q I H fp
def atH (Hz : Hp) (R : Hp → Hp → List V → δ → Prop) : Hp → Hp → List V → δ → Prop := fun I H vs d => H = Hz ∧ R I H vs d
/-- the cells of an object in the making -/
inductive Pk : List (Str × SF) → List MF → List (Str × OF) → Prop
  | nil : Pk [] [] []
  | im {n : Str} {s : SF} {gs ms os} : Pk gs ms os → Pk ((n, s) :: gs) ms ((n, .im s) :: os)
  | ls {n : Str} {l : Addr} {α : Type} {r : Rp α} {mo : Mo r} {xs : List α} {gs ms os} : Pk gs ms os → Pk ((n, SF.mk (rRef l) ()) :: gs) (@MF.lst α l r mo xs :: ms) ((n, .ls r mo xs) :: os)
def CallKO (X : Cx) (W : WX) (f : Value) (ks : List Str) (R : Hp → Hp → List V → δ → Prop) (R' : Hp → Hp → List V → ε → Prop) (g : δ → ε → Res S) (Cl : Addr) (gs : S → List (Str × OF)) : Prop := ∀ Hz, CallKJ X W f ks (atH Hz R) R' g (rNewO Hz Cl gs)
def MkKO (P : Program) (w : World) (K : PySem.W.Frag) (mg : Str → Option Value) (base : Heap) (k : Nat) (C : Addr) (ks : List Str) (R : Hp → Hp → List V → δ → Prop) (R' : Hp → Hp → List V → ε → Prop) (m : δ → ε → Res S) (gs : S → List (Str × OF)) : Prop :=
  ∀ (X : Cx) (W : WX), X.prog = P → X.w = w → X.K = K → X.mg = mg → X.base = base → Room k X.A → L2N.Takes X W → CallKO X W (.ref C) ks R R' m C gs
def CallO (X : Cx) (W : WX) (f : Value) (R : Hp → Hp → List V → δ → Prop) (g : δ → Res S) (Cl : Addr) (gs : S → List (Str × OF)) : Prop := ∀ Hz, CallJ X W f (atH Hz R) g (rNewO Hz Cl gs)
def MkRO (P : Program) (w : World) (K : PySem.W.Frag) (mg : Str → Option Value) (base : Heap) (k : Nat) (C : Addr) (R : Hp → Hp → List V → δ → Prop) (m : δ → Res S) (gs : S → List (Str × OF)) : Prop :=
  ∀ (X : Cx) (W : WX), X.prog = P → X.w = w → X.K = K → X.mg = mg → X.base = base → Room k X.A → L2N.Takes X W → CallO X W (.ref C) R m C gs
theorem MkKO.mono {P : Program} {w : World} {K : PySem.W.Frag} {mg : Str → Option Value} {base : Heap} {j k : Nat} {C : Addr} {ks : List Str} {R' : Hp → Hp → List V → ε → Prop} {m : δ → ε → Res S} {gs : S → List (Str × OF)} (F : MkKO P w K mg base j C ks R R' m gs) (h : j ≤ k) : MkKO P w K mg base k C ks R R' m gs := fun X W e1 e2 e3 e4 e5 hr tk => F X W e1 e2 e3 e4 e5 (hr.mono h) tk
theorem MkRO.mono {P : Program} {w : World} {K : PySem.W.Frag} {mg : Str → Option Value} {base : Heap} {j k : Nat} {C : Addr} {m : δ → Res S} {gs : S → List (Str × OF)} (F : MkRO P w K mg base j C R m gs) (h : j ≤ k) : MkRO P w K mg base k C R m gs := fun X W e1 e2 e3 e4 e5 hr tk => F X W e1 e2 e3 e4 e5 (hr.mono h) tk
/-! ### a case of None or a value that is no name -/
theorem JE.some {o : Option α} {y : α} {r : Rp α} (j : JE X I0 H0 W ctx mem e (.ok o) (rp (rOp r))) (h : o = some y) : JE X I0 H0 W ctx mem e (.ok y) (rp r) := by
  subst h
  exact fun I H σ Q st p => j I H σ Q st fun I' H' v f q => p I' H' v f q
theorem JE.none {o : Option α} {r : Rp α} (j : JE X I0 H0 W ctx mem e (.ok o) (rp (rOp r))) (h : o = none) : JE X I0 H0 W ctx mem e (.ok ()) (rp rNon) := by
  subst h
  exact fun I H σ Q st p => j I H σ Q st fun I' H' v f q => p I' H' v f q
theorem JR.case {o : Option α} {m1 : Res γ} {m2 : α → Res γ} (k1 : o = none → JR X I0 H0 W Kx G ss m1 rr) (k2 : ∀ y, o = some y → JR X I0 H0 W Kx G ss (m2 y) rr) : JR X I0 H0 W Kx G ss (optM o m1 m2) rr := by
  cases o with
  | none => exact k1 rfl
  | some y => exact k2 y rfl
theorem JN.case {o : Option α} {G' : S → Knows} {m1 : Res S} {m2 : α → Res S} (k1 : o = none → JN X W Kx G ss m1 G') (k2 : ∀ y, o = some y → JN X W Kx G ss (m2 y) G') : JN X W Kx G ss (optM o m1 m2) G' := by
  cases o with
  | none => exact k1 rfl
  | some y => exact k2 y rfl
theorem JG.case {o : Option α} {G' : S → Knows} {GL : L → Knows} {m1 : Res (Fl S L γ)} {m2 : α → Res (Fl S L γ)} (k1 : o = none → JG X I0 H0 W Kx G ss m1 G' GL rr) (k2 : ∀ y, o = some y → JG X I0 H0 W Kx G ss (m2 y) G' GL rr) : JG X I0 H0 W Kx G ss (optM o m1 m2) G' GL rr := by
  cases o with
  | none => exact k1 rfl
  | some y => exact k2 y rfl
end
end L2.Tr
namespace L2.Tr
open PySem PySem.Spec PyProof.Rows He
section
variable {β S : Type} {X : Cx} {W : WX}
end
end L2.Tr

namespace L2.Tr
open PySem PySem.Spec PyProof.Rows He
/-! ### the Hook, the addresses that it looks at written out -/
def hookA (as : List Addr) (fs : List FB) (fn : List DX) (ts : List Tab) : PySem.W.Hook where
  α := AlZ
  obs := fun s => obsZ fs fn ts (frG s.heap.get? as)
  val := fun w => valZ fn ts w
  says := fun w h => ∃ K : PySem.W.Frag, K.In h ∧ SaysZ fs fn ts w K
  of := fun _ _ e => ⟨_, frG_in, e⟩
  keeps := fun _ _ _ ⟨K, hK, c⟩ k => ⟨K, PySem.W.Frag.In.keeps hK k, c⟩
theorem obsA_eq {as : List Addr} {fs : List FB} {fn : List DX} {ts : List Tab} {g : Addr → Option Obj} {s : Shared} (h : ∀ a, g a = s.heap.get? a) : obsZ fs fn ts (frG g as) = (hookA as fs fn ts).obs s := by
  have e : g = s.heap.get? := funext h
  rw [e] <;> rfl
end L2.Tr

namespace L2.Tr
open PySem PySem.Spec PyProof.Rows He
section
variable {X : Cx} {I0 H0 : Hp} {W : WX} {Kx : KnowsX} {ctx : List (Option SF)} {mem : List MF} {pos pos' : Pos} {n y : Str} {α : Type} {r : Rp α}
end
end L2.Tr

namespace L2.Tr
open PySem PySem.Spec PyProof.Rows He
/-! ### tables: lists of lists of the call's own, stores by row and column -/
def RowsR {α : Type} (I H : Hp) (r : Rp α) : List Addr → List (List α) → Prop
  | [], [] => True
  | a :: ls, xs :: xss => (∃ vs, H a = some (.lst vs) ∧ Paired (r I) vs xs) ∧ RowsR I H r ls xss
  | _, _ => False
theorem RowsR.up {α : Type} {r : Rp α} [mo : Mo r] {I I' H H' : Hp} (s : Same I I') : ∀ {ls : List Addr} {xss : List (List α)}, (∀ a, a ∈ ls → H' a = H a) → RowsR I H r ls xss → RowsR I' H' r ls xss
  | [], [], _, h => h
  | a :: ls, xs :: xss, k, ⟨⟨vs, h1, h2⟩, h3⟩ => ⟨⟨vs, by rw [k a List.mem_cons_self]; exact h1, Paired.mapP h2 fun _ _ q => mo.up s q⟩, RowsR.up s (fun b hb => k b (List.mem_cons_of_mem _ hb)) h3⟩
  | [], _ :: _, _, h => h.elim
  | _ :: _, [], _, h => h.elim
theorem RowsR.length {α : Type} {r : Rp α} {I H : Hp} : ∀ {ls : List Addr} {xss : List (List α)}, RowsR I H r ls xss → ls.length = xss.length
  | [], [], _ => rfl
  | _ :: _, _ :: _, ⟨_, h⟩ => congrArg Nat.succ (RowsR.length h)
  | [], _ :: _, h => h.elim
  | _ :: _, [], h => h.elim
theorem RowsR.snoc {α : Type} {r : Rp α} {I H : Hp} {a : Addr} {vs : List V} {xs : List α} (h1 : H a = some (.lst vs)) (h2 : Paired (r I) vs xs) : ∀ {ls : List Addr} {xss : List (List α)}, RowsR I H r ls xss → RowsR I H r (ls ++ [a]) (xss ++ [xs])
  | [], [], _ => ⟨⟨vs, h1, h2⟩, True.intro⟩
  | _ :: _, _ :: _, ⟨h3, h4⟩ => ⟨h3, RowsR.snoc h1 h2 h4⟩
  | [], _ :: _, h => h.elim
  | _ :: _, [], h => h.elim
theorem RowsR.get {α : Type} {r : Rp α} {I H : Hp} : ∀ {ls : List Addr} {xss : List (List α)} {i : Nat} {xs : List α}, RowsR I H r ls xss → xss[i]? = some xs → ∃ a vs, ls[i]? = some a ∧ H a = some (.lst vs) ∧ Paired (r I) vs xs
  | [], [], _, _, _, e => by simp at e
  | a :: _, x :: _, 0, xs, ⟨⟨vs, h1, h2⟩, _⟩, e => by
    have : x = xs := by simpa using e
    subst this
    exact ⟨a, vs, rfl, h1, h2⟩
  | _ :: ls, _ :: xss, i + 1, xs, ⟨_, h⟩, e => by
    obtain ⟨a, vs, e1, h1, h2⟩ := RowsR.get h (show xss[i]? = some xs by simpa using e)
    exact ⟨a, vs, by simpa using e1, h1, h2⟩
  | [], _ :: _, _, _, h, _ => h.elim
  | _ :: _, [], _, _, h, _ => h.elim
/-- the row at i is laid anew -/
theorem RowsR.put {α : Type} {r : Rp α} [mo : Mo r] {I H : Hp} {a : Addr} {vs : List V} {zs : List α} (h2 : Paired (r I) vs zs) : ∀ {ls : List Addr} {xss : List (List α)} {i : Nat}, ls.Nodup → RowsR I H r ls xss → ls[i]? = some a → RowsR I (upd H a (.lst vs)) r ls (xss.set i zs)
  | [], [], _, _, _, e => by simp at e
  | b :: ls, x :: xss, 0, nd, ⟨_, h⟩, e => by
    have : b = a := by simpa using e
    subst this
    exact ⟨⟨vs, upd_same, h2⟩, RowsR.up (Same.refl _) (fun c hc => upd_ne fun z => (List.nodup_cons.mp nd).1 (z ▸ hc)) h⟩
  | b :: ls, x :: xss, i + 1, nd, ⟨⟨ws, h3, h4⟩, h⟩, e => by
    have e' : ls[i]? = some a := by simpa using e
    have ne : b ≠ a := fun z => (List.nodup_cons.mp nd).1 (z ▸ List.mem_of_getElem? e')
    exact ⟨⟨ws, by rw [upd_ne ne]; exact h3, h4⟩, RowsR.put h2 (List.nodup_cons.mp nd).2 h e'⟩
  | [], _ :: _, _, _, h, _ => h.elim
  | _ :: _, [], _, _, h, _ => h.elim
def MF.tab {α : Type} (l : Addr) (r : Rp α) [m : Mo r] (xss : List (List α)) : MF :=
  ⟨fun I H fp => ∃ ls, fp = l :: ls ∧ H l = some (.lst (ls.map V.ref)) ∧ RowsR I H r ls xss,
   fun s ⟨ls, e, h1, h2⟩ => ⟨ls, e, h1, h2.up s fun _ _ => rfl⟩,
   fun k ⟨ls, e, h1, h2⟩ => ⟨ls, e, by rw [k l (by rw [e]; exact List.mem_cons_self)]; exact h1, h2.up (Same.refl _) fun a ha => k a (by rw [e]; exact List.mem_cons_of_mem _ ha)⟩⟩
section
variable {α β γ δ S L : Type} {X : Cx} {I0 H0 I H : Hp} {W : WX} {Kx : KnowsX} {ctx : List (Option SF)} {mem : List MF} {e a b c o elt iter ix ix2 : Expr} {pos pos' p2 : Pos} {n : Str} {σ : St} {r : Rp α} {rb : Rp β} {rr : Ra γ} {ss : List Stmt}
/-- a new list becomes a row -/
theorem Stt.row [mo : Mo r] {l D : Addr} {xs : List α} {acc : List (List α)} (s : Stt I0 H0 ctx (MF.lst l r xs :: MF.tab D r acc :: mem) I H σ) : ∃ ls, H D = some (.lst (ls.map V.ref)) ∧ I D = none ∧ ls.length = acc.length ∧ Stt I0 H0 ctx (MF.tab D r (acc ++ [xs]) :: mem) I (upd H D (.lst ((ls ++ [l]).map V.ref))) σ := by
  obtain ⟨fps, rg, nd, k⟩ := s.me
  match fps, rg, nd, k with
  | [], rg, _, _ => exact rg.elim
  | [_], ⟨_, rg⟩, _, _ => exact rg.elim
  | fp :: fq :: fps, ⟨⟨e1, ob, hl, vs, eo, pr⟩, ⟨ls, e2, hD, rows⟩, rg⟩, nd, k =>
    subst e1; subst eo; subst e2
    have nd0 : (l :: (D :: ls ++ fps.flatten)).Nodup := by simpa using nd
    have nl := (List.nodup_cons.mp nd0).1
    have nd1 := (List.nodup_cons.mp nd0).2
    have ndA := List.nodup_append.mp nd1
    have nD := (List.nodup_cons.mp ndA.1).1
    have kk : ∀ a, a = l ∨ a = D ∨ a ∈ ls ∨ a ∈ fps.flatten → H0 a = none ∧ I a = none ∧ H a ≠ none := fun a ha => k a (by
      simp only [List.flatten_cons, List.mem_append, List.mem_cons, List.not_mem_nil, or_false]
      rcases ha with h | h | h | h
      · exact .inl h
      · exact .inr (.inl (.inl h))
      · exact .inr (.inl (.inr h))
      · exact .inr (.inr h))
    have lD : l ≠ D := fun z => nl (by rw [z]; exact List.mem_append_left _ List.mem_cons_self)
    have kD := kk D (.inr (.inl rfl))
    refine ⟨ls, hD, kD.2.1, rows.length, ?_, s.len, s.sl, (D :: (ls ++ [l])) :: fps, ⟨⟨ls ++ [l], rfl, upd_same, ?_⟩, rg.up (Same.refl _) fun a ha => upd_ne fun z => ?_⟩, ?_, fun a ha => ?_⟩
    · exact ⟨s.fm.i, fun b u e => by rw [upd_ne (ne_of_none e kD.1)]; exact s.fm.h _ _ e, fun b u e => by rw [upd_ne (ne_of_none e kD.2.1)]; exact s.fm.ih _ _ e, s.fm.mu⟩
    · have rows' : RowsR I (upd H D (.lst ((ls ++ [l]).map V.ref))) r ls acc := rows.up (Same.refl _) fun a ha => upd_ne fun z => nD (z ▸ ha)
      exact rows'.snoc (by rw [upd_ne lD]; exact hl) pr
    · exact ndA.2.2 D List.mem_cons_self a ha z.symm
    · have p : (D :: (ls ++ [l]) ++ fps.flatten).Perm (l :: (D :: ls ++ fps.flatten)) := by
        have h1 : (D :: (ls ++ [l]) ++ fps.flatten) = (D :: ls) ++ l :: fps.flatten := by simp
        have h2 : (l :: (D :: ls ++ fps.flatten)) = l :: ((D :: ls) ++ fps.flatten) := rfl
        rw [h1, h2]; exact List.perm_middle
      show (List.flatten ((D :: (ls ++ [l])) :: fps)).Nodup
      rw [List.flatten_cons]
      exact p.nodup_iff.mpr nd0
    · have ha' : a = l ∨ a = D ∨ a ∈ ls ∨ a ∈ fps.flatten := by
        simp only [List.flatten_cons, List.mem_append, List.mem_cons, List.not_mem_nil, or_false] at ha
        rcases ha with (h | h | h) | h
        · exact .inr (.inl h)
        · exact .inr (.inr (.inl h))
        · exact .inl h
        · exact .inr (.inr (.inr h))
      obtain ⟨q1, q2, q3⟩ := kk a ha'
      refine ⟨q1, q2, ?_⟩
      by_cases z : a = D
      · rw [z, upd_same]; intro h; cases h
      · rw [upd_ne z]; exact q3
/-- the table is frozen -/
theorem rows_ice {D : Addr} {ls : List Addr} {xss : List (List α)} [mo : Mo r] (hI : ∀ a, a ∈ D :: ls → I a = none) (sm : Same I (ice I H (D :: ls))) : ∀ {ks : List Addr}, (∀ a, a ∈ ks → a ∈ ls) → RowsR I H r ks xss → Paired (rL r (ice I H (D :: ls))) (ks.map V.ref) xss := fun {ks} hk h => by
  induction ks generalizing xss with
  | nil =>
    cases xss with
    | nil => exact .nil
    | cons x xss => exact h.elim
  | cons k ks ih =>
    cases xss with
    | nil => exact h.elim
    | cons x xss =>
      obtain ⟨⟨vs, h1, h2⟩, h3⟩ := h
      exact .cons ⟨k, vs, rfl, by rw [ice_in (List.mem_cons_of_mem _ (hk k List.mem_cons_self))]; exact h1, Paired.mapP h2 fun _ _ q => mo.up sm q⟩ (ih (fun a ha => hk a (List.mem_cons_of_mem _ ha)) h3)
theorem Stt.frzT [mo : Mo r] {l : Addr} {xss : List (List α)} (s : Stt I0 H0 ctx mem I H σ) (i j : Nat) (hj : mem[j]? = some (MF.tab l r xss)) (hc : ctx[i]? = some (some (SF.mk (rRef l) ()))) : ∃ I', Same I I' ∧ Stt I0 H0 (ctx.set i (some ⟨rL (rL r), xss⟩)) (mem.eraseIdx j) I' H σ := by
  obtain ⟨fp, ⟨ls, e, hH, rows⟩, hI, sm, s2⟩ := s.freezeAt j hj
  subst e
  refine ⟨_, sm, s2.recast i (b := ⟨rL (rL r), xss⟩) hc fun v h => ?_⟩
  exact ⟨l, ls.map V.ref, h, by rw [ice_in List.mem_cons_self]; exact hH, rows_ice hI sm (fun a ha => ha) rows⟩
theorem JN.frzT (i j : Nat) [mo : Mo r] {l : Addr} {xss : List (List α)} {m : Res S} {G' : S → Knows} (k : JN X W Kx (Stt I0 H0 (ctx.set i (some ⟨rL (rL r), xss⟩)) (mem.eraseIdx j)) ss m G') (hj : mem[j]? = some (MF.tab l r xss) := by rfl) (hc : ctx[i]? = some (some (SF.mk (rRef l) ())) := by rfl) : JN X W Kx (Stt I0 H0 ctx mem) ss m G' := fun I H σ D g p => by
  obtain ⟨I', sm, g'⟩ := g.frzT i j hj hc
  exact k I' H σ D g' (PostB.up p sm)
theorem JR.frzT (i j : Nat) [mo : Mo r] {l : Addr} {xss : List (List α)} {m : Res γ} (k : JR X I0 H0 W Kx (Stt I0 H0 (ctx.set i (some ⟨rL (rL r), xss⟩)) (mem.eraseIdx j)) ss m rr) (hj : mem[j]? = some (MF.tab l r xss) := by rfl) (hc : ctx[i]? = some (some (SF.mk (rRef l) ())) := by rfl) : JR X I0 H0 W Kx (Stt I0 H0 ctx mem) ss m rr := fun I H σ D g p => by
  obtain ⟨I', sm, g'⟩ := g.frzT i j hj hc
  exact k I' H σ D g' p
theorem JG.frzT (i j : Nat) [mo : Mo r] {l : Addr} {xss : List (List α)} {m : Res (Fl S L γ)} {G' : S → Knows} {GL : L → Knows} (k : JG X I0 H0 W Kx (Stt I0 H0 (ctx.set i (some ⟨rL (rL r), xss⟩)) (mem.eraseIdx j)) ss m G' GL rr) (hj : mem[j]? = some (MF.tab l r xss) := by rfl) (hc : ctx[i]? = some (some (SF.mk (rRef l) ())) := by rfl) : JG X I0 H0 W Kx (Stt I0 H0 ctx mem) ss m G' GL rr := fun I H σ D g p => by
  obtain ⟨I', sm, g'⟩ := g.frzT i j hj hc
  exact k I' H σ D g' (PostG.up p sm)
theorem Stt.pushT [mo : Mo r] {D : Addr} (s : Stt I0 H0 ctx mem I H σ) (hD : H D = none) : Stt I0 H0 ctx (MF.tab D r ([] : List (List α)) :: mem) I (upd H D (.lst [])) σ :=
  s.adoptR (fp := [D]) (Fm.newM s.same hD) (by simp) (fun a ha => by rw [List.mem_singleton.mp ha]; exact ⟨hD, s.same.free hD, by rw [upd_same]; intro z; cases z⟩) ⟨[], rfl, upd_same, True.intro⟩
def PostT (X : Cx) (I0 H0 : Hp) (W : WX) (σ : St) (I H : Hp) (ctx : List (Option SF)) (mem : List MF) (m : Res (List (List α))) (r : Rp α) [mo : Mo r] (Q : VK) : Prop := match m with
  | .ok xss => ∀ I1 H1 l, Fm I H I1 H1 → Stt I0 H0 ctx (MF.tab l r xss :: mem) I1 H1 σ → Q (.ref l) H1
  | .err e => ∀ I' H' cls d, Fm I H I' H' → Fr H d ∧ ExR X.K I' H' e cls d → W cls d σ H'
  | .stuck => False
theorem lcT_post (j : Nat) [mo : Mo r] [mb : Mo rb] {m : Res (List β)} {f : β → Res (List α)} {scope : Scope} (ji : JI X I0 H0 W ctx mem (.Name n pos') iter m rb)
    (je : ∀ (s : Shared) (H : Hp) (C : Addr) (cl : List (Str × Addr)) (fp : List Addr) (D : Addr) (acc : List (List α)) (x : β), JM (X.blkC s H scope (compEnvC scope cl C X.env) fp) I0 H0 W0 (ctx.set j (some ⟨rb, x⟩)) (MF.tab D r acc :: mem) elt (f x) r)
    (I H : Hp) (σ : St) (Q : VK) (st : Stt I0 H0 ctx mem I H σ) (p : PostT X I0 H0 W σ I H ctx mem (m.bind fun xs => lcR f xs) r Q) : tLc (wI X (.Name n pos') iter) (gName j) tYes (wEb X scope elt) [j] σ H Q := by
  refine ji I H σ _ st ?_
  cases m with
  | ok xs =>
    intro I1 H1 J vs okp f1 itr stay pr D hD
    have hlen := Paired.length pr
    by_cases hz : xs.length ≤ sizeLine
    · have e0 : ((Res.ok xs).bind fun xs => lcR f xs) = lcM f xs := Res.guard_pos hz _
      rw [e0] at p
      have hD0 : H D = none := f1.h.free hD
      cases et : lcM f xs with
      | ok tot =>
        rw [et] at p
        refine ⟨fun i k H' => k + i = vs.length ∧ ∃ I' acc ys, Same I1 I' ∧ Fm I H I' H' ∧ Stt I0 H0 ctx (MF.tab D r acc :: mem) I' H' σ ∧ acc.length ≤ i ∧ lcM f (xs.drop i) = .ok ys ∧ tot = acc ++ ys, ⟨vs.length, rfl, I1, [], tot, Same.refl _, f1.trans (Fm.newM f1.ih hD), (st.step f1).pushT hD, Nat.le_refl _, et, rfl⟩, ?_⟩
        rintro i k H' ⟨hk, I', acc, ys, si, fm, g', ha, el, eq⟩
        have hok := stay I' H' si g'.same g'.fm.h
        by_cases hi : i < vs.length
        · obtain ⟨go, yl⟩ := (itr i H' hok).1 hi
          refine .inr ⟨go, fun H2 => ∃ I2 acc2 ys2, Same I1 I2 ∧ Fm I H I2 H2 ∧ Stt I0 H0 ctx (MF.tab D r acc2 :: mem) I2 H2 σ ∧ acc2.length ≤ i + 1 ∧ lcM f (xs.drop (i + 1)) = .ok ys2 ∧ tot = acc2 ++ ys2, fun H2 h => ⟨k - 1, by omega, by omega, h⟩, fun v H2 hy => ?_⟩
          obtain ⟨rfl, ev⟩ := yl v H2 hy
          obtain ⟨x, ex, hr⟩ := paired_drop pr i ev
          rw [lcM_drop ex] at el
          show (fun σ2 H2 => wipe σ2 [j] = wipe σ [j] ∧ _) (((σ.set j none)).set j (some v)) H2
          refine ⟨?_, ?_⟩
          · show ((σ.set j none).set j (some v)).set j none = σ.set j none
            rw [List.set_set, List.set_set]
          · show wEb X scope elt ((σ.set j none).set j (some v)) H2 _
            rw [List.set_set]
            intro s3 H3 C cl fp
            refine je s3 H3 C cl fp D acc x I' H2 (σ.set j (some v)) _ (g'.set j (mb.up si hr)) ?_
            revert el
            generalize f x = z
            intro el
            cases z with
            | ok y =>
              cases el2 : lcM f (xs.drop (i + 1)) with
              | ok ys2 =>
                dsimp only at el
                rw [el2] at el
                cases el
                intro I4 H4 l4 vs4 f4 hl4 hI4 h4 pr4
                have g4 := g'.adopt (mo := mo) f4 hl4 hI4 h4 pr4
                obtain ⟨ls, zH, zI, hla, g5⟩ := g4.row
                have hlt := (List.getElem?_eq_some_iff.mp ex).1
                rw [List.map_append] at g5
                refine ⟨ls.map V.ref, zH, by rw [List.length_map]; omega, I4, acc ++ [y], ys2, si.trans f4.i, (fm.trans f4).updNew hD0 zI, g5, by rw [List.length_append, List.length_singleton]; omega, rfl, by rw [eq, List.append_assoc]; rfl⟩
              | err e => dsimp only at el; rw [el2] at el; cases el
              | stuck => dsimp only at el; rw [el2] at el; cases el
            | err e => cases el
            | stuck => cases el
        · refine .inl ⟨(itr i H' hok).2 (by omega), ?_⟩
          have e1 : xs.drop i = [] := List.drop_eq_nil_of_le (by omega)
          rw [e1] at el
          cases el
          rw [List.append_nil] at eq
          subst eq
          exact p I' H' D fm g'
      | err e =>
        exfalso
        have : ∀ l : List β, lcM f l ≠ .err e := fun l => by
          induction l with
          | nil => intro h; cases h
          | cons x l ih =>
            intro h
            unfold lcM at h
            cases q : f x with
            | ok y =>
              rw [q] at h
              dsimp only at h
              cases q2 : lcM f l with
              | ok ys => rw [q2] at h; cases h
              | err e2 => rw [q2] at h ih; cases h; exact ih rfl
              | stuck => rw [q2] at h; cases h
            | err e2 => rw [q] at h; cases h
            | stuck => rw [q] at h; cases h
        exact this xs et
      | stuck => rw [et] at p; exact p.elim
    · have e0 : ((Res.ok xs).bind fun xs => lcR f xs) = .stuck := if_neg hz
      rw [e0] at p
      exact p.elim
  | err e => exact p
  | stuck => exact p
/-- y = [[..] for ..], the rows may still be changed -/
theorem J1.setTab (i j : Nat) {y : Str} {py spos : Pos} [mo : Mo r] [mb : Mo rb] {m : Res (List β)} {f : β → Res (List α)} {scope : Scope} (ji : JI X I0 H0 W ctx mem (.Name n pos') iter m rb)
    (je : ∀ (s : Shared) (H : Hp) (C : Addr) (cl : List (Str × Addr)) (fp : List Addr) (D : Addr) (acc : List (List α)) (x : β), L2N.Takes (X.blkC s H scope (compEnvC scope cl C X.env) fp) W0 → JM (X.blkC s H scope (compEnvC scope cl C X.env) fp) I0 H0 W0 (ctx.set j (some ⟨rb, x⟩)) (MF.tab D r acc :: mem) elt (f x) r)
    (hx : ∀ I H σ d, Stt I0 H0 ctx mem I H σ → Fr H0 d → Kx I H σ d) (hN : X.N.Nodup) (ok : BlkOk X.N X.env.scope scope [(n, j)]) (hi : X.N[i]? = some y := by rfl) (hyl : X.env.scope.names.lookup y = some .local := by rfl)
    (hsw : swapsWith (.ListComp elt [⟨.Name n pos', iter, [], 0⟩] scope pos) (some (.Name y py)) spos.line X.env = pure true := by rfl) (hj : X.N[j]? = some n := by rfl) (hc : Cool X := by first | exact .inl rfl | exact .inr ⟨_, by assumption, List.mem_cons_self⟩) (hsc : Loc (relabel scope X.env) n := by first | exact Or.inl rfl | exact Or.inr rfl) (hfn : (scope.names.lookup n == some .cell) = true ∨ (relabel scope X.env).names.lookup n = some .local := by first | exact .inr rfl | exact .inl rfl) (hs : ∀ x, foldedSetIterable iter X.env x = pure x := by intro _; rfl) :
    J1 X W Kx (Stt I0 H0 ctx mem) (.Assign [.Name y py] (.ListComp elt [⟨.Name n pos', iter, [], 0⟩] scope pos) spos) (m.bind fun xs => lcR f xs) (fun xss I H σ => ∃ l, Stt I0 H0 (ctx.set i (some ⟨rRef l, ()⟩)) (MF.tab l r xss :: mem) I H σ) := fun I H σ D g p => by
  refine PS.w (ps_setLcC (own := [(n, j)]) hc hN hi hyl hsw pi_W ok (fun s H C cl fp => pg_name (i := j) hN hj hsc hfn) (fun s H C cl fp => pts_nil) (fun s H C cl fp => pe_Wb s H C cl fp) hs) (lcT_post j ji (fun s H C cl fp D acc x => je s H C cl fp D acc x takes0) I H σ (fun x H1 => gName i x σ H1 D.nx) g ?_)
  revert p
  generalize (m.bind fun xs => lcR f xs) = z
  intro p
  cases z with
  | ok xs => exact fun I1 H1 l f g1 => p I1 _ _ f.i ⟨l, g1.set i rfl⟩
  | err e => exact fun I' H' c d f x => p I' H' σ c d (hx _ _ _ _ (g.step f) (x.1.back g.fm.h)) x.2
  | stuck => exact p
/-- a row is changed -/
theorem Stt.retab [mo : Mo r] {l a : Addr} {xss : List (List α)} {zs : List α} {vs : List V} {q : Nat} {ls : List Addr} (s : Stt I0 H0 ctx mem I H σ) (j : Nat) (hj : mem[j]? = some (MF.tab l r xss)) (hH : H l = some (.lst (ls.map V.ref))) (ha : ls[q]? = some a) (h : Paired (r I) vs zs) : Stt I0 H0 ctx (mem.set j (MF.tab l r (xss.set q zs))) I (upd H a (.lst vs)) σ := by
  obtain ⟨fp, ⟨ls', e, hH', rows⟩, nd, own, k⟩ := s.change hj
  subst e
  rw [hH] at hH'
  have el : ls = ls' := by
    have h1 : ls.map V.ref = ls'.map V.ref := by
      injection hH' with h
      injection h
    exact List.map_inj_right (fun x y h => by cases h; rfl) |>.mp h1
  subst el
  have nl := (List.nodup_cons.mp nd).1
  have nd1 := (List.nodup_cons.mp nd).2
  have am : a ∈ ls := List.mem_of_getElem? ha
  have la : l ≠ a := fun z => nl (z ▸ am)
  refine k I _ (MF.tab l r (xss.set q zs)) (l :: ls) ⟨Same.refl _, fun b u e => ?_, fun b u e => ?_, fun b e _ => e⟩ nd (fun b hb => ?_) ⟨ls, rfl, by rw [upd_ne la]; exact hH, rows.put h nd1 ha⟩
  · by_cases hb : b ∈ l :: ls
    · rw [rm_in hb] at e; cases e
    · rw [rm_out hb] at e
      rw [upd_ne fun z => hb (by rw [z]; exact List.mem_cons_of_mem _ am)]; exact e
  · have hb : b ∉ l :: ls := fun z => by rw [(own b z).2.1] at e; cases e
    rw [upd_ne fun z => hb (by rw [z]; exact List.mem_cons_of_mem _ am)]; exact s.same _ _ e
  · obtain ⟨h1, h2, h3⟩ := own b hb
    refine ⟨rm_in hb, h2, ?_⟩
    by_cases z : b = a
    · rw [z, upd_same]; intro h; cases h
    · rw [upd_ne z]; exact h3
def rowT (xss : List (List α)) (i : Int) : Res Nat := match ixN xss.length i with
  | some q => .ok q
  | none => .stuck
def putT (xss : List (List α)) (q : Nat) (j : Int) (y : α) : Res (List (List α)) := (putM (xss.getD q []) j y).bind fun zs => .ok (xss.set q zs)
theorem Stt.tabAt [mo : Mo r] {l : Addr} {xss : List (List α)} (s : Stt I0 H0 ctx mem I H σ) {j : Nat} (hj : mem[j]? = some (MF.tab l r xss)) : ∃ ls, H l = some (.lst (ls.map V.ref)) ∧ RowsR I H r ls xss := by
  obtain ⟨fp, ⟨ls, _, h1, h2⟩, _⟩ := s.change hj
  exact ⟨ls, h1, h2⟩
/-- x[i][j] = e -/
theorem J1.putT (i j : Nat) [mo : Mo r] {l : Addr} {xss : List (List α)} {m : Res α} {mi mj : Res Int} {p1 p3 : Pos} (je : JE X I0 H0 W ctx mem e m (rp r)) (ji : JE X I0 H0 W ctx mem ix mi (rp rInt)) (ji2 : JE X I0 H0 W ctx mem ix2 mj (rp rInt)) (hx : ∀ I H σ d, Stt I0 H0 ctx mem I H σ → Fr H0 d → Kx I H σ d)
    (hj : mem[j]? = some (MF.tab l r xss) := by rfl) (hc : ctx[i]? = some (some (SF.mk (rRef l) ())) := by rfl) (hN : X.N[i]? = some n := by rfl) (hv : Vis X.env.scope n := by first | exact Or.inl rfl | exact Or.inr (Or.inl rfl) | exact Or.inr (Or.inr rfl)) (hd : (n == ("__debug__" : Str)) = false := by decide)
    (hcd : (n == ("__classdict__" : Str)) = false := by decide) (hsx : PlainIx ix := by exact fun _ _ => rfl) (ha : ∀ v, assign (.Subscript (.Subscript (.Name n p1) ix p3) ix2 pos') X.env v = (do
      let ov ← holding [v] (eval (.Subscript (.Name n p1) ix p3) X.env)
      let iv ← holding [v, ov] (eval ix2 X.env)
      standAt pos'
      holding [v, ov, iv] (setItem ov iv v)
      release [v, ov, iv] []) := by intro _; rfl)
    (hs : swapsWithSole [.Subscript (.Subscript (.Name n p1) ix p3) ix2 pos'] e pos.line X.env = pure false := by rfl) (hw : swappedStores [.Subscript (.Subscript (.Name n p1) ix p3) ix2 pos'] e X.env = pure none := by rfl)
    (h1 : (assignEach [.Subscript (.Subscript (.Name n p1) ix p3) ix2 pos'] X.env).map (·.2) = [assign (.Subscript (.Subscript (.Name n p1) ix p3) ix2 pos') X.env] := by rfl) :
    J1 X W Kx (Stt I0 H0 ctx mem) (.Assign [.Subscript (.Subscript (.Name n p1) ix p3) ix2 pos'] e pos) (m.bind fun y => mi.bind fun k => (rowT xss k).bind fun q => mj.bind fun k2 => Tr.putT xss q k2 y) (fun zs => Stt I0 H0 ctx (mem.set j (MF.tab l r zs))) := fun I H σ D g p => by
  refine PS.w (ps_asg pe_W (pg_sub pe_W pe_W set_list ha) hs hw h1) (je I H σ _ g ?_)
  cases m with
  | ok y =>
    intro I1 H1 v f1 r1
    have g1 := g.step f1
    obtain ⟨u, eu, hu⟩ := g1.sl i _ hc
    cases (show u = V.ref l from hu)
    refine PE.w (pe_ix ix_list pe_W pe_W hsx) (w_var i (ji I1 H1 σ _ g1 ?_) eu hN hv hd hcd)
    cases mi with
    | ok k =>
      intro I2 H2 vk f2 r2
      cases (show vk = V.int k from r2)
      have g2 := g1.step f2
      obtain ⟨ls, hl, rows⟩ := g2.tabAt hj
      have p' : PostB X W Kx I ((rowT xss k).bind fun q => mj.bind fun k2 => Tr.putT xss q k2 y) _ D := p
      unfold rowT at p'
      cases ek : ixN xss.length k with
      | none =>
        rw [ek] at p'; exact p'.elim
      | some q =>
        rw [ek] at p'
        have hq := (ixN_seq ek).2.1
        have hrow : xss[q]? = some (xss[q]'hq) := List.getElem?_eq_getElem hq
        obtain ⟨a, ws, ha', hHa, pa⟩ := rows.get hrow
        refine ⟨l, ls.map V.ref, k, .ref a, rfl, rfl, SqL.of hl, ?_, ?_⟩
        · unfold atI
          rw [List.length_map, rows.length, ek]
          show (ls.map V.ref)[q]? = _
          rw [List.getElem?_map, ha']; rfl
        · refine ji2 I2 H2 σ _ g2 ?_
          cases mj with
          | ok k2 =>
            intro I3 H3 vk2 f3 r3
            cases (show vk2 = V.int k2 from r3)
            have g3 := g2.step f3
            have p2 : PostB X W Kx I (Tr.putT xss q k2 y) _ D := p'
            unfold Tr.putT at p2
            rw [List.getD_eq_getElem?_getD, hrow, Option.getD_some] at p2
            have hHa3 := f3.h _ _ hHa
            have hl3 := f3.h _ _ hl
            unfold putM at p2
            cases ek2 : ixN (xss[q]'hq).length k2 with
            | none => rw [ek2] at p2; exact p2.elim
            | some q2 =>
              rw [ek2] at p2
              refine ⟨a, ws, k2, q2, rfl, rfl, hHa3, by rw [Paired.length pa]; exact ek2, ?_⟩
              exact p2 I3 _ σ ((f1.i.trans f2.i).trans f3.i) (g3.retab j hj hl3 ha' (paired_set (mo.up (f2.i.trans f3.i) r1) q2 (Paired.mapP pa fun _ _ z => mo.up f3.i z)))
          | err e =>
            have p2 : PostB X W Kx I (.err e : Res (List (List α))) _ D := p'
            exact fun I' H' c d f x => p2 I' H' σ c d (hx _ _ _ _ (g2.step f) (x.1.back g2.fm.h)) x.2
          | stuck =>
            have p2 : PostB X W Kx I (.stuck : Res (List (List α))) _ D := p'
            exact p2.elim
    | err e => exact fun I' H' c d f x => p I' H' σ c d (hx _ _ _ _ (g1.step f) (x.1.back g1.fm.h)) x.2
    | stuck => exact p.elim
  | err e => exact fun I' H' c d f x => p I' H' σ c d (hx _ _ _ _ (g.step f) (x.1.back g.fm.h)) x.2
  | stuck => exact p.elim
end
end L2.Tr

namespace L2.Tr
open PySem PySem.Spec PyProof.Rows L2H
/-! ### own defs and properties that are called while an exception is handled -/
theorem RoomH.in1 {k : Nat} {A : Around} (r : RoomH (k + 1) A) : RoomH k A.in1 := ⟨by have := r.dp; show A.depth + 3 * k + 5 < _; omega, by have := r.un; show A.units + 1 + 16 * k + 200 < _; omega⟩
section
variable {α β γ δ S T : Type} {X : Cx} {I0 H0 : Hp} {W : WX} {Kx : KnowsX} {G : Knows} {ctx : List (Option SF)} {mem : List MF} {e a b c o : Expr} {es bs : List Expr} {pos pos' : Pos} {n : Str} {ra : Ra α} {rb : Ra β} {rc : Ra γ} {ma : Res α} {r : Rp α} {f : Addr} {k : Nat} {R : Hp → Hp → List V → δ → Prop} {σ : L2.St} {H : Hp} {Q : VK}
end
/-! ### and, or as values, with effects -/
section
variable {α β γ δ T : Type} {X : Cx} {I0 H0 I H I1 : Hp} {W : WX} {Kx : KnowsX} {ctx : List (Option SF)} {C : T → List MF} {t0 t : T} {e a b c : Expr} {es bs : List Expr} {pos : Pos} {Q : VK}
theorem JX.one {op} {m : Res (Bool × T)} (j : JX X I0 H0 W Kx ctx C t0 a m rBl) : JX X I0 H0 W Kx ctx C t0 (.BoolOp op [a] pos) m rBl := fun I H σ Q st p => w_oneV (j I H σ Q st p)
theorem JX.and {m1 : Res (Bool × T)} {m2 : T → Res (Bool × T)} (j : JX X I0 H0 W Kx ctx C t0 a m1 rBl) (k : ∀ t, JX X I0 H0 W Kx ctx C t (.BoolOp .And (b :: bs) pos) (m2 t) rBl) : JX X I0 H0 W Kx ctx C t0 (.BoolOp .And (a :: b :: bs) pos) (m1.bindX fun x t => if x = true then m2 t else .ok (false, t)) rBl := fun I H σ Q st p => by
  refine w_andV (j I H σ _ st ?_)
  cases m1 with
  | ok x =>
    obtain ⟨x, t⟩ := x
    intro I1 H1 v s g r
    have p1 : PostX X I0 H0 W Kx ctx C σ I1 (if x = true then m2 t else .ok (false, t)) rBl Q := PostX.up p s
    refine ⟨x, r, ?_⟩
    cases x with
    | true => exact iteT (k t I1 H1 σ Q g p1)
    | false => exact iteF (p1 I1 H1 _ (Same.refl _) g rfl)
  | err e => exact p
  | stuck => exact p
theorem JX.or {m1 : Res (Bool × T)} {m2 : T → Res (Bool × T)} (j : JX X I0 H0 W Kx ctx C t0 a m1 rBl) (k : ∀ t, JX X I0 H0 W Kx ctx C t (.BoolOp .Or (b :: bs) pos) (m2 t) rBl) : JX X I0 H0 W Kx ctx C t0 (.BoolOp .Or (a :: b :: bs) pos) (m1.bindX fun x t => if x = true then .ok (true, t) else m2 t) rBl := fun I H σ Q st p => by
  refine w_orV (j I H σ _ st ?_)
  cases m1 with
  | ok x =>
    obtain ⟨x, t⟩ := x
    intro I1 H1 v s g r
    have p1 : PostX X I0 H0 W Kx ctx C σ I1 (if x = true then .ok (true, t) else m2 t) rBl Q := PostX.up p s
    refine ⟨x, r, ?_⟩
    cases x with
    | true => exact iteT (p1 I1 H1 _ (Same.refl _) g rfl)
    | false => exact iteF (k t I1 H1 σ Q g p1)
  | err e => exact p
  | stuck => exact p
end
section
variable {α β γ S L : Type} {X : Cx} {I0 H0 : Hp} {W : WX} {Kx : KnowsX} {ctx cw : List (Option SF)} {mem : List MF} {body suite : List Stmt} {b₀ : Stmt} {pos pos' np : Pos} {n x : Str} {rr : Ra γ}
end
section
variable {α δ : Type} {P : Program} {w : World} {K : PySem.W.Frag} {mg : Str → Option Value} {base : Heap} {x qual : Str} {params : Arguments} {body : List Stmt} {scope : Scope} {f : Addr} {fd : FuncData} {N ps : List Str} {k : Nat} {r : Rp α} {R : Hp → Hp → List V → δ → Prop} {m : δ → Res (List α)}
end
theorem OFR.lst {I H : Hp} : ∀ {gs : List (Str × OF)} {fs : List (Str × V)} {as : List Addr}, OFR I H fs gs as → ∀ a, a ∈ as → ∃ vs, H a = some (.lst vs)
  | [], [], as, h, a, ha => by
    obtain rfl : as = [] := h
    cases ha
  | (n, .im q) :: gs, p :: fs, as, ⟨_, _, c⟩, a, ha => OFR.lst c a ha
  | (n, .ls r mo xs) :: gs, p :: fs, as, ⟨b, as', e, _, _, ⟨vs, h3, _⟩, h5⟩, a, ha => by
    subst e
    rcases List.mem_cons.mp ha with z | z
    · exact ⟨vs, by rw [z]; exact h3⟩
    · exact OFR.lst h5 a z
  | [], _ :: _, _, h, _, _ => h.elim
  | (_, .im _) :: _, [], _, h, _, _ => h.elim
  | (_, .ls _ _ _) :: _, [], _, h, _, _ => h.elim
end L2.Tr

namespace L2.Tr
open PySem PySem.Spec PyProof.Rows
/-! ### o.m(k = v, ..) that changes the object -/
section
variable {α β γ δ ε S T L : Type} {X : Cx} {I0 H0 I H I1 : Hp} {W : WX} {Kx : KnowsX} {ctx : List (Option SF)} {mem : List MF} {C : T → List MF} {t0 t : T} {kws : List Keyword} {pos pos' p2 : Pos} {n : Str} {rc : Rp γ} {σ : St} {Q : VK} {R' : Hp → Hp → List V → ε → Prop} {me : Res ε} {ks : List Str}
end
end L2.Tr

namespace L2.Tr
open PySem PySem.Spec PyProof.Rows
/-! ### tables are frozen, contexts written out -/
section
variable {α γ S L : Type} {X : Cx} {I0 H0 I H : Hp} {W : WX} {Kx : KnowsX} {ss : List Stmt} {ctx ctx' : List (Option SF)} {mem mem' : List MF} {rr : Ra γ}
variable (i j : Nat) {r : Rp α} [mo : Mo r] {l : Addr} {xss : List (List α)}
theorem JN.fzT {m : Res S} {G' : S → Knows} (k : JN X W Kx (Stt I0 H0 ctx' mem') ss m G') (hj : mem[j]? = some (MF.tab l r xss) := by rfl) (hc : ctx[i]? = some (some (SF.mk (rRef l) ())) := by rfl) (h1 : ctx.set i (some ⟨rL (rL r), xss⟩) = ctx' := by rfl) (h2 : mem.eraseIdx j = mem' := by rfl) : JN X W Kx (Stt I0 H0 ctx mem) ss m G' :=
  JN.frzT i j (by rw [h1, h2]; exact k) hj hc
theorem JR.fzT {m : Res γ} (k : JR X I0 H0 W Kx (Stt I0 H0 ctx' mem') ss m rr) (hj : mem[j]? = some (MF.tab l r xss) := by rfl) (hc : ctx[i]? = some (some (SF.mk (rRef l) ())) := by rfl) (h1 : ctx.set i (some ⟨rL (rL r), xss⟩) = ctx' := by rfl) (h2 : mem.eraseIdx j = mem' := by rfl) : JR X I0 H0 W Kx (Stt I0 H0 ctx mem) ss m rr :=
  JR.frzT i j (by rw [h1, h2]; exact k) hj hc
theorem JG.fzT {m : Res (Fl S L γ)} {G' : S → Knows} {GL : L → Knows} (k : JG X I0 H0 W Kx (Stt I0 H0 ctx' mem') ss m G' GL rr) (hj : mem[j]? = some (MF.tab l r xss) := by rfl) (hc : ctx[i]? = some (some (SF.mk (rRef l) ())) := by rfl) (h1 : ctx.set i (some ⟨rL (rL r), xss⟩) = ctx' := by rfl) (h2 : mem.eraseIdx j = mem' := by rfl) : JG X I0 H0 W Kx (Stt I0 H0 ctx mem) ss m G' GL rr :=
  JG.frzT i j (by rw [h1, h2]; exact k) hj hc
theorem JM.at {a : Expr} {m : Res (List α)} {c c' : List (Option SF)} (j : JM X I0 H0 W c' mem a m r) (h : c = c' := by rfl) : JM X I0 H0 W c mem a m r := by rw [h]; exact j
end
end L2.Tr

namespace L2.Tr
open PySem PySem.Spec PyProof.Rows
/-! ### comprehensions over a list that may still be changed -/
section
variable {α β γ δ S : Type} {X : Cx} {I0 H0 : Hp} {W : WX} {Kx : KnowsX} {ctx : List (Option SF)} {mem : List MF} {e a b c o elt iter tg : Expr} {ss body : List Stmt} {pos pos' : Pos} {n : Str} {r : Rp α} {rb : Rp β}
end
end L2.Tr

namespace L2.Tr
open PySem PySem.Spec PyProof.Rows
/-! ### defs that change a list and hand back a new one -/
section
variable {α β γ δ S T : Type} {X : Cx} {I0 H0 I H : Hp} {W : WX} {Kx : KnowsX} {ctx : List (Option SF)} {mem : List MF} {C : T → List MF} {t0 : T} {e : Expr} {es : List Expr} {ss : List Stmt} {pos pos' : Pos} {n : Str} {r : Rp α} {rt : Rp β} {σ : St} {Q : VK} {R : Hp → Hp → List V → δ → Prop}
end
/-! ### a generator's body takes what a calm exception is -/
theorem tracedN {h B : Heap} {a : Addr} {Z Z' : Obj → Prop} {fl : Value} (z : ∀ o, Z o → Z' o) (x : HandSPX.TracedZ h B a Z fl) : HandSPX.TracedZ h B a Z' fl := by
  obtain ⟨oe, vs, T, oT, ts, h1, h2, h3⟩ := x
  exact ⟨oe, vs, T, oT, ts, h1, z _ h2, h3⟩
theorem sky_imp {B : Heap} {l : List Env} {a : Addr} {Z Z' : Obj → Prop} {L : Addr} {h : Heap} (z : ∀ o, Z o → Z' o) (x : Sky B l a Z L h) : Sky B l a Z' L h := by
  rcases x with ⟨h1, h2, h3, oe, vs, h4, h5, h6⟩ | ⟨h1, h2, h3, t⟩ | ⟨h1, h2, h3, t⟩
  · exact .inl ⟨h1, h2, h3, oe, vs, h4, z _ h5, h6⟩
  · exact .inr (.inl ⟨h1, h2, h3, tracedN z t⟩)
  · exact .inr (.inr ⟨h1, h2, h3, tracedN z t⟩)
section
variable {P : Program} {w : World} {K : PySem.W.Frag} {mg : Str → Option Value} {base : Heap} {N : List Str} {qual : Str} {scope : Scope} {f : Addr} {cd : Value} {A : Around} {outer : List Env} {s : Shared} {H : Hp} {E : XK} {pn : List (Addr × Obj)}
theorem takesN_gcx : L2N.Takes (gcxOf P w K mg base N qual scope f cd A outer s H E pn) (fun cls d _ H' => E cls d H') := fun u s' x => by
  obtain ⟨a, B, sI, pins, σ, H1, cls, d, e, I, nb, up, sky, r⟩ := x
  exact takes_gcx u s' ⟨a, B, sI, pins, σ, H1, cls, d, e, I, nb, up, sky_imp (fun o h => h.zc) sky, r⟩
end
end L2.Tr

namespace L2.Tr
/-! quadratic forms of a row of readings -/
def qf (r : Nat → Rat) (n : Nat) (p : Nat → Rat) : Rat := smQ (fun i => smQ (fun j => p i * p j * r (i + j)) n) n
/-- the readings that weights cannot bar -/
structure HM (r : Nat → Rat) : Prop where
  h0 : ∀ n p, 0 ≤ qf r n p
  h1 : ∀ n p, 0 ≤ qf (fun k => r (k + 1)) n p
  h2 : ∀ n p, 0 ≤ qf (fun k => r k - r (k + 1)) n p
  h3 : ∀ n p, 0 ≤ qf (fun k => r (k + 1) - r (k + 2)) n p
theorem smQ_shift {f : Nat → Rat} : ∀ {n : Nat}, smQ f (n + 1) = f 0 + smQ (fun i => f (i + 1)) n
  | 0 => by rw [smQ_succ]; show 0 + f 0 = f 0 + 0; grind
  | n + 1 => by rw [smQ_succ, smQ_shift (n := n), smQ_succ]; grind
/-- times x -/
theorem qf_x (r : Nat → Rat) (n : Nat) (p : Nat → Rat) : qf (fun k => r (k + 2)) n p = qf r (n + 1) (fun i => if i = 0 then 0 else p (i - 1)) := by
  unfold qf
  rw [smQ_shift]
  have e0 : smQ (fun j => (if (0 : Nat) = 0 then (0 : Rat) else p (0 - 1)) * (if j = 0 then 0 else p (j - 1)) * r (0 + j)) (n + 1) = 0 := smQ_null fun i _ => by rw [if_pos rfl]; grind
  rw [e0, Rat.zero_add]
  refine smQ_congr fun i _ => ?_
  rw [smQ_shift]
  dsimp only
  rw [if_neg (by omega), if_pos rfl]
  have : p (i + 1 - 1) * 0 * r (i + 1 + 0) + smQ (fun j => p (i + 1 - 1) * (if j + 1 = 0 then 0 else p (j + 1 - 1)) * r (i + 1 + (j + 1))) n = smQ (fun j => p i * p j * r (i + j + 2)) n := by
    rw [Rat.mul_zero, Rat.zero_mul, Rat.zero_add]
    refine smQ_congr fun j _ => ?_
    rw [if_neg (by omega), show i + 1 + (j + 1) = i + j + 2 by omega, Nat.add_sub_cancel, Nat.add_sub_cancel]
  exact this.symm
/-- times 1 - x -/
theorem qf_rest (r : Nat → Rat) (n : Nat) (p : Nat → Rat) : qf (fun k => r k - 2 * r (k + 1) + r (k + 2)) n p = qf r (n + 1) (fun i => (if i < n then p i else 0) - (if i = 0 then 0 else p (i - 1))) := by
  have split : qf r (n + 1) (fun i => (if i < n then p i else 0) - (if i = 0 then 0 else p (i - 1))) = qf r n p - 2 * qf (fun k => r (k + 1)) n p + qf (fun k => r (k + 2)) n p := by
    rw [qf_x]
    have a1 : qf r n p = qf r (n + 1) (fun i => if i < n then p i else 0) := by
      unfold qf
      rw [smQ_succ]
      have z : smQ (fun j => (if n < n then p n else 0) * (if j < n then p j else 0) * r (n + j)) (n + 1) = 0 := smQ_null fun j _ => by rw [if_neg (Nat.lt_irrefl n)]; grind
      rw [z, Rat.add_zero]
      refine smQ_congr fun i hi => ?_
      rw [smQ_succ]
      dsimp only
      rw [if_neg (Nat.lt_irrefl n), if_pos hi]
      have : smQ (fun j => p i * (if j < n then p j else 0) * r (i + j)) n = smQ (fun j => p i * p j * r (i + j)) n := smQ_congr fun j hj => by rw [if_pos hj]
      rw [this]; grind
    have a2 : qf (fun k => r (k + 1)) n p = smQ (fun i => smQ (fun j => (if i < n then p i else 0) * (if j = 0 then 0 else p (j - 1)) * r (i + j)) (n + 1)) (n + 1) := by
      rw [smQ_succ]
      have z : smQ (fun j => (if n < n then p n else 0) * (if j = 0 then 0 else p (j - 1)) * r (n + j)) (n + 1) = 0 := smQ_null fun j _ => by rw [if_neg (Nat.lt_irrefl n)]; grind
      rw [z, Rat.add_zero]
      unfold qf
      refine smQ_congr fun i hi => ?_
      rw [smQ_shift]
      dsimp only
      rw [if_pos hi, if_pos rfl, Rat.mul_zero, Rat.zero_mul, Rat.zero_add]
      refine smQ_congr fun j hj => ?_
      rw [if_neg (by omega), Nat.add_sub_cancel, show i + (j + 1) = i + j + 1 by omega]
    have a3 : smQ (fun i => smQ (fun j => (if i = 0 then 0 else p (i - 1)) * (if j < n then p j else 0) * r (i + j)) (n + 1)) (n + 1) = qf (fun k => r (k + 1)) n p := by
      rw [a2, smQ_comm]
      refine smQ_congr fun i _ => smQ_congr fun j _ => ?_
      rw [Nat.add_comm i j]; grind
    rw [a1]
    have e : qf r (n + 1) (fun i => (if i < n then p i else 0) - (if i = 0 then 0 else p (i - 1))) =
      qf r (n + 1) (fun i => if i < n then p i else 0)
      - smQ (fun i => smQ (fun j => (if i < n then p i else 0) * (if j = 0 then 0 else p (j - 1)) * r (i + j)) (n + 1)) (n + 1)
      - smQ (fun i => smQ (fun j => (if i = 0 then 0 else p (i - 1)) * (if j < n then p j else 0) * r (i + j)) (n + 1)) (n + 1)
      + qf r (n + 1) (fun i => if i = 0 then 0 else p (i - 1)) := by
      unfold qf
      rw [← smQ_sub, ← smQ_sub, ← smQ_add]
      refine smQ_congr fun i _ => ?_
      rw [← smQ_sub, ← smQ_sub, ← smQ_add]
      refine smQ_congr fun j _ => ?_
      grind
    rw [e, a3, ← a2]; grind
  rw [split]
  unfold qf
  rw [← smQ_mul, ← smQ_sub, ← smQ_add]
  refine smQ_congr fun i _ => ?_
  rw [← smQ_mul, ← smQ_sub, ← smQ_add]
  refine smQ_congr fun j _ => ?_
  grind
theorem qf_congr {r s : Nat → Rat} (h : ∀ k, r k = s k) (n : Nat) (p : Nat → Rat) : qf r n p = qf s n p := by
  rw [show r = s from funext h]
theorem HM.shift {r : Nat → Rat} (h : HM r) : HM fun k => r (k + 1) where
  h0 := h.h1
  h1 n p := by
    have := qf_x r n p
    rw [qf_congr (s := fun k => r (k + 2)) fun k => rfl, this]; exact h.h0 _ _
  h2 := h.h3
  h3 n p := by
    have := qf_x (fun k => r k - r (k + 1)) n p
    rw [qf_congr (s := fun k => r (k + 2) - r (k + 2 + 1)) fun k => rfl, this]
    exact h.h2 _ _
theorem HM.diff {r : Nat → Rat} (h : HM r) : HM fun k => r k - r (k + 1) where
  h0 := h.h2
  h1 := h.h3
  h2 n p := by
    rw [qf_congr (s := fun k => r k - 2 * r (k + 1) + r (k + 2)) fun k => by grind, qf_rest]
    exact h.h0 _ _
  h3 n p := by
    have := qf_rest (fun k => r (k + 1)) n p
    rw [qf_congr (s := fun k => r (k + 1) - 2 * r (k + 1 + 1) + r (k + 2 + 1)) fun k => by grind, this]
    exact h.h1 _ _
theorem HM.pos0 {r : Nat → Rat} (h : HM r) : 0 ≤ r 0 := by
  have := h.h0 1 fun _ => 1
  unfold qf at this
  have e : smQ (fun i => smQ (fun j => (1 : Rat) * 1 * r (i + j)) 1) 1 = r 0 := by
    rw [smQ_succ, smQ_succ]
    show (0 : Rat) + (0 + 1 * 1 * r (0 + 0)) = r 0
    grind
  rw [e] at this
  exact this
theorem HM.pos {r : Nat → Rat} (h : HM r) (k : Nat) : 0 ≤ r k := by
  induction k generalizing r with
  | zero => exact h.pos0
  | succ k ih => exact ih h.shift
end L2.Tr

namespace L2.Tr
/-! amounts that go back and forth -/
def dn (n : Nat) (w : Nat → Nat → Rat) (U : Nat → Rat) (x : Nat → Rat) (c : Nat) : Rat := smQ (fun i => w i c * x i) n / U c
def ip (T : Nat → Rat) (n : Nat) (x y : Nat → Rat) : Rat := smQ (fun i => T i * x i * y i) n
def lin (p : Nat → Rat) (v : Nat → Nat → Rat) (n : Nat) (i : Nat) : Rat := smQ (fun k => p k * v k i) n
structure RW (R C : Nat) (w : Nat → Nat → Rat) (T U : Nat → Rat) : Prop where
  w0 : ∀ i c, i < R → c < C → 0 ≤ w i c
  T0 : ∀ i, i < R → 0 < T i
  U0 : ∀ c, c < C → 0 < U c
  hT : ∀ i, i < R → smQ (w i) C ≤ T i
  hU : ∀ c, c < C → smQ (fun i => w i c) R ≤ U c
def tr (w : Nat → Nat → Rat) : Nat → Nat → Rat := fun i c => w c i
theorem RW.flip {R C : Nat} {w : Nat → Nat → Rat} {T U : Nat → Rat} (g : RW R C w T U) : RW C R (tr w) U T := ⟨fun i c hi hc => g.w0 c i hc hi, g.U0, g.T0, g.hU, g.hT⟩
theorem sq_nonneg (x : Rat) : 0 ≤ x * x := by
  rcases (Rat.le_total : 0 ≤ x ∨ x ≤ 0) with h | h
  · exact Rat.mul_nonneg h h
  · have : 0 ≤ -x := by grind
    have := Rat.mul_nonneg this this
    grind
theorem ip_self {T : Nat → Rat} {n : Nat} {x : Nat → Rat} (h : ∀ i, i < n → 0 < T i) : 0 ≤ ip T n x x := smQ_nonneg fun i hi => by
  have h1 := Rat.mul_nonneg (Rat.le_of_lt (h i hi)) (sq_nonneg (x i))
  grind
section
variable {R C : Nat} {w : Nat → Nat → Rat} {T U : Nat → Rat}
theorem dn_mul {x : Nat → Rat} {c : Nat} (h : 0 < U c) : U c * dn R w U x c = smQ (fun i => w i c * x i) R := by
  unfold dn
  rw [Rat.mul_comm]
  exact Rat.div_mul_cancel (by grind)
theorem dn_one {x : Nat → Rat} {c : Nat} (w0 : ∀ i, i < R → 0 ≤ w i c) (h0 : 0 < U c) (hU : smQ (fun i => w i c) R ≤ U c) : U c * dn R w U x c * dn R w U x c ≤ smQ (fun i => w i c * x i * x i) R := by
  have e := dn_mul (R := R) (w := w) (x := x) h0
  generalize dn R w U x c = y at *
  have h1 : 0 ≤ smQ (fun i => w i c * ((x i - y) * (x i - y))) R := smQ_nonneg fun i hi => Rat.mul_nonneg (w0 i hi) (sq_nonneg _)
  have h2 : smQ (fun i => w i c * ((x i - y) * (x i - y))) R = smQ (fun i => w i c * x i * x i) R - 2 * y * smQ (fun i => w i c * x i) R + y * y * smQ (fun i => w i c) R := by
    rw [← smQ_mul, ← smQ_mul, ← smQ_sub, ← smQ_add]
    exact smQ_congr fun i _ => by grind
  have h3 : y * y * smQ (fun i => w i c) R ≤ y * y * U c := Rat.mul_le_mul_of_nonneg_left hU (sq_nonneg y)
  rw [h2, ← e] at h1
  grind
theorem RW.contr (g : RW R C w T U) (x : Nat → Rat) : ip U C (dn R w U x) (dn R w U x) ≤ ip T R x x := by
  have h1 : ip U C (dn R w U x) (dn R w U x) ≤ smQ (fun c => smQ (fun i => w i c * x i * x i) R) C := smQ_le fun c hc => dn_one (fun i hi => g.w0 i c hi hc) (g.U0 c hc) (g.hU c hc)
  rw [smQ_comm] at h1
  refine Rat.le_trans h1 (smQ_le fun i hi => ?_)
  have e : smQ (fun c => w i c * x i * x i) C = x i * x i * smQ (w i) C := by
    rw [← smQ_mul]; exact smQ_congr fun c _ => by grind
  rw [e]
  have := Rat.mul_le_mul_of_nonneg_left (g.hT i hi) (sq_nonneg (x i))
  grind
theorem RW.adj (g : RW R C w T U) (x y : Nat → Rat) : ip U C (dn R w U x) y = ip T R x (dn C (tr w) T y) := by
  unfold ip
  have e1 : smQ (fun c => U c * dn R w U x c * y c) C = smQ (fun c => smQ (fun i => w i c * x i * y c) R) C := smQ_congr fun c hc => by
    rw [dn_mul (g.U0 c hc), ← smQ_mulr]
  have e2 : smQ (fun i => T i * x i * dn C (tr w) T y i) R = smQ (fun i => smQ (fun c => w i c * x i * y c) C) R := smQ_congr fun i hi => by
    have := dn_mul (R := C) (w := tr w) (U := T) (x := y) (g.T0 i hi)
    have e : T i * x i * dn C (tr w) T y i = x i * (T i * dn C (tr w) T y i) := by grind
    rw [e, this, ← smQ_mul]
    exact smQ_congr fun c _ => by show x i * (w i c * y c) = _; grind
  rw [e1, e2, smQ_comm]
theorem ip_comm {n : Nat} {x y : Nat → Rat} : ip T n x y = ip T n y x := smQ_congr fun i _ => by grind
theorem dn_lin {p : Nat → Rat} {v : Nat → Nat → Rat} {n c : Nat} (h : 0 < U c) : dn R w U (lin p v n) c = lin p (fun k => dn R w U (v k)) n c := by
  unfold dn lin
  have e : smQ (fun i => w i c * smQ (fun k => p k * v k i) n) R = smQ (fun k => p k * smQ (fun i => w i c * v k i) R) n := by
    rw [smQ_congr fun i _ => by rw [← smQ_mul], smQ_comm]
    refine smQ_congr fun k _ => ?_
    rw [← smQ_mul]
    exact smQ_congr fun i _ => by grind
  rw [e, Rat.div_def, ← smQ_mulr]
  refine smQ_congr fun k _ => ?_
  dsimp only
  rw [Rat.div_def, Rat.mul_assoc]
theorem ip_lin {p : Nat → Rat} {u v : Nat → Nat → Rat} {n m : Nat} : ip T m (lin p u n) (lin p v n) = smQ (fun i => smQ (fun j => p i * p j * ip T m (u i) (v j)) n) n := by
  unfold ip lin
  have e : ∀ i, T i * smQ (fun k => p k * u k i) n * smQ (fun k => p k * v k i) n = smQ (fun k => smQ (fun l => p k * p l * (T i * u k i * v l i)) n) n := fun i => by
    rw [show T i * smQ (fun k => p k * u k i) n * smQ (fun k => p k * v k i) n = smQ (fun k => p k * u k i) n * (T i * smQ (fun k => p k * v k i) n) by grind, ← smQ_mulr]
    refine smQ_congr fun k _ => ?_
    rw [← Rat.mul_assoc, ← smQ_mul]
    exact smQ_congr fun l _ => by grind
  rw [smQ_congr fun i _ => e i, smQ_comm]
  refine smQ_congr fun k _ => ?_
  rw [smQ_comm]
  refine smQ_congr fun l _ => ?_
  exact smQ_mul
theorem ip_congr {n : Nat} {x x' y y' : Nat → Rat} (h : ∀ i, i < n → x i = x' i) (k : ∀ i, i < n → y i = y' i) : ip T n x y = ip T n x' y' := smQ_congr fun i hi => by rw [h i hi, k i hi]
/-- both half ticks -/
def both (R C : Nat) (w : Nat → Nat → Rat) (T U : Nat → Rat) (x : Nat → Rat) : Nat → Rat := dn C (tr w) T (dn R w U x)
def pw (R C : Nat) (w : Nat → Nat → Rat) (T U : Nat → Rat) (e : Nat → Rat) : Nat → Nat → Rat
  | 0 => e
  | k + 1 => both R C w T U (pw R C w T U e k)
theorem RW.self (g : RW R C w T U) (x y : Nat → Rat) : ip T R (both R C w T U x) y = ip T R x (both R C w T U y) := by
  unfold both
  rw [← g.adj, ip_comm, ← g.adj, ip_comm]
theorem RW.half (g : RW R C w T U) (x y : Nat → Rat) : ip T R (both R C w T U x) y = ip U C (dn R w U x) (dn R w U y) := by
  unfold both
  rw [ip_comm, ← g.adj, ip_comm]
theorem RW.mom (g : RW R C w T U) (e : Nat → Rat) : ∀ i j, ip T R (pw R C w T U e i) (pw R C w T U e j) = ip T R (pw R C w T U e (i + j)) e
  | i, 0 => rfl
  | i, j + 1 => by
    show ip T R _ (both R C w T U (pw R C w T U e j)) = _
    rw [← g.self]
    have := g.mom e (i + 1) j
    rw [show i + (j + 1) = i + 1 + j by omega]
    exact this
theorem RW.hm (g : RW R C w T U) (e : Nat → Rat) : HM fun k => ip T R (pw R C w T U e k) e := by
  have a0 : ∀ n p, qf (fun k => ip T R (pw R C w T U e k) e) n p = ip T R (lin p (pw R C w T U e) n) (lin p (pw R C w T U e) n) := fun n p => by
    rw [ip_lin]
    exact smQ_congr fun i _ => smQ_congr fun j _ => by rw [g.mom]
  have dl : ∀ n p c, c < C → dn R w U (lin p (pw R C w T U e) n) c = lin p (fun k => dn R w U (pw R C w T U e k)) n c := fun n p c hc => dn_lin (g.U0 c hc)
  have a1 : ∀ n p, qf (fun k => ip T R (pw R C w T U e (k + 1)) e) n p = ip U C (dn R w U (lin p (pw R C w T U e) n)) (dn R w U (lin p (pw R C w T U e) n)) := fun n p => by
    rw [ip_congr (dl n p) (dl n p), ip_lin]
    refine smQ_congr fun i _ => smQ_congr fun j _ => ?_
    dsimp only
    rw [← g.half, show i + j + 1 = i + 1 + j by omega, ← g.mom]
    rfl
  have ul : ∀ n p i, i < R → both R C w T U (lin p (pw R C w T U e) n) i = lin p (fun k => pw R C w T U e (k + 1)) n i := fun n p i hi => by
    unfold both
    have := dn_lin (R := C) (w := tr w) (U := T) (p := p) (v := fun k => dn R w U (pw R C w T U e k)) (n := n) (c := i) (g.T0 i hi)
    rw [show lin p (fun k => pw R C w T U e (k + 1)) n i = lin p (fun k => dn C (tr w) T (dn R w U (pw R C w T U e k))) n i from rfl, ← this]
    unfold dn
    congr 1
    refine smQ_congr fun c hc => ?_
    show _ * dn R w U (lin p (pw R C w T U e) n) c = _
    rw [dl n p c hc]
    rfl
  have a2 : ∀ n p, qf (fun k => ip T R (pw R C w T U e (k + 2)) e) n p = ip T R (both R C w T U (lin p (pw R C w T U e) n)) (both R C w T U (lin p (pw R C w T U e) n)) := fun n p => by
    rw [ip_congr (ul n p) (ul n p), ip_lin]
    refine smQ_congr fun i _ => smQ_congr fun j _ => ?_
    dsimp only
    rw [show i + j + 2 = i + 1 + (j + 1) by omega, ← g.mom]
  have sb : ∀ (r s : Nat → Rat) n p, qf (fun k => r k - s k) n p = qf r n p - qf s n p := fun r s n p => by
    unfold qf
    rw [← smQ_sub]
    refine smQ_congr fun i _ => ?_
    rw [← smQ_sub]
    exact smQ_congr fun j _ => by grind
  refine ⟨fun n p => ?_, fun n p => ?_, fun n p => ?_, fun n p => ?_⟩
  · rw [a0]; exact ip_self g.T0
  · rw [a1]; exact ip_self g.U0
  · rw [sb, a0, a1]
    have := g.contr (lin p (pw R C w T U e) n)
    grind
  · rw [sb, a1, a2]
    have := g.flip.contr (dn R w U (lin p (pw R C w T U e) n))
    have e : ip T R (both R C w T U (lin p (pw R C w T U e) n)) (both R C w T U (lin p (pw R C w T U e) n)) = ip T R (dn C (tr w) T (dn R w U (lin p (pw R C w T U e) n))) (dn C (tr w) T (dn R w U (lin p (pw R C w T U e) n))) := rfl
    rw [e]
    grind
end
theorem HM.scale {r : Nat → Rat} (h : HM r) {c : Rat} (hc : 0 ≤ c) : HM fun k => c * r k := by
  have e : ∀ (s : Nat → Rat) n p, qf (fun k => c * s k) n p = c * qf s n p := fun s n p => by
    unfold qf
    rw [← smQ_mul]
    refine smQ_congr fun i _ => ?_
    rw [← smQ_mul]
    exact smQ_congr fun j _ => by grind
  refine ⟨fun n p => ?_, fun n p => ?_, fun n p => ?_, fun n p => ?_⟩
  · rw [e]; exact Rat.mul_nonneg hc (h.h0 n p)
  · rw [e (fun k => r (k + 1))]; exact Rat.mul_nonneg hc (h.h1 n p)
  · rw [qf_congr (s := fun k => c * (r k - r (k + 1))) fun k => by grind, e (fun k => r k - r (k + 1))]; exact Rat.mul_nonneg hc (h.h2 n p)
  · rw [qf_congr (s := fun k => c * (r (k + 1) - r (k + 2))) fun k => by grind, e (fun k => r (k + 1) - r (k + 2))]; exact Rat.mul_nonneg hc (h.h3 n p)
theorem HM.congr {r s : Nat → Rat} (h : HM r) (e : ∀ k, s k = r k) : HM s := by
  rw [show s = r from funext e]; exact h
end L2.Tr

namespace L2.Tr
/-! ### lines: amounts at the nodes of a row -/
def hstep (s : Nat → Rat) (v : Nat → Rat) (k : Nat) : Rat := (if k = 0 then 0 else (1 - s (k - 1)) * v (k - 1)) + s (k + 1) * v (k + 1)
/-- amounts after h half ticks from node m -/
def fr (s : Nat → Rat) (m : Nat) : Nat → Nat → Rat
  | 0 => fun k => if k = m then 1 else 0
  | h + 1 => hstep s (fr s m h)
def rl (s : Nat → Rat) (t : Nat) : Rat := fr s 0 (2 * t) 0
section
variable {s : Nat → Rat}
def pd (s : Nat → Rat) : Nat → Rat
  | 0 => 1
  | m + 1 => pd s m * s (m + 1)
def pc (s : Nat → Rat) : Nat → Rat
  | 0 => 1
  | m + 1 => pc s m * (1 - s m)
/-! the polynomials -/
def gf (s : Nat → Rat) (i : Nat) : Rat := (1 - s (i - 1)) * s i
mutual
def pE (s : Nat → Rat) : Nat → Nat → Rat
  | 0 => fun k => if k = 0 then 1 else 0
  | j + 1 => fun k => (if k = 0 then 0 else pO s j (k - 1)) - pE s j k * gf s (2 * j + 1)
def pO (s : Nat → Rat) : Nat → Nat → Rat
  | 0 => fun k => if k = 0 then 1 else 0
  | j + 1 => fun k => (if k = 0 then 0 else pO s j (k - 1)) - pE s j k * gf s (2 * j + 1) - pO s j k * gf s (2 * j + 2)
end
end
end L2.Tr

namespace L2.Tr
/-! ### the readings of a line -/
structure LS (s : Nat → Rat) (n e : Nat) : Prop where
  h0 : s 0 = 0
  n0 : 0 < n
  mid : ∀ k, 0 < k → k < n → 0 < s k ∧ s k < 1
  en : (e = 0 ∧ s n = 0) ∨ (e = 1 ∧ s n = 1)
def gp (s : Nat → Rat) (t : Nat) : Rat := pc s t * pd s (t - 1)
section
variable {s : Nat → Rat} {n e : Nat}
/-- what is known of the reading at tick t -/
def add (s : Nat → Rat) (n t : Nat) : Rat := if t ≤ n then s t * gp s t else 0
/-! as a web -/
def nT (s : Nat → Rat) : Nat → Rat
  | 0 => 1
  | k + 1 => nT s k * (1 - s k) / s (k + 1)
def nW (s : Nat → Rat) (i c : Nat) : Rat := (if c = i + 1 then nT s i * (1 - s i) else 0) + (if c + 1 = i then nT s c * (1 - s c) else 0)
theorem LS.lt (g : LS s n e) {k : Nat} (hk : k < n + e) : 0 ≤ s k ∧ s k ≤ 1 ∧ (0 < k → 0 < s k) := by
  by_cases h : k = 0
  · subst h; rw [g.h0]; exact ⟨by decide, by decide, fun h => absurd h (Nat.lt_irrefl _)⟩
  · by_cases hn : k < n
    · have := g.mid k (by omega) hn
      exact ⟨Rat.le_of_lt this.1, Rat.le_of_lt this.2, fun _ => this.1⟩
    · rcases g.en with ⟨e0, z⟩ | ⟨e1, z⟩
      · omega
      · rw [show k = n by omega, z]; exact ⟨by decide, by decide, fun _ => by decide⟩
theorem LS.lt1 (g : LS s n e) {k : Nat} (hk : k + 1 < n + e) : s k < 1 := by
  by_cases h : k = 0
  · subst h; rw [g.h0]; decide
  · rcases g.en with ⟨e0, z⟩ | ⟨e1, z⟩
    · exact (g.mid k (by omega) (by omega)).2
    · exact (g.mid k (by omega) (by omega)).2
theorem LS.T0 (g : LS s n e) : ∀ k, k < n + e → 0 < nT s k
  | 0, _ => by show (0 : Rat) < 1; decide
  | k + 1, hk => by
    have h1 := g.T0 k (by omega)
    have h2 := g.lt1 hk
    have h3 := (g.lt hk).2.2 (by omega)
    show 0 < nT s k * (1 - s k) / s (k + 1)
    rw [Rat.div_def]
    exact Rat.mul_pos (Rat.mul_pos h1 (by grind)) (Rat.inv_pos.mpr h3)
theorem LS.Ts (g : LS s n e) {k : Nat} (hk : k + 1 < n + e) : nT s (k + 1) * s (k + 1) = nT s k * (1 - s k) := by
  have h3 := (g.lt hk).2.2 (by omega)
  show nT s k * (1 - s k) / s (k + 1) * s (k + 1) = _
  exact Rat.div_mul_cancel (by grind)
theorem smQ_at {f : Nat → Rat} {k m : Nat} : smQ (fun c => if c = k then f c else 0) m = if k < m then f k else 0 := by
  by_cases h : k < m
  · rw [if_pos h, smQ_one (k := k) h fun i _ hi => if_neg hi, if_pos rfl]
  · rw [if_neg h]; exact smQ_null fun i hi => if_neg (by omega)
theorem smQ_be {f : Nat → Rat} {k m : Nat} (hk : k < m) : smQ (fun c => if c + 1 = k then f c else 0) m = if 0 < k then f (k - 1) else 0 := by
  by_cases h : 0 < k
  · rw [if_pos h, smQ_one (k := k - 1) (by omega) fun i _ hi => if_neg (by omega), if_pos (by omega)]
  · rw [if_neg h]; exact smQ_null fun i hi => if_neg (by omega)
/-- the sum along a node's joints -/
theorem nW_sum {x : Nat → Rat} {i N : Nat} (hi : i < N) : smQ (fun c => nW s i c * x c) N = (if i + 1 < N then nT s i * (1 - s i) * x (i + 1) else 0) + (if 0 < i then nT s (i - 1) * (1 - s (i - 1)) * x (i - 1) else 0) := by
  have e : smQ (fun c => nW s i c * x c) N = smQ (fun c => if c = i + 1 then nT s i * (1 - s i) * x c else 0) N + smQ (fun c => if c + 1 = i then nT s c * (1 - s c) * x c else 0) N := by
    rw [← smQ_add]
    refine smQ_congr fun c _ => ?_
    unfold nW
    by_cases h1 : c = i + 1
    · rw [if_pos h1, if_pos h1, if_neg (by omega), if_neg (by omega)]; grind
    · rw [if_neg h1, if_neg h1]
      by_cases h2 : c + 1 = i
      · rw [if_pos h2, if_pos h2]; grind
      · rw [if_neg h2, if_neg h2]; grind
  rw [e, smQ_at, smQ_be hi]
theorem nW_symm (i c : Nat) : nW s i c = nW s c i := by
  unfold nW
  by_cases h1 : c = i + 1
  · rw [if_pos h1, if_neg (by omega), if_neg (by omega), if_pos (by omega)]; grind
  · rw [if_neg h1]
    by_cases h2 : c + 1 = i
    · rw [if_pos h2, if_pos (by omega), if_neg (by omega)]; grind
    · rw [if_neg h2, if_neg (by omega), if_neg (by omega)]
theorem LS.rw_ (g : LS s n e) : RW (n + e) (n + e) (nW s) (nT s) (nT s) := by
  have w0 : ∀ i c, i < n + e → c < n + e → 0 ≤ nW s i c := fun i c hi hc => by
    unfold nW
    have a : ∀ k, k < n + e → 0 ≤ nT s k * (1 - s k) := fun k hk => Rat.mul_nonneg (Rat.le_of_lt (g.T0 k hk)) (by have := (g.lt hk).2.1; grind)
    have b1 : 0 ≤ (if c = i + 1 then nT s i * (1 - s i) else 0) := by split; exact a i hi; exact Rat.le_refl
    have b2 : 0 ≤ (if c + 1 = i then nT s c * (1 - s c) else 0) := by split; exact a c hc; exact Rat.le_refl
    grind
  have hT : ∀ i, i < n + e → smQ (nW s i) (n + e) ≤ nT s i := fun i hi => by
    have h := nW_sum (s := s) (x := fun _ => 1) (i := i) (N := n + e) hi
    rw [show smQ (fun c => nW s i c * 1) (n + e) = smQ (nW s i) (n + e) from smQ_congr fun c _ => by grind] at h
    rw [h]
    have t0 := g.T0 i hi
    obtain ⟨s0, s1, _⟩ := g.lt hi
    have p1 : 0 ≤ nT s i * (1 - s i) := Rat.mul_nonneg (Rat.le_of_lt t0) (by grind)
    have p2 : 0 ≤ nT s i * s i := Rat.mul_nonneg (Rat.le_of_lt t0) s0
    have a1 : (if i + 1 < n + e then nT s i * (1 - s i) * 1 else 0) ≤ nT s i * (1 - s i) := by split <;> grind
    have a2 : (if 0 < i then nT s (i - 1) * (1 - s (i - 1)) * 1 else 0) ≤ nT s i * s i := by
      split
      · rename_i h
        obtain ⟨u, rfl⟩ : ∃ u, i = u + 1 := ⟨i - 1, by omega⟩
        rw [Nat.add_sub_cancel, g.Ts hi]; grind
      · exact p2
    grind
  exact ⟨w0, g.T0, g.T0, hT, fun c hc => by rw [show smQ (fun i => nW s i c) (n + e) = smQ (nW s c) (n + e) from smQ_congr fun i _ => nW_symm i c]; exact hT c hc⟩
theorem LS.none (g : LS s n e) (he : e = 1) : ∀ h k, n < k → fr s 0 h k = 0
  | 0, k, hk => if_neg (by omega)
  | h + 1, k, hk => by
    show hstep s (fr s 0 h) k = 0
    unfold hstep
    rw [if_neg (by omega), g.none he h (k + 1) (by omega)]
    by_cases hn : k - 1 = n
    · rcases g.en with ⟨e0, _⟩ | ⟨_, z⟩
      · omega
      · rw [hn, z]; grind
    · rw [g.none he h (k - 1) (by omega)]; grind
def hf (s : Nat → Rat) (N : Nat) : Nat → Nat → Rat
  | 0 => fun i => if i = 0 then 1 else 0
  | h + 1 => dn N (nW s) (nT s) (hf s N h)
theorem LS.flow (g : LS s n e) : ∀ h c, c < n + e → nT s c * hf s (n + e) h c = fr s 0 h c
  | 0, c, hc => by
    show nT s c * (if c = 0 then 1 else 0) = if c = 0 then 1 else 0
    by_cases h : c = 0
    · rw [if_pos h, h]; show (1 : Rat) * 1 = 1; rw [Rat.mul_one]
    · rw [if_neg h, Rat.mul_zero]
  | h + 1, c, hc => by
    show nT s c * dn (n + e) (nW s) (nT s) (hf s (n + e) h) c = hstep s (fr s 0 h) c
    rw [dn_mul (g.T0 c hc), smQ_congr fun i _ => by rw [nW_symm i c], nW_sum hc]
    unfold hstep
    have a1 : (if c + 1 < n + e then nT s c * (1 - s c) * hf s (n + e) h (c + 1) else 0) = s (c + 1) * fr s 0 h (c + 1) := by
      by_cases h1 : c + 1 < n + e
      · rw [if_pos h1, ← g.Ts h1, ← g.flow h (c + 1) h1]; grind
      · rw [if_neg h1]
        rcases g.en with ⟨e0, z⟩ | ⟨e1, z⟩
        · rw [show c + 1 = n by omega, z]; grind
        · rw [g.none e1 h (c + 1) (by omega)]; grind
    have a2 : (if 0 < c then nT s (c - 1) * (1 - s (c - 1)) * hf s (n + e) h (c - 1) else 0) = if c = 0 then 0 else (1 - s (c - 1)) * fr s 0 h (c - 1) := by
      by_cases h1 : 0 < c
      · rw [if_pos h1, if_neg (by omega), ← g.flow h (c - 1) (by omega)]; grind
      · rw [if_neg h1, if_pos (by omega)]
    rw [a1, a2]; grind
theorem hf_pw (N : Nat) : ∀ k, hf s N (2 * k) = pw N N (nW s) (nT s) (nT s) (fun i => if i = 0 then 1 else 0) k
  | 0 => rfl
  | k + 1 => by
    show dn N (nW s) (nT s) (dn N (nW s) (nT s) (hf s N (2 * k))) = both N N (nW s) (nT s) (nT s) (pw N N (nW s) (nT s) (nT s) _ k)
    rw [hf_pw N k]
    unfold both
    rw [show tr (nW s) = nW s from funext fun i => funext fun c => nW_symm c i]
theorem LS.ip0 (g : LS s n e) (x : Nat → Rat) : ip (nT s) (n + e) x (fun i => if i = 0 then 1 else 0) = x 0 := by
  unfold ip
  rw [smQ_one (k := 0) (by have := g.n0; omega) fun i _ hi => by dsimp only; rw [if_neg hi, Rat.mul_zero]]
  show (1 : Rat) * x 0 * 1 = x 0
  grind
theorem LS.rl_pw (g : LS s n e) (t : Nat) : rl s t = ip (nT s) (n + e) (pw (n + e) (n + e) (nW s) (nT s) (nT s) (fun i => if i = 0 then 1 else 0) t) (fun i => if i = 0 then 1 else 0) := by
  rw [g.ip0, ← hf_pw]
  have := g.flow (2 * t) 0 (by have := g.n0; omega)
  unfold rl
  rw [← this]
  show (1 : Rat) * _ = _
  grind
theorem LS.hm (g : LS s n e) : HM (rl s) := (g.rw_.hm (fun i => if i = 0 then 1 else 0)).congr fun k => g.rl_pw k
/-! the limit of a line with the end 1 -/
def evn (i : Nat) : Rat := if i % 2 = 0 then 1 else 0
theorem LS.still (g : LS s n e) (he : e = 1) : ∀ c, c < n + e → dn (n + e) (nW s) (nT s) evn c = evn (c + 1) ∧ dn (n + e) (nW s) (nT s) (fun i => evn (i + 1)) c = evn c := by
  have key : ∀ (x : Nat → Rat) (y : Rat) c, c < n + e → (∀ i, i + 1 = c ∨ i = c + 1 → x i = y) → dn (n + e) (nW s) (nT s) x c = y := fun x y c hc hx => by
    have h := dn_mul (R := n + e) (w := nW s) (U := nT s) (x := x) (c := c) (g.T0 c hc)
    rw [smQ_congr fun i _ => by rw [nW_symm i c], nW_sum hc] at h
    have t0 := g.T0 c hc
    have e1 : (if c + 1 < n + e then nT s c * (1 - s c) * x (c + 1) else 0) = nT s c * (1 - s c) * y := by
      by_cases h1 : c + 1 < n + e
      · rw [if_pos h1, hx (c + 1) (.inr rfl)]
      · rw [if_neg h1]
        rcases g.en with ⟨e0, z⟩ | ⟨_, z⟩
        · omega
        · rw [show c = n by omega, z]; grind
    have e2 : (if 0 < c then nT s (c - 1) * (1 - s (c - 1)) * x (c - 1) else 0) = nT s c * s c * y := by
      by_cases h1 : 0 < c
      · obtain ⟨u, rfl⟩ : ∃ u, c = u + 1 := ⟨c - 1, by omega⟩
        rw [if_pos h1, Nat.add_sub_cancel, hx u (.inl rfl), g.Ts hc]
      · rw [if_neg h1, show c = 0 by omega, g.h0]; grind
    rw [e1, e2] at h
    have h2 : nT s c * (dn (n + e) (nW s) (nT s) x c - y) = 0 := by grind
    rcases Rat.mul_eq_zero.mp h2 with z | z
    · grind
    · grind
  intro c hc
  have ev2 : ∀ i, evn (i + 2) = evn i := fun i => by unfold evn; rw [Nat.add_mod_right]
  refine ⟨key _ _ c hc fun i hi => ?_, key _ _ c hc fun i hi => ?_⟩
  · rcases hi with rfl | rfl
    · rw [show i + 1 + 1 = i + 2 by omega, ev2]
    · rfl
  · rcases hi with rfl | rfl
    · rfl
    · rw [show c + 1 + 1 = c + 2 by omega, ev2]
def lsum (s : Nat → Rat) (N : Nat) : Rat := smQ (fun i => nT s i * evn i) N
theorem evn_sq (i : Nat) : evn i * evn i = evn i := by unfold evn; split <;> grind
theorem LS.lsum_pos (g : LS s n e) : 0 < lsum s (n + e) := by
  have h := smQ_ge (f := fun i => nT s i * evn i) (n := n + e) (k := 0) (by have := g.n0; omega) fun i hi => Rat.mul_nonneg (Rat.le_of_lt (g.T0 i hi)) (by unfold evn; split <;> decide)
  have e : nT s 0 * evn 0 = 1 := by show (1 : Rat) * (if 0 % 2 = 0 then 1 else 0) = 1; rw [if_pos rfl, Rat.mul_one]
  rw [e] at h
  unfold lsum
  grind
theorem LS.above (g : LS s n e) (he : e = 1) (t : Nat) : 1 / lsum s (n + e) ≤ rl s t := by
  have down : ∀ a b, rl s (a + b) ≤ rl s a := fun a b => by
    induction b with
    | zero => exact Rat.le_refl
    | succ b ih => have := g.hm.diff.pos (a + b); show rl s (a + b + 1) ≤ _; grind
  refine Rat.le_trans ?_ (down t t)
  have hr := g.rw_
  have S0 := g.lsum_pos
  have hS : ip (nT s) (n + e) evn evn = lsum s (n + e) := smQ_congr fun i _ => by rw [Rat.mul_assoc, evn_sq]
  have st : ∀ x, ip (nT s) (n + e) (both (n + e) (n + e) (nW s) (nT s) (nT s) x) evn = ip (nT s) (n + e) x evn := fun x => by
    rw [hr.self]
    refine ip_congr (fun _ _ => rfl) fun i hi => ?_
    unfold both
    rw [show tr (nW s) = nW s from funext fun i => funext fun c => nW_symm c i]
    have e1 : ∀ c, c < n + e → dn (n + e) (nW s) (nT s) evn c = evn (c + 1) := fun c hc => (g.still he c hc).1
    have e2 : dn (n + e) (nW s) (nT s) (dn (n + e) (nW s) (nT s) evn) i = dn (n + e) (nW s) (nT s) (fun c => evn (c + 1)) i := by
      unfold dn
      congr 1
      refine smQ_congr fun c hc => ?_
      have := e1 c hc
      unfold dn at this
      rw [this]
    rw [e2, (g.still he i hi).2]
  have hx : ∀ k, ip (nT s) (n + e) (pw (n + e) (n + e) (nW s) (nT s) (nT s) (fun i => if i = 0 then 1 else 0) k) evn = 1 := fun k => by
    induction k with
    | zero =>
      show ip (nT s) (n + e) (fun i => if i = 0 then 1 else 0) evn = 1
      rw [ip_comm, g.ip0]; rfl
    | succ k ih => exact (st _).trans ih
  have hm := hr.mom (fun i => if i = 0 then 1 else 0) t t
  rw [← g.rl_pw (t + t)] at hm
  have hb := hx t
  generalize pw (n + e) (n + e) (nW s) (nT s) (nT s) (fun i => if i = 0 then 1 else 0) t = x at *
  have h1 := ip_self (T := nT s) (n := n + e) (x := fun i => x i - (1 / lsum s (n + e)) * evn i) g.T0
  have e1 : ∀ c : Rat, ip (nT s) (n + e) (fun i => x i - c * evn i) (fun i => x i - c * evn i) = ip (nT s) (n + e) x x - 2 * c * ip (nT s) (n + e) x evn + c * c * ip (nT s) (n + e) evn evn := fun c => by
    unfold ip
    rw [← smQ_mul, ← smQ_mul, ← smQ_sub, ← smQ_add]
    exact smQ_congr fun i _ => by grind
  rw [e1, hb, hS, hm] at h1
  generalize lsum s (n + e) = S at *
  have : 1 / S * S = 1 := Rat.div_mul_cancel (by grind)
  have h2 : 1 / S * (1 / S) * S = 1 / S := by rw [Rat.mul_assoc, this, Rat.mul_one]
  rw [h2] at h1
  grind
end
end L2.Tr

namespace L2.Tr
/-! ### sizes: a denominator and a bound of the value -/
def Fx (D M : Nat) (q : Rat) : Prop := DB D (M * D) q
section
variable {D E M N : Nat} {x y : Rat}
theorem Fx.add (h : Fx D M x) (k : Fx D N y) : Fx D (M + N) (x + y) := by
  have := DB.add h k
  unfold Fx; rwa [Nat.add_mul]
theorem Fx.sub (h : Fx D M x) (k : Fx D N y) : Fx D (M + N) (x - y) := by
  have := DB.sub h k
  unfold Fx; rwa [Nat.add_mul]
theorem Fx.neg (h : Fx D M x) : Fx D M (-x) := DB.neg h
theorem Fx.mul (h : Fx D M x) (k : Fx E N y) : Fx (D * E) (M * N) (x * y) := by
  have := DB.mul h k
  unfold Fx
  rwa [show M * N * (D * E) = M * D * (N * E) by grind]
theorem Fx.pos (h : Fx D M x) : 0 < D := h.1
theorem Fx.up (h : Fx D M x) (hd : D ∣ E) (hE : 0 < E) : Fx E M x := by
  have := DB.dvd h hd hE
  unfold Fx
  rwa [Nat.mul_assoc, Nat.mul_div_cancel' hd] at this
theorem Fx.mono (h : Fx D M x) (hM : M ≤ N) : Fx D N x := DB.mono h (Nat.mul_le_mul_right D hM)
theorem Fx.zero (h : 0 < D) : Fx D M 0 := DB.zero h _
theorem Fx.one (h : 0 < D) : Fx D 1 1 := (show Fx 1 1 1 from DB.one).up (Nat.one_dvd D) h
theorem Fx.fits {a b : Nat} (h : Fx D M x) (hD : D ≤ 2 ^ a) (hM : M ≤ 2 ^ b) (hab : a + b ≤ 4000) : fits x :=
  DB.fits h (Nat.le_trans hD (Nat.pow_le_pow_right (by decide) (by omega))) (Nat.le_trans (Nat.mul_le_mul hM hD) (by rw [← Nat.pow_add]; exact Nat.pow_le_pow_right (by decide) (by omega)))
theorem Fx.sz {a b : Nat} (h : Fx D M x) (hD : D ≤ 2 ^ a) (hM : M ≤ 2 ^ b) : Sz (a + b) x := by
  obtain ⟨h0, z, e, hz⟩ := h
  rw [e]
  refine sz_divInt (Nat.le_trans hz (Nat.le_trans (Nat.mul_le_mul hM hD) (by rw [← Nat.pow_add, Nat.add_comm]; exact Nat.le_refl _))) ?_
  rw [Int.natAbs_natCast]
  exact Nat.le_trans hD (Nat.pow_le_pow_right (by decide) (by omega))
theorem Fx.sum {f : Nat → Rat} (h0 : 0 < D) : ∀ {n : Nat}, (∀ i, i < n → Fx D M (f i)) → Fx D (n * M) (smQ f n)
  | 0, _ => by rw [Nat.zero_mul]; exact Fx.zero h0
  | n + 1, h => by
    rw [smQ_succ, Nat.succ_mul]
    exact (Fx.sum h0 fun i hi => h i (by omega)).add (h n (by omega))
end
section
variable {s : Nat → Rat} {Λ : Nat}
theorem fx_fr (hΛ : 0 < Λ) (hs : ∀ k, Fx Λ 1 (s k)) : ∀ h k, Fx (Λ ^ h) (4 ^ h) (fr s 0 h k)
  | 0, k => by
    show Fx (Λ ^ 0) 1 (if k = 0 then 1 else 0)
    split
    · exact Fx.one (Nat.pow_pos hΛ)
    · exact Fx.zero (Nat.pow_pos hΛ)
  | h + 1, k => by
    show Fx (Λ ^ (h + 1)) (4 ^ (h + 1)) (hstep s (fr s 0 h) k)
    unfold hstep
    have a1 : Fx (Λ ^ (h + 1)) (2 * 4 ^ h) (if k = 0 then 0 else (1 - s (k - 1)) * fr s 0 h (k - 1)) := by
      split
      · exact Fx.zero (Nat.pow_pos hΛ)
      · have := ((Fx.one hΛ).sub (hs (k - 1))).mul (fx_fr hΛ hs h (k - 1))
        rwa [Nat.mul_comm Λ, ← Nat.pow_succ] at this
    have a2 : Fx (Λ ^ (h + 1)) (4 ^ h) (s (k + 1) * fr s 0 h (k + 1)) := by
      have := (hs (k + 1)).mul (fx_fr hΛ hs h (k + 1))
      rwa [Nat.mul_comm Λ, ← Nat.pow_succ, Nat.one_mul] at this
    refine (a1.add a2).mono ?_
    rw [Nat.pow_succ]; omega
theorem fx_rl (hΛ : 0 < Λ) (hs : ∀ k, Fx Λ 1 (s k)) (t : Nat) : Fx (Λ ^ (2 * t)) (4 ^ (2 * t)) (rl s t) := fx_fr hΛ hs (2 * t) 0
end
theorem fits_1 : fits (1 : Rat) := ⟨by decide, by decide⟩
theorem fits_0 : fits (0 : Rat) := ⟨by decide, by decide⟩
theorem num_qd (q : Rat) : ((q.num : Int) : Rat) = q * ((q.den : Int) : Rat) := by
  have e := Rat.num_divInt_den q
  rw [Rat.divInt_eq_div] at e
  have h : ((q.den : Int) : Rat) ≠ 0 := by have := q.den_nz; exact_mod_cast this
  have h2 : (q.num : Rat) / ((q.den : Int) : Rat) * ((q.den : Int) : Rat) = (q.num : Rat) := Rat.div_mul_cancel h
  rw [e] at h2
  exact h2.symm
theorem den_q (q : Rat) : (0 : Rat) < ((q.den : Int) : Rat) := by
  have := q.den_pos
  have h : (0 : Int) < (q.den : Int) := by omega
  exact_mod_cast h
/-- a fraction against a pair -/
theorem cross_iff {q : Rat} {a b : Int} (hb : 0 < b) : q.num * b = a * (q.den : Int) ↔ q = (a : Rat) / (b : Rat) := by
  have h1 := num_qd q
  have h2 := den_q q
  have h3 : (0 : Rat) < (b : Rat) := by exact_mod_cast hb
  have key : q.num * b = a * (q.den : Int) ↔ ((q.num : Int) : Rat) * (b : Rat) = (a : Rat) * ((q.den : Int) : Rat) := by
    constructor
    · intro h; rw [← Rat.intCast_mul, ← Rat.intCast_mul, h]
    · intro h; rw [← Rat.intCast_mul, ← Rat.intCast_mul] at h; exact_mod_cast h
  rw [key, h1]
  constructor
  · intro h
    have : (q * (b : Rat) - (a : Rat)) * ((q.den : Int) : Rat) = 0 := by grind
    rcases Rat.mul_eq_zero.mp this with z | z
    · have e : q * (b : Rat) = (a : Rat) := by grind
      rw [← e]; grind
    · grind
  · intro h
    have e : (a : Rat) / (b : Rat) * (b : Rat) = (a : Rat) := Rat.div_mul_cancel (by grind)
    rw [← h] at e
    rw [← e]; grind
end L2.Tr

namespace L2.Tr
open PySem PySem.Spec PyProof.Rows
/-! ### a line as a web: even nodes are rooms, odd ones passages -/
def wq (s : Nat → Rat) (k : Nat) : Rat := nT s k * (1 - s k)
structure LW (s : Nat → Rat) (n e R C : Nat) (w : Nat → Nat → Rat) (T U : Nat → Rat) (κ : Rat) : Prop where
  ls : LS s n e
  k0 : 0 < κ
  hR : R = (n + e + 1) / 2
  hC : C = (n + e) / 2
  wd : ∀ i c, i < R → c < C → w i c = (if i = c then κ * wq s (2 * c) else 0) + (if i = c + 1 then κ * wq s (2 * c + 1) else 0)
  hT : ∀ i, i < R → T i = κ * nT s (2 * i)
  hU : ∀ c, c < C → U c = κ * nT s (2 * c + 1)
section
variable {s : Nat → Rat} {n e R C : Nat} {w : Nat → Nat → Rat} {T U : Nat → Rat} {κ : Rat}
theorem div_sc {k a b : Rat} (hk : 0 < k) (hb : 0 < b) : (k * a) / (k * b) = a / b := by
  have h1 : k * b ≠ 0 := by
    intro h
    rcases Rat.mul_eq_zero.mp h with h | h <;> grind
  have h2 : (k * a) / (k * b) * (k * b) = k * a := Rat.div_mul_cancel h1
  have h3 : a / b * b = a := Rat.div_mul_cancel (by grind)
  have h4 : (k * a) / (k * b) * (k * b) = a / b * (k * b) := by
    rw [h2]
    generalize a / b = q at *
    grind
  generalize (k * a) / (k * b) = x at *
  generalize a / b = y at *
  have : (x - y) * (k * b) = 0 := by grind
  rcases Rat.mul_eq_zero.mp this with h | h
  · grind
  · exact absurd h h1
theorem LW.up (g : LW s n e R C w T U κ) {x y : Nat → Rat} (h : ∀ i, i < R → x i = y (2 * i)) {c : Nat} (hc : c < C) : dn R w U x c = dn (n + e) (nW s) (nT s) y (2 * c + 1) := by
  have hR := g.hR
  have hC := g.hC
  unfold dn
  rw [smQ_congr (f := fun i => nW s i (2 * c + 1) * y i) (g := fun i => nW s (2 * c + 1) i * y i) fun i _ => by rw [nW_symm], nW_sum (by omega), if_pos (show 0 < 2 * c + 1 by omega), show 2 * c + 1 - 1 = 2 * c by omega, g.hU c hc]
  have e : smQ (fun i => w i c * x i) R = κ * ((if 2 * c + 1 + 1 < n + e then wq s (2 * c + 1) * y (2 * c + 1 + 1) else 0) + wq s (2 * c) * y (2 * c)) := by
    have e1 : smQ (fun i => w i c * x i) R = smQ (fun i => if i = c then κ * wq s (2 * c) * x i else 0) R + smQ (fun i => if i = c + 1 then κ * wq s (2 * c + 1) * x i else 0) R := by
      rw [← smQ_add]
      refine smQ_congr fun i hi => ?_
      rw [g.wd i c hi hc]
      by_cases h1 : i = c
      · rw [if_pos h1, if_pos h1, if_neg (by omega), if_neg (by omega)]; grind
      · rw [if_neg h1, if_neg h1]
        by_cases h2 : i = c + 1
        · rw [if_pos h2, if_pos h2]; grind
        · rw [if_neg h2, if_neg h2]; grind
    rw [e1, smQ_at, smQ_at, if_pos (show c < R by omega), h c (by omega)]
    by_cases h2 : c + 1 < R
    · rw [if_pos h2, if_pos (by omega), h (c + 1) h2, show 2 * (c + 1) = 2 * c + 1 + 1 by omega]; grind
    · rw [if_neg h2, if_neg (by omega)]; grind
  rw [e]
  exact div_sc g.k0 (g.ls.T0 _ (by omega))
theorem LW.back (g : LW s n e R C w T U κ) {x y : Nat → Rat} (h : ∀ c, c < C → x c = y (2 * c + 1)) {i : Nat} (hi : i < R) : dn C (tr w) T x i = dn (n + e) (nW s) (nT s) y (2 * i) := by
  have hR := g.hR
  have hC := g.hC
  unfold dn
  rw [smQ_congr (f := fun k => nW s k (2 * i) * y k) (g := fun k => nW s (2 * i) k * y k) fun k _ => by rw [nW_symm], nW_sum (by omega), g.hT i hi]
  have e : smQ (fun c => tr w c i * x c) C = κ * ((if 2 * i + 1 < n + e then wq s (2 * i) * y (2 * i + 1) else 0) + if 0 < 2 * i then wq s (2 * i - 1) * y (2 * i - 1) else 0) := by
    have e1 : smQ (fun c => tr w c i * x c) C = smQ (fun c => if c = i then κ * wq s (2 * c) * x c else 0) C + smQ (fun c => if i = c + 1 then κ * wq s (2 * c + 1) * x c else 0) C := by
      rw [← smQ_add]
      refine smQ_congr fun c hc => ?_
      show w i c * x c = _
      rw [g.wd i c hi hc]
      by_cases h1 : c = i
      · rw [if_pos h1, if_pos h1.symm, if_neg (by omega), if_neg (by omega)]; grind
      · rw [if_neg h1, if_neg (Ne.symm h1)]
        by_cases h2 : i = c + 1
        · rw [if_pos h2, if_pos h2]; grind
        · rw [if_neg h2, if_neg h2]; grind
    rw [e1, smQ_at]
    have e2 : smQ (fun c => if i = c + 1 then κ * wq s (2 * c + 1) * x c else 0) C = if 0 < 2 * i then κ * wq s (2 * i - 1) * y (2 * i - 1) else 0 := by
      by_cases h2 : 0 < i
      · rw [if_pos (by omega), smQ_one (k := i - 1) (by omega) fun c _ hc => if_neg (by omega), if_pos (by omega), h (i - 1) (by omega), show 2 * (i - 1) + 1 = 2 * i - 1 by omega]
      · rw [if_neg (by omega)]; exact smQ_null fun c _ => if_neg (by omega)
    rw [e2]
    by_cases h1 : i < C
    · rw [if_pos h1, if_pos (show 2 * i + 1 < n + e by omega), h i h1]
      by_cases h2 : 0 < 2 * i
      · rw [if_pos h2, if_pos h2]; grind
      · rw [if_neg h2, if_neg h2]; grind
    · rw [if_neg h1, if_neg (show ¬ 2 * i + 1 < n + e by omega)]
      by_cases h2 : 0 < 2 * i
      · rw [if_pos h2, if_pos h2]; grind
      · rw [if_neg h2, if_neg h2]; grind
  rw [e]
  exact div_sc g.k0 (g.ls.T0 _ (by omega))
theorem LW.pw_hf (g : LW s n e R C w T U κ) : ∀ t j, j < R → pw R C w T U (fun i => if i = 0 then 1 else 0) t j = hf s (n + e) (2 * t) (2 * j)
  | 0, j, hj => by
    show (if j = 0 then (1 : Rat) else 0) = if 2 * j = 0 then 1 else 0
    by_cases h : j = 0
    · rw [if_pos h, if_pos (by omega)]
    · rw [if_neg h, if_neg (by omega)]
  | t + 1, j, hj => by
    show dn C (tr w) T (dn R w U (pw R C w T U (fun i => if i = 0 then 1 else 0) t)) j = dn (n + e) (nW s) (nT s) (dn (n + e) (nW s) (nT s) (hf s (n + e) (2 * t))) (2 * j)
    exact g.back (fun c hc => g.up (fun i hi => g.pw_hf t i hi) hc) hj
theorem LW.rl (g : LW s n e R C w T U κ) (t : Nat) : pw R C w T U (fun i => if i = 0 then 1 else 0) t 0 = Tr.rl s t := by
  have n0 := g.ls.n0
  have hR := g.hR
  rw [g.pw_hf t 0 (by omega)]
  have := g.ls.flow (2 * t) 0 (by omega)
  unfold Tr.rl
  rw [← this]
  show hf s (n + e) (2 * t) (2 * 0) = (1 : Rat) * hf s (n + e) (2 * t) 0
  rw [Nat.mul_zero, Rat.one_mul]
/-- the joints' widths of a line -/
theorem wq_zero (h0 : s 0 = 0) : wq s 0 = 1 := by
  unfold wq
  rw [h0]
  show (1 : Rat) * (1 - 0) = 1
  grind
theorem wq_succ (k : Nat) : wq s (k + 1) = wq s k * ((1 - s (k + 1)) / s (k + 1)) := by
  unfold wq
  show nT s k * (1 - s k) / s (k + 1) * (1 - s (k + 1)) = _
  rw [Rat.div_def, Rat.div_def]
  grind
theorem LS.wq_T (g : LS s n e) {k : Nat} (hk : k < n + e) : (if 0 < k then wq s (k - 1) else 0) + wq s k = nT s k := by
  by_cases h : 0 < k
  · obtain ⟨j, rfl⟩ : ∃ j, k = j + 1 := ⟨k - 1, by omega⟩
    rw [if_pos h, Nat.add_sub_cancel]
    unfold wq
    rw [← g.Ts hk]
    grind
  · obtain rfl : k = 0 := by omega
    rw [if_neg h]
    show 0 + nT s 0 * (1 - s 0) = nT s 0
    rw [g.h0]
    grind
end
end L2.Tr

namespace L2.Tr
open PySem PySem.Spec PyProof.Rows
def top (i : Nat) : Stmt := PySem.Challenge.pw_tracerline_k21_lines_as_webs.main.body.getD i (.Pass ⟨0, 0, 0, 0⟩)
abbrev s_law_cell : Stmt := top 25
abbrev s_law_row : Stmt := top 26
abbrev s_law_shares : Stmt := top 27
abbrev s_common_divisor : Stmt := top 9
abbrev s_Fraction_init : Stmt := inClass (top 10) 0
abbrev s_as_fraction : Stmt := top 11
abbrev s_BadLine_init : Stmt := inClass (top 7) 0
abbrev s_Fraction_le : Stmt := inClass (top 10) 12
abbrev s_Fraction_ge : Stmt := inClass (top 10) 14
abbrev s_Fraction_eq : Stmt := inClass (top 10) 10
abbrev s_Line_init : Stmt := inClass (top 23) 0
abbrev s_law_line : Stmt := top 30
abbrev s_Fraction_rsub : Stmt := inClass (top 10) 4
abbrev s_Fraction_over : Stmt := inClass (top 10) 16
abbrev s_Fraction_mul : Stmt := inClass (top 10) 5
abbrev s_common_multiple : Stmt := top 17
abbrev s_BadWeb_init : Stmt := inClass (top 6) 0
abbrev s_checked_leaks : Stmt := top 18
abbrev s_Web_init : Stmt := inClass (top 19) 0
abbrev s_placed : Stmt := top 22
abbrev s_Line_web : Stmt := inClass (top 23) 9
abbrev s_Web_width : Stmt := inClass (top 19) 2
abbrev s_Web_room_total : Stmt := inClass (top 19) 3
abbrev s_Web_passage_total : Stmt := inClass (top 19) 4
abbrev s_law_read : Stmt := top 35
abbrev s_law_totals : Stmt := top 32
abbrev s_law_sound : Stmt := top 36
abbrev s_law_half : Stmt := top 28
abbrev s_law_walk : Stmt := top 29
abbrev s_BadTick_init : Stmt := inClass (top 4) 0
abbrev s_Web_next_amounts : Stmt := inClass (top 19) 5
abbrev s_Web_ticking : Stmt := inClass (top 19) 11
abbrev s_Web_readings : Stmt := inClass (top 19) 10
abbrev s_law_product : Stmt := top 31
abbrev s_law_tick : Stmt := top 33
abbrev s_law_played : Stmt := top 34
abbrev s_law : Stmt := top 37
structure O_Line where
  f_kept : (List Rat)
  f_end : Int
  f_rooms : Int
  f_passages : Int
abbrev gs_Line (K : PySem.W.Frag) : O_Line → List (Str × SF) := fun x => [("kept", SF.mk (rL (rFrac K)) x.f_kept), ("end", SF.mk rInt x.f_end), ("rooms", SF.mk rInt x.f_rooms), ("passages", SF.mk rInt x.f_passages)]
abbrev r_Line (K : PySem.W.Frag) : Rp O_Line := rIns (He.ga K "Line") (gs_Line K)
theorem fl_Line_kept (K : PySem.W.Frag) : ∀ x, (gs_Line K x).lookup ("kept" : Str) = some (SF.mk (rL (rFrac K)) x.f_kept) := fun _ => rfl
theorem fl_Line_end (K : PySem.W.Frag) : ∀ x, (gs_Line K x).lookup ("end" : Str) = some (SF.mk rInt x.f_end) := fun _ => rfl
structure O_Web where
  f_rooms : Int
  f_passages : Int
  f_joints : (List (List Int))
  f_from_rooms : (List Int)
  f_from_passages : (List Int)
  f_room_totals : (List Int)
  f_passage_totals : (List Int)
  f_room_scale : Int
  f_passage_scale : Int
abbrev gs_Web (K : PySem.W.Frag) : O_Web → List (Str × SF) := fun x => [("rooms", SF.mk rInt x.f_rooms), ("passages", SF.mk rInt x.f_passages), ("joints", SF.mk (rL (rL rInt)) x.f_joints), ("from_rooms", SF.mk (rL rInt) x.f_from_rooms), ("from_passages", SF.mk (rL rInt) x.f_from_passages), ("room_totals", SF.mk (rL rInt) x.f_room_totals), ("passage_totals", SF.mk (rL rInt) x.f_passage_totals), ("room_scale", SF.mk rInt x.f_room_scale), ("passage_scale", SF.mk rInt x.f_passage_scale)]
abbrev r_Web (K : PySem.W.Frag) : Rp O_Web := rIns (He.ga K "Web") (gs_Web K)
theorem fl_Web_rooms (K : PySem.W.Frag) : ∀ x, (gs_Web K x).lookup ("rooms" : Str) = some (SF.mk rInt x.f_rooms) := fun _ => rfl
theorem fl_Web_passages (K : PySem.W.Frag) : ∀ x, (gs_Web K x).lookup ("passages" : Str) = some (SF.mk rInt x.f_passages) := fun _ => rfl
theorem fl_Web_joints (K : PySem.W.Frag) : ∀ x, (gs_Web K x).lookup ("joints" : Str) = some (SF.mk (rL (rL rInt)) x.f_joints) := fun _ => rfl
theorem fl_Web_room_totals (K : PySem.W.Frag) : ∀ x, (gs_Web K x).lookup ("room_totals" : Str) = some (SF.mk (rL rInt) x.f_room_totals) := fun _ => rfl
theorem fl_Web_passage_totals (K : PySem.W.Frag) : ∀ x, (gs_Web K x).lookup ("passage_totals" : Str) = some (SF.mk (rL rInt) x.f_passage_totals) := fun _ => rfl
theorem fl_Web_room_scale (K : PySem.W.Frag) : ∀ x, (gs_Web K x).lookup ("room_scale" : Str) = some (SF.mk rInt x.f_room_scale) := fun _ => rfl
theorem fl_Web_passage_scale (K : PySem.W.Frag) : ∀ x, (gs_Web K x).lookup ("passage_scale" : Str) = some (SF.mk rInt x.f_passage_scale) := fun _ => rfl
structure Txt (w : World) (K : PySem.W.Frag) (mg : Str → Option Value) : Prop where
  g_law_cell : mg "_law_cell" = some (.ref (He.ga K "_law_cell"))
  k_law_cell : PySem.W.keepIn K (.ref (He.ga K "_law_cell")) = true
  n_int : mg "int" = none
  g_law_shares : mg "_law_shares" = some (.ref (He.ga K "_law_shares"))
  k_law_shares : PySem.W.keepIn K (.ref (He.ga K "_law_shares")) = true
  g_law_line : mg "_law_line" = some (.ref (He.ga K "_law_line"))
  k_law_line : PySem.W.keepIn K (.ref (He.ga K "_law_line")) = true
  o_Line : OCls K (He.ga K "Line")
  me_Line_web : Meth K (He.ga K "Line") "web" (He.ma K (He.ga K "Line") "web")
  n_len : mg "len" = none
  o_Web : OCls K (He.ga K "Web")
  na_Web_rooms : NoAttr K (He.ga K "Web") "rooms"
  na_Web_passages : NoAttr K (He.ga K "Web") "passages"
  g_law_read : mg "_law_read" = some (.ref (He.ga K "_law_read"))
  k_law_read : PySem.W.keepIn K (.ref (He.ga K "_law_read")) = true
  g_law_sound : mg "_law_sound" = some (.ref (He.ga K "_law_sound"))
  k_law_sound : PySem.W.keepIn K (.ref (He.ga K "_law_sound")) = true
  g_law_walk : mg "_law_walk" = some (.ref (He.ga K "_law_walk"))
  k_law_walk : PySem.W.keepIn K (.ref (He.ga K "_law_walk")) = true
  me_Web_readings : Meth K (He.ga K "Web") "readings" (He.ma K (He.ga K "Web") "readings")
  n_range : mg "range" = none
  g_law_played : mg "_law_played" = some (.ref (He.ga K "_law_played"))
  k_law_played : PySem.W.keepIn K (.ref (He.ga K "_law_played")) = true
  g_Fraction : mg "Fraction" = some (.ref (He.ga K "Fraction"))
  kt_Fraction_Fraction : PySem.W.kitOne K (.ref (He.ga K "Fraction")) (.ref (He.ga K "Fraction")) = some true
  o_Fraction : OCls K (He.ga K "Fraction")
  n_isinstance : mg "isinstance" = none
  na_Fraction_top : NoAttr K (He.ga K "Fraction") "top"
  na_Fraction_bottom : NoAttr K (He.ga K "Fraction") "bottom"
  F_law_cell : ∃ fd, FunD K "_law_cell" "_law_cell" (defArgs s_law_cell) (defBody s_law_cell) (defScope s_law_cell) [] [] (He.ga K "_law_cell") fd
  g_law_row : mg "_law_row" = some (.ref (He.ga K "_law_row"))
  k_law_row : PySem.W.keepIn K (.ref (He.ga K "_law_row")) = true
  n_abs : mg "abs" = none
  F_law_row : ∃ fd, FunD K "_law_row" "_law_row" (defArgs s_law_row) (defBody s_law_row) (defScope s_law_row) [] [] (He.ga K "_law_row") fd
  F_law_shares : ∃ fd, FunD K "_law_shares" "_law_shares" (defArgs s_law_shares) (defBody s_law_shares) (defScope s_law_shares) [] [] (He.ga K "_law_shares") fd
  mk_Fraction : Mk K (He.ga K "Fraction") (He.ma K (He.ga K "Fraction") "__init__")
  g_Line : mg "Line" = some (.ref (He.ga K "Line"))
  mk_Line : Mk K (He.ga K "Line") (He.ma K (He.ga K "Line") "__init__")
  g_as_fraction : mg "as_fraction" = some (.ref (He.ga K "as_fraction"))
  k_as_fraction : PySem.W.keepIn K (.ref (He.ga K "as_fraction")) = true
  om_Fraction_le : OMet K (He.ga K "Fraction") "__le__" (He.ma K (He.ga K "Fraction") "__le__")
  nf_Fraction : PySem.W.notFirst K (He.ga K "Fraction") (.ref (He.ga K "Fraction")) = true ∧ PySem.W.notFirst K (He.ga K "Fraction") (.type "int") = true
  om_Fraction_ge : OMet K (He.ga K "Fraction") "__ge__" (He.ma K (He.ga K "Fraction") "__ge__")
  om_Fraction_eq : OMet K (He.ga K "Fraction") "__eq__" (He.ma K (He.ga K "Fraction") "__eq__")
  na_Line_kept : NoAttr K (He.ga K "Line") "kept"
  na_Line_end : NoAttr K (He.ga K "Line") "end"
  na_Line_rooms : NoAttr K (He.ga K "Line") "rooms"
  na_Line_passages : NoAttr K (He.ga K "Line") "passages"
  kI_int_Fraction : PySem.W.kitOne K (.type "int") (.ref (He.ga K "Fraction")) = some false
  F_common_divisor : ∃ fd, FunD K "common_divisor" "common_divisor" (defArgs s_common_divisor) (defBody s_common_divisor) (defScope s_common_divisor) [] [] (He.ga K "common_divisor") fd
  F_as_fraction : ∃ fd, FunD K "as_fraction" "as_fraction" (defArgs s_as_fraction) (defBody s_as_fraction) (defScope s_as_fraction) [] [] (He.ga K "as_fraction") fd
  F_BadLine_init : ∃ fd, FunD K "__init__" "BadLine.__init__" (defArgs s_BadLine_init) (defBody s_BadLine_init) (defScope s_BadLine_init) [] [] (He.ma K (He.ga K "BadLine") "__init__") fd
  ev_BadLine : ExcV K mg "BadLine" ["place"]
  kT_Fraction_int : PySem.W.kitOne K (.ref (He.ga K "Fraction")) (.type "int") = some false
  F_Fraction_le : ∃ fd, FunD K "__le__" "Fraction.__le__" (defArgs s_Fraction_le) (defBody s_Fraction_le) (defScope s_Fraction_le) [] [] (He.ma K (He.ga K "Fraction") "__le__") fd
  F_Fraction_ge : ∃ fd, FunD K "__ge__" "Fraction.__ge__" (defArgs s_Fraction_ge) (defBody s_Fraction_ge) (defScope s_Fraction_ge) [] [] (He.ma K (He.ga K "Fraction") "__ge__") fd
  F_Fraction_eq : ∃ fd, FunD K "__eq__" "Fraction.__eq__" (defArgs s_Fraction_eq) (defBody s_Fraction_eq) (defScope s_Fraction_eq) [] [] (He.ma K (He.ga K "Fraction") "__eq__") fd
  F_Line_init : ∃ fd, FunD K "__init__" "Line.__init__" (defArgs s_Line_init) (defBody s_Line_init) (defScope s_Line_init) [] [] (He.ma K (He.ga K "Line") "__init__") fd
  F_law_line : ∃ fd, FunD K "_law_line" "_law_line" (defArgs s_law_line) (defBody s_law_line) (defScope s_law_line) [] [] (He.ga K "_law_line") fd
  om_Fraction_sub : OMet K (He.ga K "Fraction") "__sub__" (He.ma K (He.ga K "Fraction") "__sub__")
  om_Fraction_rsub : OMet K (He.ga K "Fraction") "__rsub__" (He.ma K (He.ga K "Fraction") "__rsub__")
  me_Fraction_over : Meth K (He.ga K "Fraction") "over" (He.ma K (He.ga K "Fraction") "over")
  om_Fraction_mul : OMet K (He.ga K "Fraction") "__mul__" (He.ma K (He.ga K "Fraction") "__mul__")
  g_common_multiple : mg "common_multiple" = some (.ref (He.ga K "common_multiple"))
  k_common_multiple : PySem.W.keepIn K (.ref (He.ga K "common_multiple")) = true
  g_placed : mg "placed" = some (.ref (He.ga K "placed"))
  k_placed : PySem.W.keepIn K (.ref (He.ga K "placed")) = true
  F_Fraction_rsub : ∃ fd, FunD K "__rsub__" "Fraction.__rsub__" (defArgs s_Fraction_rsub) (defBody s_Fraction_rsub) (defScope s_Fraction_rsub) [] [] (He.ma K (He.ga K "Fraction") "__rsub__") fd
  ex_BadFraction : ExcP K mg "BadFraction"
  F_Fraction_over : ∃ fd, FunD K "over" "Fraction.over" (defArgs s_Fraction_over) (defBody s_Fraction_over) (defScope s_Fraction_over) [] [] (He.ma K (He.ga K "Fraction") "over") fd
  F_Fraction_mul : ∃ fd, FunD K "__mul__" "Fraction.__mul__" (defArgs s_Fraction_mul) (defBody s_Fraction_mul) (defScope s_Fraction_mul) [] [] (He.ma K (He.ga K "Fraction") "__mul__") fd
  g_common_divisor : mg "common_divisor" = some (.ref (He.ga K "common_divisor"))
  k_common_divisor : PySem.W.keepIn K (.ref (He.ga K "common_divisor")) = true
  F_common_multiple : ∃ fd, FunD K "common_multiple" "common_multiple" (defArgs s_common_multiple) (defBody s_common_multiple) (defScope s_common_multiple) [] [] (He.ga K "common_multiple") fd
  g_Web : mg "Web" = some (.ref (He.ga K "Web"))
  mk_Web : Mk K (He.ga K "Web") (He.ma K (He.ga K "Web") "__init__")
  n_list : mg "list" = none
  n_any : mg "any" = none
  na_Web_joints : NoAttr K (He.ga K "Web") "joints"
  g_checked_leaks : mg "checked_leaks" = some (.ref (He.ga K "checked_leaks"))
  k_checked_leaks : PySem.W.keepIn K (.ref (He.ga K "checked_leaks")) = true
  na_Web_from_rooms : NoAttr K (He.ga K "Web") "from_rooms"
  na_Web_from_passages : NoAttr K (He.ga K "Web") "from_passages"
  n_sum : mg "sum" = none
  na_Web_room_totals : NoAttr K (He.ga K "Web") "room_totals"
  na_Web_passage_totals : NoAttr K (He.ga K "Web") "passage_totals"
  na_Web_room_scale : NoAttr K (He.ga K "Web") "room_scale"
  na_Web_passage_scale : NoAttr K (He.ga K "Web") "passage_scale"
  F_BadWeb_init : ∃ fd, FunD K "__init__" "BadWeb.__init__" (defArgs s_BadWeb_init) (defBody s_BadWeb_init) (defScope s_BadWeb_init) [] [] (He.ma K (He.ga K "BadWeb") "__init__") fd
  ev_BadWeb : ExcV K mg "BadWeb" ["reason"]
  F_checked_leaks : ∃ fd, FunD K "checked_leaks" "checked_leaks" (defArgs s_checked_leaks) (defBody s_checked_leaks) (defScope s_checked_leaks) [] [] (He.ga K "checked_leaks") fd
  F_Web_init : ∃ fd, FunD K "__init__" "Web.__init__" (defArgs s_Web_init) (defBody s_Web_init) (defScope s_Web_init) [] [("room_leaks", .ref ((kwAt (fun K => (He.ma K (He.ga K "Web") "__init__")) "room_leaks") K)), ("passage_leaks", .ref ((kwAt (fun K => (He.ma K (He.ga K "Web") "__init__")) "passage_leaks") K))] (He.ma K (He.ga K "Web") "__init__") fd
  F_placed : ∃ fd, FunD K "placed" "placed" (defArgs s_placed) (defBody s_placed) (defScope s_placed) [] [] (He.ga K "placed") fd
  F_Line_web : ∃ fd, FunD K "web" "Line.web" (defArgs s_Line_web) (defBody s_Line_web) (defScope s_Line_web) [] [] (He.ma K (He.ga K "Line") "web") fd
  me_Web_width : Meth K (He.ga K "Web") "width" (He.ma K (He.ga K "Web") "width")
  me_Web_room_total : Meth K (He.ga K "Web") "room_total" (He.ma K (He.ga K "Web") "room_total")
  me_Web_passage_total : Meth K (He.ga K "Web") "passage_total" (He.ma K (He.ga K "Web") "passage_total")
  F_Web_width : ∃ fd, FunD K "width" "Web.width" (defArgs s_Web_width) (defBody s_Web_width) (defScope s_Web_width) [] [] (He.ma K (He.ga K "Web") "width") fd
  F_Web_room_total : ∃ fd, FunD K "room_total" "Web.room_total" (defArgs s_Web_room_total) (defBody s_Web_room_total) (defScope s_Web_room_total) [] [] (He.ma K (He.ga K "Web") "room_total") fd
  F_Web_passage_total : ∃ fd, FunD K "passage_total" "Web.passage_total" (defArgs s_Web_passage_total) (defBody s_Web_passage_total) (defScope s_Web_passage_total) [] [] (He.ma K (He.ga K "Web") "passage_total") fd
  F_law_read : ∃ fd, FunD K "_law_read" "_law_read" (defArgs s_law_read) (defBody s_law_read) (defScope s_law_read) [] [] (He.ga K "_law_read") fd
  g_law_totals : mg "_law_totals" = some (.ref (He.ga K "_law_totals"))
  k_law_totals : PySem.W.keepIn K (.ref (He.ga K "_law_totals")) = true
  F_law_totals : ∃ fd, FunD K "_law_totals" "_law_totals" (defArgs s_law_totals) (defBody s_law_totals) (defScope s_law_totals) [] [] (He.ga K "_law_totals") fd
  F_law_sound : ∃ fd, FunD K "_law_sound" "_law_sound" (defArgs s_law_sound) (defBody s_law_sound) (defScope s_law_sound) [] [] (He.ga K "_law_sound") fd
  g_law_half : mg "_law_half" = some (.ref (He.ga K "_law_half"))
  k_law_half : PySem.W.keepIn K (.ref (He.ga K "_law_half")) = true
  F_law_half : ∃ fd, FunD K "_law_half" "_law_half" (defArgs s_law_half) (defBody s_law_half) (defScope s_law_half) [] [] (He.ga K "_law_half") fd
  F_law_walk : ∃ fd, FunD K "_law_walk" "_law_walk" (defArgs s_law_walk) (defBody s_law_walk) (defScope s_law_walk) [] [] (He.ga K "_law_walk") fd
  me_Web_ticking : Meth K (He.ga K "Web") "ticking" (He.ma K (He.ga K "Web") "ticking")
  me_Web_next_amounts : Meth K (He.ga K "Web") "next_amounts" (He.ma K (He.ga K "Web") "next_amounts")
  F_BadTick_init : ∃ fd, FunD K "__init__" "BadTick.__init__" (defArgs s_BadTick_init) (defBody s_BadTick_init) (defScope s_BadTick_init) [] [] (He.ma K (He.ga K "BadTick") "__init__") fd
  ev_BadTick : ExcV K mg "BadTick" ["tick"]
  F_Web_next_amounts : ∃ fd, FunD K "next_amounts" "Web.next_amounts" (defArgs s_Web_next_amounts) (defBody s_Web_next_amounts) (defScope s_Web_next_amounts) [] [] (He.ma K (He.ga K "Web") "next_amounts") fd
  F_Web_ticking : ∃ fd, FunD K "ticking" "Web.ticking" (defArgs s_Web_ticking) (defBody s_Web_ticking) (defScope s_Web_ticking) [] [] (He.ma K (He.ga K "Web") "ticking") fd
  F_Web_readings : ∃ fd, FunD K "readings" "Web.readings" (defArgs s_Web_readings) (defBody s_Web_readings) (defScope s_Web_readings) [] [] (He.ma K (He.ga K "Web") "readings") fd
  g_law_tick : mg "_law_tick" = some (.ref (He.ga K "_law_tick"))
  k_law_tick : PySem.W.keepIn K (.ref (He.ga K "_law_tick")) = true
  g_law_product : mg "_law_product" = some (.ref (He.ga K "_law_product"))
  k_law_product : PySem.W.keepIn K (.ref (He.ga K "_law_product")) = true
  F_law_product : ∃ fd, FunD K "_law_product" "_law_product" (defArgs s_law_product) (defBody s_law_product) (defScope s_law_product) [] [] (He.ga K "_law_product") fd
  F_law_tick : ∃ fd, FunD K "_law_tick" "_law_tick" (defArgs s_law_tick) (defBody s_law_tick) (defScope s_law_tick) [] [] (He.ga K "_law_tick") fd
  F_law_played : ∃ fd, FunD K "_law_played" "_law_played" (defArgs s_law_played) (defBody s_law_played) (defScope s_law_played) [] [] (He.ga K "_law_played") fd
  F_law : ∃ fd, FunD K "law" "law" (defArgs s_law) (defBody s_law) (defScope s_law) [] [] (He.ga K "law") fd
  g_law : mg "law" = some (.ref (He.ga K "law"))
  F_Fraction_init : ∃ fd, FunD K "__init__" "Fraction.__init__" (defArgs s_Fraction_init) (defBody s_Fraction_init) (defScope s_Fraction_init) [.int 1] [] (He.ma K (He.ga K "Fraction") "__init__") fd
theorem sc_law_cell : FnScope ["_law_script", "_law_k"] ["_law_script", "_law_k"] (defScope s_law_cell) := ⟨rfl, rfl, rfl, by decide +kernel, rfl, by decide +kernel, by decide +kernel⟩
def m_law_cell (p_law_script : (List Int)) (p_law_k : Int) : Res Int :=
  (((Res.ok p_law_k).bind fun a149 => (((Res.ok p_law_script).bind fun a147 => (Res.ok ()).bind fun b148 => .ok (a147, b148)).bind (fun d => .ok (d.1.length : Int))).bind fun b150 => .ok (decide (a149 < b150))).bind fun x151 => if x151 = true then ((Res.ok p_law_script).bind fun a152 => (Res.ok p_law_k).bind fun b153 => atM a152 b153) else (Res.ok (0 : Int)))
abbrev C_law_cell (P : Program) (w : World) (K : PySem.W.Frag) (mg : Str → Option Value) (base : Heap) : Prop := FnR P w K mg base (L2N.CX P w) 1 (He.ga K "_law_cell") (spF K (aCons (rdL K (rp rInt)) (aCons (rp rInt) aNil)) (fun d => m_law_cell d.1 d.2.1) (rp rInt))
theorem ok_law_cell {P : Program} {w : World} {K : PySem.W.Frag} {mg : Str → Option Value} {base : Heap} (T : Txt w K mg) {fd : FuncData} (F : FunD K "_law_cell" "_law_cell" (defArgs s_law_cell) (defBody s_law_cell) (defScope s_law_cell) [] [] (He.ga K "_law_cell") fd) : FnOk P w K mg base (L2N.CX P w) 1 (He.ga K "_law_cell") fd ["_law_script", "_law_k"] (spF K (aCons (rdL K (rp rInt)) (aCons (rp rInt) aNil)) (fun d => m_law_cell d.1 d.2.1) (rp rInt)) := by
  refine FunD.fn (k := 0) (N := ["_law_script", "_law_k"]) (ps := ["_law_script", "_law_k"]) F sc_law_cell (fun I H vs d h => ?_) (fun cdv A outer s I0 H0 E vs d hr sm h => ?_)
  · obtain ⟨v0, _, rfl, h0, v1, _, rfl, h1, rfl⟩ := h; rfl
  obtain ⟨v0, _, rfl, h0, v1, _, rfl, h1, rfl⟩ := h
  have hx : ∀ {ctx : List (Option SF)} {mem : List MF} (I H : Hp) (σ : St) (d : Option Addr), Stt I0 H0 ctx mem I H σ → Fr H0 d → bK I0 H0 I H σ d := fun _ _ _ _ s f => ⟨s.fm, f⟩
  have tk : L2N.Takes (bx P w K mg base ["_law_script", "_law_k"] "_law_cell" (defScope s_law_cell) (He.ga K "_law_cell") cdv A outer s H0 E) (bW E) := L2N.takes_of rfl rfl rfl rfl
  obtain ⟨p_law_script, p_law_k, _⟩ := d
  exact ⟨Stt I0 H0 [some (SF.mk (fun I v x => (rdL K (rp rInt)) I H0 v x) p_law_script), some (SF.mk rInt p_law_k)] [], Stt.start sm ⟨h0, h1, ini_nil rfl⟩ rfl (by simp), (JR.ifR (JT.cmp (JE.var 1) (JE.callB (JA.cons (JE.varP 0 (r := (rdL K (rp rInt)))) JA.nil) cj_len T.n_len boot_len) opj_lt) (JR.ret (JE.ix (JE.varP 0 (r := (rdL K (rp rInt)))) (JE.var 1)) hx) (JR.ret JE.int hx) hx)⟩
theorem fn_law_cell {P : Program} {w : World} {K : PySem.W.Frag} {mg : Str → Option Value} {base : Heap} (T : Txt w K mg) : FnR P w K mg base (L2N.CX P w) 1 (He.ga K "_law_cell") (spF K (aCons (rdL K (rp rInt)) (aCons (rp rInt) aNil)) (fun d => m_law_cell d.1 d.2.1) (rp rInt)) := by
  obtain ⟨fd, F⟩ := T.F_law_cell
  exact FnOk.fr0 (ok_law_cell T F) (F.bindsN fun _ _ _ _ _ _ us hl => match us, hl with | [_, _], _ => rfl)
theorem sc_law_row : FnScope ["_law_cell_here", "_law_span", "_law_many", "_law_number", "_law_great", "_law_row_here", "_law_k", "_law_blend"] ["_law_cell_here", "_law_span", "_law_many"] (defScope s_law_row) := ⟨rfl, rfl, rfl, by decide +kernel, rfl, by decide +kernel, by decide +kernel⟩
def m_law_row (p_law_cell_here : Int) (p_law_span : Int) (p_law_many : Int) : Res (List Int) :=
  ((((((Res.ok p_law_cell_here).bind fun a270 => (Res.ok ()).bind fun b271 => .ok (a270, b271)).bind (fun d => .ok d.1)).bind fun a272 => (Res.ok ()).bind fun b273 => .ok (a272, b273)).bind (fun d => .ok (if d.1 < 0 then -d.1 else d.1))).bind fun v_law_number_269 => (((Res.ok v_law_number_269).bind fun a277 => ((Res.ok (10 : Int)).bind fun a275 => (Res.ok (18 : Int)).bind fun b276 => powI a275 b276).bind fun b278 => .ok (decide (a277 ≥ b278))).bind fun v_law_great_274 => ((Res.ok ([] : List Int)).bind fun v_law_row_here_279 => ((((Res.ok p_law_many).bind fun a282 => rangeM1 a282).bind fun l325 => forS (fun (i283 : Int) (s281 : (Int × (List Int))) => (((Res.ok v_law_great_274).bind fun x324 => if x324 = true then ((((Res.ok s281.1).bind fun a285 => (Res.ok p_law_span).bind fun b286 => modI a285 b286).bind fun y288 => appM s281.2 y288).bind fun v_law_row_here_284 => (((Res.ok s281.1).bind fun a290 => (Res.ok p_law_span).bind fun b291 => fdivI a290 b291).bind fun v_law_number_289 => (Res.ok (v_law_number_289, v_law_row_here_284)))) else (((((((Res.ok s281.1).bind fun a293 => (Res.ok (7919 : Int)).bind fun b294 => mulI a293 b294).bind fun a297 => ((Res.ok i283).bind fun a295 => (Res.ok (104729 : Int)).bind fun b296 => mulI a295 b296).bind fun b298 => .ok (a297 + b298)).bind fun a299 => (Res.ok (13 : Int)).bind fun b300 => .ok (a299 + b300)).bind fun a301 => (Res.ok (3 : Int)).bind fun b302 => powI a301 b302).bind fun a303 => (Res.ok (2147483647 : Int)).bind fun b304 => modI a303 b304).bind fun v_law_blend_292 => (((((((Res.ok v_law_blend_292).bind fun a306 => (Res.ok (48271 : Int)).bind fun b307 => mulI a306 b307).bind fun a308 => (Res.ok s281.1).bind fun b309 => .ok (a308 + b309)).bind fun a312 => ((Res.ok i283).bind fun a310 => (Res.ok (69621 : Int)).bind fun b311 => mulI a310 b311).bind fun b313 => .ok (a312 + b313)).bind fun a314 => (Res.ok (2 : Int)).bind fun b315 => powI a314 b315).bind fun a316 => (Res.ok (1000003 : Int)).bind fun b317 => modI a316 b317).bind fun v_law_blend_305 => ((((Res.ok v_law_blend_305).bind fun a319 => (Res.ok p_law_span).bind fun b320 => modI a319 b320).bind fun y322 => appM s281.2 y322).bind fun v_law_row_here_318 => (Res.ok (s281.1, v_law_row_here_318)))))).bind fun s323 => (Res.ok (s323.1, s323.2)))) l325 (v_law_number_269, v_law_row_here_279)).bind fun s281 => (Res.ok s281.2)))))
abbrev C_law_row (P : Program) (w : World) (K : PySem.W.Frag) (mg : Str → Option Value) (base : Heap) : Prop := FnR P w K mg base (L2N.CX P w) 1 (He.ga K "_law_row") (spN K (aCons (rp rInt) (aCons (rp rInt) (aCons (rp rInt) aNil))) (fun d => m_law_row d.1 d.2.1 d.2.2.1) rInt)
theorem ok_law_row {P : Program} {w : World} {K : PySem.W.Frag} {mg : Str → Option Value} {base : Heap} (T : Txt w K mg) {fd : FuncData} (F : FunD K "_law_row" "_law_row" (defArgs s_law_row) (defBody s_law_row) (defScope s_law_row) [] [] (He.ga K "_law_row") fd) : FnOk P w K mg base (L2N.CX P w) 1 (He.ga K "_law_row") fd ["_law_cell_here", "_law_span", "_law_many"] (spN K (aCons (rp rInt) (aCons (rp rInt) (aCons (rp rInt) aNil))) (fun d => m_law_row d.1 d.2.1 d.2.2.1) rInt) := by
  refine FunD.fnN (k := 0) (N := ["_law_cell_here", "_law_span", "_law_many", "_law_number", "_law_great", "_law_row_here", "_law_k", "_law_blend"]) (ps := ["_law_cell_here", "_law_span", "_law_many"]) F sc_law_row (fun I H vs d h => ?_) (fun cdv A outer s I0 H0 E vs d hr sm h => ?_)
  · obtain ⟨v0, _, rfl, h0, v1, _, rfl, h1, v2, _, rfl, h2, rfl⟩ := h; rfl
  obtain ⟨v0, _, rfl, h0, v1, _, rfl, h1, v2, _, rfl, h2, rfl⟩ := h
  have hx : ∀ {ctx : List (Option SF)} {mem : List MF} (I H : Hp) (σ : St) (d : Option Addr), Stt I0 H0 ctx mem I H σ → Fr H0 d → bK I0 H0 I H σ d := fun _ _ _ _ s f => ⟨s.fm, f⟩
  have tk : L2N.Takes (bx P w K mg base ["_law_cell_here", "_law_span", "_law_many", "_law_number", "_law_great", "_law_row_here", "_law_k", "_law_blend"] "_law_row" (defScope s_law_row) (He.ga K "_law_row") cdv A outer s H0 E) (bW E) := L2N.takes_of rfl rfl rfl rfl
  have hp : PassesOwn (model P w) (bx P w K mg base ["_law_cell_here", "_law_span", "_law_many", "_law_number", "_law_great", "_law_row_here", "_law_k", "_law_blend"] "_law_row" (defScope s_law_row) (He.ga K "_law_row") cdv A outer s H0 E).A (bx P w K mg base ["_law_cell_here", "_law_span", "_law_many", "_law_number", "_law_great", "_law_row_here", "_law_k", "_law_blend"] "_law_row" (defScope s_law_row) (He.ga K "_law_row") cdv A outer s H0 E).env (bx P w K mg base ["_law_cell_here", "_law_span", "_law_many", "_law_number", "_law_great", "_law_row_here", "_law_k", "_law_blend"] "_law_row" (defScope s_law_row) (He.ga K "_law_row") cdv A outer s H0 E).xe := passes_of rfl
  obtain ⟨p_law_cell_here, p_law_span, p_law_many, _⟩ := d
  exact ⟨Stt I0 H0 [some (SF.mk rInt p_law_cell_here), some (SF.mk rInt p_law_span), some (SF.mk rInt p_law_many), none, none, none, none, none] [], Stt.start sm ⟨h0, h1, h2, ini_nil rfl⟩ rfl (by simp), (JR.seq (J1.cx (c' := fun v_law_number_269 => [some (SF.mk rInt p_law_cell_here), some (SF.mk rInt p_law_span), some (SF.mk rInt p_law_many), some (SF.mk rInt v_law_number_269), none, none, none, none]) (J1.set 3 (JE.callB (JA.cons (JE.callTy (JA.cons (JE.var 0) JA.nil) cj_int T.n_int boot_int) JA.nil) cj_abs T.n_abs boot_abs) hx sc_law_row.nd)) fun v_law_number_269 => (JR.seq (J1.cx (c' := fun v_law_great_274 => [some (SF.mk rInt p_law_cell_here), some (SF.mk rInt p_law_span), some (SF.mk rInt p_law_many), some (SF.mk rInt v_law_number_269), some (SF.mk rBl v_law_great_274), none, none, none]) (J1.set 4 (JE.cmp (JE.var 3) (JE.bin JE.int JE.int opj_pow) opj_ge) hx sc_law_row.nd)) fun v_law_great_274 => (JR.seq (J1.cn (c' := fun v_law_row_here_279 l280 => [some (SF.mk rInt p_law_cell_here), some (SF.mk rInt p_law_span), some (SF.mk rInt p_law_many), some (SF.mk rInt v_law_number_269), some (SF.mk rBl v_law_great_274), some (SF.mk (rRef l280) ()), none, none]) (me' := fun v_law_row_here_279 l280 => [MF.lst l280 rInt v_law_row_here_279]) (J1.setM 5 (JM.lst (r := rInt) JA.nilL) hx sc_law_row.nd)) fun v_law_row_here_279 => JR.ex fun l280 => (JR.seq (J1.forS (S := (Int × (List Int))) (cx := fun s281 => [some (SF.mk rInt p_law_cell_here), some (SF.mk rInt p_law_span), some (SF.mk rInt p_law_many), some (SF.mk rInt s281.1), some (SF.mk rBl v_law_great_274), some (SF.mk (rRef l280) ()), none, none]) (me := fun s281 => [MF.lst l280 rInt s281.2]) (s0 := (v_law_number_269, v_law_row_here_279)) 6 hp (JI.range1 (JE.var 2) T.n_range) (fun i283 s281 => JN.at (c' := [some (SF.mk rInt p_law_cell_here), some (SF.mk rInt p_law_span), some (SF.mk rInt p_law_many), some (SF.mk rInt s281.1), some (SF.mk rBl v_law_great_274), some (SF.mk (rRef l280) ()), some (SF.mk rInt i283), none]) (JN.seq (J1.if (S := (Int × (List Int))) (G' := fun s323 => Stt I0 H0 [some (SF.mk rInt p_law_cell_here), some (SF.mk rInt p_law_span), some (SF.mk rInt p_law_many), some (SF.mk rInt s323.1), some (SF.mk rBl v_law_great_274), some (SF.mk (rRef l280) ()), some (SF.mk rInt i283), none] [MF.lst l280 rInt s323.2]) (JT.of (JE.var 4)) (JN.seq (J1.cm (c' := fun v_law_row_here_284 => [some (SF.mk rInt p_law_cell_here), some (SF.mk rInt p_law_span), some (SF.mk rInt p_law_many), some (SF.mk rInt s281.1), some (SF.mk rBl v_law_great_274), some (SF.mk (rRef l280) ()), some (SF.mk rInt i283), none]) (me' := fun v_law_row_here_284 => [MF.lst l280 rInt v_law_row_here_284]) (J1.app 5 0 (JE.bin (JE.var 3) (JE.var 1) opj_mod) hx)) fun v_law_row_here_284 => (JN.seq (J1.cx (c' := fun v_law_number_289 => [some (SF.mk rInt p_law_cell_here), some (SF.mk rInt p_law_span), some (SF.mk rInt p_law_many), some (SF.mk rInt v_law_number_289), some (SF.mk rBl v_law_great_274), some (SF.mk (rRef l280) ()), some (SF.mk rInt i283), none]) (J1.set 3 (JE.bin (JE.var 3) (JE.var 1) opj_fdiv) hx sc_law_row.nd)) fun v_law_number_289 => (JN.nil (fun _ _ _ h => h)))) (JN.seq (J1.cx (c' := fun v_law_blend_292 => [some (SF.mk rInt p_law_cell_here), some (SF.mk rInt p_law_span), some (SF.mk rInt p_law_many), some (SF.mk rInt s281.1), some (SF.mk rBl v_law_great_274), some (SF.mk (rRef l280) ()), some (SF.mk rInt i283), some (SF.mk rInt v_law_blend_292)]) (J1.set 7 (JE.bin (JE.bin (JE.bin (JE.bin (JE.bin (JE.var 3) JE.int opj_mul) (JE.bin (JE.var 6) JE.int opj_mul) opj_add) JE.int opj_add) JE.int opj_pow) JE.int opj_mod) hx sc_law_row.nd)) fun v_law_blend_292 => (JN.seq (J1.cx (c' := fun v_law_blend_305 => [some (SF.mk rInt p_law_cell_here), some (SF.mk rInt p_law_span), some (SF.mk rInt p_law_many), some (SF.mk rInt s281.1), some (SF.mk rBl v_law_great_274), some (SF.mk (rRef l280) ()), some (SF.mk rInt i283), some (SF.mk rInt v_law_blend_305)]) (J1.set 7 (JE.bin (JE.bin (JE.bin (JE.bin (JE.bin (JE.var 7) JE.int opj_mul) (JE.var 3) opj_add) (JE.bin (JE.var 6) JE.int opj_mul) opj_add) JE.int opj_pow) JE.int opj_mod) hx sc_law_row.nd)) fun v_law_blend_305 => (JN.seq (J1.cm (c' := fun v_law_row_here_318 => [some (SF.mk rInt p_law_cell_here), some (SF.mk rInt p_law_span), some (SF.mk rInt p_law_many), some (SF.mk rInt s281.1), some (SF.mk rBl v_law_great_274), some (SF.mk (rRef l280) ()), some (SF.mk rInt i283), some (SF.mk rInt v_law_blend_305)]) (me' := fun v_law_row_here_318 => [MF.lst l280 rInt v_law_row_here_318]) (J1.app 5 0 (JE.bin (JE.var 7) (JE.var 1) opj_mod) hx)) fun v_law_row_here_318 => (JN.nil (fun _ _ _ h => (Stt.weak h (weak_some (weak_some (weak_some (weak_some (weak_some (weak_some (weak_some (weak_none weak_nil)))))))))))))) hx) fun s323 => (JN.nil (fun _ _ _ h => (Stt.weak h (weak_some (weak_some (weak_some (weak_some (weak_some (weak_some (weak_none (weak_none weak_nil))))))))))))) hx (weak_some (weak_some (weak_some (weak_some (weak_some (weak_some (weak_none (weak_none weak_nil)))))))) sc_law_row.nd) fun s281 => (JR.retC 5 0)))))⟩
theorem fn_law_row {P : Program} {w : World} {K : PySem.W.Frag} {mg : Str → Option Value} {base : Heap} (T : Txt w K mg) : FnR P w K mg base (L2N.CX P w) 1 (He.ga K "_law_row") (spN K (aCons (rp rInt) (aCons (rp rInt) (aCons (rp rInt) aNil))) (fun d => m_law_row d.1 d.2.1 d.2.2.1) rInt) := by
  obtain ⟨fd, F⟩ := T.F_law_row
  exact FnOk.frN0 (ok_law_row T F) (F.bindsN fun _ _ _ _ _ _ us hl => match us, hl with | [_, _, _], _ => rfl)
theorem sc_law_shares : FnScope ["_law_script", "_law_at", "_law_most", "_law_shape", "_law_many", "_law_limit", "_law_bottoms", "_law_tops", "_law_k"] ["_law_script", "_law_at", "_law_most"] (defScope s_law_shares) := ⟨rfl, rfl, rfl, by decide +kernel, rfl, by decide +kernel, by decide +kernel⟩
def m_law_shares (p_law_script : (List Int)) (p_law_at : Int) (p_law_most : Int) : Res (List (Int × Int × Unit)) :=
  ((((((Res.ok p_law_script).bind fun a161 => ((Res.ok p_law_at).bind fun a159 => (Res.ok ()).bind fun b160 => .ok (a159, b160)).bind fun b162 => .ok (a161, b162)).bind (fun d => m_law_cell d.1 d.2.1)).bind fun a170 => ((Res.ok (5040 : Int)).bind fun a168 => ((Res.ok (3 : Int)).bind fun a166 => (Res.ok ()).bind fun b167 => .ok (a166, b167)).bind fun b169 => .ok (a168, b169)).bind fun b171 => .ok (a170, b171)).bind (fun d => m_law_row d.1 d.2.1 d.2.2.1)).bind fun v_law_shape_156 => ((((Res.ok v_law_shape_156).bind fun a173 => (Res.ok (0 : Int)).bind fun b174 => atM a173 b174).bind fun a177 => ((Res.ok p_law_most).bind fun a175 => (Res.ok (1 : Int)).bind fun b176 => .ok (a175 + b176)).bind fun b178 => modI a177 b178).bind fun v_law_many_172 => ((((Res.ok (4 : Int)).bind fun a190 => ((Res.ok (12 : Int)).bind fun a187 => ((Res.ok (12 : Int)).bind fun a184 => ((Res.ok (1000 : Int)).bind fun a181 => (Res.ok []).bind fun b182 => .ok (a181 :: b182)).bind fun b185 => .ok (a184 :: b185)).bind fun b188 => .ok (a187 :: b188)).bind fun b191 => .ok (a190 :: b191)).bind fun a196 => (((Res.ok v_law_shape_156).bind fun a192 => (Res.ok (1 : Int)).bind fun b193 => atM a192 b193).bind fun a194 => (Res.ok (4 : Int)).bind fun b195 => modI a194 b195).bind fun b197 => atM a196 b197).bind fun v_law_limit_179 => (((((Res.ok v_law_many_172).bind fun a198 => (Res.ok (3 : Int)).bind fun b199 => .ok (decide (a198 > b199))).bind fun a202 => if a202 = true then ((Res.ok v_law_limit_179).bind fun a200 => (Res.ok (12 : Int)).bind fun b201 => .ok (decide (a200 > b201))) else .ok false).bind fun x205 => if x205 = true then ((Res.ok (12 : Int)).bind fun v_law_limit_203 => (Res.ok v_law_limit_203)) else (Res.ok v_law_limit_179)).bind fun s204 => ((((((Res.ok p_law_script).bind fun a213 => (((Res.ok p_law_at).bind fun a208 => (Res.ok (1 : Int)).bind fun b209 => .ok (a208 + b209)).bind fun a211 => (Res.ok ()).bind fun b212 => .ok (a211, b212)).bind fun b214 => .ok (a213, b214)).bind (fun d => m_law_cell d.1 d.2.1)).bind fun a224 => (((Res.ok s204).bind fun a216 => (Res.ok (1 : Int)).bind fun b217 => .ok (a216 - b217)).bind fun a222 => ((Res.ok v_law_many_172).bind fun a220 => (Res.ok ()).bind fun b221 => .ok (a220, b221)).bind fun b223 => .ok (a222, b223)).bind fun b225 => .ok (a224, b225)).bind (fun d => m_law_row d.1 d.2.1 d.2.2.1)).bind fun v_law_bottoms_206 => ((((((Res.ok p_law_script).bind fun a233 => (((Res.ok p_law_at).bind fun a228 => (Res.ok (2 : Int)).bind fun b229 => .ok (a228 + b229)).bind fun a231 => (Res.ok ()).bind fun b232 => .ok (a231, b232)).bind fun b234 => .ok (a233, b234)).bind (fun d => m_law_cell d.1 d.2.1)).bind fun a242 => ((Res.ok (1000000 : Int)).bind fun a240 => ((Res.ok v_law_many_172).bind fun a238 => (Res.ok ()).bind fun b239 => .ok (a238, b239)).bind fun b241 => .ok (a240, b241)).bind fun b243 => .ok (a242, b243)).bind (fun d => m_law_row d.1 d.2.1 d.2.2.1)).bind fun v_law_tops_226 => (((Res.ok v_law_many_172).bind fun a244 => rangeM1 a244).bind fun l268 => lcR (fun (i245 : Int) => (((Res.ok (1 : Int)).bind fun a255 => (((Res.ok v_law_tops_226).bind fun a247 => (Res.ok i245).bind fun b248 => atM a247 b248).bind fun a253 => ((Res.ok (1 : Int)).bind fun a251 => ((Res.ok v_law_bottoms_206).bind fun a249 => (Res.ok i245).bind fun b250 => atM a249 b250).bind fun b252 => .ok (a251 + b252)).bind fun b254 => modI a253 b254).bind fun b256 => .ok (a255 + b256)).bind fun a265 => (((Res.ok (2 : Int)).bind fun a259 => ((Res.ok v_law_bottoms_206).bind fun a257 => (Res.ok i245).bind fun b258 => atM a257 b258).bind fun b260 => .ok (a259 + b260)).bind fun a263 => (Res.ok ()).bind fun b264 => .ok (a263, b264)).bind fun b266 => .ok (a265, b266))) l268)))))))
abbrev C_law_shares (P : Program) (w : World) (K : PySem.W.Frag) (mg : Str → Option Value) (base : Heap) : Prop := FnR P w K mg base (L2N.CX P w) 2 (He.ga K "_law_shares") (spN K (aCons (rdL K (rp rInt)) (aCons (rp rInt) (aCons (rp rInt) aNil))) (fun d => m_law_shares d.1 d.2.1 d.2.2.1) (rTu (aCons (rp rInt) (aCons (rp rInt) aNil))))
theorem ok_law_shares {P : Program} {w : World} {K : PySem.W.Frag} {mg : Str → Option Value} {base : Heap} (T : Txt w K mg) (c_law_cell : C_law_cell P w K mg base) (c_law_row : C_law_row P w K mg base) {fd : FuncData} (F : FunD K "_law_shares" "_law_shares" (defArgs s_law_shares) (defBody s_law_shares) (defScope s_law_shares) [] [] (He.ga K "_law_shares") fd) : FnOk P w K mg base (L2N.CX P w) 2 (He.ga K "_law_shares") fd ["_law_script", "_law_at", "_law_most"] (spN K (aCons (rdL K (rp rInt)) (aCons (rp rInt) (aCons (rp rInt) aNil))) (fun d => m_law_shares d.1 d.2.1 d.2.2.1) (rTu (aCons (rp rInt) (aCons (rp rInt) aNil)))) := by
  refine FunD.fnN (k := 1) (N := ["_law_script", "_law_at", "_law_most", "_law_shape", "_law_many", "_law_limit", "_law_bottoms", "_law_tops", "_law_k"]) (ps := ["_law_script", "_law_at", "_law_most"]) F sc_law_shares (fun I H vs d h => ?_) (fun cdv A outer s I0 H0 E vs d hr sm h => ?_)
  · obtain ⟨v0, _, rfl, h0, v1, _, rfl, h1, v2, _, rfl, h2, rfl⟩ := h; rfl
  obtain ⟨v0, _, rfl, h0, v1, _, rfl, h1, v2, _, rfl, h2, rfl⟩ := h
  have hx : ∀ {ctx : List (Option SF)} {mem : List MF} (I H : Hp) (σ : St) (d : Option Addr), Stt I0 H0 ctx mem I H σ → Fr H0 d → bK I0 H0 I H σ d := fun _ _ _ _ s f => ⟨s.fm, f⟩
  have tk : L2N.Takes (bx P w K mg base ["_law_script", "_law_at", "_law_most", "_law_shape", "_law_many", "_law_limit", "_law_bottoms", "_law_tops", "_law_k"] "_law_shares" (defScope s_law_shares) (He.ga K "_law_shares") cdv A outer s H0 E) (bW E) := L2N.takes_of rfl rfl rfl rfl
  obtain ⟨p_law_script, p_law_at, p_law_most, _⟩ := d
  exact ⟨Stt I0 H0 [some (SF.mk (fun I v x => (rdL K (rp rInt)) I H0 v x) p_law_script), some (SF.mk rInt p_law_at), some (SF.mk rInt p_law_most), none, none, none, none, none, none] [], Stt.start sm ⟨h0, h1, h2, ini_nil rfl⟩ rfl (by simp), (JR.seq (J1.cx (c' := fun v_law_shape_156 => [some (SF.mk (fun I v x => (rdL K (rp rInt)) I H0 v x) p_law_script), some (SF.mk rInt p_law_at), some (SF.mk rInt p_law_most), some (SF.mk (rL rInt) v_law_shape_156), none, none, none, none, none]) (J1.set 3 (JE.ofM (JM.call (JA.cons (JE.call (JA.cons (JE.varP 0 (r := (rdL K (rp rInt)))) (JA.cons (JE.var 1) JA.nil)) (cj_of c_law_cell (hr.mono (by decide)) tk) T.g_law_cell T.k_law_cell) (JA.cons JE.int (JA.cons JE.int JA.nil))) (cn_of c_law_row (hr.mono (by decide)) tk) T.g_law_row T.k_law_row)) hx sc_law_shares.nd)) fun v_law_shape_156 => (JR.seq (J1.cx (c' := fun v_law_many_172 => [some (SF.mk (fun I v x => (rdL K (rp rInt)) I H0 v x) p_law_script), some (SF.mk rInt p_law_at), some (SF.mk rInt p_law_most), some (SF.mk (rL rInt) v_law_shape_156), some (SF.mk rInt v_law_many_172), none, none, none, none]) (J1.set 4 (JE.bin (JE.ix (JE.rd (JE.var 3)) JE.int) (JE.bin (JE.var 2) JE.int opj_add) opj_mod) hx sc_law_shares.nd)) fun v_law_many_172 => (JR.seq (J1.cx (c' := fun v_law_limit_179 => [some (SF.mk (fun I v x => (rdL K (rp rInt)) I H0 v x) p_law_script), some (SF.mk rInt p_law_at), some (SF.mk rInt p_law_most), some (SF.mk (rL rInt) v_law_shape_156), some (SF.mk rInt v_law_many_172), some (SF.mk rInt v_law_limit_179), none, none, none]) (J1.set 5 (JE.ix (JE.rd (JE.ofM (JM.lst (r := rInt) (JA.consL JE.int (JA.consL JE.int (JA.consL JE.int (JA.consL JE.int JA.nilL))))))) (JE.bin (JE.ix (JE.rd (JE.var 3)) JE.int) JE.int opj_mod)) hx sc_law_shares.nd)) fun v_law_limit_179 => (JR.seq (J1.if (S := Int) (G' := fun s204 => Stt I0 H0 [some (SF.mk (fun I v x => (rdL K (rp rInt)) I H0 v x) p_law_script), some (SF.mk rInt p_law_at), some (SF.mk rInt p_law_most), some (SF.mk (rL rInt) v_law_shape_156), some (SF.mk rInt v_law_many_172), some (SF.mk rInt s204), none, none, none] []) (JT.bool (JW.and (JT.cmp (JE.var 4) JE.int opj_gt) (JW.and1 (JT.cmp (JE.var 5) JE.int opj_gt)))) (JN.seq (J1.cx (c' := fun v_law_limit_203 => [some (SF.mk (fun I v x => (rdL K (rp rInt)) I H0 v x) p_law_script), some (SF.mk rInt p_law_at), some (SF.mk rInt p_law_most), some (SF.mk (rL rInt) v_law_shape_156), some (SF.mk rInt v_law_many_172), some (SF.mk rInt v_law_limit_203), none, none, none]) (J1.set 5 JE.int hx sc_law_shares.nd)) fun v_law_limit_203 => (JN.nil (fun _ _ _ h => h))) (JN.nil (fun _ _ _ h => h)) hx) fun s204 => (JR.seq (J1.cx (c' := fun v_law_bottoms_206 => [some (SF.mk (fun I v x => (rdL K (rp rInt)) I H0 v x) p_law_script), some (SF.mk rInt p_law_at), some (SF.mk rInt p_law_most), some (SF.mk (rL rInt) v_law_shape_156), some (SF.mk rInt v_law_many_172), some (SF.mk rInt s204), some (SF.mk (rL rInt) v_law_bottoms_206), none, none]) (J1.set 6 (JE.ofM (JM.call (JA.cons (JE.call (JA.cons (JE.varP 0 (r := (rdL K (rp rInt)))) (JA.cons (JE.bin (JE.var 1) JE.int opj_add) JA.nil)) (cj_of c_law_cell (hr.mono (by decide)) tk) T.g_law_cell T.k_law_cell) (JA.cons (JE.bin (JE.var 5) JE.int opj_sub) (JA.cons (JE.var 4) JA.nil))) (cn_of c_law_row (hr.mono (by decide)) tk) T.g_law_row T.k_law_row)) hx sc_law_shares.nd)) fun v_law_bottoms_206 => (JR.seq (J1.cx (c' := fun v_law_tops_226 => [some (SF.mk (fun I v x => (rdL K (rp rInt)) I H0 v x) p_law_script), some (SF.mk rInt p_law_at), some (SF.mk rInt p_law_most), some (SF.mk (rL rInt) v_law_shape_156), some (SF.mk rInt v_law_many_172), some (SF.mk rInt s204), some (SF.mk (rL rInt) v_law_bottoms_206), some (SF.mk (rL rInt) v_law_tops_226), none]) (J1.set 7 (JE.ofM (JM.call (JA.cons (JE.call (JA.cons (JE.varP 0 (r := (rdL K (rp rInt)))) (JA.cons (JE.bin (JE.var 1) JE.int opj_add) JA.nil)) (cj_of c_law_cell (hr.mono (by decide)) tk) T.g_law_cell T.k_law_cell) (JA.cons JE.int (JA.cons (JE.var 4) JA.nil))) (cn_of c_law_row (hr.mono (by decide)) tk) T.g_law_row T.k_law_row)) hx sc_law_shares.nd)) fun v_law_tops_226 => (JR.retM (JM.lcT (r := (rTu (aCons (rp rInt) (aCons (rp rInt) aNil)))) 8 (JI.range1 (JE.var 4) T.n_range) (fun _ _ _ _ _ D acc i245 tk246 => (JE.at (c' := [some (SF.mk (fun I v x => (rdL K (rp rInt)) I H0 v x) p_law_script), some (SF.mk rInt p_law_at), some (SF.mk rInt p_law_most), some (SF.mk (rL rInt) v_law_shape_156), some (SF.mk rInt v_law_many_172), some (SF.mk rInt s204), some (SF.mk (rL rInt) v_law_bottoms_206), some (SF.mk (rL rInt) v_law_tops_226), some (SF.mk rInt i245)]) (JE.tupD (k := 2) (JA.cons (JE.bin JE.int (JE.bin (JE.ix (JE.rd (JE.var 7)) (JE.var 8)) (JE.bin JE.int (JE.ix (JE.rd (JE.var 6)) (JE.var 8)) opj_add) opj_mod) opj_add) (JA.cons (JE.bin JE.int (JE.ix (JE.rd (JE.var 6)) (JE.var 8)) opj_add) JA.nil)) (by rintro _ _ _ _ ⟨_, _, rfl, _, _, _, rfl, _, rfl⟩; rfl)))) sc_law_shares.nd (blkok_of (by kernel_rfl))) hx)))))))⟩
theorem fn_law_shares {P : Program} {w : World} {K : PySem.W.Frag} {mg : Str → Option Value} {base : Heap} (T : Txt w K mg) (c_law_cell : C_law_cell P w K mg base) (c_law_row : C_law_row P w K mg base) : FnR P w K mg base (L2N.CX P w) 2 (He.ga K "_law_shares") (spN K (aCons (rdL K (rp rInt)) (aCons (rp rInt) (aCons (rp rInt) aNil))) (fun d => m_law_shares d.1 d.2.1 d.2.2.1) (rTu (aCons (rp rInt) (aCons (rp rInt) aNil)))) := by
  obtain ⟨fd, F⟩ := T.F_law_shares
  exact FnOk.frN0 (ok_law_shares T c_law_cell c_law_row F) (F.bindsN fun _ _ _ _ _ _ us hl => match us, hl with | [_, _, _], _ => rfl)
theorem sc_common_divisor : FnScope ["first", "second"] ["first", "second"] (defScope s_common_divisor) := ⟨rfl, rfl, rfl, by decide +kernel, rfl, by decide +kernel, by decide +kernel⟩
def m_common_divisor (p_first : Int) (p_second : Int) : Res Int :=
  ((((Res.ok p_first).bind fun a440 => (Res.ok ()).bind fun b441 => .ok (a440, b441)).bind (fun d => .ok (if d.1 < 0 then -d.1 else d.1))).bind fun v_first_439 => ((((Res.ok p_second).bind fun a443 => (Res.ok ()).bind fun b444 => .ok (a443, b444)).bind (fun d => .ok (if d.1 < 0 then -d.1 else d.1))).bind fun v_second_442 => ((whileM (fun s445 : (Int × Int) => ((Res.ok s445.2).bind fun a446 => (Res.ok (0 : Int)).bind fun b447 => .ok (!decide (a446 = b447)))) (fun s445 => (((Res.ok s445.2).bind fun a451 => ((Res.ok s445.1).bind fun a449 => (Res.ok s445.2).bind fun b450 => modI a449 b450).bind fun b452 => .ok (a451, b452)).bind fun v448 => (Res.ok (v448.1, v448.2)))) ((v_second_442).toNat + 1) (v_first_439, v_second_442)).bind fun s445 => (Res.ok s445.1))))
abbrev C_common_divisor (P : Program) (w : World) (K : PySem.W.Frag) (mg : Str → Option Value) (base : Heap) : Prop := FnR P w K mg base (L2N.CX P w) 1 (He.ga K "common_divisor") (spF K (aCons (rp rInt) (aCons (rp rInt) aNil)) (fun d => n_cd d.1 d.2.1) (rp rInt))
theorem ok_common_divisor {P : Program} {w : World} {K : PySem.W.Frag} {mg : Str → Option Value} {base : Heap} (T : Txt w K mg) {fd : FuncData} (F : FunD K "common_divisor" "common_divisor" (defArgs s_common_divisor) (defBody s_common_divisor) (defScope s_common_divisor) [] [] (He.ga K "common_divisor") fd) : FnOk P w K mg base (L2N.CX P w) 1 (He.ga K "common_divisor") fd ["first", "second"] (spF K (aCons (rp rInt) (aCons (rp rInt) aNil)) (fun d => m_common_divisor d.1 d.2.1) (rp rInt)) := by
  refine FunD.fn (k := 0) (N := ["first", "second"]) (ps := ["first", "second"]) F sc_common_divisor (fun I H vs d h => ?_) (fun cdv A outer s I0 H0 E vs d hr sm h => ?_)
  · obtain ⟨v0, _, rfl, h0, v1, _, rfl, h1, rfl⟩ := h; rfl
  obtain ⟨v0, _, rfl, h0, v1, _, rfl, h1, rfl⟩ := h
  have hx : ∀ {ctx : List (Option SF)} {mem : List MF} (I H : Hp) (σ : St) (d : Option Addr), Stt I0 H0 ctx mem I H σ → Fr H0 d → bK I0 H0 I H σ d := fun _ _ _ _ s f => ⟨s.fm, f⟩
  have tk : L2N.Takes (bx P w K mg base ["first", "second"] "common_divisor" (defScope s_common_divisor) (He.ga K "common_divisor") cdv A outer s H0 E) (bW E) := L2N.takes_of rfl rfl rfl rfl
  have hp : PassesOwn (model P w) (bx P w K mg base ["first", "second"] "common_divisor" (defScope s_common_divisor) (He.ga K "common_divisor") cdv A outer s H0 E).A (bx P w K mg base ["first", "second"] "common_divisor" (defScope s_common_divisor) (He.ga K "common_divisor") cdv A outer s H0 E).env (bx P w K mg base ["first", "second"] "common_divisor" (defScope s_common_divisor) (He.ga K "common_divisor") cdv A outer s H0 E).xe := passes_of rfl
  obtain ⟨p_first, p_second, _⟩ := d
  exact ⟨Stt I0 H0 [some (SF.mk rInt p_first), some (SF.mk rInt p_second)] [], Stt.start sm ⟨h0, h1, ini_nil rfl⟩ rfl (by simp), (JR.seq (J1.cx (c' := fun v_first_439 => [some (SF.mk rInt v_first_439), some (SF.mk rInt p_second)]) (J1.set 0 (JE.callB (JA.cons (JE.var 0) JA.nil) cj_abs T.n_abs boot_abs) hx sc_common_divisor.nd)) fun v_first_439 => (JR.seq (J1.cx (c' := fun v_second_442 => [some (SF.mk rInt v_first_439), some (SF.mk rInt v_second_442)]) (J1.set 1 (JE.callB (JA.cons (JE.var 1) JA.nil) cj_abs T.n_abs boot_abs) hx sc_common_divisor.nd)) fun v_second_442 => (JR.seq (J1.while (S := (Int × Int)) (cx := fun s445 => [some (SF.mk rInt s445.1), some (SF.mk rInt s445.2)]) (me := fun s445 => []) (s0 := (v_first_439, v_second_442)) (fuel := (v_second_442).toNat + 1) hp (fun s445 => (JT.cmp (JE.var 1) JE.int opj_ne)) (fun s445 => (JN.seq (J1.cx (c' := fun v448 => [some (SF.mk rInt v448.1), some (SF.mk rInt v448.2)]) (J1.par 0 1 (JE.var 1) (JE.bin (JE.var 0) (JE.var 1) opj_mod) hx sc_common_divisor.nd)) fun v448 => (JN.nil (fun _ _ _ h => h)))) fun _ => hx) fun s445 => (JR.ret (JE.var 0) hx))))⟩
theorem fn_common_divisor {P : Program} {w : World} {K : PySem.W.Frag} {mg : Str → Option Value} {base : Heap} (T : Txt w K mg) : FnR P w K mg base (L2N.CX P w) 1 (He.ga K "common_divisor") (spF K (aCons (rp rInt) (aCons (rp rInt) aNil)) (fun d => m_common_divisor d.1 d.2.1) (rp rInt)) := by
  obtain ⟨fd, F⟩ := T.F_common_divisor
  exact FnOk.fr0 (ok_common_divisor T F) (F.bindsN fun _ _ _ _ _ _ us hl => match us, hl with | [_, _], _ => rfl)
theorem nice_common_divisor : ∀ d : Int × Int × Unit, n_cd d.1 d.2.1 = .stuck ∨ n_cd d.1 d.2.1 = m_common_divisor d.1 d.2.1 := fun ⟨a, b, _⟩ => by
  right
  show Res.ok _ = m_common_divisor a b
  have e : m_common_divisor a b = (whileM _ _ ((absI b).toNat + 1) (absI a, absI b)).bind fun s => .ok s.1 := rfl
  rw [e, absI_eq a, absI_eq b]
  simp only [Res.ok_bind]
  rw [cd_loop (fun s => rfl) (fun s h => by simp only [Res.ok_bind, modI_ok h]) _ _ _ (by omega)]
  simp only [Res.ok_bind, Int.gcd, Nat.gcd_comm b.natAbs]
theorem sc_Fraction_init : FnScope ["self", "top", "bottom", "divisor"] ["self", "top", "bottom"] (defScope s_Fraction_init) := ⟨rfl, rfl, rfl, by decide +kernel, rfl, by decide +kernel, by decide +kernel⟩
def mi_Fraction (top bottom : Int) : Res (Int × Int) :=
  (((Res.ok bottom).bind fun a => (Res.ok (0 : Int)).bind fun b => .ok (decide (a = b))).bind fun x => if x = true then (Res.err eBF : Res Unit) else .ok ()).bind fun _ =>
  (((Res.ok top).bind fun a => ((Res.ok bottom).bind fun b => (Res.ok ()).bind fun c => .ok (b, c)).bind fun d => .ok (a, d)).bind fun d => n_cd d.1 d.2.1).bind fun dv =>
  (((Res.ok bottom).bind fun a => (Res.ok (0 : Int)).bind fun b => .ok (decide (a < b))).bind fun x => if x = true then ((Res.ok dv).bind fun a => .ok (-a)).bind fun v => (Res.ok v) else .ok dv).bind fun s =>
  ((Res.ok top).bind fun a => (Res.ok s).bind fun b => fdivI a b).bind fun x =>
  ((Res.ok bottom).bind fun a => (Res.ok s).bind fun b => fdivI a b).bind fun y => .ok (x, y)
theorem mi_Fraction_eq (t b : Int) : mi_Fraction t b = (qRaw t b).bind fun q => .ok (q.num, (q.den : Int)) := by
  unfold mi_Fraction qRaw
  simp only [Res.ok_bind, n_cd]
  by_cases hb : b = 0
  · simp [hb]
  · simp only [hb, decide_false, Bool.false_eq_true, if_false, Res.ok_bind]
    have key : ∀ dv : Int, dv = (if b < 0 then -(Int.gcd t b : Int) else (Int.gcd t b : Int)) → (fdivI t dv).bind (fun x => (fdivI b dv).bind fun y => .ok (x, y)) = (Res.guard ((Int.gcd t b).log2 < 9000) (.ok (Rat.divInt t b))).bind fun q => .ok (q.num, (q.den : Int)) := fun dv hd => by
      obtain ⟨e1, e2⟩ := div_num hb dv hd
      have hg : Int.gcd t b ≠ 0 := fun h => hb (Int.gcd_eq_zero_iff.mp h).2
      have na : dv.natAbs = Int.gcd t b := by rw [hd]; split <;> omega
      have nz : dv ≠ 0 := by omega
      unfold fdivI
      rw [na]
      by_cases hl : (Int.gcd t b).log2 < 9000
      · rw [Res.guard_pos ⟨nz, hl⟩, Res.guard_pos ⟨nz, hl⟩, Res.guard_pos hl, e1, e2]; rfl
      · unfold Res.guard; rw [if_neg (fun h => hl h.2), if_neg hl]; rfl
    by_cases hlt : b < 0
    · simp only [hlt, decide_true, if_true, Res.ok_bind]
      exact key _ (by rw [if_pos hlt])
    · simp only [hlt, decide_false, Bool.false_eq_true, if_false, Res.ok_bind]
      exact key _ (by rw [if_neg hlt])
theorem in_Fraction {P : Program} {w : World} {K : PySem.W.Frag} {mg : Str → Option Value} {base : Heap} (T : Txt w K mg) (c_common_divisor : C_common_divisor P w K mg base) {fd : FuncData} (F : FunD K "__init__" "Fraction.__init__" (defArgs s_Fraction_init) (defBody s_Fraction_init) (defScope s_Fraction_init) [.int 1] [] (He.ma K (He.ga K "Fraction") "__init__") fd) :
    FnOk P w K mg base (L2N.CX P w) 2 (He.ma K (He.ga K "Fraction") "__init__") fd ["self", "top", "bottom"] (spI K (He.ga K "Fraction") (aCons (rp rInt) (aCons (rp rInt) aNil)) (fun d => qRaw d.1 d.2.1) (rp (rFrac K))) := by
  refine FunD.init (k := 1) (N := ["self", "top", "bottom", "divisor"]) (S := Int × Int) F sc_Fraction_init (fun I H vs d h => ?_) (fun cdv A outer s I0 H0 H1 E vs d y dx hr sm h n1 n2 n3 eH => ?_)
  · obtain ⟨v0, _, rfl, h0, v1, _, rfl, h1, rfl⟩ := h; rfl
  obtain ⟨v0, _, rfl, h0, v1, _, rfl, h1, rfl⟩ := h
  obtain ⟨t, b, _⟩ := d
  have hx : ∀ {ctx : List (Option SF)} {mem : List MF} (I H : Hp) (σ : St) (d : Option Addr), Stt I0 H0 ctx mem I H σ → Fr H0 d → bK I0 H0 I H σ d := fun _ _ _ _ s f => ⟨s.fm, f⟩
  have tk : L2N.Takes (bx P w K mg base ["self", "top", "bottom", "divisor"] "Fraction.__init__" (defScope s_Fraction_init) (He.ma K (He.ga K "Fraction") "__init__") cdv A outer s H1 E) (bW E) := L2N.takes_of rfl rfl rfl rfl
  refine ⟨Stt I0 H0 [some ⟨rRef y, ()⟩, some ⟨rInt, t⟩, some ⟨rInt, b⟩, none] [.ins y (He.ga K "Fraction") dx []], Int × Int, mi_Fraction t b, fun s I H σ => ∃ ctx, Stt I0 H0 ctx [.ins y (He.ga K "Fraction") dx [("top", ⟨rInt, s.1⟩), ("bottom", ⟨rInt, s.2⟩)]] I H σ, ?_, ?_, ?_⟩
  · subst eH
    exact Stt.fresh sm n1 n2 n3 rfl fun i sf e => IniR.get (n := 1) (vs := [.ref y, v0, v1]) (c := [some ⟨rRef y, ()⟩, some ⟨rInt, t⟩, some ⟨rInt, b⟩, none]) ⟨rfl, h0, h1, ini_nil rfl⟩ i sf e
  · exact JN.seq (J1.if (S := Unit) (G' := fun _ => Stt I0 H0 [some ⟨rRef y, ()⟩, some ⟨rInt, t⟩, some ⟨rInt, b⟩, none] [.ins y (He.ga K "Fraction") dx []]) (JT.cmp (JE.var 2) JE.int opj_eq) (JN.last (J1.raiseP rfl tk T.ex_BadFraction hx)) (JN.nil fun _ _ _ h => h) hx) fun _ =>
      JN.seq (J1.set 3 (JE.call (JA.cons (JE.var 1) (JA.cons (JE.var 2) JA.nil)) (cj_of c_common_divisor (hr.mono (by decide)) tk) T.g_common_divisor T.k_common_divisor) hx sc_Fraction_init.nd) fun dv =>
      JN.seq (J1.if (S := Int) (G' := fun s => Stt I0 H0 [some ⟨rRef y, ()⟩, some ⟨rInt, t⟩, some ⟨rInt, b⟩, some ⟨rInt, s⟩] [.ins y (He.ga K "Fraction") dx []]) (JT.cmp (JE.var 2) JE.int opj_lt) (JN.seq (J1.set 3 (JE.un (JE.var 3) unj_neg) hx sc_Fraction_init.nd) fun v => JN.nil fun _ _ _ h => h) (JN.nil fun _ _ _ h => h) hx) fun s =>
      JN.seq (J1.sfld 0 (JE.bin (JE.var 1) (JE.var 3) opj_fdiv) T.o_Fraction.cl T.na_Fraction_top (by decide) hx) fun x =>
      JN.seq (J1.sfld 0 (JE.bin (JE.var 2) (JE.var 3) opj_fdiv) T.o_Fraction.cl T.na_Fraction_bottom (by simp [putG]) hx) fun y' => JN.nil fun _ _ _ h => ⟨_, h⟩
  · rw [mi_Fraction_eq]
    dsimp only
    generalize qRaw t b = z
    cases z with
    | err e => rfl
    | stuck => rfl
    | ok q =>
      refine ⟨q, rfl, fun I' H' σ' ⟨ctx, g⟩ => ?_⟩
      obtain ⟨fs, I2, e1, hf, g2, sm2, e2⟩ := g.freeze
      exact ⟨I2, g2.fm, y, dx, rfl, by rw [e2, frF_of rfl rfl hf]⟩
abbrev C_Fraction_2 (P : Program) (w : World) (K : PySem.W.Frag) (mg : Str → Option Value) (base : Heap) : Prop := MkR P w K mg base 3 (He.ga K "Fraction") (aCons (rp rInt) (aCons (rp rInt) aNil)) (fun d => qMk d.1 d.2.1) (rp (rFrac K))
theorem fn_Fraction_2 {P : Program} {w : World} {K : PySem.W.Frag} {mg : Str → Option Value} {base : Heap} (T : Txt w K mg) (c_common_divisor : C_common_divisor P w K mg base) : C_Fraction_2 P w K mg base := by
  obtain ⟨fd, F⟩ := T.F_Fraction_init
  obtain ⟨ds, hd, hb⟩ := FunD.binds1 (ps := ["self", "top", "bottom"]) F 3 1 (by simp) rfl fun T kV doc pm an cdv ct us its hl hi => match us, hl, its, hi with | [_, _, _], _, [_], _ => ⟨_, rfl, rfl⟩
  exact MkR.nice (mkR_of (h := fun d => d) T.mk_Fraction (in_Fraction T c_common_divisor F) hb hd fun I H vs d h => by rw [show List.drop 1 [V.int 1] = [] from rfl, List.append_nil]; exact h) fun d => qMk_raw d.1 d.2.1
abbrev C_Fraction_1 (P : Program) (w : World) (K : PySem.W.Frag) (mg : Str → Option Value) (base : Heap) : Prop := MkR P w K mg base 3 (He.ga K "Fraction") (aCons (rp rInt) aNil) (fun d => qInt d.1) (rp (rFrac K))
theorem fn_Fraction_1 {P : Program} {w : World} {K : PySem.W.Frag} {mg : Str → Option Value} {base : Heap} (T : Txt w K mg) (c_common_divisor : C_common_divisor P w K mg base) : C_Fraction_1 P w K mg base := by
  obtain ⟨fd, F⟩ := T.F_Fraction_init
  obtain ⟨ds, hd, hb⟩ := FunD.binds1 (ps := ["self", "top", "bottom"]) F 2 0 (by simp) rfl fun T kV doc pm an cdv ct us its hl hi => match us, hl, its, hi with | [_, _], _, [_], _ => ⟨_, rfl, rfl⟩
  exact MkR.nice (mkR_of (h := fun d : Int × Unit => (d.1, 1, ())) T.mk_Fraction (in_Fraction T c_common_divisor F) hb hd fun I H vs d h => by
    obtain ⟨v0, _, rfl, h0, rfl⟩ := h
    exact ⟨v0, _, rfl, h0, _, _, rfl, rfl, rfl⟩) fun d => qInt_raw d.1

theorem sc_as_fraction : FnScope ["number"] ["number"] (defScope s_as_fraction) := ⟨rfl, rfl, rfl, by decide +kernel, rfl, by decide +kernel, by decide +kernel⟩
def m_as_fraction (p_number : Num) : Res Rat :=
  (match p_number with | .i p_number_i => (((Res.ok p_number_i).bind fun a430 => .ok false).bind fun x431 => if x431 = true then .stuck else (((Res.ok p_number_i).bind fun a433 => (Res.ok ()).bind fun b434 => .ok (a433, b434)).bind (fun d => qInt d.1))) | .q p_number_q => (((Res.ok p_number_q).bind fun a436 => .ok true).bind fun x437 => if x437 = true then (Res.ok p_number_q) else .stuck))
abbrev C_as_fraction (P : Program) (w : World) (K : PySem.W.Frag) (mg : Str → Option Value) (base : Heap) : Prop := FnR P w K mg base (L2N.CX P w) 4 (He.ga K "as_fraction") (spF K (aCons (rp (rNum K)) aNil) (fun d => qAs d.1) (rp (rFrac K)))
theorem ok_as_fraction {P : Program} {w : World} {K : PySem.W.Frag} {mg : Str → Option Value} {base : Heap} (T : Txt w K mg) (c_Fraction_1 : C_Fraction_1 P w K mg base) {fd : FuncData} (F : FunD K "as_fraction" "as_fraction" (defArgs s_as_fraction) (defBody s_as_fraction) (defScope s_as_fraction) [] [] (He.ga K "as_fraction") fd) : FnOk P w K mg base (L2N.CX P w) 4 (He.ga K "as_fraction") fd ["number"] (spF K (aCons (rp (rNum K)) aNil) (fun d => m_as_fraction d.1) (rp (rFrac K))) := by
  refine FunD.fn (k := 3) (N := ["number"]) (ps := ["number"]) F sc_as_fraction (fun I H vs d h => ?_) (fun cdv A outer s I0 H0 E vs d hr sm h => ?_)
  · obtain ⟨v0, _, rfl, h0, rfl⟩ := h; rfl
  obtain ⟨v0, _, rfl, h0, rfl⟩ := h
  have hx : ∀ {ctx : List (Option SF)} {mem : List MF} (I H : Hp) (σ : St) (d : Option Addr), Stt I0 H0 ctx mem I H σ → Fr H0 d → bK I0 H0 I H σ d := fun _ _ _ _ s f => ⟨s.fm, f⟩
  have tk : L2N.Takes (bx P w K mg base ["number"] "as_fraction" (defScope s_as_fraction) (He.ga K "as_fraction") cdv A outer s H0 E) (bW E) := L2N.takes_of rfl rfl rfl rfl
  obtain ⟨p_number, _⟩ := d
  exact ⟨Stt I0 H0 [some (SF.mk (rNum K) p_number)] [], Stt.start sm ⟨h0, ini_nil rfl⟩ rfl (by simp), (JR.num (K := K) 0 (fun p_number_i => JR.at (c' := [some (SF.mk rInt p_number_i)]) (JR.ifR (JT.of (JE.isi (JE.var 0) (w_glob_at T.g_Fraction rfl (by decide)) (.own _) (tyr_intC T.kI_int_Fraction) T.n_isinstance)) JR.dead (JR.ret (JE.call (JA.cons (JE.var 0) JA.nil) (c_Fraction_1 _ _ rfl rfl rfl rfl rfl (hr.mono (by decide)) tk) T.g_Fraction T.mk_Fraction.kp) hx) hx)) (fun p_number_q => JR.at (c' := [some (SF.mk (rFrac K) p_number_q)]) (JR.ifR (JT.of (JE.isi (JE.var 0) (w_glob_at T.g_Fraction rfl (by decide)) (.own _) (tyr_ins T.o_Fraction insF T.kt_Fraction_Fraction) T.n_isinstance)) (JR.ret (JE.var 0) hx) JR.dead hx)))⟩
theorem fn_as_fraction {P : Program} {w : World} {K : PySem.W.Frag} {mg : Str → Option Value} {base : Heap} (T : Txt w K mg) (c_Fraction_1 : C_Fraction_1 P w K mg base) : FnR P w K mg base (L2N.CX P w) 4 (He.ga K "as_fraction") (spF K (aCons (rp (rNum K)) aNil) (fun d => m_as_fraction d.1) (rp (rFrac K))) := by
  obtain ⟨fd, F⟩ := T.F_as_fraction
  exact FnOk.fr0 (ok_as_fraction T c_Fraction_1 F) (F.bindsN fun _ _ _ _ _ _ us hl => match us, hl with | [_], _ => rfl)
theorem nice_as_fraction : ∀ d : Num × Unit, qAs d.1 = .stuck ∨ qAs d.1 = m_as_fraction d.1 := fun ⟨y, _⟩ => by
  right
  cases y with
  | i n => rfl
  | q y => rfl
theorem sc_BadLine_init : FnScope ["self", "place"] ["self", "place"] (defScope s_BadLine_init) := ⟨rfl, rfl, rfl, by decide +kernel, rfl, by decide +kernel, by decide +kernel⟩
abbrev C_err_BadLine (P : Program) (w : World) (K : PySem.W.Frag) (mg : Str → Option Value) (base : Heap) : Prop := ErR1 P w K mg base "BadLine" "place"
theorem fn_err_BadLine {P : Program} {w : World} {K : PySem.W.Frag} {mg : Str → Option Value} {base : Heap} (T : Txt w K mg) : C_err_BadLine P w K mg base := by
  obtain ⟨fd, F⟩ := T.F_BadLine_init
  exact ⟨T.ev_BadLine, fd, ["self", "place"], init1 F sc_BadLine_init rfl T.ev_BadLine.oex (T.ev_BadLine.no _ (by simp)) (by first | exact Or.inl rfl | exact Or.inr (Or.inl rfl) | exact Or.inr (Or.inr rfl)) (by first | exact Or.inl rfl | exact Or.inr (Or.inl rfl) | exact Or.inr (Or.inr rfl)) (by decide) (by decide), F.bindsN fun _ _ _ _ _ _ us hl => match us, hl with | [_, _], _ => rfl⟩
theorem sc_Fraction_le : FnScope ["self", "other"] ["self", "other"] (defScope s_Fraction_le) := ⟨rfl, rfl, rfl, by decide +kernel, rfl, by decide +kernel, by decide +kernel⟩
def m_Fraction_le (p_self : Rat) (p_other : Num) : Res Bool :=
  (match p_other with | .i p_other_i => (((Res.ok p_other_i).bind fun a454 => .ok true).bind fun x455 => if x455 = true then (((Res.ok p_self).bind fun a456 => .ok a456.num).bind fun a460 => ((Res.ok p_other_i).bind fun a458 => ((Res.ok p_self).bind fun a457 => .ok (a457.den : Int)).bind fun b459 => mulI a458 b459).bind fun b461 => .ok (decide (a460 ≤ b461))) else .stuck) | .q p_other_q => (((Res.ok p_other_q).bind fun a463 => .ok false).bind fun x464 => if x464 = true then .stuck else ((((Res.ok p_other_q).bind fun a465 => .ok true).bind fun a466 => .ok (!a466)).bind fun x467 => if x467 = true then .stuck else ((((Res.ok p_self).bind fun a468 => .ok a468.num).bind fun a470 => ((Res.ok p_other_q).bind fun a469 => .ok (a469.den : Int)).bind fun b471 => mulI a470 b471).bind fun a476 => (((Res.ok p_other_q).bind fun a472 => .ok a472.num).bind fun a474 => ((Res.ok p_self).bind fun a473 => .ok (a473.den : Int)).bind fun b475 => mulI a474 b475).bind fun b477 => .ok (decide (a476 ≤ b477))))))
abbrev C_Fraction_le (P : Program) (w : World) (K : PySem.W.Frag) (mg : Str → Option Value) (base : Heap) : Prop := FnR P w K mg base (L2N.CX P w) 1 (He.ma K (He.ga K "Fraction") "__le__") (spF K (aCons (rp (rFrac K)) (aCons (rp (rNum K)) aNil)) (fun d => qLe d.1 d.2.1) (rp rBl))
theorem ok_Fraction_le {P : Program} {w : World} {K : PySem.W.Frag} {mg : Str → Option Value} {base : Heap} (T : Txt w K mg) {fd : FuncData} (F : FunD K "__le__" "Fraction.__le__" (defArgs s_Fraction_le) (defBody s_Fraction_le) (defScope s_Fraction_le) [] [] (He.ma K (He.ga K "Fraction") "__le__") fd) : FnOk P w K mg base (L2N.CX P w) 1 (He.ma K (He.ga K "Fraction") "__le__") fd ["self", "other"] (spF K (aCons (rp (rFrac K)) (aCons (rp (rNum K)) aNil)) (fun d => m_Fraction_le d.1 d.2.1) (rp rBl)) := by
  refine FunD.fn (k := 0) (N := ["self", "other"]) (ps := ["self", "other"]) F sc_Fraction_le (fun I H vs d h => ?_) (fun cdv A outer s I0 H0 E vs d hr sm h => ?_)
  · obtain ⟨v0, _, rfl, h0, v1, _, rfl, h1, rfl⟩ := h; rfl
  obtain ⟨v0, _, rfl, h0, v1, _, rfl, h1, rfl⟩ := h
  have hx : ∀ {ctx : List (Option SF)} {mem : List MF} (I H : Hp) (σ : St) (d : Option Addr), Stt I0 H0 ctx mem I H σ → Fr H0 d → bK I0 H0 I H σ d := fun _ _ _ _ s f => ⟨s.fm, f⟩
  have tk : L2N.Takes (bx P w K mg base ["self", "other"] "Fraction.__le__" (defScope s_Fraction_le) (He.ma K (He.ga K "Fraction") "__le__") cdv A outer s H0 E) (bW E) := L2N.takes_of rfl rfl rfl rfl
  obtain ⟨p_self, p_other, _⟩ := d
  exact ⟨Stt I0 H0 [some (SF.mk (rFrac K) p_self), some (SF.mk (rNum K) p_other)] [], Stt.start sm ⟨h0, h1, ini_nil rfl⟩ rfl (by simp), (JR.num (K := K) 1 (fun p_other_i => JR.at (c' := [some (SF.mk (rFrac K) p_self), some (SF.mk rInt p_other_i)]) (JR.ifR (JT.of (JE.isi (JE.var 1) (w_type_at T.n_int (by decide +kernel) rfl (by decide) (by decide)) (.ty _) (tyr_int (t := "int") (by decide +kernel)) T.n_isinstance)) (JR.ret (JE.cmp (JE.fld (JE.var 0) fld_top T.o_Fraction.cl T.na_Fraction_top) (JE.bin (JE.var 1) (JE.fld (JE.var 0) fld_bottom T.o_Fraction.cl T.na_Fraction_bottom) opj_mul) opj_le) hx) JR.dead hx)) (fun p_other_q => JR.at (c' := [some (SF.mk (rFrac K) p_self), some (SF.mk (rFrac K) p_other_q)]) (JR.ifR (JT.of (JE.isi (JE.var 1) (w_type_at T.n_int (by decide +kernel) rfl (by decide) (by decide)) (.ty _) (tyr_ins T.o_Fraction insF T.kT_Fraction_int) T.n_isinstance)) JR.dead (JR.ifR (JT.not (JT.of (JE.isi (JE.var 1) (w_glob_at T.g_Fraction rfl (by decide)) (.own _) (tyr_ins T.o_Fraction insF T.kt_Fraction_Fraction) T.n_isinstance))) JR.dead (JR.ret (JE.cmp (JE.bin (JE.fld (JE.var 0) fld_top T.o_Fraction.cl T.na_Fraction_top) (JE.fld (JE.var 1) fld_bottom T.o_Fraction.cl T.na_Fraction_bottom) opj_mul) (JE.bin (JE.fld (JE.var 1) fld_top T.o_Fraction.cl T.na_Fraction_top) (JE.fld (JE.var 0) fld_bottom T.o_Fraction.cl T.na_Fraction_bottom) opj_mul) opj_le) hx) hx) hx)))⟩
theorem fn_Fraction_le {P : Program} {w : World} {K : PySem.W.Frag} {mg : Str → Option Value} {base : Heap} (T : Txt w K mg) : FnR P w K mg base (L2N.CX P w) 1 (He.ma K (He.ga K "Fraction") "__le__") (spF K (aCons (rp (rFrac K)) (aCons (rp (rNum K)) aNil)) (fun d => m_Fraction_le d.1 d.2.1) (rp rBl)) := by
  obtain ⟨fd, F⟩ := T.F_Fraction_le
  exact FnOk.fr0 (ok_Fraction_le T F) (F.bindsN fun _ _ _ _ _ _ us hl => match us, hl with | [_, _], _ => rfl)
theorem nice_Fraction_le : ∀ d : Rat × Num × Unit, qLe d.1 d.2.1 = .stuck ∨ qLe d.1 d.2.1 = m_Fraction_le d.1 d.2.1 := fun ⟨x, y, _⟩ => by
  cases y with
  | i n =>
      refine stuck_or fun h => ?_
      obtain ⟨hx, hn⟩ := h
      dsimp only at hx ⊢
      have hn := fits_int.mp hn
      simp only [m_Fraction_le, Res.ok_bind, Bool.not_true, Bool.not_false, Bool.false_eq_true, if_true, if_false, mul_fit hn (fd hx)]
      exact congrArg Res.ok (decide_eq_decide.mpr (le_int x n))
  | q y =>
      refine stuck_or fun h => ?_
      obtain ⟨hx, hy⟩ := h
      dsimp only at hx ⊢
      have hy : fits y := hy
      simp only [m_Fraction_le, Res.ok_bind, Bool.not_true, Bool.not_false, Bool.false_eq_true, if_true, if_false, mul_fit hx.1 (fd hy), mul_fit hy.1 (fd hx)]
      exact congrArg Res.ok (decide_eq_decide.mpr (Rat.le_iff x y))
theorem sc_Fraction_ge : FnScope ["self", "other"] ["self", "other"] (defScope s_Fraction_ge) := ⟨rfl, rfl, rfl, by decide +kernel, rfl, by decide +kernel, by decide +kernel⟩
def m_Fraction_ge (p_self : Rat) (p_other : Num) : Res Bool :=
  (match p_other with | .i p_other_i => (((Res.ok p_other_i).bind fun a479 => .ok true).bind fun x480 => if x480 = true then (((Res.ok p_self).bind fun a481 => .ok a481.num).bind fun a485 => ((Res.ok p_other_i).bind fun a483 => ((Res.ok p_self).bind fun a482 => .ok (a482.den : Int)).bind fun b484 => mulI a483 b484).bind fun b486 => .ok (decide (a485 ≥ b486))) else .stuck) | .q p_other_q => (((Res.ok p_other_q).bind fun a488 => .ok false).bind fun x489 => if x489 = true then .stuck else ((((Res.ok p_other_q).bind fun a490 => .ok true).bind fun a491 => .ok (!a491)).bind fun x492 => if x492 = true then .stuck else ((((Res.ok p_self).bind fun a493 => .ok a493.num).bind fun a495 => ((Res.ok p_other_q).bind fun a494 => .ok (a494.den : Int)).bind fun b496 => mulI a495 b496).bind fun a501 => (((Res.ok p_other_q).bind fun a497 => .ok a497.num).bind fun a499 => ((Res.ok p_self).bind fun a498 => .ok (a498.den : Int)).bind fun b500 => mulI a499 b500).bind fun b502 => .ok (decide (a501 ≥ b502))))))
abbrev C_Fraction_ge (P : Program) (w : World) (K : PySem.W.Frag) (mg : Str → Option Value) (base : Heap) : Prop := FnR P w K mg base (L2N.CX P w) 1 (He.ma K (He.ga K "Fraction") "__ge__") (spF K (aCons (rp (rFrac K)) (aCons (rp (rNum K)) aNil)) (fun d => qGe d.1 d.2.1) (rp rBl))
theorem ok_Fraction_ge {P : Program} {w : World} {K : PySem.W.Frag} {mg : Str → Option Value} {base : Heap} (T : Txt w K mg) {fd : FuncData} (F : FunD K "__ge__" "Fraction.__ge__" (defArgs s_Fraction_ge) (defBody s_Fraction_ge) (defScope s_Fraction_ge) [] [] (He.ma K (He.ga K "Fraction") "__ge__") fd) : FnOk P w K mg base (L2N.CX P w) 1 (He.ma K (He.ga K "Fraction") "__ge__") fd ["self", "other"] (spF K (aCons (rp (rFrac K)) (aCons (rp (rNum K)) aNil)) (fun d => m_Fraction_ge d.1 d.2.1) (rp rBl)) := by
  refine FunD.fn (k := 0) (N := ["self", "other"]) (ps := ["self", "other"]) F sc_Fraction_ge (fun I H vs d h => ?_) (fun cdv A outer s I0 H0 E vs d hr sm h => ?_)
  · obtain ⟨v0, _, rfl, h0, v1, _, rfl, h1, rfl⟩ := h; rfl
  obtain ⟨v0, _, rfl, h0, v1, _, rfl, h1, rfl⟩ := h
  have hx : ∀ {ctx : List (Option SF)} {mem : List MF} (I H : Hp) (σ : St) (d : Option Addr), Stt I0 H0 ctx mem I H σ → Fr H0 d → bK I0 H0 I H σ d := fun _ _ _ _ s f => ⟨s.fm, f⟩
  have tk : L2N.Takes (bx P w K mg base ["self", "other"] "Fraction.__ge__" (defScope s_Fraction_ge) (He.ma K (He.ga K "Fraction") "__ge__") cdv A outer s H0 E) (bW E) := L2N.takes_of rfl rfl rfl rfl
  obtain ⟨p_self, p_other, _⟩ := d
  exact ⟨Stt I0 H0 [some (SF.mk (rFrac K) p_self), some (SF.mk (rNum K) p_other)] [], Stt.start sm ⟨h0, h1, ini_nil rfl⟩ rfl (by simp), (JR.num (K := K) 1 (fun p_other_i => JR.at (c' := [some (SF.mk (rFrac K) p_self), some (SF.mk rInt p_other_i)]) (JR.ifR (JT.of (JE.isi (JE.var 1) (w_type_at T.n_int (by decide +kernel) rfl (by decide) (by decide)) (.ty _) (tyr_int (t := "int") (by decide +kernel)) T.n_isinstance)) (JR.ret (JE.cmp (JE.fld (JE.var 0) fld_top T.o_Fraction.cl T.na_Fraction_top) (JE.bin (JE.var 1) (JE.fld (JE.var 0) fld_bottom T.o_Fraction.cl T.na_Fraction_bottom) opj_mul) opj_ge) hx) JR.dead hx)) (fun p_other_q => JR.at (c' := [some (SF.mk (rFrac K) p_self), some (SF.mk (rFrac K) p_other_q)]) (JR.ifR (JT.of (JE.isi (JE.var 1) (w_type_at T.n_int (by decide +kernel) rfl (by decide) (by decide)) (.ty _) (tyr_ins T.o_Fraction insF T.kT_Fraction_int) T.n_isinstance)) JR.dead (JR.ifR (JT.not (JT.of (JE.isi (JE.var 1) (w_glob_at T.g_Fraction rfl (by decide)) (.own _) (tyr_ins T.o_Fraction insF T.kt_Fraction_Fraction) T.n_isinstance))) JR.dead (JR.ret (JE.cmp (JE.bin (JE.fld (JE.var 0) fld_top T.o_Fraction.cl T.na_Fraction_top) (JE.fld (JE.var 1) fld_bottom T.o_Fraction.cl T.na_Fraction_bottom) opj_mul) (JE.bin (JE.fld (JE.var 1) fld_top T.o_Fraction.cl T.na_Fraction_top) (JE.fld (JE.var 0) fld_bottom T.o_Fraction.cl T.na_Fraction_bottom) opj_mul) opj_ge) hx) hx) hx)))⟩
theorem fn_Fraction_ge {P : Program} {w : World} {K : PySem.W.Frag} {mg : Str → Option Value} {base : Heap} (T : Txt w K mg) : FnR P w K mg base (L2N.CX P w) 1 (He.ma K (He.ga K "Fraction") "__ge__") (spF K (aCons (rp (rFrac K)) (aCons (rp (rNum K)) aNil)) (fun d => m_Fraction_ge d.1 d.2.1) (rp rBl)) := by
  obtain ⟨fd, F⟩ := T.F_Fraction_ge
  exact FnOk.fr0 (ok_Fraction_ge T F) (F.bindsN fun _ _ _ _ _ _ us hl => match us, hl with | [_, _], _ => rfl)
theorem nice_Fraction_ge : ∀ d : Rat × Num × Unit, qGe d.1 d.2.1 = .stuck ∨ qGe d.1 d.2.1 = m_Fraction_ge d.1 d.2.1 := fun ⟨x, y, _⟩ => by
  cases y with
  | i n =>
      refine stuck_or fun h => ?_
      obtain ⟨hx, hn⟩ := h
      dsimp only at hx ⊢
      have hn := fits_int.mp hn
      simp only [m_Fraction_ge, Res.ok_bind, Bool.not_true, Bool.not_false, Bool.false_eq_true, if_true, if_false, mul_fit hn (fd hx)]
      exact congrArg Res.ok (decide_eq_decide.mpr (ge_int x n))
  | q y =>
      refine stuck_or fun h => ?_
      obtain ⟨hx, hy⟩ := h
      dsimp only at hx ⊢
      have hy : fits y := hy
      simp only [m_Fraction_ge, Res.ok_bind, Bool.not_true, Bool.not_false, Bool.false_eq_true, if_true, if_false, mul_fit hx.1 (fd hy), mul_fit hy.1 (fd hx)]
      exact congrArg Res.ok (decide_eq_decide.mpr (Rat.le_iff y x))
theorem sc_Fraction_eq : FnScope ["self", "other"] ["self", "other"] (defScope s_Fraction_eq) := ⟨rfl, rfl, rfl, by decide +kernel, rfl, by decide +kernel, by decide +kernel⟩
def m_Fraction_eq (p_self : Rat) (p_other : Num) : Res Bool :=
  (match p_other with | .i p_other_i => (((Res.ok p_other_i).bind fun a504 => .ok true).bind fun x505 => if x505 = true then ((((Res.ok p_self).bind fun a506 => .ok (a506.den : Int)).bind fun a507 => (Res.ok (1 : Int)).bind fun b508 => .ok (decide (a507 = b508))).bind fun a512 => if a512 = true then (((Res.ok p_self).bind fun a509 => .ok a509.num).bind fun a510 => (Res.ok p_other_i).bind fun b511 => .ok (decide (a510 = b511))) else .ok false) else .stuck) | .q p_other_q => (((Res.ok p_other_q).bind fun a514 => .ok false).bind fun x515 => if x515 = true then .stuck else ((((Res.ok p_other_q).bind fun a516 => .ok true).bind fun a517 => .ok (!a517)).bind fun x518 => if x518 = true then .stuck else ((((Res.ok p_self).bind fun a519 => .ok a519.num).bind fun a521 => ((Res.ok p_other_q).bind fun a520 => .ok a520.num).bind fun b522 => .ok (decide (a521 = b522))).bind fun a527 => if a527 = true then (((Res.ok p_self).bind fun a523 => .ok (a523.den : Int)).bind fun a525 => ((Res.ok p_other_q).bind fun a524 => .ok (a524.den : Int)).bind fun b526 => .ok (decide (a525 = b526))) else .ok false))))
abbrev C_Fraction_eq (P : Program) (w : World) (K : PySem.W.Frag) (mg : Str → Option Value) (base : Heap) : Prop := FnR P w K mg base (L2N.CX P w) 1 (He.ma K (He.ga K "Fraction") "__eq__") (spF K (aCons (rp (rFrac K)) (aCons (rp (rNum K)) aNil)) (fun d => qEq d.1 d.2.1) (rp rBl))
theorem ok_Fraction_eq {P : Program} {w : World} {K : PySem.W.Frag} {mg : Str → Option Value} {base : Heap} (T : Txt w K mg) {fd : FuncData} (F : FunD K "__eq__" "Fraction.__eq__" (defArgs s_Fraction_eq) (defBody s_Fraction_eq) (defScope s_Fraction_eq) [] [] (He.ma K (He.ga K "Fraction") "__eq__") fd) : FnOk P w K mg base (L2N.CX P w) 1 (He.ma K (He.ga K "Fraction") "__eq__") fd ["self", "other"] (spF K (aCons (rp (rFrac K)) (aCons (rp (rNum K)) aNil)) (fun d => m_Fraction_eq d.1 d.2.1) (rp rBl)) := by
  refine FunD.fn (k := 0) (N := ["self", "other"]) (ps := ["self", "other"]) F sc_Fraction_eq (fun I H vs d h => ?_) (fun cdv A outer s I0 H0 E vs d hr sm h => ?_)
  · obtain ⟨v0, _, rfl, h0, v1, _, rfl, h1, rfl⟩ := h; rfl
  obtain ⟨v0, _, rfl, h0, v1, _, rfl, h1, rfl⟩ := h
  have hx : ∀ {ctx : List (Option SF)} {mem : List MF} (I H : Hp) (σ : St) (d : Option Addr), Stt I0 H0 ctx mem I H σ → Fr H0 d → bK I0 H0 I H σ d := fun _ _ _ _ s f => ⟨s.fm, f⟩
  have tk : L2N.Takes (bx P w K mg base ["self", "other"] "Fraction.__eq__" (defScope s_Fraction_eq) (He.ma K (He.ga K "Fraction") "__eq__") cdv A outer s H0 E) (bW E) := L2N.takes_of rfl rfl rfl rfl
  obtain ⟨p_self, p_other, _⟩ := d
  exact ⟨Stt I0 H0 [some (SF.mk (rFrac K) p_self), some (SF.mk (rNum K) p_other)] [], Stt.start sm ⟨h0, h1, ini_nil rfl⟩ rfl (by simp), (JR.num (K := K) 1 (fun p_other_i => JR.at (c' := [some (SF.mk (rFrac K) p_self), some (SF.mk rInt p_other_i)]) (JR.ifR (JT.of (JE.isi (JE.var 1) (w_type_at T.n_int (by decide +kernel) rfl (by decide) (by decide)) (.ty _) (tyr_int (t := "int") (by decide +kernel)) T.n_isinstance)) (JR.ret (JE.and (JE.cmp (JE.fld (JE.var 0) fld_bottom T.o_Fraction.cl T.na_Fraction_bottom) JE.int opj_eq) (JE.one (JE.cmp (JE.fld (JE.var 0) fld_top T.o_Fraction.cl T.na_Fraction_top) (JE.var 1) opj_eq))) hx) JR.dead hx)) (fun p_other_q => JR.at (c' := [some (SF.mk (rFrac K) p_self), some (SF.mk (rFrac K) p_other_q)]) (JR.ifR (JT.of (JE.isi (JE.var 1) (w_type_at T.n_int (by decide +kernel) rfl (by decide) (by decide)) (.ty _) (tyr_ins T.o_Fraction insF T.kT_Fraction_int) T.n_isinstance)) JR.dead (JR.ifR (JT.not (JT.of (JE.isi (JE.var 1) (w_glob_at T.g_Fraction rfl (by decide)) (.own _) (tyr_ins T.o_Fraction insF T.kt_Fraction_Fraction) T.n_isinstance))) JR.dead (JR.ret (JE.and (JE.cmp (JE.fld (JE.var 0) fld_top T.o_Fraction.cl T.na_Fraction_top) (JE.fld (JE.var 1) fld_top T.o_Fraction.cl T.na_Fraction_top) opj_eq) (JE.one (JE.cmp (JE.fld (JE.var 0) fld_bottom T.o_Fraction.cl T.na_Fraction_bottom) (JE.fld (JE.var 1) fld_bottom T.o_Fraction.cl T.na_Fraction_bottom) opj_eq))) hx) hx) hx)))⟩
theorem fn_Fraction_eq {P : Program} {w : World} {K : PySem.W.Frag} {mg : Str → Option Value} {base : Heap} (T : Txt w K mg) : FnR P w K mg base (L2N.CX P w) 1 (He.ma K (He.ga K "Fraction") "__eq__") (spF K (aCons (rp (rFrac K)) (aCons (rp (rNum K)) aNil)) (fun d => m_Fraction_eq d.1 d.2.1) (rp rBl)) := by
  obtain ⟨fd, F⟩ := T.F_Fraction_eq
  exact FnOk.fr0 (ok_Fraction_eq T F) (F.bindsN fun _ _ _ _ _ _ us hl => match us, hl with | [_, _], _ => rfl)
theorem nice_Fraction_eq : ∀ d : Rat × Num × Unit, qEq d.1 d.2.1 = .stuck ∨ qEq d.1 d.2.1 = m_Fraction_eq d.1 d.2.1 := fun ⟨x, y, _⟩ => by
  right
  cases y with
  | i n =>
      simp only [m_Fraction_eq, Res.ok_bind, Bool.not_true, Bool.not_false, Bool.false_eq_true, if_true, if_false]
      exact (eq_dec1 x n).symm
  | q y =>
      simp only [m_Fraction_eq, Res.ok_bind, Bool.not_true, Bool.not_false, Bool.false_eq_true, if_true, if_false]
      exact (eq_dec x y).symm
theorem sc_Line_init : FnScope ["self", "shares", "kept", "share", "place", "nodes"] ["self", "shares"] (defScope s_Line_init) := ⟨rfl, rfl, rfl, by decide +kernel, rfl, by decide +kernel, by decide +kernel⟩
def m_Line_init (p_shares : (List Num)) : Res O_Line :=
  (((Res.ok p_shares).bind fun l356 => lcR (fun (i350 : Num) => (((Res.ok i350).bind fun a353 => (Res.ok ()).bind fun b354 => .ok (a353, b354)).bind (fun d => qAs d.1))) l356).bind fun v_kept_349 => (((((Res.ok v_kept_349).bind fun a359 => (Res.ok ()).bind fun b360 => .ok (a359, b360)).bind (fun d => .ok (d.1.length : Int))).bind fun a361 => (Res.ok (0 : Int)).bind fun b362 => .ok (decide (a361 = b362))).bind fun x363 => if x363 = true then (((Res.ok (0 : Int)).bind fun y365 => Res.err ⟨"BadLine", [("place", Pay.int y365)]⟩)) else (((((((Res.ok v_kept_349).bind fun a368 => (Res.ok ()).bind fun b369 => .ok (a368, b369)).bind (fun d => .ok (d.1.length : Int))).bind fun a370 => (Res.ok (1 : Int)).bind fun b371 => .ok (a370 - b371)).bind fun a372 => rangeM1 a372).bind fun l386 => forS (fun (i373 : Int) (s366 : Unit) => (((((Res.ok v_kept_349).bind fun a374 => (Res.ok i373).bind fun b375 => atM a374 b375).bind fun a376 => (Res.ok (0 : Int)).bind fun b377 => qLe a376 (.i b377)).bind fun a382 => if a382 = true then .ok true else (((Res.ok v_kept_349).bind fun a378 => (Res.ok i373).bind fun b379 => atM a378 b379).bind fun a380 => (Res.ok (1 : Int)).bind fun b381 => qGe a380 (.i b381))).bind fun x383 => if x383 = true then (((Res.ok i373).bind fun y385 => Res.err ⟨"BadLine", [("place", Pay.int y385)]⟩)) else (Res.ok ()))) l386 ()).bind fun s366 => (((((Res.ok v_kept_349).bind fun a388 => ((Res.ok (1 : Int)).bind fun a387 => .ok (-a387)).bind fun b389 => atM a388 b389).bind fun a390 => (Res.ok (0 : Int)).bind fun b391 => (qEq a390 (.i b391)).bind fun z => .ok (!z)).bind fun a397 => if a397 = true then (((Res.ok v_kept_349).bind fun a393 => ((Res.ok (1 : Int)).bind fun a392 => .ok (-a392)).bind fun b394 => atM a393 b394).bind fun a395 => (Res.ok (1 : Int)).bind fun b396 => (qEq a395 (.i b396)).bind fun z => .ok (!z)) else .ok false).bind fun x398 => if x398 = true then ((((((Res.ok v_kept_349).bind fun a400 => (Res.ok ()).bind fun b401 => .ok (a400, b401)).bind (fun d => .ok (d.1.length : Int))).bind fun a402 => (Res.ok (1 : Int)).bind fun b403 => .ok (a402 - b403)).bind fun y405 => Res.err ⟨"BadLine", [("place", Pay.int y405)]⟩)) else ((Res.ok v_kept_349).bind fun v_kept_407 => ((((Res.ok v_kept_349).bind fun a409 => ((Res.ok (1 : Int)).bind fun a408 => .ok (-a408)).bind fun b410 => atM a409 b410).bind fun a411 => .ok a411.num).bind fun v_end_413 => (((((Res.ok v_kept_349).bind fun a416 => (Res.ok ()).bind fun b417 => .ok (a416, b417)).bind (fun d => .ok (d.1.length : Int))).bind fun a418 => (Res.ok v_end_413).bind fun b419 => .ok (a418 + b419)).bind fun v_nodes_414 => ((((Res.ok v_nodes_414).bind fun a420 => (Res.ok (1 : Int)).bind fun b421 => .ok (a420 + b421)).bind fun a422 => (Res.ok (2 : Int)).bind fun b423 => fdivI a422 b423).bind fun v_rooms_425 => (((Res.ok v_nodes_414).bind fun a426 => (Res.ok (2 : Int)).bind fun b427 => fdivI a426 b427).bind fun v_passages_429 => (Res.ok (O_Line.mk v_kept_407 v_end_413 v_rooms_425 v_passages_429)))))))))))
theorem in_Line {P : Program} {w : World} {K : PySem.W.Frag} {mg : Str → Option Value} {base : Heap} (T : Txt w K mg) (c_as_fraction : C_as_fraction P w K mg base) (c_err_BadLine : C_err_BadLine P w K mg base) (c_Fraction_le : C_Fraction_le P w K mg base) (c_Fraction_ge : C_Fraction_ge P w K mg base) (c_Fraction_eq : C_Fraction_eq P w K mg base) {fd : FuncData} (F : FunD K "__init__" "Line.__init__" (defArgs s_Line_init) (defBody s_Line_init) (defScope s_Line_init) [] [] (He.ma K (He.ga K "Line") "__init__") fd) : FnOk P w K mg base (L2N.CX P w) 6 (He.ma K (He.ga K "Line") "__init__") fd ["self", "shares"] (spI K (He.ga K "Line") (aCons (rSq K (rp (rNum K))) aNil) (fun d => m_Line_init d.1) (rp (r_Line K))) := by
  refine FunD.initI (k := 5) (N := ["self", "shares", "kept", "share", "place", "nodes"]) (ps := ["self", "shares"]) F sc_Line_init (fun I H vs d h => ?_) (fun cdv A outer s I0 H0 H1 E vs d y dx hr sm h eH => ?_)
  · obtain ⟨v0, _, rfl, h0, rfl⟩ := h; rfl
  obtain ⟨v0, _, rfl, h0, rfl⟩ := h
  have hx : ∀ {ctx : List (Option SF)} {mem : List MF} (I H : Hp) (σ : St) (d : Option Addr), Stt I0 H0 ctx mem I H σ → Fr H0 d → bK I0 H0 I H σ d := fun _ _ _ _ s f => ⟨s.fm, f⟩
  have tk : L2N.Takes (bx P w K mg base ["self", "shares", "kept", "share", "place", "nodes"] "Line.__init__" (defScope s_Line_init) (He.ma K (He.ga K "Line") "__init__") cdv A outer s H1 E) (bW E) := L2N.takes_of rfl rfl rfl rfl
  have hp : PassesOwn (model P w) (bx P w K mg base ["self", "shares", "kept", "share", "place", "nodes"] "Line.__init__" (defScope s_Line_init) (He.ma K (He.ga K "Line") "__init__") cdv A outer s H1 E).A (bx P w K mg base ["self", "shares", "kept", "share", "place", "nodes"] "Line.__init__" (defScope s_Line_init) (He.ma K (He.ga K "Line") "__init__") cdv A outer s H1 E).env (bx P w K mg base ["self", "shares", "kept", "share", "place", "nodes"] "Line.__init__" (defScope s_Line_init) (He.ma K (He.ga K "Line") "__init__") cdv A outer s H1 E).xe := passes_of rfl
  obtain ⟨p_shares, _⟩ := d
  exact ⟨[some (SF.mk (rRef y) ()), some (SF.mk (fun I v x => (rSq K (rp (rNum K))) I H0 v x) p_shares), none, none, none, none], rfl, by simp, ⟨rfl, h0, ini_nil rfl⟩, (JN.seq (J1.cn (c' := fun v_kept_349 l357 => [some (SF.mk (rRef y) ()), some (SF.mk (fun I v x => (rSq K (rp (rNum K))) I H0 v x) p_shares), some (SF.mk (rRef l357) ()), none, none, none]) (me' := fun v_kept_349 l357 => [MF.lst l357 (rFrac K) v_kept_349, MF.ins y (He.ga K "Line") dx []]) (J1.setLcT (r := (rFrac K)) 2 3 (JI.parS 1) (fun _ _ _ _ _ D acc i350 tk351 => (JE.at (c' := [some (SF.mk (rRef y) ()), some (SF.mk (fun I v x => (rSq K (rp (rNum K))) I H0 v x) p_shares), none, some (SF.mk (rNum K) i350), none, none]) (JE.call (JA.cons (JE.var 3) JA.nil) (cj_of c_as_fraction (hr.mono (by decide)) tk351) T.g_as_fraction T.k_as_fraction))) hx sc_Line_init.nd (blkok_of (by kernel_rfl)))) fun v_kept_349 => JN.ex fun l357 => (JN.fz 2 0 (ctx' := [some (SF.mk (rRef y) ()), some (SF.mk (fun I v x => (rSq K (rp (rNum K))) I H0 v x) p_shares), some (SF.mk (rL (rFrac K)) v_kept_349), none, none, none]) (mem' := [MF.ins y (He.ga K "Line") dx []]) (JN.ifT (JT.cmp (JE.callB (JA.cons (JE.rd (JE.var 2)) JA.nil) cj_len T.n_len boot_len) JE.int opj_eq) (JN.raise1 (pay := Pay.int) rfl tk c_err_BadLine (hr.mono (by decide)) JE.int pay_int hx) (JN.seq (J1.forS (S := Unit) (cx := fun s366 => [some (SF.mk (rRef y) ()), some (SF.mk (fun I v x => (rSq K (rp (rNum K))) I H0 v x) p_shares), some (SF.mk (rL (rFrac K)) v_kept_349), none, none, none]) (me := fun s366 => [MF.ins y (He.ga K "Line") dx []]) (s0 := ()) 4 hp (JI.range1 (JE.bin (JE.callB (JA.cons (JE.rd (JE.var 2)) JA.nil) cj_len T.n_len boot_len) JE.int opj_sub) T.n_range) (fun i373 s366 => JN.at (c' := [some (SF.mk (rRef y) ()), some (SF.mk (fun I v x => (rSq K (rp (rNum K))) I H0 v x) p_shares), some (SF.mk (rL (rFrac K)) v_kept_349), none, some (SF.mk rInt i373), none]) (JN.ifT (JT.bool (JW.or (JT.cmp (JE.ix (JE.rd (JE.var 2)) (JE.var 4)) JE.int (opj_cqi (op := .LtE) (g := fun d => qLe d.1 d.2.1) (fun _ _ => rfl) T.o_Fraction T.om_Fraction_le T.nf_Fraction.2 c_Fraction_le (hr.mono (by decide)) tk)) (JW.or1 (JT.cmp (JE.ix (JE.rd (JE.var 2)) (JE.var 4)) JE.int (opj_cqi (op := .GtE) (g := fun d => qGe d.1 d.2.1) (fun _ _ => rfl) T.o_Fraction T.om_Fraction_ge T.nf_Fraction.2 c_Fraction_ge (hr.mono (by decide)) tk))))) (JN.raise1 (pay := Pay.int) rfl tk c_err_BadLine (hr.mono (by decide)) (JE.var 4) pay_int hx) (JN.nil (fun _ _ _ h => (Stt.weak h (weak_some (weak_some (weak_some (weak_none (weak_none (weak_none weak_nil))))))))) hx)) hx (weak_some (weak_some (weak_some (weak_none (weak_none (weak_none weak_nil)))))) sc_Line_init.nd) fun s366 => (JN.ifT (JT.bool (JW.and (JT.cmp (JE.ix (JE.rd (JE.var 2)) (JE.un JE.int unj_neg)) JE.int (opj_neqi (gb := fun d => qEq d.1 d.2.1) T.o_Fraction T.om_Fraction_eq T.nf_Fraction.2 c_Fraction_eq (hr.mono (by decide)) tk)) (JW.and1 (JT.cmp (JE.ix (JE.rd (JE.var 2)) (JE.un JE.int unj_neg)) JE.int (opj_neqi (gb := fun d => qEq d.1 d.2.1) T.o_Fraction T.om_Fraction_eq T.nf_Fraction.2 c_Fraction_eq (hr.mono (by decide)) tk))))) (JN.raise1 (pay := Pay.int) rfl tk c_err_BadLine (hr.mono (by decide)) (JE.bin (JE.callB (JA.cons (JE.rd (JE.var 2)) JA.nil) cj_len T.n_len boot_len) JE.int opj_sub) pay_int hx) (JN.seq (J1.cm (c' := fun v_kept_407 => [some (SF.mk (rRef y) ()), some (SF.mk (fun I v x => (rSq K (rp (rNum K))) I H0 v x) p_shares), some (SF.mk (rL (rFrac K)) v_kept_349), none, none, none]) (me' := fun v_kept_407 => [MF.ins y (He.ga K "Line") dx [("kept", SF.mk (rL (rFrac K)) v_kept_407)]]) (J1.sfldJ 0 0 (gs := []) (JE.var 2) T.o_Line.cl T.na_Line_kept (by simp) hx)) fun v_kept_407 => (JN.seq (J1.cm (c' := fun v_end_413 => [some (SF.mk (rRef y) ()), some (SF.mk (fun I v x => (rSq K (rp (rNum K))) I H0 v x) p_shares), some (SF.mk (rL (rFrac K)) v_kept_349), none, none, none]) (me' := fun v_end_413 => [MF.ins y (He.ga K "Line") dx [("kept", SF.mk (rL (rFrac K)) v_kept_407), ("end", SF.mk rInt v_end_413)]]) (J1.sfldJ 0 0 (gs := [("kept", SF.mk (rL (rFrac K)) v_kept_407)]) (JE.fld (JE.ix (JE.rd (JE.var 2)) (JE.un JE.int unj_neg)) fld_top T.o_Fraction.cl T.na_Fraction_top) T.o_Line.cl T.na_Line_end (by simp) hx)) fun v_end_413 => (JN.seq (J1.cx (c' := fun v_nodes_414 => [some (SF.mk (rRef y) ()), some (SF.mk (fun I v x => (rSq K (rp (rNum K))) I H0 v x) p_shares), some (SF.mk (rL (rFrac K)) v_kept_349), none, none, some (SF.mk rInt v_nodes_414)]) (J1.set 5 (JE.bin (JE.callB (JA.cons (JE.rd (JE.var 2)) JA.nil) cj_len T.n_len boot_len) (JE.fldS 0 0 T.o_Line.cl T.na_Line_end) opj_add) hx sc_Line_init.nd)) fun v_nodes_414 => (JN.seq (J1.cm (c' := fun v_rooms_425 => [some (SF.mk (rRef y) ()), some (SF.mk (fun I v x => (rSq K (rp (rNum K))) I H0 v x) p_shares), some (SF.mk (rL (rFrac K)) v_kept_349), none, none, some (SF.mk rInt v_nodes_414)]) (me' := fun v_rooms_425 => [MF.ins y (He.ga K "Line") dx [("kept", SF.mk (rL (rFrac K)) v_kept_407), ("end", SF.mk rInt v_end_413), ("rooms", SF.mk rInt v_rooms_425)]]) (J1.sfldJ 0 0 (gs := [("kept", SF.mk (rL (rFrac K)) v_kept_407), ("end", SF.mk rInt v_end_413)]) (JE.bin (JE.bin (JE.var 5) JE.int opj_add) JE.int opj_fdiv) T.o_Line.cl T.na_Line_rooms (by simp) hx)) fun v_rooms_425 => (JN.seq (J1.cm (c' := fun v_passages_429 => [some (SF.mk (rRef y) ()), some (SF.mk (fun I v x => (rSq K (rp (rNum K))) I H0 v x) p_shares), some (SF.mk (rL (rFrac K)) v_kept_349), none, none, some (SF.mk rInt v_nodes_414)]) (me' := fun v_passages_429 => [MF.ins y (He.ga K "Line") dx [("kept", SF.mk (rL (rFrac K)) v_kept_407), ("end", SF.mk rInt v_end_413), ("rooms", SF.mk rInt v_rooms_425), ("passages", SF.mk rInt v_passages_429)]]) (J1.sfldJ 0 0 (gs := [("kept", SF.mk (rL (rFrac K)) v_kept_407), ("end", SF.mk rInt v_end_413), ("rooms", SF.mk rInt v_rooms_425)]) (JE.bin (JE.var 5) JE.int opj_fdiv) T.o_Line.cl T.na_Line_passages (by simp) hx)) fun v_passages_429 => (JN.nil fun _ _ _ h => ⟨_, h⟩)))))) hx)) hx)))⟩
def m_Line_1 (x0 : (List Num)) : Res O_Line := m_Line_init x0
abbrev C_Line_1 (P : Program) (w : World) (K : PySem.W.Frag) (mg : Str → Option Value) (base : Heap) : Prop := MkR P w K mg base 7 (He.ga K "Line") (aCons (rSq K (rp (rNum K))) aNil) (fun (d : (List Num) × Unit) => m_Line_1 d.1) (rp (r_Line K))
theorem fn_Line_1 {P : Program} {w : World} {K : PySem.W.Frag} {mg : Str → Option Value} {base : Heap} (T : Txt w K mg) (c_as_fraction : C_as_fraction P w K mg base) (c_err_BadLine : C_err_BadLine P w K mg base) (c_Fraction_le : C_Fraction_le P w K mg base) (c_Fraction_ge : C_Fraction_ge P w K mg base) (c_Fraction_eq : C_Fraction_eq P w K mg base) : MkR P w K mg base 7 (He.ga K "Line") (aCons (rSq K (rp (rNum K))) aNil) (fun (d : (List Num) × Unit) => m_Line_1 d.1) (rp (r_Line K)) := by
  obtain ⟨fd, F⟩ := T.F_Line_init
  exact mkR_of (h := (fun (d : (List Num) × Unit) => (d.1, ()))) T.mk_Line (in_Line T c_as_fraction c_err_BadLine c_Fraction_le c_Fraction_ge c_Fraction_eq F) (F.bindsN fun _ _ _ _ _ _ us hl => match us, hl with | [_, _], _ => rfl) .nil fun I H vs d h => by rw [List.append_nil]; exact h
theorem sc_law_line : FnScope ["_law_pairs", "_law_end", "_law_pair"] ["_law_pairs", "_law_end"] (defScope s_law_line) := ⟨rfl, rfl, rfl, by decide +kernel, rfl, by decide +kernel, by decide +kernel⟩
def m_law_line (p_law_pairs : (List (Int × Int × Unit))) (p_law_end : Int) : Res O_Line :=
  (((((Res.ok p_law_pairs).bind fun l337 => lcR (fun (i326 : (Int × Int × Unit)) => (((((Res.ok i326).bind fun a328 => .ok a328.1).bind fun a334 => (((Res.ok i326).bind fun a330 => .ok a330.2.1).bind fun a332 => (Res.ok ()).bind fun b333 => .ok (a332, b333)).bind fun b335 => .ok (a334, b335)).bind (fun d => qMk d.1 d.2.1)).bind fun a336 => .ok (Num.q a336))) l337).bind fun a341 => (((Res.ok p_law_end).bind fun a338 => .ok (Num.i a338)).bind fun a339 => (Res.ok []).bind fun b340 => .ok (a339 :: b340)).bind fun b342 => catM a341 b342).bind fun a346 => (Res.ok ()).bind fun b347 => .ok (a346, b347)).bind (fun d => m_Line_1 d.1))
abbrev C_law_line (P : Program) (w : World) (K : PySem.W.Frag) (mg : Str → Option Value) (base : Heap) : Prop := FnR P w K mg base (L2N.CX P w) 8 (He.ga K "_law_line") (spF K (aCons (rp (rL (rTu (aCons (rp rInt) (aCons (rp rInt) aNil))))) (aCons (rp rInt) aNil)) (fun d => m_law_line d.1 d.2.1) (rp (r_Line K)))
theorem ok_law_line {P : Program} {w : World} {K : PySem.W.Frag} {mg : Str → Option Value} {base : Heap} (T : Txt w K mg) (c_Line_1 : C_Line_1 P w K mg base) (c_Fraction_2 : C_Fraction_2 P w K mg base) {fd : FuncData} (F : FunD K "_law_line" "_law_line" (defArgs s_law_line) (defBody s_law_line) (defScope s_law_line) [] [] (He.ga K "_law_line") fd) : FnOk P w K mg base (L2N.CX P w) 8 (He.ga K "_law_line") fd ["_law_pairs", "_law_end"] (spF K (aCons (rp (rL (rTu (aCons (rp rInt) (aCons (rp rInt) aNil))))) (aCons (rp rInt) aNil)) (fun d => m_law_line d.1 d.2.1) (rp (r_Line K))) := by
  refine FunD.fn (k := 7) (N := ["_law_pairs", "_law_end", "_law_pair"]) (ps := ["_law_pairs", "_law_end"]) F sc_law_line (fun I H vs d h => ?_) (fun cdv A outer s I0 H0 E vs d hr sm h => ?_)
  · obtain ⟨v0, _, rfl, h0, v1, _, rfl, h1, rfl⟩ := h; rfl
  obtain ⟨v0, _, rfl, h0, v1, _, rfl, h1, rfl⟩ := h
  have hx : ∀ {ctx : List (Option SF)} {mem : List MF} (I H : Hp) (σ : St) (d : Option Addr), Stt I0 H0 ctx mem I H σ → Fr H0 d → bK I0 H0 I H σ d := fun _ _ _ _ s f => ⟨s.fm, f⟩
  have tk : L2N.Takes (bx P w K mg base ["_law_pairs", "_law_end", "_law_pair"] "_law_line" (defScope s_law_line) (He.ga K "_law_line") cdv A outer s H0 E) (bW E) := L2N.takes_of rfl rfl rfl rfl
  obtain ⟨p_law_pairs, p_law_end, _⟩ := d
  exact ⟨Stt I0 H0 [some (SF.mk (rL (rTu (aCons (rp rInt) (aCons (rp rInt) aNil)))) p_law_pairs), some (SF.mk rInt p_law_end), none] [], Stt.start sm ⟨h0, h1, ini_nil rfl⟩ rfl (by simp), (JR.ret (JE.call (JA.cons (JE.sqL (JE.rd (JE.ofM (JM.cat (JE.hp (JE.ofM (JM.lcT (r := (rNum K)) 2 (JI.list (JE.var 0)) (fun _ _ _ _ _ D acc i326 tk327 => (JE.at (c' := [some (SF.mk (rL (rTu (aCons (rp rInt) (aCons (rp rInt) aNil)))) p_law_pairs), some (SF.mk rInt p_law_end), some (SF.mk (rTu (aCons (rp rInt) (aCons (rp rInt) aNil))) i326)]) (JE.numq (JE.call (JA.cons (JE.ixD 0 (JE.var 2) AtR.zero) (JA.cons (JE.ixD 1 (JE.var 2) (AtR.succ AtR.zero)) JA.nil)) (c_Fraction_2 _ _ rfl rfl rfl rfl rfl (hr.mono (by decide)) tk327) T.g_Fraction T.mk_Fraction.kp)))) sc_law_line.nd (blkok_of (by kernel_rfl))))) (JE.hp (JE.ofM (JM.lst (r := (rNum K)) (JA.consL (JE.num (JE.var 1)) JA.nilL)))))))) JA.nil) (c_Line_1 _ _ rfl rfl rfl rfl rfl (hr.mono (by decide)) tk) T.g_Line T.mk_Line.kp) hx)⟩
theorem fn_law_line {P : Program} {w : World} {K : PySem.W.Frag} {mg : Str → Option Value} {base : Heap} (T : Txt w K mg) (c_Line_1 : C_Line_1 P w K mg base) (c_Fraction_2 : C_Fraction_2 P w K mg base) : FnR P w K mg base (L2N.CX P w) 8 (He.ga K "_law_line") (spF K (aCons (rp (rL (rTu (aCons (rp rInt) (aCons (rp rInt) aNil))))) (aCons (rp rInt) aNil)) (fun d => m_law_line d.1 d.2.1) (rp (r_Line K))) := by
  obtain ⟨fd, F⟩ := T.F_law_line
  exact FnOk.fr0 (ok_law_line T c_Line_1 c_Fraction_2 F) (F.bindsN fun _ _ _ _ _ _ us hl => match us, hl with | [_, _], _ => rfl)
theorem sc_Fraction_rsub : FnScope ["self", "other"] ["self", "other"] (defScope s_Fraction_rsub) := ⟨rfl, rfl, rfl, by decide +kernel, rfl, by decide +kernel, by decide +kernel⟩
def m_Fraction_rsub (p_self : Rat) (p_other : Int) : Res Rat :=
  ((((Res.ok p_other).bind fun a588 => .ok true).bind fun a589 => .ok (!a589)).bind fun x590 => if x590 = true then .stuck else (((((Res.ok p_other).bind fun a592 => ((Res.ok p_self).bind fun a591 => .ok (a591.den : Int)).bind fun b593 => mulI a592 b593).bind fun a595 => ((Res.ok p_self).bind fun a594 => .ok a594.num).bind fun b596 => .ok (a595 - b596)).bind fun a602 => (((Res.ok p_self).bind fun a598 => .ok (a598.den : Int)).bind fun a600 => (Res.ok ()).bind fun b601 => .ok (a600, b601)).bind fun b603 => .ok (a602, b603)).bind (fun d => qMk d.1 d.2.1)))
abbrev C_Fraction_rsub (P : Program) (w : World) (K : PySem.W.Frag) (mg : Str → Option Value) (base : Heap) : Prop := FnR P w K mg base (L2N.CX P w) 4 (He.ma K (He.ga K "Fraction") "__rsub__") (spF K (aCons (rp (rFrac K)) (aCons (rp rInt) aNil)) (fun d => qRsub d.1 d.2.1) (rp (rFrac K)))
theorem ok_Fraction_rsub {P : Program} {w : World} {K : PySem.W.Frag} {mg : Str → Option Value} {base : Heap} (T : Txt w K mg) (c_Fraction_2 : C_Fraction_2 P w K mg base) {fd : FuncData} (F : FunD K "__rsub__" "Fraction.__rsub__" (defArgs s_Fraction_rsub) (defBody s_Fraction_rsub) (defScope s_Fraction_rsub) [] [] (He.ma K (He.ga K "Fraction") "__rsub__") fd) : FnOk P w K mg base (L2N.CX P w) 4 (He.ma K (He.ga K "Fraction") "__rsub__") fd ["self", "other"] (spF K (aCons (rp (rFrac K)) (aCons (rp rInt) aNil)) (fun d => m_Fraction_rsub d.1 d.2.1) (rp (rFrac K))) := by
  refine FunD.fn (k := 3) (N := ["self", "other"]) (ps := ["self", "other"]) F sc_Fraction_rsub (fun I H vs d h => ?_) (fun cdv A outer s I0 H0 E vs d hr sm h => ?_)
  · obtain ⟨v0, _, rfl, h0, v1, _, rfl, h1, rfl⟩ := h; rfl
  obtain ⟨v0, _, rfl, h0, v1, _, rfl, h1, rfl⟩ := h
  have hx : ∀ {ctx : List (Option SF)} {mem : List MF} (I H : Hp) (σ : St) (d : Option Addr), Stt I0 H0 ctx mem I H σ → Fr H0 d → bK I0 H0 I H σ d := fun _ _ _ _ s f => ⟨s.fm, f⟩
  have tk : L2N.Takes (bx P w K mg base ["self", "other"] "Fraction.__rsub__" (defScope s_Fraction_rsub) (He.ma K (He.ga K "Fraction") "__rsub__") cdv A outer s H0 E) (bW E) := L2N.takes_of rfl rfl rfl rfl
  obtain ⟨p_self, p_other, _⟩ := d
  exact ⟨Stt I0 H0 [some (SF.mk (rFrac K) p_self), some (SF.mk rInt p_other)] [], Stt.start sm ⟨h0, h1, ini_nil rfl⟩ rfl (by simp), (JR.ifR (JT.not (JT.of (JE.isi (JE.var 1) (w_type_at T.n_int (by decide +kernel) rfl (by decide) (by decide)) (.ty _) (tyr_int (t := "int") (by decide +kernel)) T.n_isinstance))) JR.dead (JR.ret (JE.call (JA.cons (JE.bin (JE.bin (JE.var 1) (JE.fld (JE.var 0) fld_bottom T.o_Fraction.cl T.na_Fraction_bottom) opj_mul) (JE.fld (JE.var 0) fld_top T.o_Fraction.cl T.na_Fraction_top) opj_sub) (JA.cons (JE.fld (JE.var 0) fld_bottom T.o_Fraction.cl T.na_Fraction_bottom) JA.nil)) (c_Fraction_2 _ _ rfl rfl rfl rfl rfl (hr.mono (by decide)) tk) T.g_Fraction T.mk_Fraction.kp) hx) hx)⟩
theorem fn_Fraction_rsub {P : Program} {w : World} {K : PySem.W.Frag} {mg : Str → Option Value} {base : Heap} (T : Txt w K mg) (c_Fraction_2 : C_Fraction_2 P w K mg base) : FnR P w K mg base (L2N.CX P w) 4 (He.ma K (He.ga K "Fraction") "__rsub__") (spF K (aCons (rp (rFrac K)) (aCons (rp rInt) aNil)) (fun d => m_Fraction_rsub d.1 d.2.1) (rp (rFrac K))) := by
  obtain ⟨fd, F⟩ := T.F_Fraction_rsub
  exact FnOk.fr0 (ok_Fraction_rsub T c_Fraction_2 F) (F.bindsN fun _ _ _ _ _ _ us hl => match us, hl with | [_, _], _ => rfl)
theorem nice_Fraction_rsub : ∀ d : Rat × Int × Unit, qRsub d.1 d.2.1 = .stuck ∨ qRsub d.1 d.2.1 = m_Fraction_rsub d.1 d.2.1 := fun ⟨x, n, _⟩ => by
  refine stuck_or fun h => ?_
  obtain ⟨hx, hn⟩ := h
  dsimp only at hx ⊢
  have hn := fits_int.mp hn
  simp only [m_Fraction_rsub, Res.ok_bind, Bool.not_true, Bool.not_false, Bool.false_eq_true, if_true, if_false, mul_fit hn (fd hx), mul_fit hn hx.1, qMk_d hx]
  exact congrArg Res.ok (by have h := congrArg (fun z : Rat => -z) (sub_div1 x n); simp only [Rat.neg_divInt] at h; rw [Int.neg_sub, Rat.neg_sub] at h; exact h.symm)
theorem sc_Fraction_over : FnScope ["self", "other", "divisor"] ["self", "other"] (defScope s_Fraction_over) := ⟨rfl, rfl, rfl, by decide +kernel, rfl, by decide +kernel, by decide +kernel⟩
def m_Fraction_over (p_self : Rat) (p_other : Num) : Res Rat :=
  (match p_other with | .i p_other_i => (((((Res.ok p_other_i).bind fun a606 => .ok (Num.i a606)).bind fun a607 => (Res.ok ()).bind fun b608 => .ok (a607, b608)).bind (fun d => qAs d.1)).bind fun v_divisor_605 => ((((Res.ok v_divisor_605).bind fun a609 => .ok a609.num).bind fun a610 => (Res.ok (0 : Int)).bind fun b611 => .ok (decide (a610 = b611))).bind fun x612 => if x612 = true then (Res.err ⟨"BadFraction", []⟩) else (((((Res.ok p_self).bind fun a613 => .ok a613.num).bind fun a615 => ((Res.ok v_divisor_605).bind fun a614 => .ok (a614.den : Int)).bind fun b616 => mulI a615 b616).bind fun a625 => ((((Res.ok p_self).bind fun a618 => .ok (a618.den : Int)).bind fun a620 => ((Res.ok v_divisor_605).bind fun a619 => .ok a619.num).bind fun b621 => mulI a620 b621).bind fun a623 => (Res.ok ()).bind fun b624 => .ok (a623, b624)).bind fun b626 => .ok (a625, b626)).bind (fun d => qMk d.1 d.2.1)))) | .q p_other_q => (((((Res.ok p_other_q).bind fun a629 => .ok (Num.q a629)).bind fun a630 => (Res.ok ()).bind fun b631 => .ok (a630, b631)).bind (fun d => qAs d.1)).bind fun v_divisor_628 => ((((Res.ok v_divisor_628).bind fun a632 => .ok a632.num).bind fun a633 => (Res.ok (0 : Int)).bind fun b634 => .ok (decide (a633 = b634))).bind fun x635 => if x635 = true then (Res.err ⟨"BadFraction", []⟩) else (((((Res.ok p_self).bind fun a636 => .ok a636.num).bind fun a638 => ((Res.ok v_divisor_628).bind fun a637 => .ok (a637.den : Int)).bind fun b639 => mulI a638 b639).bind fun a648 => ((((Res.ok p_self).bind fun a641 => .ok (a641.den : Int)).bind fun a643 => ((Res.ok v_divisor_628).bind fun a642 => .ok a642.num).bind fun b644 => mulI a643 b644).bind fun a646 => (Res.ok ()).bind fun b647 => .ok (a646, b647)).bind fun b649 => .ok (a648, b649)).bind (fun d => qMk d.1 d.2.1)))))
abbrev C_Fraction_over (P : Program) (w : World) (K : PySem.W.Frag) (mg : Str → Option Value) (base : Heap) : Prop := FnR P w K mg base (L2N.CX P w) 5 (He.ma K (He.ga K "Fraction") "over") (spF K (aCons (rp (rFrac K)) (aCons (rp (rNum K)) aNil)) (fun d => qOver d.1 d.2.1) (rp (rFrac K)))
theorem ok_Fraction_over {P : Program} {w : World} {K : PySem.W.Frag} {mg : Str → Option Value} {base : Heap} (T : Txt w K mg) (c_as_fraction : C_as_fraction P w K mg base) (c_Fraction_2 : C_Fraction_2 P w K mg base) {fd : FuncData} (F : FunD K "over" "Fraction.over" (defArgs s_Fraction_over) (defBody s_Fraction_over) (defScope s_Fraction_over) [] [] (He.ma K (He.ga K "Fraction") "over") fd) : FnOk P w K mg base (L2N.CX P w) 5 (He.ma K (He.ga K "Fraction") "over") fd ["self", "other"] (spF K (aCons (rp (rFrac K)) (aCons (rp (rNum K)) aNil)) (fun d => m_Fraction_over d.1 d.2.1) (rp (rFrac K))) := by
  refine FunD.fn (k := 4) (N := ["self", "other", "divisor"]) (ps := ["self", "other"]) F sc_Fraction_over (fun I H vs d h => ?_) (fun cdv A outer s I0 H0 E vs d hr sm h => ?_)
  · obtain ⟨v0, _, rfl, h0, v1, _, rfl, h1, rfl⟩ := h; rfl
  obtain ⟨v0, _, rfl, h0, v1, _, rfl, h1, rfl⟩ := h
  have hx : ∀ {ctx : List (Option SF)} {mem : List MF} (I H : Hp) (σ : St) (d : Option Addr), Stt I0 H0 ctx mem I H σ → Fr H0 d → bK I0 H0 I H σ d := fun _ _ _ _ s f => ⟨s.fm, f⟩
  have tk : L2N.Takes (bx P w K mg base ["self", "other", "divisor"] "Fraction.over" (defScope s_Fraction_over) (He.ma K (He.ga K "Fraction") "over") cdv A outer s H0 E) (bW E) := L2N.takes_of rfl rfl rfl rfl
  obtain ⟨p_self, p_other, _⟩ := d
  exact ⟨Stt I0 H0 [some (SF.mk (rFrac K) p_self), some (SF.mk (rNum K) p_other), none] [], Stt.start sm ⟨h0, h1, ini_nil rfl⟩ rfl (by simp), (JR.num (K := K) 1 (fun p_other_i => JR.at (c' := [some (SF.mk (rFrac K) p_self), some (SF.mk rInt p_other_i), none]) (JR.seq (J1.cx (c' := fun v_divisor_605 => [some (SF.mk (rFrac K) p_self), some (SF.mk rInt p_other_i), some (SF.mk (rFrac K) v_divisor_605)]) (J1.set 2 (JE.call (JA.cons (JE.num (JE.var 1)) JA.nil) (cj_of c_as_fraction (hr.mono (by decide)) tk) T.g_as_fraction T.k_as_fraction) hx sc_Fraction_over.nd)) fun v_divisor_605 => (JR.ifR (JT.cmp (JE.fld (JE.var 2) fld_top T.o_Fraction.cl T.na_Fraction_top) JE.int opj_eq) (JR.raiseP rfl tk T.ex_BadFraction hx) (JR.ret (JE.call (JA.cons (JE.bin (JE.fld (JE.var 0) fld_top T.o_Fraction.cl T.na_Fraction_top) (JE.fld (JE.var 2) fld_bottom T.o_Fraction.cl T.na_Fraction_bottom) opj_mul) (JA.cons (JE.bin (JE.fld (JE.var 0) fld_bottom T.o_Fraction.cl T.na_Fraction_bottom) (JE.fld (JE.var 2) fld_top T.o_Fraction.cl T.na_Fraction_top) opj_mul) JA.nil)) (c_Fraction_2 _ _ rfl rfl rfl rfl rfl (hr.mono (by decide)) tk) T.g_Fraction T.mk_Fraction.kp) hx) hx))) (fun p_other_q => JR.at (c' := [some (SF.mk (rFrac K) p_self), some (SF.mk (rFrac K) p_other_q), none]) (JR.seq (J1.cx (c' := fun v_divisor_628 => [some (SF.mk (rFrac K) p_self), some (SF.mk (rFrac K) p_other_q), some (SF.mk (rFrac K) v_divisor_628)]) (J1.set 2 (JE.call (JA.cons (JE.numq (JE.var 1)) JA.nil) (cj_of c_as_fraction (hr.mono (by decide)) tk) T.g_as_fraction T.k_as_fraction) hx sc_Fraction_over.nd)) fun v_divisor_628 => (JR.ifR (JT.cmp (JE.fld (JE.var 2) fld_top T.o_Fraction.cl T.na_Fraction_top) JE.int opj_eq) (JR.raiseP rfl tk T.ex_BadFraction hx) (JR.ret (JE.call (JA.cons (JE.bin (JE.fld (JE.var 0) fld_top T.o_Fraction.cl T.na_Fraction_top) (JE.fld (JE.var 2) fld_bottom T.o_Fraction.cl T.na_Fraction_bottom) opj_mul) (JA.cons (JE.bin (JE.fld (JE.var 0) fld_bottom T.o_Fraction.cl T.na_Fraction_bottom) (JE.fld (JE.var 2) fld_top T.o_Fraction.cl T.na_Fraction_top) opj_mul) JA.nil)) (c_Fraction_2 _ _ rfl rfl rfl rfl rfl (hr.mono (by decide)) tk) T.g_Fraction T.mk_Fraction.kp) hx) hx))))⟩
theorem fn_Fraction_over {P : Program} {w : World} {K : PySem.W.Frag} {mg : Str → Option Value} {base : Heap} (T : Txt w K mg) (c_as_fraction : C_as_fraction P w K mg base) (c_Fraction_2 : C_Fraction_2 P w K mg base) : FnR P w K mg base (L2N.CX P w) 5 (He.ma K (He.ga K "Fraction") "over") (spF K (aCons (rp (rFrac K)) (aCons (rp (rNum K)) aNil)) (fun d => m_Fraction_over d.1 d.2.1) (rp (rFrac K))) := by
  obtain ⟨fd, F⟩ := T.F_Fraction_over
  exact FnOk.fr0 (ok_Fraction_over T c_as_fraction c_Fraction_2 F) (F.bindsN fun _ _ _ _ _ _ us hl => match us, hl with | [_, _], _ => rfl)
theorem nice_Fraction_over : ∀ d : Rat × Num × Unit, qOver d.1 d.2.1 = .stuck ∨ qOver d.1 d.2.1 = m_Fraction_over d.1 d.2.1 := fun ⟨x, y, _⟩ => by
  refine stuck_or fun h => ?_
  obtain ⟨hx, hy⟩ := h
  dsimp only at hx hy ⊢
  cases y with
  | i n =>
      simp only [m_Fraction_over, Res.ok_bind, qAs]
      by_cases h : (Num.i n).val = 0
      · rw [if_pos h, if_pos (decide_eq_true (num_zero.mpr h))]; rfl
      · rw [if_neg h, if_neg (by simpa [num_zero] using h), mul_fit hx.1 (fd hy), mul_fit (fd hx) hy.1]
        simp only [Res.ok_bind]
        rw [qMk_dn hx hy h, div_divs x _ h]
  | q y =>
      simp only [m_Fraction_over, Res.ok_bind, qAs]
      by_cases h : (Num.q y).val = 0
      · rw [if_pos h, if_pos (decide_eq_true (num_zero.mpr h))]; rfl
      · rw [if_neg h, if_neg (by simpa [num_zero] using h), mul_fit hx.1 (fd hy), mul_fit (fd hx) hy.1]
        simp only [Res.ok_bind]
        rw [qMk_dn hx hy h, div_divs x _ h]
theorem sc_Fraction_mul : FnScope ["self", "other"] ["self", "other"] (defScope s_Fraction_mul) := ⟨rfl, rfl, rfl, by decide +kernel, rfl, by decide +kernel, by decide +kernel⟩
def m_Fraction_mul (p_self : Rat) (p_other : Num) : Res Rat :=
  (match p_other with | .i p_other_i => (((Res.ok p_other_i).bind fun a651 => .ok true).bind fun x652 => if x652 = true then (((((Res.ok p_self).bind fun a653 => .ok a653.num).bind fun a654 => (Res.ok p_other_i).bind fun b655 => mulI a654 b655).bind fun a661 => (((Res.ok p_self).bind fun a657 => .ok (a657.den : Int)).bind fun a659 => (Res.ok ()).bind fun b660 => .ok (a659, b660)).bind fun b662 => .ok (a661, b662)).bind (fun d => qMk d.1 d.2.1)) else .stuck) | .q p_other_q => (((Res.ok p_other_q).bind fun a664 => .ok false).bind fun x665 => if x665 = true then .stuck else ((((Res.ok p_other_q).bind fun a666 => .ok true).bind fun a667 => .ok (!a667)).bind fun x668 => if x668 = true then .stuck else (((((Res.ok p_self).bind fun a669 => .ok a669.num).bind fun a671 => ((Res.ok p_other_q).bind fun a670 => .ok a670.num).bind fun b672 => mulI a671 b672).bind fun a681 => ((((Res.ok p_self).bind fun a674 => .ok (a674.den : Int)).bind fun a676 => ((Res.ok p_other_q).bind fun a675 => .ok (a675.den : Int)).bind fun b677 => mulI a676 b677).bind fun a679 => (Res.ok ()).bind fun b680 => .ok (a679, b680)).bind fun b682 => .ok (a681, b682)).bind (fun d => qMk d.1 d.2.1)))))
abbrev C_Fraction_mul (P : Program) (w : World) (K : PySem.W.Frag) (mg : Str → Option Value) (base : Heap) : Prop := FnR P w K mg base (L2N.CX P w) 4 (He.ma K (He.ga K "Fraction") "__mul__") (spF K (aCons (rp (rFrac K)) (aCons (rp (rNum K)) aNil)) (fun d => qMul d.1 d.2.1) (rp (rFrac K)))
theorem ok_Fraction_mul {P : Program} {w : World} {K : PySem.W.Frag} {mg : Str → Option Value} {base : Heap} (T : Txt w K mg) (c_Fraction_2 : C_Fraction_2 P w K mg base) {fd : FuncData} (F : FunD K "__mul__" "Fraction.__mul__" (defArgs s_Fraction_mul) (defBody s_Fraction_mul) (defScope s_Fraction_mul) [] [] (He.ma K (He.ga K "Fraction") "__mul__") fd) : FnOk P w K mg base (L2N.CX P w) 4 (He.ma K (He.ga K "Fraction") "__mul__") fd ["self", "other"] (spF K (aCons (rp (rFrac K)) (aCons (rp (rNum K)) aNil)) (fun d => m_Fraction_mul d.1 d.2.1) (rp (rFrac K))) := by
  refine FunD.fn (k := 3) (N := ["self", "other"]) (ps := ["self", "other"]) F sc_Fraction_mul (fun I H vs d h => ?_) (fun cdv A outer s I0 H0 E vs d hr sm h => ?_)
  · obtain ⟨v0, _, rfl, h0, v1, _, rfl, h1, rfl⟩ := h; rfl
  obtain ⟨v0, _, rfl, h0, v1, _, rfl, h1, rfl⟩ := h
  have hx : ∀ {ctx : List (Option SF)} {mem : List MF} (I H : Hp) (σ : St) (d : Option Addr), Stt I0 H0 ctx mem I H σ → Fr H0 d → bK I0 H0 I H σ d := fun _ _ _ _ s f => ⟨s.fm, f⟩
  have tk : L2N.Takes (bx P w K mg base ["self", "other"] "Fraction.__mul__" (defScope s_Fraction_mul) (He.ma K (He.ga K "Fraction") "__mul__") cdv A outer s H0 E) (bW E) := L2N.takes_of rfl rfl rfl rfl
  obtain ⟨p_self, p_other, _⟩ := d
  exact ⟨Stt I0 H0 [some (SF.mk (rFrac K) p_self), some (SF.mk (rNum K) p_other)] [], Stt.start sm ⟨h0, h1, ini_nil rfl⟩ rfl (by simp), (JR.num (K := K) 1 (fun p_other_i => JR.at (c' := [some (SF.mk (rFrac K) p_self), some (SF.mk rInt p_other_i)]) (JR.ifR (JT.of (JE.isi (JE.var 1) (w_type_at T.n_int (by decide +kernel) rfl (by decide) (by decide)) (.ty _) (tyr_int (t := "int") (by decide +kernel)) T.n_isinstance)) (JR.ret (JE.call (JA.cons (JE.bin (JE.fld (JE.var 0) fld_top T.o_Fraction.cl T.na_Fraction_top) (JE.var 1) opj_mul) (JA.cons (JE.fld (JE.var 0) fld_bottom T.o_Fraction.cl T.na_Fraction_bottom) JA.nil)) (c_Fraction_2 _ _ rfl rfl rfl rfl rfl (hr.mono (by decide)) tk) T.g_Fraction T.mk_Fraction.kp) hx) JR.dead hx)) (fun p_other_q => JR.at (c' := [some (SF.mk (rFrac K) p_self), some (SF.mk (rFrac K) p_other_q)]) (JR.ifR (JT.of (JE.isi (JE.var 1) (w_type_at T.n_int (by decide +kernel) rfl (by decide) (by decide)) (.ty _) (tyr_ins T.o_Fraction insF T.kT_Fraction_int) T.n_isinstance)) JR.dead (JR.ifR (JT.not (JT.of (JE.isi (JE.var 1) (w_glob_at T.g_Fraction rfl (by decide)) (.own _) (tyr_ins T.o_Fraction insF T.kt_Fraction_Fraction) T.n_isinstance))) JR.dead (JR.ret (JE.call (JA.cons (JE.bin (JE.fld (JE.var 0) fld_top T.o_Fraction.cl T.na_Fraction_top) (JE.fld (JE.var 1) fld_top T.o_Fraction.cl T.na_Fraction_top) opj_mul) (JA.cons (JE.bin (JE.fld (JE.var 0) fld_bottom T.o_Fraction.cl T.na_Fraction_bottom) (JE.fld (JE.var 1) fld_bottom T.o_Fraction.cl T.na_Fraction_bottom) opj_mul) JA.nil)) (c_Fraction_2 _ _ rfl rfl rfl rfl rfl (hr.mono (by decide)) tk) T.g_Fraction T.mk_Fraction.kp) hx) hx) hx)))⟩
theorem fn_Fraction_mul {P : Program} {w : World} {K : PySem.W.Frag} {mg : Str → Option Value} {base : Heap} (T : Txt w K mg) (c_Fraction_2 : C_Fraction_2 P w K mg base) : FnR P w K mg base (L2N.CX P w) 4 (He.ma K (He.ga K "Fraction") "__mul__") (spF K (aCons (rp (rFrac K)) (aCons (rp (rNum K)) aNil)) (fun d => m_Fraction_mul d.1 d.2.1) (rp (rFrac K))) := by
  obtain ⟨fd, F⟩ := T.F_Fraction_mul
  exact FnOk.fr0 (ok_Fraction_mul T c_Fraction_2 F) (F.bindsN fun _ _ _ _ _ _ us hl => match us, hl with | [_, _], _ => rfl)
theorem nice_Fraction_mul : ∀ d : Rat × Num × Unit, qMul d.1 d.2.1 = .stuck ∨ qMul d.1 d.2.1 = m_Fraction_mul d.1 d.2.1 := fun ⟨x, y, _⟩ => by
  cases y with
  | i n =>
      refine stuck_or fun h => ?_
      obtain ⟨hx, hn⟩ := h
      dsimp only at hx ⊢
      have hn := fits_int.mp hn
      simp only [m_Fraction_mul, Res.ok_bind, Bool.not_true, Bool.not_false, Bool.false_eq_true, if_true, if_false, mul_fit hn (fd hx), mul_fit hx.1 hn, qMk_d hx, mul_div1]
      rfl
  | q y =>
      refine stuck_or fun h => ?_
      obtain ⟨hx, hy⟩ := h
      dsimp only at hx ⊢
      have hy : fits y := hy
      simp only [m_Fraction_mul, Res.ok_bind, Bool.not_true, Bool.not_false, Bool.false_eq_true, if_true, if_false, mul_fit hx.1 (fd hy), mul_fit hy.1 (fd hx), mul_fit (fd hx) (fd hy), mul_fit hx.1 hy.1, qMk_dd hx hy, mul_divs]
      rfl
theorem sc_common_multiple : FnScope ["numbers", "result", "number"] ["numbers"] (defScope s_common_multiple) := ⟨rfl, rfl, rfl, by decide +kernel, rfl, by decide +kernel, by decide +kernel⟩
def m_common_multiple (p_numbers : (List Int)) : Res Int :=
  ((Res.ok (1 : Int)).bind fun v_result_684 => (((Res.ok p_numbers).bind fun l698 => forS (fun (i686 : Int) (s685 : Int) => ((((Res.ok s685).bind fun a688 => (Res.ok i686).bind fun b689 => mulI a688 b689).bind fun a696 => (((Res.ok s685).bind fun a694 => ((Res.ok i686).bind fun a692 => (Res.ok ()).bind fun b693 => .ok (a692, b693)).bind fun b695 => .ok (a694, b695)).bind (fun d => n_cd d.1 d.2.1)).bind fun b697 => fdivI a696 b697).bind fun v_result_687 => (Res.ok v_result_687))) l698 v_result_684).bind fun s685 => (Res.ok s685)))
abbrev C_common_multiple (P : Program) (w : World) (K : PySem.W.Frag) (mg : Str → Option Value) (base : Heap) : Prop := FnR P w K mg base (L2N.CX P w) 2 (He.ga K "common_multiple") (spF K (aCons (rdL K (rp rInt)) aNil) (fun d => m_common_multiple d.1) (rp rInt))
theorem ok_common_multiple {P : Program} {w : World} {K : PySem.W.Frag} {mg : Str → Option Value} {base : Heap} (T : Txt w K mg) (c_common_divisor : C_common_divisor P w K mg base) {fd : FuncData} (F : FunD K "common_multiple" "common_multiple" (defArgs s_common_multiple) (defBody s_common_multiple) (defScope s_common_multiple) [] [] (He.ga K "common_multiple") fd) : FnOk P w K mg base (L2N.CX P w) 2 (He.ga K "common_multiple") fd ["numbers"] (spF K (aCons (rdL K (rp rInt)) aNil) (fun d => m_common_multiple d.1) (rp rInt)) := by
  refine FunD.fn (k := 1) (N := ["numbers", "result", "number"]) (ps := ["numbers"]) F sc_common_multiple (fun I H vs d h => ?_) (fun cdv A outer s I0 H0 E vs d hr sm h => ?_)
  · obtain ⟨v0, _, rfl, h0, rfl⟩ := h; rfl
  obtain ⟨v0, _, rfl, h0, rfl⟩ := h
  have hx : ∀ {ctx : List (Option SF)} {mem : List MF} (I H : Hp) (σ : St) (d : Option Addr), Stt I0 H0 ctx mem I H σ → Fr H0 d → bK I0 H0 I H σ d := fun _ _ _ _ s f => ⟨s.fm, f⟩
  have tk : L2N.Takes (bx P w K mg base ["numbers", "result", "number"] "common_multiple" (defScope s_common_multiple) (He.ga K "common_multiple") cdv A outer s H0 E) (bW E) := L2N.takes_of rfl rfl rfl rfl
  have hp : PassesOwn (model P w) (bx P w K mg base ["numbers", "result", "number"] "common_multiple" (defScope s_common_multiple) (He.ga K "common_multiple") cdv A outer s H0 E).A (bx P w K mg base ["numbers", "result", "number"] "common_multiple" (defScope s_common_multiple) (He.ga K "common_multiple") cdv A outer s H0 E).env (bx P w K mg base ["numbers", "result", "number"] "common_multiple" (defScope s_common_multiple) (He.ga K "common_multiple") cdv A outer s H0 E).xe := passes_of rfl
  obtain ⟨p_numbers, _⟩ := d
  exact ⟨Stt I0 H0 [some (SF.mk (fun I v x => (rdL K (rp rInt)) I H0 v x) p_numbers), none, none] [], Stt.start sm ⟨h0, ini_nil rfl⟩ rfl (by simp), (JR.seq (J1.cx (c' := fun v_result_684 => [some (SF.mk (fun I v x => (rdL K (rp rInt)) I H0 v x) p_numbers), some (SF.mk rInt v_result_684), none]) (J1.set 1 JE.int hx sc_common_multiple.nd)) fun v_result_684 => (JR.seq (J1.forS (S := Int) (cx := fun s685 => [some (SF.mk (fun I v x => (rdL K (rp rInt)) I H0 v x) p_numbers), some (SF.mk rInt s685), none]) (me := fun s685 => []) (s0 := v_result_684) 2 hp (JI.par 0) (fun i686 s685 => JN.at (c' := [some (SF.mk (fun I v x => (rdL K (rp rInt)) I H0 v x) p_numbers), some (SF.mk rInt s685), some (SF.mk rInt i686)]) (JN.seq (J1.cx (c' := fun v_result_687 => [some (SF.mk (fun I v x => (rdL K (rp rInt)) I H0 v x) p_numbers), some (SF.mk rInt v_result_687), some (SF.mk rInt i686)]) (J1.set 1 (JE.bin (JE.bin (JE.var 1) (JE.var 2) opj_mul) (JE.call (JA.cons (JE.var 1) (JA.cons (JE.var 2) JA.nil)) (cj_of c_common_divisor (hr.mono (by decide)) tk) T.g_common_divisor T.k_common_divisor) opj_fdiv) hx sc_common_multiple.nd)) fun v_result_687 => (JN.nil (fun _ _ _ h => (Stt.weak h (weak_some (weak_some (weak_none weak_nil)))))))) hx (weak_some (weak_some (weak_none weak_nil))) sc_common_multiple.nd) fun s685 => (JR.ret (JE.var 1) hx)))⟩
theorem fn_common_multiple {P : Program} {w : World} {K : PySem.W.Frag} {mg : Str → Option Value} {base : Heap} (T : Txt w K mg) (c_common_divisor : C_common_divisor P w K mg base) : FnR P w K mg base (L2N.CX P w) 2 (He.ga K "common_multiple") (spF K (aCons (rdL K (rp rInt)) aNil) (fun d => m_common_multiple d.1) (rp rInt)) := by
  obtain ⟨fd, F⟩ := T.F_common_multiple
  exact FnOk.fr0 (ok_common_multiple T c_common_divisor F) (F.bindsN fun _ _ _ _ _ _ us hl => match us, hl with | [_], _ => rfl)
theorem sc_BadWeb_init : FnScope ["self", "reason"] ["self", "reason"] (defScope s_BadWeb_init) := ⟨rfl, rfl, rfl, by decide +kernel, rfl, by decide +kernel, by decide +kernel⟩
abbrev C_err_BadWeb (P : Program) (w : World) (K : PySem.W.Frag) (mg : Str → Option Value) (base : Heap) : Prop := ErR1 P w K mg base "BadWeb" "reason"
theorem fn_err_BadWeb {P : Program} {w : World} {K : PySem.W.Frag} {mg : Str → Option Value} {base : Heap} (T : Txt w K mg) : C_err_BadWeb P w K mg base := by
  obtain ⟨fd, F⟩ := T.F_BadWeb_init
  exact ⟨T.ev_BadWeb, fd, ["self", "reason"], init1 F sc_BadWeb_init rfl T.ev_BadWeb.oex (T.ev_BadWeb.no _ (by simp)) (by first | exact Or.inl rfl | exact Or.inr (Or.inl rfl) | exact Or.inr (Or.inr rfl)) (by first | exact Or.inl rfl | exact Or.inr (Or.inl rfl) | exact Or.inr (Or.inr rfl)) (by decide) (by decide), F.bindsN fun _ _ _ _ _ _ us hl => match us, hl with | [_, _], _ => rfl⟩
theorem sc_checked_leaks : FnScope ["leaks", "size", "reason", "leak"] ["leaks", "size", "reason"] (defScope s_checked_leaks) := ⟨rfl, rfl, rfl, by decide +kernel, rfl, by decide +kernel, by decide +kernel⟩
def m_checked_leaks (p_leaks : (List Int)) (p_size : Int) (p_reason : Str) : Res (List Int) :=
  (((((Res.ok p_leaks).bind fun a961 => (Res.ok ()).bind fun b962 => .ok (a961, b962)).bind (fun d => .ok (d.1.length : Int))).bind fun a963 => (Res.ok (0 : Int)).bind fun b964 => .ok (decide (a963 = b964))).bind fun x965 => if x965 = true then (((Res.ok (0 : Int)).bind fun a967 => (Res.ok []).bind fun b968 => .ok (a967 :: b968)).bind fun a969 => (Res.ok p_size).bind fun b970 => repM a969 b970) else ((((((Res.ok p_leaks).bind fun a971 => (Res.ok ()).bind fun b972 => .ok (a971, b972)).bind (fun d => .ok (d.1.length : Int))).bind fun a973 => (Res.ok p_size).bind fun b974 => .ok (!decide (a973 = b974))).bind fun a984 => if a984 = true then .ok true else ((((Res.ok p_leaks).bind fun l980 => lcR (fun (i975 : Int) => ((Res.ok i975).bind fun a977 => (Res.ok (0 : Int)).bind fun b978 => .ok (decide (a977 < b978)))) l980).bind fun a982 => (Res.ok ()).bind fun b983 => .ok (a982, b983)).bind (fun d => .ok (d.1.any id)))).bind fun x985 => if x985 = true then (((Res.ok p_reason).bind fun y987 => Res.err ⟨"BadWeb", [("reason", Pay.str y987)]⟩)) else ((Res.ok p_leaks).bind fun a988 => .ok a988)))
abbrev C_checked_leaks (P : Program) (w : World) (K : PySem.W.Frag) (mg : Str → Option Value) (base : Heap) : Prop := FnR P w K mg base (L2N.CX P w) 3 (He.ga K "checked_leaks") (spN K (aCons (rSq K (rp rInt)) (aCons (rp rInt) (aCons (rp rStr) aNil))) (fun d => m_checked_leaks d.1 d.2.1 d.2.2.1) rInt)
theorem ok_checked_leaks {P : Program} {w : World} {K : PySem.W.Frag} {mg : Str → Option Value} {base : Heap} (T : Txt w K mg) (c_err_BadWeb : C_err_BadWeb P w K mg base) {fd : FuncData} (F : FunD K "checked_leaks" "checked_leaks" (defArgs s_checked_leaks) (defBody s_checked_leaks) (defScope s_checked_leaks) [] [] (He.ga K "checked_leaks") fd) : FnOk P w K mg base (L2N.CX P w) 3 (He.ga K "checked_leaks") fd ["leaks", "size", "reason"] (spN K (aCons (rSq K (rp rInt)) (aCons (rp rInt) (aCons (rp rStr) aNil))) (fun d => m_checked_leaks d.1 d.2.1 d.2.2.1) rInt) := by
  refine FunD.fnN (k := 2) (N := ["leaks", "size", "reason", "leak"]) (ps := ["leaks", "size", "reason"]) F sc_checked_leaks (fun I H vs d h => ?_) (fun cdv A outer s I0 H0 E vs d hr sm h => ?_)
  · obtain ⟨v0, _, rfl, h0, v1, _, rfl, h1, v2, _, rfl, h2, rfl⟩ := h; rfl
  obtain ⟨v0, _, rfl, h0, v1, _, rfl, h1, v2, _, rfl, h2, rfl⟩ := h
  have hx : ∀ {ctx : List (Option SF)} {mem : List MF} (I H : Hp) (σ : St) (d : Option Addr), Stt I0 H0 ctx mem I H σ → Fr H0 d → bK I0 H0 I H σ d := fun _ _ _ _ s f => ⟨s.fm, f⟩
  have tk : L2N.Takes (bx P w K mg base ["leaks", "size", "reason", "leak"] "checked_leaks" (defScope s_checked_leaks) (He.ga K "checked_leaks") cdv A outer s H0 E) (bW E) := L2N.takes_of rfl rfl rfl rfl
  obtain ⟨p_leaks, p_size, p_reason, _⟩ := d
  exact ⟨Stt I0 H0 [some (SF.mk (fun I v x => (rSq K (rp rInt)) I H0 v x) p_leaks), some (SF.mk rInt p_size), some (SF.mk rStr p_reason), none] [], Stt.start sm ⟨h0, h1, h2, ini_nil rfl⟩ rfl (by simp), (JR.ifR (JT.cmp (JE.callB (JA.cons (JE.varP 0 (r := (rSq K (rp rInt)))) JA.nil) cj_lenS T.n_len boot_len) JE.int opj_eq) (JR.retM (JM.rep (JE.hp (JE.ofM (JM.lst (r := rInt) (JA.consL JE.int JA.nilL)))) (JE.var 1)) hx) (JR.ifR (JT.bool (JW.or (JT.cmp (JE.callB (JA.cons (JE.varP 0 (r := (rSq K (rp rInt)))) JA.nil) cj_lenS T.n_len boot_len) (JE.var 1) opj_ne) (JW.or1 (JT.of (JE.callB (JA.cons (JE.rd (JE.ofM (JM.lcT (r := rBl) 3 (JI.parS 0) (fun _ _ _ _ _ D acc i975 tk976 => (JE.at (c' := [some (SF.mk (fun I v x => (rSq K (rp rInt)) I H0 v x) p_leaks), some (SF.mk rInt p_size), some (SF.mk rStr p_reason), some (SF.mk rInt i975)]) (JE.cmp (JE.var 3) JE.int opj_lt))) sc_checked_leaks.nd (blkok_of (by kernel_rfl))))) JA.nil) (cj_any rfl) T.n_any boot_any))))) (JR.raise1 (pay := Pay.str) rfl tk c_err_BadWeb (hr.mono (by decide)) (JE.var 2) pay_str hx) (JR.retM (JM.listS (JE.varP 0 (r := (rSq K (rp rInt)))) T.n_list) hx) hx) hx)⟩
theorem fn_checked_leaks {P : Program} {w : World} {K : PySem.W.Frag} {mg : Str → Option Value} {base : Heap} (T : Txt w K mg) (c_err_BadWeb : C_err_BadWeb P w K mg base) : FnR P w K mg base (L2N.CX P w) 3 (He.ga K "checked_leaks") (spN K (aCons (rSq K (rp rInt)) (aCons (rp rInt) (aCons (rp rStr) aNil))) (fun d => m_checked_leaks d.1 d.2.1 d.2.2.1) rInt) := by
  obtain ⟨fd, F⟩ := T.F_checked_leaks
  exact FnOk.frN0 (ok_checked_leaks T c_err_BadWeb F) (F.bindsN fun _ _ _ _ _ _ us hl => match us, hl with | [_, _, _], _ => rfl)
theorem sc_Web_init : FnScope ["self", "widths", "room_leaks", "passage_leaks", "rows", "row", "size", "width", "i", "c"] ["self", "widths", "room_leaks", "passage_leaks"] (defScope s_Web_init) := ⟨rfl, rfl, rfl, by decide +kernel, rfl, by decide +kernel, by decide +kernel⟩
def m_Web_init (p_widths : (List (List Int))) (p_room_leaks : (List Int)) (p_passage_leaks : (List Int)) : Res O_Web :=
  (((((Res.ok p_widths).bind fun a815 => (Res.ok ()).bind fun b816 => .ok (a815, b816)).bind (fun d => .ok (d.1.length : Int))).bind fun a817 => (Res.ok (0 : Int)).bind fun b818 => .ok (decide (a817 = b818))).bind fun x819 => if x819 = true then (((Res.ok ("rooms" : Str)).bind fun y821 => Res.err ⟨"BadWeb", [("reason", Pay.str y821)]⟩)) else (((Res.ok p_widths).bind fun l827 => lcR (fun (i823 : (List Int)) => ((Res.ok i823).bind fun a825 => .ok a825)) l827).bind fun v_rows_822 => (((((Res.ok v_rows_822).bind fun a829 => (Res.ok (0 : Int)).bind fun b830 => atM a829 b830).bind fun a832 => (Res.ok ()).bind fun b833 => .ok (a832, b833)).bind (fun d => .ok (d.1.length : Int))).bind fun v_size_828 => (((((Res.ok v_rows_822).bind fun l842 => lcR (fun (i834 : (List Int)) => ((((Res.ok i834).bind fun a837 => (Res.ok ()).bind fun b838 => .ok (a837, b838)).bind (fun d => .ok (d.1.length : Int))).bind fun a839 => (Res.ok v_size_828).bind fun b840 => .ok (!decide (a839 = b840)))) l842).bind fun a844 => (Res.ok ()).bind fun b845 => .ok (a844, b845)).bind (fun d => .ok (d.1.any id))).bind fun x846 => if x846 = true then (((Res.ok ("uneven" : Str)).bind fun y848 => Res.err ⟨"BadWeb", [("reason", Pay.str y848)]⟩)) else (((((Res.ok v_rows_822).bind fun l855 => lcR2 (fun (i849 : (List Int)) => (Res.ok i849)) (fun (i849 : (List Int)) (i850 : Int) => ((Res.ok i850).bind fun a852 => (Res.ok (0 : Int)).bind fun b853 => .ok (decide (a852 < b853)))) l855).bind fun a857 => (Res.ok ()).bind fun b858 => .ok (a857, b858)).bind (fun d => .ok (d.1.any id))).bind fun x859 => if x859 = true then (((Res.ok ("negative" : Str)).bind fun y861 => Res.err ⟨"BadWeb", [("reason", Pay.str y861)]⟩)) else ((((Res.ok v_rows_822).bind fun a863 => (Res.ok ()).bind fun b864 => .ok (a863, b864)).bind (fun d => .ok (d.1.length : Int))).bind fun v_rooms_866 => ((Res.ok v_size_828).bind fun v_passages_868 => ((Res.ok v_rows_822).bind fun v_joints_870 => ((((Res.ok p_room_leaks).bind fun a881 => ((((Res.ok v_rows_822).bind fun a873 => (Res.ok ()).bind fun b874 => .ok (a873, b874)).bind (fun d => .ok (d.1.length : Int))).bind fun a879 => ((Res.ok ("room_leaks" : Str)).bind fun a877 => (Res.ok ()).bind fun b878 => .ok (a877, b878)).bind fun b880 => .ok (a879, b880)).bind fun b882 => .ok (a881, b882)).bind (fun d => m_checked_leaks d.1 d.2.1 d.2.2.1)).bind fun v_from_rooms_884 => ((((Res.ok p_passage_leaks).bind fun a892 => ((Res.ok v_size_828).bind fun a890 => ((Res.ok ("passage_leaks" : Str)).bind fun a888 => (Res.ok ()).bind fun b889 => .ok (a888, b889)).bind fun b891 => .ok (a890, b891)).bind fun b893 => .ok (a892, b893)).bind (fun d => m_checked_leaks d.1 d.2.1 d.2.2.1)).bind fun v_from_passages_895 => ((((((Res.ok v_rows_822).bind fun a897 => (Res.ok ()).bind fun b898 => .ok (a897, b898)).bind (fun d => .ok (d.1.length : Int))).bind fun a899 => rangeM1 a899).bind fun l912 => lcR (fun (i900 : Int) => (((((Res.ok v_rows_822).bind fun a902 => (Res.ok i900).bind fun b903 => atM a902 b903).bind fun a905 => (Res.ok ()).bind fun b906 => .ok (a905, b906)).bind (fun d => .ok d.1.sum)).bind fun a909 => ((Res.ok v_from_rooms_884).bind fun a907 => (Res.ok i900).bind fun b908 => atM a907 b908).bind fun b910 => .ok (a909 + b910))) l912).bind fun v_room_totals_914 => ((((Res.ok v_size_828).bind fun a915 => rangeM1 a915).bind fun l932 => lcR (fun (i916 : Int) => (((((Res.ok v_rows_822).bind fun l923 => lcR (fun (i918 : (List Int)) => ((Res.ok i918).bind fun a920 => (Res.ok i916).bind fun b921 => atM a920 b921)) l923).bind fun a925 => (Res.ok ()).bind fun b926 => .ok (a925, b926)).bind (fun d => .ok d.1.sum)).bind fun a929 => ((Res.ok v_from_passages_895).bind fun a927 => (Res.ok i916).bind fun b928 => atM a927 b928).bind fun b930 => .ok (a929 + b930))) l932).bind fun v_passage_totals_934 => (((Res.ok (0 : Int)).bind fun a938 => (Res.ok v_room_totals_914).bind fun b939 => .ok (b939.contains a938)).bind fun x940 => if x940 = true then (((Res.ok ("room" : Str)).bind fun y942 => Res.err ⟨"BadWeb", [("reason", Pay.str y942)]⟩)) else (((Res.ok (0 : Int)).bind fun a946 => (Res.ok v_passage_totals_934).bind fun b947 => .ok (b947.contains a946)).bind fun x948 => if x948 = true then (((Res.ok ("passage" : Str)).bind fun y950 => Res.err ⟨"BadWeb", [("reason", Pay.str y950)]⟩)) else ((((Res.ok v_room_totals_914).bind fun a952 => (Res.ok ()).bind fun b953 => .ok (a952, b953)).bind (fun d => m_common_multiple d.1)).bind fun v_room_scale_955 => ((((Res.ok v_passage_totals_934).bind fun a957 => (Res.ok ()).bind fun b958 => .ok (a957, b958)).bind (fun d => m_common_multiple d.1)).bind fun v_passage_scale_960 => (Res.ok (O_Web.mk v_rooms_866 v_passages_868 v_joints_870 v_from_rooms_884 v_from_passages_895 v_room_totals_914 v_passage_totals_934 v_room_scale_955 v_passage_scale_960))))))))))))))))))
theorem in_Web {P : Program} {w : World} {K : PySem.W.Frag} {mg : Str → Option Value} {base : Heap} (T : Txt w K mg) (c_err_BadWeb : C_err_BadWeb P w K mg base) (c_checked_leaks : C_checked_leaks P w K mg base) (c_common_multiple : C_common_multiple P w K mg base) {fd : FuncData} (F : FunD K "__init__" "Web.__init__" (defArgs s_Web_init) (defBody s_Web_init) (defScope s_Web_init) [] [("room_leaks", .ref ((kwAt (fun K => (He.ma K (He.ga K "Web") "__init__")) "room_leaks") K)), ("passage_leaks", .ref ((kwAt (fun K => (He.ma K (He.ga K "Web") "__init__")) "passage_leaks") K))] (He.ma K (He.ga K "Web") "__init__") fd) : FnOk P w K mg base (L2N.CX P w) 4 (He.ma K (He.ga K "Web") "__init__") fd ["self", "widths", "room_leaks", "passage_leaks"] (spI K (He.ga K "Web") (aCons (rSq K (rp (rL rInt))) (aCons (rSq K (rp rInt)) (aCons (rSq K (rp rInt)) aNil))) (fun d => m_Web_init d.1 d.2.1 d.2.2.1) (rp (r_Web K))) := by
  refine FunD.initI (k := 3) (N := ["self", "widths", "room_leaks", "passage_leaks", "rows", "row", "size", "width", "i", "c"]) (ps := ["self", "widths", "room_leaks", "passage_leaks"]) F sc_Web_init (fun I H vs d h => ?_) (fun cdv A outer s I0 H0 H1 E vs d y dx hr sm h eH => ?_)
  · obtain ⟨v0, _, rfl, h0, v1, _, rfl, h1, v2, _, rfl, h2, rfl⟩ := h; rfl
  obtain ⟨v0, _, rfl, h0, v1, _, rfl, h1, v2, _, rfl, h2, rfl⟩ := h
  have hx : ∀ {ctx : List (Option SF)} {mem : List MF} (I H : Hp) (σ : St) (d : Option Addr), Stt I0 H0 ctx mem I H σ → Fr H0 d → bK I0 H0 I H σ d := fun _ _ _ _ s f => ⟨s.fm, f⟩
  have tk : L2N.Takes (bx P w K mg base ["self", "widths", "room_leaks", "passage_leaks", "rows", "row", "size", "width", "i", "c"] "Web.__init__" (defScope s_Web_init) (He.ma K (He.ga K "Web") "__init__") cdv A outer s H1 E) (bW E) := L2N.takes_of rfl rfl rfl rfl
  obtain ⟨p_widths, p_room_leaks, p_passage_leaks, _⟩ := d
  exact ⟨[some (SF.mk (rRef y) ()), some (SF.mk (fun I v x => (rSq K (rp (rL rInt))) I H0 v x) p_widths), some (SF.mk (fun I v x => (rSq K (rp rInt)) I H0 v x) p_room_leaks), some (SF.mk (fun I v x => (rSq K (rp rInt)) I H0 v x) p_passage_leaks), none, none, none, none, none, none], rfl, by simp, ⟨rfl, h0, h1, h2, ini_nil rfl⟩, (JN.ifT (JT.cmp (JE.callB (JA.cons (JE.varP 1 (r := (rSq K (rp (rL rInt))))) JA.nil) cj_lenS T.n_len boot_len) JE.int opj_eq) (JN.raise1 (pay := Pay.str) rfl tk c_err_BadWeb (hr.mono (by decide)) JE.str pay_str hx) (JN.seq (J1.cx (c' := fun v_rows_822 => [some (SF.mk (rRef y) ()), some (SF.mk (fun I v x => (rSq K (rp (rL rInt))) I H0 v x) p_widths), some (SF.mk (fun I v x => (rSq K (rp rInt)) I H0 v x) p_room_leaks), some (SF.mk (fun I v x => (rSq K (rp rInt)) I H0 v x) p_passage_leaks), some (SF.mk (rL (rL rInt)) v_rows_822), none, none, none, none, none]) (J1.set 4 (JE.ofM (JM.lcT (r := (rL rInt)) 5 (JI.parS 1) (fun _ _ _ _ _ D acc i823 tk824 => (JE.at (c' := [some (SF.mk (rRef y) ()), some (SF.mk (fun I v x => (rSq K (rp (rL rInt))) I H0 v x) p_widths), some (SF.mk (fun I v x => (rSq K (rp rInt)) I H0 v x) p_room_leaks), some (SF.mk (fun I v x => (rSq K (rp rInt)) I H0 v x) p_passage_leaks), none, some (SF.mk (rL rInt) i823), none, none, none, none]) (JE.ofM (JM.list (JE.rd (JE.var 5)) T.n_list)))) sc_Web_init.nd (blkok_of (by kernel_rfl)))) hx sc_Web_init.nd)) fun v_rows_822 => (JN.seq (J1.cx (c' := fun v_size_828 => [some (SF.mk (rRef y) ()), some (SF.mk (fun I v x => (rSq K (rp (rL rInt))) I H0 v x) p_widths), some (SF.mk (fun I v x => (rSq K (rp rInt)) I H0 v x) p_room_leaks), some (SF.mk (fun I v x => (rSq K (rp rInt)) I H0 v x) p_passage_leaks), some (SF.mk (rL (rL rInt)) v_rows_822), none, some (SF.mk rInt v_size_828), none, none, none]) (J1.set 6 (JE.callB (JA.cons (JE.rd (JE.ix (JE.rd (JE.var 4)) JE.int)) JA.nil) cj_len T.n_len boot_len) hx sc_Web_init.nd)) fun v_size_828 => (JN.ifT (JT.of (JE.callB (JA.cons (JE.rd (JE.ofM (JM.lcT (r := rBl) 5 (JI.list (JE.var 4)) (fun _ _ _ _ _ D acc i834 tk835 => (JE.at (c' := [some (SF.mk (rRef y) ()), some (SF.mk (fun I v x => (rSq K (rp (rL rInt))) I H0 v x) p_widths), some (SF.mk (fun I v x => (rSq K (rp rInt)) I H0 v x) p_room_leaks), some (SF.mk (fun I v x => (rSq K (rp rInt)) I H0 v x) p_passage_leaks), some (SF.mk (rL (rL rInt)) v_rows_822), some (SF.mk (rL rInt) i834), some (SF.mk rInt v_size_828), none, none, none]) (JE.cmp (JE.callB (JA.cons (JE.rd (JE.var 5)) JA.nil) cj_len T.n_len boot_len) (JE.var 6) opj_ne))) sc_Web_init.nd (blkok_of (by kernel_rfl))))) JA.nil) (cj_any rfl) T.n_any boot_any)) (JN.raise1 (pay := Pay.str) rfl tk c_err_BadWeb (hr.mono (by decide)) JE.str pay_str hx) (JN.ifT (JT.of (JE.callB (JA.cons (JE.rd (JE.ofM (JM.lc2T (r := rBl) 5 7 (JI.list (JE.var 4)) (fun _ _ _ _ _ D acc i849 tk851 => JI.at (c' := [some (SF.mk (rRef y) ()), some (SF.mk (fun I v x => (rSq K (rp (rL rInt))) I H0 v x) p_widths), some (SF.mk (fun I v x => (rSq K (rp rInt)) I H0 v x) p_room_leaks), some (SF.mk (fun I v x => (rSq K (rp rInt)) I H0 v x) p_passage_leaks), some (SF.mk (rL (rL rInt)) v_rows_822), some (SF.mk (rL rInt) i849), some (SF.mk rInt v_size_828), none, none, none]) (JI.list (JE.var 5))) (fun _ _ _ _ _ D acc i849 i850 tk851 => JE.at (c' := [some (SF.mk (rRef y) ()), some (SF.mk (fun I v x => (rSq K (rp (rL rInt))) I H0 v x) p_widths), some (SF.mk (fun I v x => (rSq K (rp rInt)) I H0 v x) p_room_leaks), some (SF.mk (fun I v x => (rSq K (rp rInt)) I H0 v x) p_passage_leaks), some (SF.mk (rL (rL rInt)) v_rows_822), some (SF.mk (rL rInt) i849), some (SF.mk rInt v_size_828), some (SF.mk rInt i850), none, none]) (JE.cmp (JE.var 7) JE.int opj_lt)) sc_Web_init.nd (blkok_of (by kernel_rfl))))) JA.nil) (cj_any rfl) T.n_any boot_any)) (JN.raise1 (pay := Pay.str) rfl tk c_err_BadWeb (hr.mono (by decide)) JE.str pay_str hx) (JN.seq (J1.cm (c' := fun v_rooms_866 => [some (SF.mk (rRef y) ()), some (SF.mk (fun I v x => (rSq K (rp (rL rInt))) I H0 v x) p_widths), some (SF.mk (fun I v x => (rSq K (rp rInt)) I H0 v x) p_room_leaks), some (SF.mk (fun I v x => (rSq K (rp rInt)) I H0 v x) p_passage_leaks), some (SF.mk (rL (rL rInt)) v_rows_822), none, some (SF.mk rInt v_size_828), none, none, none]) (me' := fun v_rooms_866 => [MF.ins y (He.ga K "Web") dx [("rooms", SF.mk rInt v_rooms_866)]]) (J1.sfldJ 0 0 (gs := []) (JE.callB (JA.cons (JE.rd (JE.var 4)) JA.nil) cj_len T.n_len boot_len) T.o_Web.cl T.na_Web_rooms (by simp) hx)) fun v_rooms_866 => (JN.seq (J1.cm (c' := fun v_passages_868 => [some (SF.mk (rRef y) ()), some (SF.mk (fun I v x => (rSq K (rp (rL rInt))) I H0 v x) p_widths), some (SF.mk (fun I v x => (rSq K (rp rInt)) I H0 v x) p_room_leaks), some (SF.mk (fun I v x => (rSq K (rp rInt)) I H0 v x) p_passage_leaks), some (SF.mk (rL (rL rInt)) v_rows_822), none, some (SF.mk rInt v_size_828), none, none, none]) (me' := fun v_passages_868 => [MF.ins y (He.ga K "Web") dx [("rooms", SF.mk rInt v_rooms_866), ("passages", SF.mk rInt v_passages_868)]]) (J1.sfldJ 0 0 (gs := [("rooms", SF.mk rInt v_rooms_866)]) (JE.var 6) T.o_Web.cl T.na_Web_passages (by simp) hx)) fun v_passages_868 => (JN.seq (J1.cm (c' := fun v_joints_870 => [some (SF.mk (rRef y) ()), some (SF.mk (fun I v x => (rSq K (rp (rL rInt))) I H0 v x) p_widths), some (SF.mk (fun I v x => (rSq K (rp rInt)) I H0 v x) p_room_leaks), some (SF.mk (fun I v x => (rSq K (rp rInt)) I H0 v x) p_passage_leaks), some (SF.mk (rL (rL rInt)) v_rows_822), none, some (SF.mk rInt v_size_828), none, none, none]) (me' := fun v_joints_870 => [MF.ins y (He.ga K "Web") dx [("rooms", SF.mk rInt v_rooms_866), ("passages", SF.mk rInt v_passages_868), ("joints", SF.mk (rL (rL rInt)) v_joints_870)]]) (J1.sfldJ 0 0 (gs := [("rooms", SF.mk rInt v_rooms_866), ("passages", SF.mk rInt v_passages_868)]) (JE.var 4) T.o_Web.cl T.na_Web_joints (by simp) hx)) fun v_joints_870 => (JN.seq (J1.cm (c' := fun v_from_rooms_884 => [some (SF.mk (rRef y) ()), some (SF.mk (fun I v x => (rSq K (rp (rL rInt))) I H0 v x) p_widths), some (SF.mk (fun I v x => (rSq K (rp rInt)) I H0 v x) p_room_leaks), some (SF.mk (fun I v x => (rSq K (rp rInt)) I H0 v x) p_passage_leaks), some (SF.mk (rL (rL rInt)) v_rows_822), none, some (SF.mk rInt v_size_828), none, none, none]) (me' := fun v_from_rooms_884 => [MF.ins y (He.ga K "Web") dx [("rooms", SF.mk rInt v_rooms_866), ("passages", SF.mk rInt v_passages_868), ("joints", SF.mk (rL (rL rInt)) v_joints_870), ("from_rooms", SF.mk (rL rInt) v_from_rooms_884)]]) (J1.sfldJ 0 0 (gs := [("rooms", SF.mk rInt v_rooms_866), ("passages", SF.mk rInt v_passages_868), ("joints", SF.mk (rL (rL rInt)) v_joints_870)]) (JE.ofM (JM.call (JA.cons (JE.varP 2 (r := (rSq K (rp rInt)))) (JA.cons (JE.callB (JA.cons (JE.rd (JE.var 4)) JA.nil) cj_len T.n_len boot_len) (JA.cons JE.str JA.nil))) (cn_of c_checked_leaks (hr.mono (by decide)) tk) T.g_checked_leaks T.k_checked_leaks)) T.o_Web.cl T.na_Web_from_rooms (by simp) hx)) fun v_from_rooms_884 => (JN.seq (J1.cm (c' := fun v_from_passages_895 => [some (SF.mk (rRef y) ()), some (SF.mk (fun I v x => (rSq K (rp (rL rInt))) I H0 v x) p_widths), some (SF.mk (fun I v x => (rSq K (rp rInt)) I H0 v x) p_room_leaks), some (SF.mk (fun I v x => (rSq K (rp rInt)) I H0 v x) p_passage_leaks), some (SF.mk (rL (rL rInt)) v_rows_822), none, some (SF.mk rInt v_size_828), none, none, none]) (me' := fun v_from_passages_895 => [MF.ins y (He.ga K "Web") dx [("rooms", SF.mk rInt v_rooms_866), ("passages", SF.mk rInt v_passages_868), ("joints", SF.mk (rL (rL rInt)) v_joints_870), ("from_rooms", SF.mk (rL rInt) v_from_rooms_884), ("from_passages", SF.mk (rL rInt) v_from_passages_895)]]) (J1.sfldJ 0 0 (gs := [("rooms", SF.mk rInt v_rooms_866), ("passages", SF.mk rInt v_passages_868), ("joints", SF.mk (rL (rL rInt)) v_joints_870), ("from_rooms", SF.mk (rL rInt) v_from_rooms_884)]) (JE.ofM (JM.call (JA.cons (JE.varP 3 (r := (rSq K (rp rInt)))) (JA.cons (JE.var 6) (JA.cons JE.str JA.nil))) (cn_of c_checked_leaks (hr.mono (by decide)) tk) T.g_checked_leaks T.k_checked_leaks)) T.o_Web.cl T.na_Web_from_passages (by simp) hx)) fun v_from_passages_895 => (JN.seq (J1.cm (c' := fun v_room_totals_914 => [some (SF.mk (rRef y) ()), some (SF.mk (fun I v x => (rSq K (rp (rL rInt))) I H0 v x) p_widths), some (SF.mk (fun I v x => (rSq K (rp rInt)) I H0 v x) p_room_leaks), some (SF.mk (fun I v x => (rSq K (rp rInt)) I H0 v x) p_passage_leaks), some (SF.mk (rL (rL rInt)) v_rows_822), none, some (SF.mk rInt v_size_828), none, none, none]) (me' := fun v_room_totals_914 => [MF.ins y (He.ga K "Web") dx [("rooms", SF.mk rInt v_rooms_866), ("passages", SF.mk rInt v_passages_868), ("joints", SF.mk (rL (rL rInt)) v_joints_870), ("from_rooms", SF.mk (rL rInt) v_from_rooms_884), ("from_passages", SF.mk (rL rInt) v_from_passages_895), ("room_totals", SF.mk (rL rInt) v_room_totals_914)]]) (J1.sfldJ 0 0 (gs := [("rooms", SF.mk rInt v_rooms_866), ("passages", SF.mk rInt v_passages_868), ("joints", SF.mk (rL (rL rInt)) v_joints_870), ("from_rooms", SF.mk (rL rInt) v_from_rooms_884), ("from_passages", SF.mk (rL rInt) v_from_passages_895)]) (JE.ofM (JM.lcT (r := rInt) 8 (JI.range1 (JE.callB (JA.cons (JE.rd (JE.var 4)) JA.nil) cj_len T.n_len boot_len) T.n_range) (fun _ _ _ _ _ D acc i900 tk901 => (JE.at (c' := [some (SF.mk (rRef y) ()), some (SF.mk (fun I v x => (rSq K (rp (rL rInt))) I H0 v x) p_widths), some (SF.mk (fun I v x => (rSq K (rp rInt)) I H0 v x) p_room_leaks), some (SF.mk (fun I v x => (rSq K (rp rInt)) I H0 v x) p_passage_leaks), some (SF.mk (rL (rL rInt)) v_rows_822), none, some (SF.mk rInt v_size_828), none, some (SF.mk rInt i900), none]) (JE.bin (JE.callB (JA.cons (JE.rd (JE.ix (JE.rd (JE.var 4)) (JE.var 8))) JA.nil) (cj_sum rfl) T.n_sum boot_sum) (JE.ix (JE.rd (JE.fldS 0 1 T.o_Web.cl T.na_Web_from_rooms)) (JE.var 8)) opj_add))) sc_Web_init.nd (blkok_of (by kernel_rfl)))) T.o_Web.cl T.na_Web_room_totals (by simp) hx)) fun v_room_totals_914 => (JN.seq (J1.cm (c' := fun v_passage_totals_934 => [some (SF.mk (rRef y) ()), some (SF.mk (fun I v x => (rSq K (rp (rL rInt))) I H0 v x) p_widths), some (SF.mk (fun I v x => (rSq K (rp rInt)) I H0 v x) p_room_leaks), some (SF.mk (fun I v x => (rSq K (rp rInt)) I H0 v x) p_passage_leaks), some (SF.mk (rL (rL rInt)) v_rows_822), none, some (SF.mk rInt v_size_828), none, none, none]) (me' := fun v_passage_totals_934 => [MF.ins y (He.ga K "Web") dx [("rooms", SF.mk rInt v_rooms_866), ("passages", SF.mk rInt v_passages_868), ("joints", SF.mk (rL (rL rInt)) v_joints_870), ("from_rooms", SF.mk (rL rInt) v_from_rooms_884), ("from_passages", SF.mk (rL rInt) v_from_passages_895), ("room_totals", SF.mk (rL rInt) v_room_totals_914), ("passage_totals", SF.mk (rL rInt) v_passage_totals_934)]]) (J1.sfldJ 0 0 (gs := [("rooms", SF.mk rInt v_rooms_866), ("passages", SF.mk rInt v_passages_868), ("joints", SF.mk (rL (rL rInt)) v_joints_870), ("from_rooms", SF.mk (rL rInt) v_from_rooms_884), ("from_passages", SF.mk (rL rInt) v_from_passages_895), ("room_totals", SF.mk (rL rInt) v_room_totals_914)]) (JE.ofM (JM.lcT (r := rInt) 9 (JI.range1 (JE.var 6) T.n_range) (fun _ _ _ _ _ D acc i916 tk917 => (JE.at (c' := [some (SF.mk (rRef y) ()), some (SF.mk (fun I v x => (rSq K (rp (rL rInt))) I H0 v x) p_widths), some (SF.mk (fun I v x => (rSq K (rp rInt)) I H0 v x) p_room_leaks), some (SF.mk (fun I v x => (rSq K (rp rInt)) I H0 v x) p_passage_leaks), some (SF.mk (rL (rL rInt)) v_rows_822), none, some (SF.mk rInt v_size_828), none, none, some (SF.mk rInt i916)]) (JE.bin (JE.callB (JA.cons (JE.rd (JE.ofM (JM.lcT (r := rInt) 5 (JI.list (JE.var 4)) (fun _ _ _ _ _ D acc i918 tk919 => (JE.at (c' := [some (SF.mk (rRef y) ()), some (SF.mk (fun I v x => (rSq K (rp (rL rInt))) I H0 v x) p_widths), some (SF.mk (fun I v x => (rSq K (rp rInt)) I H0 v x) p_room_leaks), some (SF.mk (fun I v x => (rSq K (rp rInt)) I H0 v x) p_passage_leaks), some (SF.mk (rL (rL rInt)) v_rows_822), some (SF.mk (rL rInt) i918), some (SF.mk rInt v_size_828), none, none, some (SF.mk rInt i916)]) (JE.ix (JE.rd (JE.var 5)) (JE.var 9)))) sc_Web_init.nd (blkok_of (by kernel_rfl))))) JA.nil) (cj_sum rfl) T.n_sum boot_sum) (JE.ix (JE.rd (JE.fldS 0 1 T.o_Web.cl T.na_Web_from_passages)) (JE.var 9)) opj_add))) sc_Web_init.nd (blkok_of (by kernel_rfl)))) T.o_Web.cl T.na_Web_passage_totals (by simp) hx)) fun v_passage_totals_934 => (JN.ifT (JT.cmp JE.int (JE.sqL (JE.rd (JE.fldS 0 0 T.o_Web.cl T.na_Web_room_totals))) opj_in) (JN.raise1 (pay := Pay.str) rfl tk c_err_BadWeb (hr.mono (by decide)) JE.str pay_str hx) (JN.ifT (JT.cmp JE.int (JE.sqL (JE.rd (JE.fldS 0 0 T.o_Web.cl T.na_Web_passage_totals))) opj_in) (JN.raise1 (pay := Pay.str) rfl tk c_err_BadWeb (hr.mono (by decide)) JE.str pay_str hx) (JN.seq (J1.cm (c' := fun v_room_scale_955 => [some (SF.mk (rRef y) ()), some (SF.mk (fun I v x => (rSq K (rp (rL rInt))) I H0 v x) p_widths), some (SF.mk (fun I v x => (rSq K (rp rInt)) I H0 v x) p_room_leaks), some (SF.mk (fun I v x => (rSq K (rp rInt)) I H0 v x) p_passage_leaks), some (SF.mk (rL (rL rInt)) v_rows_822), none, some (SF.mk rInt v_size_828), none, none, none]) (me' := fun v_room_scale_955 => [MF.ins y (He.ga K "Web") dx [("rooms", SF.mk rInt v_rooms_866), ("passages", SF.mk rInt v_passages_868), ("joints", SF.mk (rL (rL rInt)) v_joints_870), ("from_rooms", SF.mk (rL rInt) v_from_rooms_884), ("from_passages", SF.mk (rL rInt) v_from_passages_895), ("room_totals", SF.mk (rL rInt) v_room_totals_914), ("passage_totals", SF.mk (rL rInt) v_passage_totals_934), ("room_scale", SF.mk rInt v_room_scale_955)]]) (J1.sfldJ 0 0 (gs := [("rooms", SF.mk rInt v_rooms_866), ("passages", SF.mk rInt v_passages_868), ("joints", SF.mk (rL (rL rInt)) v_joints_870), ("from_rooms", SF.mk (rL rInt) v_from_rooms_884), ("from_passages", SF.mk (rL rInt) v_from_passages_895), ("room_totals", SF.mk (rL rInt) v_room_totals_914), ("passage_totals", SF.mk (rL rInt) v_passage_totals_934)]) (JE.call (JA.cons (JE.rd (JE.fldS 0 0 T.o_Web.cl T.na_Web_room_totals)) JA.nil) (cj_of c_common_multiple (hr.mono (by decide)) tk) T.g_common_multiple T.k_common_multiple) T.o_Web.cl T.na_Web_room_scale (by simp) hx)) fun v_room_scale_955 => (JN.seq (J1.cm (c' := fun v_passage_scale_960 => [some (SF.mk (rRef y) ()), some (SF.mk (fun I v x => (rSq K (rp (rL rInt))) I H0 v x) p_widths), some (SF.mk (fun I v x => (rSq K (rp rInt)) I H0 v x) p_room_leaks), some (SF.mk (fun I v x => (rSq K (rp rInt)) I H0 v x) p_passage_leaks), some (SF.mk (rL (rL rInt)) v_rows_822), none, some (SF.mk rInt v_size_828), none, none, none]) (me' := fun v_passage_scale_960 => [MF.ins y (He.ga K "Web") dx [("rooms", SF.mk rInt v_rooms_866), ("passages", SF.mk rInt v_passages_868), ("joints", SF.mk (rL (rL rInt)) v_joints_870), ("from_rooms", SF.mk (rL rInt) v_from_rooms_884), ("from_passages", SF.mk (rL rInt) v_from_passages_895), ("room_totals", SF.mk (rL rInt) v_room_totals_914), ("passage_totals", SF.mk (rL rInt) v_passage_totals_934), ("room_scale", SF.mk rInt v_room_scale_955), ("passage_scale", SF.mk rInt v_passage_scale_960)]]) (J1.sfldJ 0 0 (gs := [("rooms", SF.mk rInt v_rooms_866), ("passages", SF.mk rInt v_passages_868), ("joints", SF.mk (rL (rL rInt)) v_joints_870), ("from_rooms", SF.mk (rL rInt) v_from_rooms_884), ("from_passages", SF.mk (rL rInt) v_from_passages_895), ("room_totals", SF.mk (rL rInt) v_room_totals_914), ("passage_totals", SF.mk (rL rInt) v_passage_totals_934), ("room_scale", SF.mk rInt v_room_scale_955)]) (JE.call (JA.cons (JE.rd (JE.fldS 0 0 T.o_Web.cl T.na_Web_passage_totals)) JA.nil) (cj_of c_common_multiple (hr.mono (by decide)) tk) T.g_common_multiple T.k_common_multiple) T.o_Web.cl T.na_Web_passage_scale (by simp) hx)) fun v_passage_scale_960 => (JN.nil fun _ _ _ h => ⟨_, h⟩))) hx) hx)))))))) hx) hx))) hx)⟩
abbrev C_Web_1_room_leaks_passage_leaks (P : Program) (w : World) (K : PySem.W.Frag) (mg : Str → Option Value) (base : Heap) : Prop := MkK P w K mg base 5 (He.ga K "Web") ["room_leaks", "passage_leaks"] (aCons (rSq K (rp (rL rInt))) aNil) (aCons (rSq K (rp rInt)) (aCons (rSq K (rp rInt)) aNil)) (fun (x : ((List (List Int)) × Unit)) (y : ((List Int) × (List Int) × Unit)) => m_Web_init x.1 y.1 y.2.1) (rp (r_Web K))
theorem fn_Web_1_room_leaks_passage_leaks {P : Program} {w : World} {K : PySem.W.Frag} {mg : Str → Option Value} {base : Heap} (T : Txt w K mg) (c_err_BadWeb : C_err_BadWeb P w K mg base) (c_checked_leaks : C_checked_leaks P w K mg base) (c_common_multiple : C_common_multiple P w K mg base) : C_Web_1_room_leaks_passage_leaks P w K mg base := by
  obtain ⟨fd, F⟩ := T.F_Web_init
  have hb := kbindsN (ps := ["self", "widths", "room_leaks", "passage_leaks"]) F 2 ["room_leaks", "passage_leaks"] (fun us ws => us ++ ws) (fun a c => a.append c) fun kV doc pm an cdv ct us ws hl hw => match us, hl, ws, hw with | [_, _], _, [_, _], _ => rfl
  exact fun X W e1 e2 e3 e4 e5 hr tk => by
    subst e1; subst e2; subst e3; subst e4; subst e5
    exact cjk_make (n := 1) (R := (aCons (rSq X.K (rp (rL rInt))) aNil)) (R' := (aCons (rSq X.K (rp rInt)) (aCons (rSq X.K (rp rInt)) aNil))) (h := fun (x : ((List (List Int)) × Unit)) (y : ((List Int) × (List Int) × Unit)) => (x.1, y.1, y.2.1, ())) T.mk_Web (in_Web T c_err_BadWeb c_checked_leaks c_common_multiple F) hr hb tk fun I H vs zs x y r r' => by
      obtain ⟨v0, _, rfl, h0, rfl⟩ := r
      obtain ⟨w0, _, rfl, k0, w1, _, rfl, k1, rfl⟩ := r'
      exact ⟨rfl, rfl, fun v => ⟨[v0, w0, w1], rfl, _, _, rfl, h0, _, _, rfl, k0, _, _, rfl, k1, rfl⟩⟩
theorem sc_placed : FnScope ["widths", "end", "nodes", "table", "room", "node", "room_leaks", "passage_leaks"] ["widths", "end"] (defScope s_placed) := ⟨rfl, rfl, rfl, by decide +kernel, rfl, by decide +kernel, by decide +kernel⟩
def m_placed (p_widths : (List Int)) (p_end : Int) : Res O_Web :=
  (((((Res.ok p_widths).bind fun a702 => (Res.ok ()).bind fun b703 => .ok (a702, b703)).bind (fun d => .ok (d.1.length : Int))).bind fun a704 => (Res.ok p_end).bind fun b705 => .ok (a704 + b705)).bind fun v_nodes_700 => ((((((Res.ok v_nodes_700).bind fun a706 => (Res.ok (1 : Int)).bind fun b707 => .ok (a706 + b707)).bind fun a708 => (Res.ok (2 : Int)).bind fun b709 => fdivI a708 b709).bind fun a710 => rangeM1 a710).bind fun l721 => lcR (fun (i711 : Int) => (((Res.ok (0 : Int)).bind fun a714 => (Res.ok []).bind fun b715 => .ok (a714 :: b715)).bind fun a718 => ((Res.ok v_nodes_700).bind fun a716 => (Res.ok (2 : Int)).bind fun b717 => fdivI a716 b717).bind fun b719 => repM a718 b719)) l721).bind fun v_table_720 => (((((Res.ok v_nodes_700).bind fun a724 => (Res.ok (1 : Int)).bind fun b725 => .ok (a724 - b725)).bind fun a726 => rangeM1 a726).bind fun l742 => forS (fun (i727 : Int) (s723 : (List (List Int))) => ((((Res.ok p_widths).bind fun a728 => (Res.ok i727).bind fun b729 => atM a728 b729).bind fun y738 => (((Res.ok i727).bind fun a731 => (Res.ok (1 : Int)).bind fun b732 => .ok (a731 + b732)).bind fun a733 => (Res.ok (2 : Int)).bind fun b734 => fdivI a733 b734).bind fun k739 => (rowT s723 k739).bind fun q740 => ((Res.ok i727).bind fun a735 => (Res.ok (2 : Int)).bind fun b736 => fdivI a735 b736).bind fun k741 => L2.Tr.putT s723 q740 k741 y738).bind fun v_table_737 => (Res.ok v_table_737))) l742 v_table_720).bind fun s723 => ((((Res.ok (0 : Int)).bind fun a745 => (Res.ok []).bind fun b746 => .ok (a745 :: b746)).bind fun a751 => (((Res.ok v_nodes_700).bind fun a747 => (Res.ok (1 : Int)).bind fun b748 => .ok (a747 + b748)).bind fun a749 => (Res.ok (2 : Int)).bind fun b750 => fdivI a749 b750).bind fun b752 => repM a751 b752).bind fun v_room_leaks_743 => ((((Res.ok (0 : Int)).bind fun a756 => (Res.ok []).bind fun b757 => .ok (a756 :: b757)).bind fun a760 => ((Res.ok v_nodes_700).bind fun a758 => (Res.ok (2 : Int)).bind fun b759 => fdivI a758 b759).bind fun b761 => repM a760 b761).bind fun v_passage_leaks_754 => (((((Res.ok p_end).bind fun a763 => (Res.ok (0 : Int)).bind fun b764 => .ok (decide (a763 = b764))).bind fun a769 => if a769 = true then (((Res.ok v_nodes_700).bind fun a765 => (Res.ok (2 : Int)).bind fun b766 => modI a765 b766).bind fun a767 => (Res.ok (1 : Int)).bind fun b768 => .ok (decide (a767 = b768))) else .ok false).bind fun x779 => if x779 = true then ((((Res.ok p_widths).bind fun a771 => ((Res.ok (1 : Int)).bind fun a770 => .ok (-a770)).bind fun b772 => atM a771 b772).bind fun y776 => ((Res.ok (1 : Int)).bind fun a774 => .ok (-a774)).bind fun k777 => putM v_room_leaks_743 k777 y776).bind fun v_room_leaks_775 => (Res.ok v_room_leaks_775)) else (Res.ok v_room_leaks_743)).bind fun s778 => (((((Res.ok p_end).bind fun a780 => (Res.ok (0 : Int)).bind fun b781 => .ok (decide (a780 = b781))).bind fun a786 => if a786 = true then (((Res.ok v_nodes_700).bind fun a782 => (Res.ok (2 : Int)).bind fun b783 => modI a782 b783).bind fun a784 => (Res.ok (0 : Int)).bind fun b785 => .ok (decide (a784 = b785))) else .ok false).bind fun x796 => if x796 = true then ((((Res.ok p_widths).bind fun a788 => ((Res.ok (1 : Int)).bind fun a787 => .ok (-a787)).bind fun b789 => atM a788 b789).bind fun y793 => ((Res.ok (1 : Int)).bind fun a791 => .ok (-a791)).bind fun k794 => putM v_passage_leaks_754 k794 y793).bind fun v_passage_leaks_792 => (Res.ok v_passage_leaks_792)) else (Res.ok v_passage_leaks_754)).bind fun s795 => (((Res.ok s723).bind fun a811 => (Res.ok ()).bind fun b812 => .ok (a811, b812)).bind fun x813 => ((Res.ok s778).bind fun a805 => ((Res.ok s795).bind fun a803 => (Res.ok ()).bind fun b804 => .ok (a803, b804)).bind fun b806 => .ok (a805, b806)).bind fun y807 => (fun (x : ((List (List Int)) × Unit)) (y : ((List Int) × (List Int) × Unit)) => m_Web_init x.1 y.1 y.2.1) x813 y807))))))))
abbrev C_placed (P : Program) (w : World) (K : PySem.W.Frag) (mg : Str → Option Value) (base : Heap) : Prop := FnR P w K mg base (L2N.CX P w) 6 (He.ga K "placed") (spF K (aCons (rdL K (rp rInt)) (aCons (rp rInt) aNil)) (fun d => m_placed d.1 d.2.1) (rp (r_Web K)))
theorem ok_placed {P : Program} {w : World} {K : PySem.W.Frag} {mg : Str → Option Value} {base : Heap} (T : Txt w K mg) (c_Web_1_room_leaks_passage_leaks : C_Web_1_room_leaks_passage_leaks P w K mg base) {fd : FuncData} (F : FunD K "placed" "placed" (defArgs s_placed) (defBody s_placed) (defScope s_placed) [] [] (He.ga K "placed") fd) : FnOk P w K mg base (L2N.CX P w) 6 (He.ga K "placed") fd ["widths", "end"] (spF K (aCons (rdL K (rp rInt)) (aCons (rp rInt) aNil)) (fun d => m_placed d.1 d.2.1) (rp (r_Web K))) := by
  refine FunD.fn (k := 5) (N := ["widths", "end", "nodes", "table", "room", "node", "room_leaks", "passage_leaks"]) (ps := ["widths", "end"]) F sc_placed (fun I H vs d h => ?_) (fun cdv A outer s I0 H0 E vs d hr sm h => ?_)
  · obtain ⟨v0, _, rfl, h0, v1, _, rfl, h1, rfl⟩ := h; rfl
  obtain ⟨v0, _, rfl, h0, v1, _, rfl, h1, rfl⟩ := h
  have hx : ∀ {ctx : List (Option SF)} {mem : List MF} (I H : Hp) (σ : St) (d : Option Addr), Stt I0 H0 ctx mem I H σ → Fr H0 d → bK I0 H0 I H σ d := fun _ _ _ _ s f => ⟨s.fm, f⟩
  have tk : L2N.Takes (bx P w K mg base ["widths", "end", "nodes", "table", "room", "node", "room_leaks", "passage_leaks"] "placed" (defScope s_placed) (He.ga K "placed") cdv A outer s H0 E) (bW E) := L2N.takes_of rfl rfl rfl rfl
  have hp : PassesOwn (model P w) (bx P w K mg base ["widths", "end", "nodes", "table", "room", "node", "room_leaks", "passage_leaks"] "placed" (defScope s_placed) (He.ga K "placed") cdv A outer s H0 E).A (bx P w K mg base ["widths", "end", "nodes", "table", "room", "node", "room_leaks", "passage_leaks"] "placed" (defScope s_placed) (He.ga K "placed") cdv A outer s H0 E).env (bx P w K mg base ["widths", "end", "nodes", "table", "room", "node", "room_leaks", "passage_leaks"] "placed" (defScope s_placed) (He.ga K "placed") cdv A outer s H0 E).xe := passes_of rfl
  obtain ⟨p_widths, p_end, _⟩ := d
  exact ⟨Stt I0 H0 [some (SF.mk (fun I v x => (rdL K (rp rInt)) I H0 v x) p_widths), some (SF.mk rInt p_end), none, none, none, none, none, none] [], Stt.start sm ⟨h0, h1, ini_nil rfl⟩ rfl (by simp), (JR.seq (J1.cx (c' := fun v_nodes_700 => [some (SF.mk (fun I v x => (rdL K (rp rInt)) I H0 v x) p_widths), some (SF.mk rInt p_end), some (SF.mk rInt v_nodes_700), none, none, none, none, none]) (J1.set 2 (JE.bin (JE.callB (JA.cons (JE.varP 0 (r := (rdL K (rp rInt)))) JA.nil) cj_len T.n_len boot_len) (JE.var 1) opj_add) hx sc_placed.nd)) fun v_nodes_700 => (JR.seq (J1.cn (c' := fun v_table_720 l722 => [some (SF.mk (fun I v x => (rdL K (rp rInt)) I H0 v x) p_widths), some (SF.mk rInt p_end), some (SF.mk rInt v_nodes_700), some (SF.mk (rRef l722) ()), none, none, none, none]) (me' := fun v_table_720 l722 => [MF.tab l722 rInt v_table_720]) (J1.setTab (r := rInt) 3 4 (JI.range1 (JE.bin (JE.bin (JE.var 2) JE.int opj_add) JE.int opj_fdiv) T.n_range) (fun _ _ _ _ _ D acc i711 tk712 => JM.at (c' := [some (SF.mk (fun I v x => (rdL K (rp rInt)) I H0 v x) p_widths), some (SF.mk rInt p_end), some (SF.mk rInt v_nodes_700), none, some (SF.mk rInt i711), none, none, none]) (JM.rep (JE.hp (JE.ofM (JM.lst (r := rInt) (JA.consL JE.int JA.nilL)))) (JE.bin (JE.var 2) JE.int opj_fdiv))) hx sc_placed.nd (blkok_of (by kernel_rfl)))) fun v_table_720 => JR.ex fun l722 => (JR.seq (J1.forS (S := (List (List Int))) (cx := fun s723 => [some (SF.mk (fun I v x => (rdL K (rp rInt)) I H0 v x) p_widths), some (SF.mk rInt p_end), some (SF.mk rInt v_nodes_700), some (SF.mk (rRef l722) ()), none, none, none, none]) (me := fun s723 => [MF.tab l722 rInt s723]) (s0 := v_table_720) 5 hp (JI.range1 (JE.bin (JE.var 2) JE.int opj_sub) T.n_range) (fun i727 s723 => JN.at (c' := [some (SF.mk (fun I v x => (rdL K (rp rInt)) I H0 v x) p_widths), some (SF.mk rInt p_end), some (SF.mk rInt v_nodes_700), some (SF.mk (rRef l722) ()), none, some (SF.mk rInt i727), none, none]) (JN.seq (J1.cm (c' := fun v_table_737 => [some (SF.mk (fun I v x => (rdL K (rp rInt)) I H0 v x) p_widths), some (SF.mk rInt p_end), some (SF.mk rInt v_nodes_700), some (SF.mk (rRef l722) ()), none, some (SF.mk rInt i727), none, none]) (me' := fun v_table_737 => [MF.tab l722 rInt v_table_737]) (J1.putT 3 0 (JE.ix (JE.varP 0 (r := (rdL K (rp rInt)))) (JE.var 5)) (JE.bin (JE.bin (JE.var 5) JE.int opj_add) JE.int opj_fdiv) (JE.bin (JE.var 5) JE.int opj_fdiv) hx)) fun v_table_737 => (JN.nil (fun _ _ _ h => (Stt.weak h (weak_some (weak_some (weak_some (weak_some (weak_none (weak_none (weak_none (weak_none weak_nil))))))))))))) hx (weak_some (weak_some (weak_some (weak_some (weak_none (weak_none (weak_none (weak_none weak_nil)))))))) sc_placed.nd) fun s723 => (JR.fzT 3 0 (ctx' := [some (SF.mk (fun I v x => (rdL K (rp rInt)) I H0 v x) p_widths), some (SF.mk rInt p_end), some (SF.mk rInt v_nodes_700), some (SF.mk (rL (rL rInt)) s723), none, none, none, none]) (mem' := []) (JR.seq (J1.cn (c' := fun v_room_leaks_743 l753 => [some (SF.mk (fun I v x => (rdL K (rp rInt)) I H0 v x) p_widths), some (SF.mk rInt p_end), some (SF.mk rInt v_nodes_700), some (SF.mk (rL (rL rInt)) s723), none, none, some (SF.mk (rRef l753) ()), none]) (me' := fun v_room_leaks_743 l753 => [MF.lst l753 rInt v_room_leaks_743]) (J1.setM 6 (JM.rep (JE.hp (JE.ofM (JM.lst (r := rInt) (JA.consL JE.int JA.nilL)))) (JE.bin (JE.bin (JE.var 2) JE.int opj_add) JE.int opj_fdiv)) hx sc_placed.nd)) fun v_room_leaks_743 => JR.ex fun l753 => (JR.seq (J1.cn (c' := fun v_passage_leaks_754 l762 => [some (SF.mk (fun I v x => (rdL K (rp rInt)) I H0 v x) p_widths), some (SF.mk rInt p_end), some (SF.mk rInt v_nodes_700), some (SF.mk (rL (rL rInt)) s723), none, none, some (SF.mk (rRef l753) ()), some (SF.mk (rRef l762) ())]) (me' := fun v_passage_leaks_754 l762 => [MF.lst l762 rInt v_passage_leaks_754, MF.lst l753 rInt v_room_leaks_743]) (J1.setM 7 (JM.rep (JE.hp (JE.ofM (JM.lst (r := rInt) (JA.consL JE.int JA.nilL)))) (JE.bin (JE.var 2) JE.int opj_fdiv)) hx sc_placed.nd)) fun v_passage_leaks_754 => JR.ex fun l762 => (JR.seq (J1.if (S := (List Int)) (G' := fun s778 => Stt I0 H0 [some (SF.mk (fun I v x => (rdL K (rp rInt)) I H0 v x) p_widths), some (SF.mk rInt p_end), some (SF.mk rInt v_nodes_700), some (SF.mk (rL (rL rInt)) s723), none, none, some (SF.mk (rRef l753) ()), some (SF.mk (rRef l762) ())] [MF.lst l762 rInt v_passage_leaks_754, MF.lst l753 rInt s778]) (JT.bool (JW.and (JT.cmp (JE.var 1) JE.int opj_eq) (JW.and1 (JT.cmp (JE.bin (JE.var 2) JE.int opj_mod) JE.int opj_eq)))) (JN.seq (J1.cm (c' := fun v_room_leaks_775 => [some (SF.mk (fun I v x => (rdL K (rp rInt)) I H0 v x) p_widths), some (SF.mk rInt p_end), some (SF.mk rInt v_nodes_700), some (SF.mk (rL (rL rInt)) s723), none, none, some (SF.mk (rRef l753) ()), some (SF.mk (rRef l762) ())]) (me' := fun v_room_leaks_775 => [MF.lst l762 rInt v_passage_leaks_754, MF.lst l753 rInt v_room_leaks_775]) (J1.put 6 1 (JE.ix (JE.varP 0 (r := (rdL K (rp rInt)))) (JE.un JE.int unj_neg)) (JE.un JE.int unj_neg) hx)) fun v_room_leaks_775 => (JN.nil (fun _ _ _ h => h))) (JN.nil (fun _ _ _ h => h)) hx) fun s778 => (JR.fz 6 1 (ctx' := [some (SF.mk (fun I v x => (rdL K (rp rInt)) I H0 v x) p_widths), some (SF.mk rInt p_end), some (SF.mk rInt v_nodes_700), some (SF.mk (rL (rL rInt)) s723), none, none, some (SF.mk (rL rInt) s778), some (SF.mk (rRef l762) ())]) (mem' := [MF.lst l762 rInt v_passage_leaks_754]) (JR.seq (J1.if (S := (List Int)) (G' := fun s795 => Stt I0 H0 [some (SF.mk (fun I v x => (rdL K (rp rInt)) I H0 v x) p_widths), some (SF.mk rInt p_end), some (SF.mk rInt v_nodes_700), some (SF.mk (rL (rL rInt)) s723), none, none, some (SF.mk (rL rInt) s778), some (SF.mk (rRef l762) ())] [MF.lst l762 rInt s795]) (JT.bool (JW.and (JT.cmp (JE.var 1) JE.int opj_eq) (JW.and1 (JT.cmp (JE.bin (JE.var 2) JE.int opj_mod) JE.int opj_eq)))) (JN.seq (J1.cm (c' := fun v_passage_leaks_792 => [some (SF.mk (fun I v x => (rdL K (rp rInt)) I H0 v x) p_widths), some (SF.mk rInt p_end), some (SF.mk rInt v_nodes_700), some (SF.mk (rL (rL rInt)) s723), none, none, some (SF.mk (rL rInt) s778), some (SF.mk (rRef l762) ())]) (me' := fun v_passage_leaks_792 => [MF.lst l762 rInt v_passage_leaks_792]) (J1.put 7 0 (JE.ix (JE.varP 0 (r := (rdL K (rp rInt)))) (JE.un JE.int unj_neg)) (JE.un JE.int unj_neg) hx)) fun v_passage_leaks_792 => (JN.nil (fun _ _ _ h => h))) (JN.nil (fun _ _ _ h => h)) hx) fun s795 => (JR.fz 7 0 (ctx' := [some (SF.mk (fun I v x => (rdL K (rp rInt)) I H0 v x) p_widths), some (SF.mk rInt p_end), some (SF.mk rInt v_nodes_700), some (SF.mk (rL (rL rInt)) s723), none, none, some (SF.mk (rL rInt) s778), some (SF.mk (rL rInt) s795)]) (mem' := []) (JR.ret (JE.callK (JA.cons (JE.sqL (JE.rd (JE.var 3))) JA.nil) (JK.cons (JE.sqL (JE.rd (JE.var 6))) (JK.cons (JE.sqL (JE.rd (JE.var 7))) JK.nil)) (c_Web_1_room_leaks_passage_leaks _ _ rfl rfl rfl rfl rfl (hr.mono (by decide)) tk) T.g_Web T.mk_Web.kp) hx)))))))))))⟩
theorem fn_placed {P : Program} {w : World} {K : PySem.W.Frag} {mg : Str → Option Value} {base : Heap} (T : Txt w K mg) (c_Web_1_room_leaks_passage_leaks : C_Web_1_room_leaks_passage_leaks P w K mg base) : FnR P w K mg base (L2N.CX P w) 6 (He.ga K "placed") (spF K (aCons (rdL K (rp rInt)) (aCons (rp rInt) aNil)) (fun d => m_placed d.1 d.2.1) (rp (r_Web K))) := by
  obtain ⟨fd, F⟩ := T.F_placed
  exact FnOk.fr0 (ok_placed T c_Web_1_room_leaks_passage_leaks F) (F.bindsN fun _ _ _ _ _ _ us hl => match us, hl with | [_, _], _ => rfl)
theorem sc_Line_web : FnScope ["self", "widths", "share", "scale", "width"] ["self"] (defScope s_Line_web) := ⟨rfl, rfl, rfl, by decide +kernel, rfl, by decide +kernel, by decide +kernel⟩
def m_Line_web (p_self : O_Line) : Res O_Web :=
  (((((Res.ok (1 : Int)).bind fun a531 => (Res.ok ()).bind fun b532 => .ok (a531, b532)).bind (fun d => qInt d.1)).bind fun a534 => (Res.ok []).bind fun b535 => .ok (a534 :: b535)).bind fun v_widths_529 => (((((Res.ok p_self).bind fun a538 => .ok a538.f_kept).bind fun a539 => (Res.ok none).bind fun b542 => (((Res.ok (1 : Int)).bind fun a540 => .ok (-a540)).bind fun b541 => .ok (some b541)).bind fun c543 => .ok (cutL a539 b542 c543)).bind fun l560 => forS (fun (i544 : Rat) (s537 : (List Rat)) => (((((Res.ok s537).bind fun a547 => ((Res.ok (1 : Int)).bind fun a546 => .ok (-a546)).bind fun b548 => atM a547 b548).bind fun a556 => (((Res.ok (1 : Int)).bind fun a549 => (Res.ok i544).bind fun b550 => qRsub b550 a549).bind fun a551 => (((Res.ok i544).bind fun a552 => .ok (Num.q a552)).bind fun a553 => (Res.ok ()).bind fun b554 => .ok (a553, b554)).bind fun b555 => (fun d => qOver d.1 d.2.1) (a551, b555)).bind fun b557 => qMul a556 (.q b557)).bind fun y559 => appM s537 y559).bind fun v_widths_545 => (Res.ok v_widths_545))) l560 v_widths_529).bind fun s537 => (((((Res.ok s537).bind fun l566 => lcR (fun (i562 : Rat) => ((Res.ok i562).bind fun a564 => .ok (a564.den : Int))) l566).bind fun a568 => (Res.ok ()).bind fun b569 => .ok (a568, b569)).bind (fun d => m_common_multiple d.1)).bind fun v_scale_561 => ((((Res.ok s537).bind fun l579 => lcR (fun (i570 : Rat) => (((Res.ok i570).bind fun a572 => .ok a572.num).bind fun a576 => ((Res.ok v_scale_561).bind fun a574 => ((Res.ok i570).bind fun a573 => .ok (a573.den : Int)).bind fun b575 => fdivI a574 b575).bind fun b577 => mulI a576 b577)) l579).bind fun a585 => (((Res.ok p_self).bind fun a581 => .ok a581.f_end).bind fun a583 => (Res.ok ()).bind fun b584 => .ok (a583, b584)).bind fun b586 => .ok (a585, b586)).bind (fun d => m_placed d.1 d.2.1)))))
abbrev C_Line_web (P : Program) (w : World) (K : PySem.W.Frag) (mg : Str → Option Value) (base : Heap) : Prop := FnR P w K mg base (L2N.CX P w) 7 (He.ma K (He.ga K "Line") "web") (spF K (aCons (rp (r_Line K)) aNil) (fun d => m_Line_web d.1) (rp (r_Web K)))
theorem ok_Line_web {P : Program} {w : World} {K : PySem.W.Frag} {mg : Str → Option Value} {base : Heap} (T : Txt w K mg) (c_Fraction_1 : C_Fraction_1 P w K mg base) (c_Fraction_rsub : C_Fraction_rsub P w K mg base) (c_Fraction_over : C_Fraction_over P w K mg base) (c_Fraction_mul : C_Fraction_mul P w K mg base) (c_common_multiple : C_common_multiple P w K mg base) (c_placed : C_placed P w K mg base) {fd : FuncData} (F : FunD K "web" "Line.web" (defArgs s_Line_web) (defBody s_Line_web) (defScope s_Line_web) [] [] (He.ma K (He.ga K "Line") "web") fd) : FnOk P w K mg base (L2N.CX P w) 7 (He.ma K (He.ga K "Line") "web") fd ["self"] (spF K (aCons (rp (r_Line K)) aNil) (fun d => m_Line_web d.1) (rp (r_Web K))) := by
  refine FunD.fn (k := 6) (N := ["self", "widths", "share", "scale", "width"]) (ps := ["self"]) F sc_Line_web (fun I H vs d h => ?_) (fun cdv A outer s I0 H0 E vs d hr sm h => ?_)
  · obtain ⟨v0, _, rfl, h0, rfl⟩ := h; rfl
  obtain ⟨v0, _, rfl, h0, rfl⟩ := h
  have hx : ∀ {ctx : List (Option SF)} {mem : List MF} (I H : Hp) (σ : St) (d : Option Addr), Stt I0 H0 ctx mem I H σ → Fr H0 d → bK I0 H0 I H σ d := fun _ _ _ _ s f => ⟨s.fm, f⟩
  have tk : L2N.Takes (bx P w K mg base ["self", "widths", "share", "scale", "width"] "Line.web" (defScope s_Line_web) (He.ma K (He.ga K "Line") "web") cdv A outer s H0 E) (bW E) := L2N.takes_of rfl rfl rfl rfl
  have hp : PassesOwn (model P w) (bx P w K mg base ["self", "widths", "share", "scale", "width"] "Line.web" (defScope s_Line_web) (He.ma K (He.ga K "Line") "web") cdv A outer s H0 E).A (bx P w K mg base ["self", "widths", "share", "scale", "width"] "Line.web" (defScope s_Line_web) (He.ma K (He.ga K "Line") "web") cdv A outer s H0 E).env (bx P w K mg base ["self", "widths", "share", "scale", "width"] "Line.web" (defScope s_Line_web) (He.ma K (He.ga K "Line") "web") cdv A outer s H0 E).xe := passes_of rfl
  obtain ⟨p_self, _⟩ := d
  exact ⟨Stt I0 H0 [some (SF.mk (r_Line K) p_self), none, none, none, none] [], Stt.start sm ⟨h0, ini_nil rfl⟩ rfl (by simp), (JR.seq (J1.cn (c' := fun v_widths_529 l536 => [some (SF.mk (r_Line K) p_self), some (SF.mk (rRef l536) ()), none, none, none]) (me' := fun v_widths_529 l536 => [MF.lst l536 (rFrac K) v_widths_529]) (J1.setM 1 (JM.lst (r := (rFrac K)) (JA.consL (JE.call (JA.cons JE.int JA.nil) (c_Fraction_1 _ _ rfl rfl rfl rfl rfl (hr.mono (by decide)) tk) T.g_Fraction T.mk_Fraction.kp) JA.nilL)) hx sc_Line_web.nd)) fun v_widths_529 => JR.ex fun l536 => (JR.seq (J1.forS (S := (List Rat)) (cx := fun s537 => [some (SF.mk (r_Line K) p_self), some (SF.mk (rRef l536) ()), none, none, none]) (me := fun s537 => [MF.lst l536 (rFrac K) s537]) (s0 := v_widths_529) 2 hp (JI.list (JE.ofM (JM.sl (JE.rd (JE.fld (JE.var 0) (fldI (fl_Line_kept K)) T.o_Line.cl T.na_Line_kept)) JO.no (JO.at (JE.un JE.int unj_neg))))) (fun i544 s537 => JN.at (c' := [some (SF.mk (r_Line K) p_self), some (SF.mk (rRef l536) ()), some (SF.mk (rFrac K) i544), none, none]) (JN.seq (J1.cm (c' := fun v_widths_545 => [some (SF.mk (r_Line K) p_self), some (SF.mk (rRef l536) ()), some (SF.mk (rFrac K) i544), none, none]) (me' := fun v_widths_545 => [MF.lst l536 (rFrac K) v_widths_545]) (J1.app 1 0 (JE.bin (JE.ix (JE.rdM 1 0) (JE.un JE.int unj_neg)) (JE.meth (JE.bin JE.int (JE.var 2) (opj_subR T.o_Fraction T.om_Fraction_sub T.om_Fraction_rsub insF (cj_of c_Fraction_rsub (hr.mono (by decide)) tk))) insOfF (JA.cons (JE.numq (JE.var 2)) JA.nil) (cj_of c_Fraction_over (hr.mono (by decide)) tk) T.o_Fraction.cl T.me_Fraction_over) (opj_qq (op := .Mult) (g := fun d => qMul d.1 d.2.1) T.o_Fraction T.om_Fraction_mul c_Fraction_mul (hr.mono (by decide)) tk)) hx)) fun v_widths_545 => (JN.nil (fun _ _ _ h => (Stt.weak h (weak_some (weak_some (weak_none (weak_none (weak_none weak_nil)))))))))) hx (weak_some (weak_some (weak_none (weak_none (weak_none weak_nil))))) sc_Line_web.nd) fun s537 => (JR.fz 1 0 (ctx' := [some (SF.mk (r_Line K) p_self), some (SF.mk (rL (rFrac K)) s537), none, none, none]) (mem' := []) (JR.seq (J1.cx (c' := fun v_scale_561 => [some (SF.mk (r_Line K) p_self), some (SF.mk (rL (rFrac K)) s537), none, some (SF.mk rInt v_scale_561), none]) (J1.set 3 (JE.call (JA.cons (JE.rd (JE.ofM (JM.lcT (r := rInt) 4 (JI.list (JE.var 1)) (fun _ _ _ _ _ D acc i562 tk563 => (JE.at (c' := [some (SF.mk (r_Line K) p_self), some (SF.mk (rL (rFrac K)) s537), none, none, some (SF.mk (rFrac K) i562)]) (JE.fld (JE.var 4) fld_bottom T.o_Fraction.cl T.na_Fraction_bottom))) sc_Line_web.nd (blkok_of (by kernel_rfl))))) JA.nil) (cj_of c_common_multiple (hr.mono (by decide)) tk) T.g_common_multiple T.k_common_multiple) hx sc_Line_web.nd)) fun v_scale_561 => (JR.ret (JE.call (JA.cons (JE.rd (JE.ofM (JM.lcT (r := rInt) 4 (JI.list (JE.var 1)) (fun _ _ _ _ _ D acc i570 tk571 => (JE.at (c' := [some (SF.mk (r_Line K) p_self), some (SF.mk (rL (rFrac K)) s537), none, some (SF.mk rInt v_scale_561), some (SF.mk (rFrac K) i570)]) (JE.bin (JE.fld (JE.var 4) fld_top T.o_Fraction.cl T.na_Fraction_top) (JE.bin (JE.var 3) (JE.fld (JE.var 4) fld_bottom T.o_Fraction.cl T.na_Fraction_bottom) opj_fdiv) opj_mul))) sc_Line_web.nd (blkok_of (by kernel_rfl))))) (JA.cons (JE.fld (JE.var 0) (fldI (fl_Line_end K)) T.o_Line.cl T.na_Line_end) JA.nil)) (cj_of c_placed (hr.mono (by decide)) tk) T.g_placed T.k_placed) hx)))))⟩
theorem fn_Line_web {P : Program} {w : World} {K : PySem.W.Frag} {mg : Str → Option Value} {base : Heap} (T : Txt w K mg) (c_Fraction_1 : C_Fraction_1 P w K mg base) (c_Fraction_rsub : C_Fraction_rsub P w K mg base) (c_Fraction_over : C_Fraction_over P w K mg base) (c_Fraction_mul : C_Fraction_mul P w K mg base) (c_common_multiple : C_common_multiple P w K mg base) (c_placed : C_placed P w K mg base) : FnR P w K mg base (L2N.CX P w) 7 (He.ma K (He.ga K "Line") "web") (spF K (aCons (rp (r_Line K)) aNil) (fun d => m_Line_web d.1) (rp (r_Web K))) := by
  obtain ⟨fd, F⟩ := T.F_Line_web
  exact FnOk.fr0 (ok_Line_web T c_Fraction_1 c_Fraction_rsub c_Fraction_over c_Fraction_mul c_common_multiple c_placed F) (F.bindsN fun _ _ _ _ _ _ us hl => match us, hl with | [_], _ => rfl)
theorem sc_Web_width : FnScope ["self", "room", "passage"] ["self", "room", "passage"] (defScope s_Web_width) := ⟨rfl, rfl, rfl, by decide +kernel, rfl, by decide +kernel, by decide +kernel⟩
def m_Web_width (p_self : O_Web) (p_room : Int) (p_passage : Int) : Res Int :=
  ((((Res.ok p_self).bind fun a1066 => .ok a1066.f_joints).bind fun a1067 => (Res.ok p_room).bind fun b1068 => atM a1067 b1068).bind fun a1069 => (Res.ok p_passage).bind fun b1070 => atM a1069 b1070)
abbrev C_Web_width (P : Program) (w : World) (K : PySem.W.Frag) (mg : Str → Option Value) (base : Heap) : Prop := FnR P w K mg base (L2N.CX P w) 1 (He.ma K (He.ga K "Web") "width") (spF K (aCons (rp (r_Web K)) (aCons (rp rInt) (aCons (rp rInt) aNil))) (fun d => m_Web_width d.1 d.2.1 d.2.2.1) (rp rInt))
theorem ok_Web_width {P : Program} {w : World} {K : PySem.W.Frag} {mg : Str → Option Value} {base : Heap} (T : Txt w K mg) {fd : FuncData} (F : FunD K "width" "Web.width" (defArgs s_Web_width) (defBody s_Web_width) (defScope s_Web_width) [] [] (He.ma K (He.ga K "Web") "width") fd) : FnOk P w K mg base (L2N.CX P w) 1 (He.ma K (He.ga K "Web") "width") fd ["self", "room", "passage"] (spF K (aCons (rp (r_Web K)) (aCons (rp rInt) (aCons (rp rInt) aNil))) (fun d => m_Web_width d.1 d.2.1 d.2.2.1) (rp rInt)) := by
  refine FunD.fn (k := 0) (N := ["self", "room", "passage"]) (ps := ["self", "room", "passage"]) F sc_Web_width (fun I H vs d h => ?_) (fun cdv A outer s I0 H0 E vs d hr sm h => ?_)
  · obtain ⟨v0, _, rfl, h0, v1, _, rfl, h1, v2, _, rfl, h2, rfl⟩ := h; rfl
  obtain ⟨v0, _, rfl, h0, v1, _, rfl, h1, v2, _, rfl, h2, rfl⟩ := h
  have hx : ∀ {ctx : List (Option SF)} {mem : List MF} (I H : Hp) (σ : St) (d : Option Addr), Stt I0 H0 ctx mem I H σ → Fr H0 d → bK I0 H0 I H σ d := fun _ _ _ _ s f => ⟨s.fm, f⟩
  have tk : L2N.Takes (bx P w K mg base ["self", "room", "passage"] "Web.width" (defScope s_Web_width) (He.ma K (He.ga K "Web") "width") cdv A outer s H0 E) (bW E) := L2N.takes_of rfl rfl rfl rfl
  obtain ⟨p_self, p_room, p_passage, _⟩ := d
  exact ⟨Stt I0 H0 [some (SF.mk (r_Web K) p_self), some (SF.mk rInt p_room), some (SF.mk rInt p_passage)] [], Stt.start sm ⟨h0, h1, h2, ini_nil rfl⟩ rfl (by simp), (JR.ret (JE.ix (JE.rd (JE.ix (JE.rd (JE.fld (JE.var 0) (fldI (fl_Web_joints K)) T.o_Web.cl T.na_Web_joints)) (JE.var 1))) (JE.var 2)) hx)⟩
theorem fn_Web_width {P : Program} {w : World} {K : PySem.W.Frag} {mg : Str → Option Value} {base : Heap} (T : Txt w K mg) : FnR P w K mg base (L2N.CX P w) 1 (He.ma K (He.ga K "Web") "width") (spF K (aCons (rp (r_Web K)) (aCons (rp rInt) (aCons (rp rInt) aNil))) (fun d => m_Web_width d.1 d.2.1 d.2.2.1) (rp rInt)) := by
  obtain ⟨fd, F⟩ := T.F_Web_width
  exact FnOk.fr0 (ok_Web_width T F) (F.bindsN fun _ _ _ _ _ _ us hl => match us, hl with | [_, _, _], _ => rfl)
theorem sc_Web_room_total : FnScope ["self", "room"] ["self", "room"] (defScope s_Web_room_total) := ⟨rfl, rfl, rfl, by decide +kernel, rfl, by decide +kernel, by decide +kernel⟩
def m_Web_room_total (p_self : O_Web) (p_room : Int) : Res Int :=
  (((Res.ok p_self).bind fun a1072 => .ok a1072.f_room_totals).bind fun a1073 => (Res.ok p_room).bind fun b1074 => atM a1073 b1074)
abbrev C_Web_room_total (P : Program) (w : World) (K : PySem.W.Frag) (mg : Str → Option Value) (base : Heap) : Prop := FnR P w K mg base (L2N.CX P w) 1 (He.ma K (He.ga K "Web") "room_total") (spF K (aCons (rp (r_Web K)) (aCons (rp rInt) aNil)) (fun d => m_Web_room_total d.1 d.2.1) (rp rInt))
theorem ok_Web_room_total {P : Program} {w : World} {K : PySem.W.Frag} {mg : Str → Option Value} {base : Heap} (T : Txt w K mg) {fd : FuncData} (F : FunD K "room_total" "Web.room_total" (defArgs s_Web_room_total) (defBody s_Web_room_total) (defScope s_Web_room_total) [] [] (He.ma K (He.ga K "Web") "room_total") fd) : FnOk P w K mg base (L2N.CX P w) 1 (He.ma K (He.ga K "Web") "room_total") fd ["self", "room"] (spF K (aCons (rp (r_Web K)) (aCons (rp rInt) aNil)) (fun d => m_Web_room_total d.1 d.2.1) (rp rInt)) := by
  refine FunD.fn (k := 0) (N := ["self", "room"]) (ps := ["self", "room"]) F sc_Web_room_total (fun I H vs d h => ?_) (fun cdv A outer s I0 H0 E vs d hr sm h => ?_)
  · obtain ⟨v0, _, rfl, h0, v1, _, rfl, h1, rfl⟩ := h; rfl
  obtain ⟨v0, _, rfl, h0, v1, _, rfl, h1, rfl⟩ := h
  have hx : ∀ {ctx : List (Option SF)} {mem : List MF} (I H : Hp) (σ : St) (d : Option Addr), Stt I0 H0 ctx mem I H σ → Fr H0 d → bK I0 H0 I H σ d := fun _ _ _ _ s f => ⟨s.fm, f⟩
  have tk : L2N.Takes (bx P w K mg base ["self", "room"] "Web.room_total" (defScope s_Web_room_total) (He.ma K (He.ga K "Web") "room_total") cdv A outer s H0 E) (bW E) := L2N.takes_of rfl rfl rfl rfl
  obtain ⟨p_self, p_room, _⟩ := d
  exact ⟨Stt I0 H0 [some (SF.mk (r_Web K) p_self), some (SF.mk rInt p_room)] [], Stt.start sm ⟨h0, h1, ini_nil rfl⟩ rfl (by simp), (JR.ret (JE.ix (JE.rd (JE.fld (JE.var 0) (fldI (fl_Web_room_totals K)) T.o_Web.cl T.na_Web_room_totals)) (JE.var 1)) hx)⟩
theorem fn_Web_room_total {P : Program} {w : World} {K : PySem.W.Frag} {mg : Str → Option Value} {base : Heap} (T : Txt w K mg) : FnR P w K mg base (L2N.CX P w) 1 (He.ma K (He.ga K "Web") "room_total") (spF K (aCons (rp (r_Web K)) (aCons (rp rInt) aNil)) (fun d => m_Web_room_total d.1 d.2.1) (rp rInt)) := by
  obtain ⟨fd, F⟩ := T.F_Web_room_total
  exact FnOk.fr0 (ok_Web_room_total T F) (F.bindsN fun _ _ _ _ _ _ us hl => match us, hl with | [_, _], _ => rfl)
theorem sc_Web_passage_total : FnScope ["self", "passage"] ["self", "passage"] (defScope s_Web_passage_total) := ⟨rfl, rfl, rfl, by decide +kernel, rfl, by decide +kernel, by decide +kernel⟩
def m_Web_passage_total (p_self : O_Web) (p_passage : Int) : Res Int :=
  (((Res.ok p_self).bind fun a1076 => .ok a1076.f_passage_totals).bind fun a1077 => (Res.ok p_passage).bind fun b1078 => atM a1077 b1078)
abbrev C_Web_passage_total (P : Program) (w : World) (K : PySem.W.Frag) (mg : Str → Option Value) (base : Heap) : Prop := FnR P w K mg base (L2N.CX P w) 1 (He.ma K (He.ga K "Web") "passage_total") (spF K (aCons (rp (r_Web K)) (aCons (rp rInt) aNil)) (fun d => m_Web_passage_total d.1 d.2.1) (rp rInt))
theorem ok_Web_passage_total {P : Program} {w : World} {K : PySem.W.Frag} {mg : Str → Option Value} {base : Heap} (T : Txt w K mg) {fd : FuncData} (F : FunD K "passage_total" "Web.passage_total" (defArgs s_Web_passage_total) (defBody s_Web_passage_total) (defScope s_Web_passage_total) [] [] (He.ma K (He.ga K "Web") "passage_total") fd) : FnOk P w K mg base (L2N.CX P w) 1 (He.ma K (He.ga K "Web") "passage_total") fd ["self", "passage"] (spF K (aCons (rp (r_Web K)) (aCons (rp rInt) aNil)) (fun d => m_Web_passage_total d.1 d.2.1) (rp rInt)) := by
  refine FunD.fn (k := 0) (N := ["self", "passage"]) (ps := ["self", "passage"]) F sc_Web_passage_total (fun I H vs d h => ?_) (fun cdv A outer s I0 H0 E vs d hr sm h => ?_)
  · obtain ⟨v0, _, rfl, h0, v1, _, rfl, h1, rfl⟩ := h; rfl
  obtain ⟨v0, _, rfl, h0, v1, _, rfl, h1, rfl⟩ := h
  have hx : ∀ {ctx : List (Option SF)} {mem : List MF} (I H : Hp) (σ : St) (d : Option Addr), Stt I0 H0 ctx mem I H σ → Fr H0 d → bK I0 H0 I H σ d := fun _ _ _ _ s f => ⟨s.fm, f⟩
  have tk : L2N.Takes (bx P w K mg base ["self", "passage"] "Web.passage_total" (defScope s_Web_passage_total) (He.ma K (He.ga K "Web") "passage_total") cdv A outer s H0 E) (bW E) := L2N.takes_of rfl rfl rfl rfl
  obtain ⟨p_self, p_passage, _⟩ := d
  exact ⟨Stt I0 H0 [some (SF.mk (r_Web K) p_self), some (SF.mk rInt p_passage)] [], Stt.start sm ⟨h0, h1, ini_nil rfl⟩ rfl (by simp), (JR.ret (JE.ix (JE.rd (JE.fld (JE.var 0) (fldI (fl_Web_passage_totals K)) T.o_Web.cl T.na_Web_passage_totals)) (JE.var 1)) hx)⟩
theorem fn_Web_passage_total {P : Program} {w : World} {K : PySem.W.Frag} {mg : Str → Option Value} {base : Heap} (T : Txt w K mg) : FnR P w K mg base (L2N.CX P w) 1 (He.ma K (He.ga K "Web") "passage_total") (spF K (aCons (rp (r_Web K)) (aCons (rp rInt) aNil)) (fun d => m_Web_passage_total d.1 d.2.1) (rp rInt)) := by
  obtain ⟨fd, F⟩ := T.F_Web_passage_total
  exact FnOk.fr0 (ok_Web_passage_total T F) (F.bindsN fun _ _ _ _ _ _ us hl => match us, hl with | [_, _], _ => rfl)
theorem sc_law_read : FnScope ["_law_web", "_law_rows", "_law_rleaks", "_law_i", "_law_c", "_law_pleaks", "_law_row_here"] ["_law_web"] (defScope s_law_read) := ⟨rfl, rfl, rfl, by decide +kernel, rfl, by decide +kernel, by decide +kernel⟩
def m_law_read (p_law_web : O_Web) : Res ((List (List Int)) × (List Int) × (List Int) × Unit) :=
  ((Res.ok ([] : List (List Int))).bind fun v_law_rows_989 => ((Res.ok ([] : List Int)).bind fun v_law_rleaks_991 => (((((Res.ok p_law_web).bind fun a994 => .ok a994.f_rooms).bind fun a995 => rangeM1 a995).bind fun l1029 => forS (fun (i996 : Int) (s993 : ((List (List Int)) × (List Int))) => ((((((Res.ok p_law_web).bind fun a998 => .ok a998.f_passages).bind fun a999 => rangeM1 a999).bind fun l1011 => lcR (fun (i1000 : Int) => ((Res.ok p_law_web).bind fun a1002 => ((Res.ok i996).bind fun a1007 => ((Res.ok i1000).bind fun a1005 => (Res.ok ()).bind fun b1006 => .ok (a1005, b1006)).bind fun b1008 => .ok (a1007, b1008)).bind fun b1009 => (fun d => m_Web_width d.1 d.2.1 d.2.2.1) (a1002, b1009))) l1011).bind fun y1013 => appM s993.1 y1013).bind fun v_law_rows_997 => (((((Res.ok p_law_web).bind fun a1015 => ((Res.ok i996).bind fun a1017 => (Res.ok ()).bind fun b1018 => .ok (a1017, b1018)).bind fun b1019 => (fun d => m_Web_room_total d.1 d.2.1) (a1015, b1019)).bind fun a1025 => ((((Res.ok v_law_rows_997).bind fun a1020 => (Res.ok i996).bind fun b1021 => atM a1020 b1021).bind fun a1023 => (Res.ok ()).bind fun b1024 => .ok (a1023, b1024)).bind (fun d => .ok d.1.sum)).bind fun b1026 => .ok (a1025 - b1026)).bind fun y1028 => appM s993.2 y1028).bind fun v_law_rleaks_1014 => (Res.ok (v_law_rows_997, v_law_rleaks_1014))))) l1029 (v_law_rows_989, v_law_rleaks_991)).bind fun s993 => ((Res.ok ([] : List Int)).bind fun v_law_pleaks_1030 => (((((Res.ok p_law_web).bind fun a1033 => .ok a1033.f_passages).bind fun a1034 => rangeM1 a1034).bind fun l1055 => forS (fun (i1035 : Int) (s1032 : (List Int)) => (((((Res.ok p_law_web).bind fun a1037 => ((Res.ok i1035).bind fun a1039 => (Res.ok ()).bind fun b1040 => .ok (a1039, b1040)).bind fun b1041 => (fun d => m_Web_passage_total d.1 d.2.1) (a1037, b1041)).bind fun a1051 => ((((Res.ok s993.1).bind fun l1047 => lcR (fun (i1042 : (List Int)) => ((Res.ok i1042).bind fun a1044 => (Res.ok i1035).bind fun b1045 => atM a1044 b1045)) l1047).bind fun a1049 => (Res.ok ()).bind fun b1050 => .ok (a1049, b1050)).bind (fun d => .ok d.1.sum)).bind fun b1052 => .ok (a1051 - b1052)).bind fun y1054 => appM s1032 y1054).bind fun v_law_pleaks_1036 => (Res.ok v_law_pleaks_1036))) l1055 v_law_pleaks_1030).bind fun s1032 => ((Res.ok s993.1).bind fun a1063 => ((Res.ok s993.2).bind fun a1061 => ((Res.ok s1032).bind fun a1059 => (Res.ok ()).bind fun b1060 => .ok (a1059, b1060)).bind fun b1062 => .ok (a1061, b1062)).bind fun b1064 => .ok (a1063, b1064)))))))
abbrev C_law_read (P : Program) (w : World) (K : PySem.W.Frag) (mg : Str → Option Value) (base : Heap) : Prop := FnR P w K mg base (L2N.CX P w) 2 (He.ga K "_law_read") (spF K (aCons (rp (r_Web K)) aNil) (fun d => m_law_read d.1) (rp (rTu (aCons (rp (rL (rL rInt))) (aCons (rp (rL rInt)) (aCons (rp (rL rInt)) aNil))))))
theorem ok_law_read {P : Program} {w : World} {K : PySem.W.Frag} {mg : Str → Option Value} {base : Heap} (T : Txt w K mg) (c_Web_width : C_Web_width P w K mg base) (c_Web_room_total : C_Web_room_total P w K mg base) (c_Web_passage_total : C_Web_passage_total P w K mg base) {fd : FuncData} (F : FunD K "_law_read" "_law_read" (defArgs s_law_read) (defBody s_law_read) (defScope s_law_read) [] [] (He.ga K "_law_read") fd) : FnOk P w K mg base (L2N.CX P w) 2 (He.ga K "_law_read") fd ["_law_web"] (spF K (aCons (rp (r_Web K)) aNil) (fun d => m_law_read d.1) (rp (rTu (aCons (rp (rL (rL rInt))) (aCons (rp (rL rInt)) (aCons (rp (rL rInt)) aNil)))))) := by
  refine FunD.fn (k := 1) (N := ["_law_web", "_law_rows", "_law_rleaks", "_law_i", "_law_c", "_law_pleaks", "_law_row_here"]) (ps := ["_law_web"]) F sc_law_read (fun I H vs d h => ?_) (fun cdv A outer s I0 H0 E vs d hr sm h => ?_)
  · obtain ⟨v0, _, rfl, h0, rfl⟩ := h; rfl
  obtain ⟨v0, _, rfl, h0, rfl⟩ := h
  have hx : ∀ {ctx : List (Option SF)} {mem : List MF} (I H : Hp) (σ : St) (d : Option Addr), Stt I0 H0 ctx mem I H σ → Fr H0 d → bK I0 H0 I H σ d := fun _ _ _ _ s f => ⟨s.fm, f⟩
  have tk : L2N.Takes (bx P w K mg base ["_law_web", "_law_rows", "_law_rleaks", "_law_i", "_law_c", "_law_pleaks", "_law_row_here"] "_law_read" (defScope s_law_read) (He.ga K "_law_read") cdv A outer s H0 E) (bW E) := L2N.takes_of rfl rfl rfl rfl
  have hp : PassesOwn (model P w) (bx P w K mg base ["_law_web", "_law_rows", "_law_rleaks", "_law_i", "_law_c", "_law_pleaks", "_law_row_here"] "_law_read" (defScope s_law_read) (He.ga K "_law_read") cdv A outer s H0 E).A (bx P w K mg base ["_law_web", "_law_rows", "_law_rleaks", "_law_i", "_law_c", "_law_pleaks", "_law_row_here"] "_law_read" (defScope s_law_read) (He.ga K "_law_read") cdv A outer s H0 E).env (bx P w K mg base ["_law_web", "_law_rows", "_law_rleaks", "_law_i", "_law_c", "_law_pleaks", "_law_row_here"] "_law_read" (defScope s_law_read) (He.ga K "_law_read") cdv A outer s H0 E).xe := passes_of rfl
  obtain ⟨p_law_web, _⟩ := d
  exact ⟨Stt I0 H0 [some (SF.mk (r_Web K) p_law_web), none, none, none, none, none, none] [], Stt.start sm ⟨h0, ini_nil rfl⟩ rfl (by simp), (JR.seq (J1.cn (c' := fun v_law_rows_989 l990 => [some (SF.mk (r_Web K) p_law_web), some (SF.mk (rRef l990) ()), none, none, none, none, none]) (me' := fun v_law_rows_989 l990 => [MF.lst l990 (rL rInt) v_law_rows_989]) (J1.setM 1 (JM.lst (r := (rL rInt)) JA.nilL) hx sc_law_read.nd)) fun v_law_rows_989 => JR.ex fun l990 => (JR.seq (J1.cn (c' := fun v_law_rleaks_991 l992 => [some (SF.mk (r_Web K) p_law_web), some (SF.mk (rRef l990) ()), some (SF.mk (rRef l992) ()), none, none, none, none]) (me' := fun v_law_rleaks_991 l992 => [MF.lst l992 rInt v_law_rleaks_991, MF.lst l990 (rL rInt) v_law_rows_989]) (J1.setM 2 (JM.lst (r := rInt) JA.nilL) hx sc_law_read.nd)) fun v_law_rleaks_991 => JR.ex fun l992 => (JR.seq (J1.forS (S := ((List (List Int)) × (List Int))) (cx := fun s993 => [some (SF.mk (r_Web K) p_law_web), some (SF.mk (rRef l990) ()), some (SF.mk (rRef l992) ()), none, none, none, none]) (me := fun s993 => [MF.lst l992 rInt s993.2, MF.lst l990 (rL rInt) s993.1]) (s0 := (v_law_rows_989, v_law_rleaks_991)) 3 hp (JI.range1 (JE.fld (JE.var 0) (fldI (fl_Web_rooms K)) T.o_Web.cl T.na_Web_rooms) T.n_range) (fun i996 s993 => JN.at (c' := [some (SF.mk (r_Web K) p_law_web), some (SF.mk (rRef l990) ()), some (SF.mk (rRef l992) ()), some (SF.mk rInt i996), none, none, none]) (JN.seq (J1.cm (c' := fun v_law_rows_997 => [some (SF.mk (r_Web K) p_law_web), some (SF.mk (rRef l990) ()), some (SF.mk (rRef l992) ()), some (SF.mk rInt i996), none, none, none]) (me' := fun v_law_rows_997 => [MF.lst l992 rInt s993.2, MF.lst l990 (rL rInt) v_law_rows_997]) (J1.app 1 1 (JE.ofM (JM.lcT (r := rInt) 4 (JI.range1 (JE.fld (JE.var 0) (fldI (fl_Web_passages K)) T.o_Web.cl T.na_Web_passages) T.n_range) (fun _ _ _ _ _ D acc i1000 tk1001 => (JE.at (c' := [some (SF.mk (r_Web K) p_law_web), some (SF.mk (rRef l990) ()), some (SF.mk (rRef l992) ()), some (SF.mk rInt i996), some (SF.mk rInt i1000), none, none]) (JE.meth (JE.var 0) (insOfI fun _ => by kernel_rfl) (JA.cons (JE.var 3) (JA.cons (JE.var 4) JA.nil)) (cj_of c_Web_width (hr.mono (by decide)) tk1001) T.o_Web.cl T.me_Web_width))) sc_law_read.nd (blkok_of (by kernel_rfl)))) hx)) fun v_law_rows_997 => (JN.seq (J1.cm (c' := fun v_law_rleaks_1014 => [some (SF.mk (r_Web K) p_law_web), some (SF.mk (rRef l990) ()), some (SF.mk (rRef l992) ()), some (SF.mk rInt i996), none, none, none]) (me' := fun v_law_rleaks_1014 => [MF.lst l992 rInt v_law_rleaks_1014, MF.lst l990 (rL rInt) v_law_rows_997]) (J1.app 2 0 (JE.bin (JE.meth (JE.var 0) (insOfI fun _ => by kernel_rfl) (JA.cons (JE.var 3) JA.nil) (cj_of c_Web_room_total (hr.mono (by decide)) tk) T.o_Web.cl T.me_Web_room_total) (JE.callB (JA.cons (JE.rd (JE.ix (JE.rdM 1 1) (JE.var 3))) JA.nil) (cj_sum rfl) T.n_sum boot_sum) opj_sub) hx)) fun v_law_rleaks_1014 => (JN.nil (fun _ _ _ h => (Stt.weak h (weak_some (weak_some (weak_some (weak_none (weak_none (weak_none (weak_none weak_nil))))))))))))) hx (weak_some (weak_some (weak_some (weak_none (weak_none (weak_none (weak_none weak_nil))))))) sc_law_read.nd) fun s993 => (JR.fz 1 1 (ctx' := [some (SF.mk (r_Web K) p_law_web), some (SF.mk (rL (rL rInt)) s993.1), some (SF.mk (rRef l992) ()), none, none, none, none]) (mem' := [MF.lst l992 rInt s993.2]) (JR.fz 2 0 (ctx' := [some (SF.mk (r_Web K) p_law_web), some (SF.mk (rL (rL rInt)) s993.1), some (SF.mk (rL rInt) s993.2), none, none, none, none]) (mem' := []) (JR.seq (J1.cn (c' := fun v_law_pleaks_1030 l1031 => [some (SF.mk (r_Web K) p_law_web), some (SF.mk (rL (rL rInt)) s993.1), some (SF.mk (rL rInt) s993.2), none, none, some (SF.mk (rRef l1031) ()), none]) (me' := fun v_law_pleaks_1030 l1031 => [MF.lst l1031 rInt v_law_pleaks_1030]) (J1.setM 5 (JM.lst (r := rInt) JA.nilL) hx sc_law_read.nd)) fun v_law_pleaks_1030 => JR.ex fun l1031 => (JR.seq (J1.forS (S := (List Int)) (cx := fun s1032 => [some (SF.mk (r_Web K) p_law_web), some (SF.mk (rL (rL rInt)) s993.1), some (SF.mk (rL rInt) s993.2), none, none, some (SF.mk (rRef l1031) ()), none]) (me := fun s1032 => [MF.lst l1031 rInt s1032]) (s0 := v_law_pleaks_1030) 4 hp (JI.range1 (JE.fld (JE.var 0) (fldI (fl_Web_passages K)) T.o_Web.cl T.na_Web_passages) T.n_range) (fun i1035 s1032 => JN.at (c' := [some (SF.mk (r_Web K) p_law_web), some (SF.mk (rL (rL rInt)) s993.1), some (SF.mk (rL rInt) s993.2), none, some (SF.mk rInt i1035), some (SF.mk (rRef l1031) ()), none]) (JN.seq (J1.cm (c' := fun v_law_pleaks_1036 => [some (SF.mk (r_Web K) p_law_web), some (SF.mk (rL (rL rInt)) s993.1), some (SF.mk (rL rInt) s993.2), none, some (SF.mk rInt i1035), some (SF.mk (rRef l1031) ()), none]) (me' := fun v_law_pleaks_1036 => [MF.lst l1031 rInt v_law_pleaks_1036]) (J1.app 5 0 (JE.bin (JE.meth (JE.var 0) (insOfI fun _ => by kernel_rfl) (JA.cons (JE.var 4) JA.nil) (cj_of c_Web_passage_total (hr.mono (by decide)) tk) T.o_Web.cl T.me_Web_passage_total) (JE.callB (JA.cons (JE.rd (JE.ofM (JM.lcT (r := rInt) 6 (JI.list (JE.var 1)) (fun _ _ _ _ _ D acc i1042 tk1043 => (JE.at (c' := [some (SF.mk (r_Web K) p_law_web), some (SF.mk (rL (rL rInt)) s993.1), some (SF.mk (rL rInt) s993.2), none, some (SF.mk rInt i1035), some (SF.mk (rRef l1031) ()), some (SF.mk (rL rInt) i1042)]) (JE.ix (JE.rd (JE.var 6)) (JE.var 4)))) sc_law_read.nd (blkok_of (by kernel_rfl))))) JA.nil) (cj_sum rfl) T.n_sum boot_sum) opj_sub) hx)) fun v_law_pleaks_1036 => (JN.nil (fun _ _ _ h => (Stt.weak h (weak_some (weak_some (weak_some (weak_none (weak_none (weak_some (weak_none weak_nil)))))))))))) hx (weak_some (weak_some (weak_some (weak_none (weak_none (weak_some (weak_none weak_nil))))))) sc_law_read.nd) fun s1032 => (JR.fz 5 0 (ctx' := [some (SF.mk (r_Web K) p_law_web), some (SF.mk (rL (rL rInt)) s993.1), some (SF.mk (rL rInt) s993.2), none, none, some (SF.mk (rL rInt) s1032), none]) (mem' := []) (JR.ret (JE.tupD (k := 3) (JA.cons (JE.var 1) (JA.cons (JE.var 2) (JA.cons (JE.var 5) JA.nil))) (by rintro _ _ _ _ ⟨_, _, rfl, _, _, _, rfl, _, _, _, rfl, _, rfl⟩; rfl)) hx)))))))))⟩
theorem fn_law_read {P : Program} {w : World} {K : PySem.W.Frag} {mg : Str → Option Value} {base : Heap} (T : Txt w K mg) (c_Web_width : C_Web_width P w K mg base) (c_Web_room_total : C_Web_room_total P w K mg base) (c_Web_passage_total : C_Web_passage_total P w K mg base) : FnR P w K mg base (L2N.CX P w) 2 (He.ga K "_law_read") (spF K (aCons (rp (r_Web K)) aNil) (fun d => m_law_read d.1) (rp (rTu (aCons (rp (rL (rL rInt))) (aCons (rp (rL rInt)) (aCons (rp (rL rInt)) aNil)))))) := by
  obtain ⟨fd, F⟩ := T.F_law_read
  exact FnOk.fr0 (ok_law_read T c_Web_width c_Web_room_total c_Web_passage_total F) (F.bindsN fun _ _ _ _ _ _ us hl => match us, hl with | [_], _ => rfl)
theorem sc_law_totals : FnScope ["_law_web", "_law_rooms", "_law_i", "_law_passages", "_law_row_here", "_law_c"] ["_law_web"] (defScope s_law_totals) := ⟨rfl, rfl, rfl, by decide +kernel, rfl, by decide +kernel, by decide +kernel⟩
def m_law_totals (p_law_web : ((List (List Int)) × (List Int) × (List Int) × Unit)) : Res ((List Int) × (List Int) × Unit) :=
  (((((((Res.ok p_law_web).bind fun a1123 => .ok a1123.1).bind fun a1125 => (Res.ok ()).bind fun b1126 => .ok (a1125, b1126)).bind (fun d => .ok (d.1.length : Int))).bind fun a1127 => rangeM1 a1127).bind fun l1142 => lcR (fun (i1128 : Int) => ((((((Res.ok p_law_web).bind fun a1130 => .ok a1130.1).bind fun a1131 => (Res.ok i1128).bind fun b1132 => atM a1131 b1132).bind fun a1134 => (Res.ok ()).bind fun b1135 => .ok (a1134, b1135)).bind (fun d => .ok d.1.sum)).bind fun a1139 => (((Res.ok p_law_web).bind fun a1136 => .ok a1136.2.1).bind fun a1137 => (Res.ok i1128).bind fun b1138 => atM a1137 b1138).bind fun b1140 => .ok (a1139 + b1140))) l1142).bind fun v_law_rooms_1122 => (((((((Res.ok p_law_web).bind fun a1145 => .ok a1145.2.2.1).bind fun a1147 => (Res.ok ()).bind fun b1148 => .ok (a1147, b1148)).bind (fun d => .ok (d.1.length : Int))).bind fun a1149 => rangeM1 a1149).bind fun l1168 => lcR (fun (i1150 : Int) => ((((((Res.ok p_law_web).bind fun a1152 => .ok a1152.1).bind fun l1158 => lcR (fun (i1153 : (List Int)) => ((Res.ok i1153).bind fun a1155 => (Res.ok i1150).bind fun b1156 => atM a1155 b1156)) l1158).bind fun a1160 => (Res.ok ()).bind fun b1161 => .ok (a1160, b1161)).bind (fun d => .ok d.1.sum)).bind fun a1165 => (((Res.ok p_law_web).bind fun a1162 => .ok a1162.2.2.1).bind fun a1163 => (Res.ok i1150).bind fun b1164 => atM a1163 b1164).bind fun b1166 => .ok (a1165 + b1166))) l1168).bind fun v_law_passages_1144 => ((Res.ok v_law_rooms_1122).bind fun a1174 => ((Res.ok v_law_passages_1144).bind fun a1172 => (Res.ok ()).bind fun b1173 => .ok (a1172, b1173)).bind fun b1175 => .ok (a1174, b1175))))
abbrev C_law_totals (P : Program) (w : World) (K : PySem.W.Frag) (mg : Str → Option Value) (base : Heap) : Prop := FnR P w K mg base (L2N.CX P w) 1 (He.ga K "_law_totals") (spF K (aCons (rp (rTu (aCons (rp (rL (rL rInt))) (aCons (rp (rL rInt)) (aCons (rp (rL rInt)) aNil))))) aNil) (fun d => m_law_totals d.1) (rp (rTu (aCons (rp (rL rInt)) (aCons (rp (rL rInt)) aNil)))))
theorem ok_law_totals {P : Program} {w : World} {K : PySem.W.Frag} {mg : Str → Option Value} {base : Heap} (T : Txt w K mg) {fd : FuncData} (F : FunD K "_law_totals" "_law_totals" (defArgs s_law_totals) (defBody s_law_totals) (defScope s_law_totals) [] [] (He.ga K "_law_totals") fd) : FnOk P w K mg base (L2N.CX P w) 1 (He.ga K "_law_totals") fd ["_law_web"] (spF K (aCons (rp (rTu (aCons (rp (rL (rL rInt))) (aCons (rp (rL rInt)) (aCons (rp (rL rInt)) aNil))))) aNil) (fun d => m_law_totals d.1) (rp (rTu (aCons (rp (rL rInt)) (aCons (rp (rL rInt)) aNil))))) := by
  refine FunD.fn (k := 0) (N := ["_law_web", "_law_rooms", "_law_i", "_law_passages", "_law_row_here", "_law_c"]) (ps := ["_law_web"]) F sc_law_totals (fun I H vs d h => ?_) (fun cdv A outer s I0 H0 E vs d hr sm h => ?_)
  · obtain ⟨v0, _, rfl, h0, rfl⟩ := h; rfl
  obtain ⟨v0, _, rfl, h0, rfl⟩ := h
  have hx : ∀ {ctx : List (Option SF)} {mem : List MF} (I H : Hp) (σ : St) (d : Option Addr), Stt I0 H0 ctx mem I H σ → Fr H0 d → bK I0 H0 I H σ d := fun _ _ _ _ s f => ⟨s.fm, f⟩
  have tk : L2N.Takes (bx P w K mg base ["_law_web", "_law_rooms", "_law_i", "_law_passages", "_law_row_here", "_law_c"] "_law_totals" (defScope s_law_totals) (He.ga K "_law_totals") cdv A outer s H0 E) (bW E) := L2N.takes_of rfl rfl rfl rfl
  obtain ⟨p_law_web, _⟩ := d
  exact ⟨Stt I0 H0 [some (SF.mk (rTu (aCons (rp (rL (rL rInt))) (aCons (rp (rL rInt)) (aCons (rp (rL rInt)) aNil)))) p_law_web), none, none, none, none, none] [], Stt.start sm ⟨h0, ini_nil rfl⟩ rfl (by simp), (JR.seq (J1.cn (c' := fun v_law_rooms_1122 l1143 => [some (SF.mk (rTu (aCons (rp (rL (rL rInt))) (aCons (rp (rL rInt)) (aCons (rp (rL rInt)) aNil)))) p_law_web), some (SF.mk (rRef l1143) ()), none, none, none, none]) (me' := fun v_law_rooms_1122 l1143 => [MF.lst l1143 rInt v_law_rooms_1122]) (J1.setLcT (r := rInt) 1 2 (JI.range1 (JE.callB (JA.cons (JE.rd (JE.ixD 0 (JE.var 0) AtR.zero)) JA.nil) cj_len T.n_len boot_len) T.n_range) (fun _ _ _ _ _ D acc i1128 tk1129 => (JE.at (c' := [some (SF.mk (rTu (aCons (rp (rL (rL rInt))) (aCons (rp (rL rInt)) (aCons (rp (rL rInt)) aNil)))) p_law_web), none, some (SF.mk rInt i1128), none, none, none]) (JE.bin (JE.callB (JA.cons (JE.rd (JE.ix (JE.rd (JE.ixD 0 (JE.var 0) AtR.zero)) (JE.var 2))) JA.nil) (cj_sum rfl) T.n_sum boot_sum) (JE.ix (JE.rd (JE.ixD 1 (JE.var 0) (AtR.succ AtR.zero))) (JE.var 2)) opj_add))) hx sc_law_totals.nd (blkok_of (by kernel_rfl)))) fun v_law_rooms_1122 => JR.ex fun l1143 => (JR.fz 1 0 (ctx' := [some (SF.mk (rTu (aCons (rp (rL (rL rInt))) (aCons (rp (rL rInt)) (aCons (rp (rL rInt)) aNil)))) p_law_web), some (SF.mk (rL rInt) v_law_rooms_1122), none, none, none, none]) (mem' := []) (JR.seq (J1.cn (c' := fun v_law_passages_1144 l1169 => [some (SF.mk (rTu (aCons (rp (rL (rL rInt))) (aCons (rp (rL rInt)) (aCons (rp (rL rInt)) aNil)))) p_law_web), some (SF.mk (rL rInt) v_law_rooms_1122), none, some (SF.mk (rRef l1169) ()), none, none]) (me' := fun v_law_passages_1144 l1169 => [MF.lst l1169 rInt v_law_passages_1144]) (J1.setLcT (r := rInt) 3 5 (JI.range1 (JE.callB (JA.cons (JE.rd (JE.ixD 2 (JE.var 0) (AtR.succ (AtR.succ AtR.zero)))) JA.nil) cj_len T.n_len boot_len) T.n_range) (fun _ _ _ _ _ D acc i1150 tk1151 => (JE.at (c' := [some (SF.mk (rTu (aCons (rp (rL (rL rInt))) (aCons (rp (rL rInt)) (aCons (rp (rL rInt)) aNil)))) p_law_web), some (SF.mk (rL rInt) v_law_rooms_1122), none, none, none, some (SF.mk rInt i1150)]) (JE.bin (JE.callB (JA.cons (JE.rd (JE.ofM (JM.lcT (r := rInt) 4 (JI.list (JE.ixD 0 (JE.var 0) AtR.zero)) (fun _ _ _ _ _ D acc i1153 tk1154 => (JE.at (c' := [some (SF.mk (rTu (aCons (rp (rL (rL rInt))) (aCons (rp (rL rInt)) (aCons (rp (rL rInt)) aNil)))) p_law_web), some (SF.mk (rL rInt) v_law_rooms_1122), none, none, some (SF.mk (rL rInt) i1153), some (SF.mk rInt i1150)]) (JE.ix (JE.rd (JE.var 4)) (JE.var 5)))) sc_law_totals.nd (blkok_of (by kernel_rfl))))) JA.nil) (cj_sum rfl) T.n_sum boot_sum) (JE.ix (JE.rd (JE.ixD 2 (JE.var 0) (AtR.succ (AtR.succ AtR.zero)))) (JE.var 5)) opj_add))) hx sc_law_totals.nd (blkok_of (by kernel_rfl)))) fun v_law_passages_1144 => JR.ex fun l1169 => (JR.fz 3 0 (ctx' := [some (SF.mk (rTu (aCons (rp (rL (rL rInt))) (aCons (rp (rL rInt)) (aCons (rp (rL rInt)) aNil)))) p_law_web), some (SF.mk (rL rInt) v_law_rooms_1122), none, some (SF.mk (rL rInt) v_law_passages_1144), none, none]) (mem' := []) (JR.ret (JE.tupD (k := 2) (JA.cons (JE.var 1) (JA.cons (JE.var 3) JA.nil)) (by rintro _ _ _ _ ⟨_, _, rfl, _, _, _, rfl, _, rfl⟩; rfl)) hx)))))⟩
theorem fn_law_totals {P : Program} {w : World} {K : PySem.W.Frag} {mg : Str → Option Value} {base : Heap} (T : Txt w K mg) : FnR P w K mg base (L2N.CX P w) 1 (He.ga K "_law_totals") (spF K (aCons (rp (rTu (aCons (rp (rL (rL rInt))) (aCons (rp (rL rInt)) (aCons (rp (rL rInt)) aNil))))) aNil) (fun d => m_law_totals d.1) (rp (rTu (aCons (rp (rL rInt)) (aCons (rp (rL rInt)) aNil))))) := by
  obtain ⟨fd, F⟩ := T.F_law_totals
  exact FnOk.fr0 (ok_law_totals T F) (F.bindsN fun _ _ _ _ _ _ us hl => match us, hl with | [_], _ => rfl)
theorem sc_law_sound : FnScope ["_law_web", "_law_totals_here", "_law_row_here", "_law_width", "_law_total"] ["_law_web"] (defScope s_law_sound) := ⟨rfl, rfl, rfl, by decide +kernel, rfl, by decide +kernel, by decide +kernel⟩
def m_law_sound (p_law_web : ((List (List Int)) × (List Int) × (List Int) × Unit)) : Res Bool :=
  ((((Res.ok p_law_web).bind fun a1082 => (Res.ok ()).bind fun b1083 => .ok (a1082, b1083)).bind (fun d => m_law_totals d.1)).bind fun v_law_totals_here_1080 => (((((Res.ok p_law_web).bind fun a1085 => .ok a1085.1).bind fun a1094 => (((Res.ok p_law_web).bind fun a1086 => .ok a1086.2.1).bind fun a1092 => (((Res.ok p_law_web).bind fun a1087 => .ok a1087.2.2.1).bind fun a1089 => (Res.ok []).bind fun b1090 => .ok (a1089 :: b1090)).bind fun b1093 => .ok (a1092 :: b1093)).bind fun b1095 => catM a1094 b1095).bind fun l1108 => (forG (fun (i1096 : (List Int)) (s1084 : Unit) => ((((Res.ok i1096).bind fun l1107 => (forG (fun (i1098 : Int) (s1097 : Unit) => ((((((Res.ok i1098).bind fun a1099 => .ok true).bind fun a1100 => .ok (!a1100)).bind fun a1103 => if a1103 = true then .ok true else ((Res.ok i1098).bind fun a1101 => (Res.ok (0 : Int)).bind fun b1102 => .ok (decide (a1101 < b1102)))).bind fun x1104 => if x1104 = true then ((Res.ok false).bind fun r1106 => .ok (Fl.rt r1106)) else (Res.ok (Fl.nx ()))) : Res (Fl Unit Unit Bool))) l1107 () : Res (Fl Unit Unit Bool))).bind (Fl.then fun s1097 => (Res.ok (Fl.nx ())))) : Res (Fl Unit Unit Bool))) l1108 () : Res (Fl Unit Unit Bool))).bind (Fl.out fun s1084 => (((((Res.ok v_law_totals_here_1080).bind fun a1110 => .ok a1110.1).bind fun a1112 => ((Res.ok v_law_totals_here_1080).bind fun a1111 => .ok a1111.2.1).bind fun b1113 => catM a1112 b1113).bind fun l1120 => (forG (fun (i1114 : Int) (s1109 : Unit) => ((((Res.ok i1114).bind fun a1115 => (Res.ok (1 : Int)).bind fun b1116 => .ok (decide (a1115 < b1116))).bind fun x1117 => if x1117 = true then ((Res.ok false).bind fun r1119 => .ok (Fl.rt r1119)) else (Res.ok (Fl.nx ()))) : Res (Fl Unit Unit Bool))) l1120 () : Res (Fl Unit Unit Bool))).bind (Fl.out fun s1109 => (Res.ok true))))))
abbrev C_law_sound (P : Program) (w : World) (K : PySem.W.Frag) (mg : Str → Option Value) (base : Heap) : Prop := FnR P w K mg base (L2N.CX P w) 2 (He.ga K "_law_sound") (spF K (aCons (rp (rTu (aCons (rp (rL (rL rInt))) (aCons (rp (rL rInt)) (aCons (rp (rL rInt)) aNil))))) aNil) (fun d => m_law_sound d.1) (rp rBl))
theorem ok_law_sound {P : Program} {w : World} {K : PySem.W.Frag} {mg : Str → Option Value} {base : Heap} (T : Txt w K mg) (c_law_totals : C_law_totals P w K mg base) {fd : FuncData} (F : FunD K "_law_sound" "_law_sound" (defArgs s_law_sound) (defBody s_law_sound) (defScope s_law_sound) [] [] (He.ga K "_law_sound") fd) : FnOk P w K mg base (L2N.CX P w) 2 (He.ga K "_law_sound") fd ["_law_web"] (spF K (aCons (rp (rTu (aCons (rp (rL (rL rInt))) (aCons (rp (rL rInt)) (aCons (rp (rL rInt)) aNil))))) aNil) (fun d => m_law_sound d.1) (rp rBl)) := by
  refine FunD.fn (k := 1) (N := ["_law_web", "_law_totals_here", "_law_row_here", "_law_width", "_law_total"]) (ps := ["_law_web"]) F sc_law_sound (fun I H vs d h => ?_) (fun cdv A outer s I0 H0 E vs d hr sm h => ?_)
  · obtain ⟨v0, _, rfl, h0, rfl⟩ := h; rfl
  obtain ⟨v0, _, rfl, h0, rfl⟩ := h
  have hx : ∀ {ctx : List (Option SF)} {mem : List MF} (I H : Hp) (σ : St) (d : Option Addr), Stt I0 H0 ctx mem I H σ → Fr H0 d → bK I0 H0 I H σ d := fun _ _ _ _ s f => ⟨s.fm, f⟩
  have tk : L2N.Takes (bx P w K mg base ["_law_web", "_law_totals_here", "_law_row_here", "_law_width", "_law_total"] "_law_sound" (defScope s_law_sound) (He.ga K "_law_sound") cdv A outer s H0 E) (bW E) := L2N.takes_of rfl rfl rfl rfl
  have hp : PassesOwn (model P w) (bx P w K mg base ["_law_web", "_law_totals_here", "_law_row_here", "_law_width", "_law_total"] "_law_sound" (defScope s_law_sound) (He.ga K "_law_sound") cdv A outer s H0 E).A (bx P w K mg base ["_law_web", "_law_totals_here", "_law_row_here", "_law_width", "_law_total"] "_law_sound" (defScope s_law_sound) (He.ga K "_law_sound") cdv A outer s H0 E).env (bx P w K mg base ["_law_web", "_law_totals_here", "_law_row_here", "_law_width", "_law_total"] "_law_sound" (defScope s_law_sound) (He.ga K "_law_sound") cdv A outer s H0 E).xe := passes_of rfl
  obtain ⟨p_law_web, _⟩ := d
  exact ⟨Stt I0 H0 [some (SF.mk (rTu (aCons (rp (rL (rL rInt))) (aCons (rp (rL rInt)) (aCons (rp (rL rInt)) aNil)))) p_law_web), none, none, none, none] [], Stt.start sm ⟨h0, ini_nil rfl⟩ rfl (by simp), (JR.seq (J1.cx (c' := fun v_law_totals_here_1080 => [some (SF.mk (rTu (aCons (rp (rL (rL rInt))) (aCons (rp (rL rInt)) (aCons (rp (rL rInt)) aNil)))) p_law_web), some (SF.mk (rTu (aCons (rp (rL rInt)) (aCons (rp (rL rInt)) aNil))) v_law_totals_here_1080), none, none, none]) (J1.set 1 (JE.call (JA.cons (JE.var 0) JA.nil) (cj_of c_law_totals (hr.mono (by decide)) tk) T.g_law_totals T.k_law_totals) hx sc_law_sound.nd)) fun v_law_totals_here_1080 => (JR.seqG (GL := fun _ _ _ _ => False) (J1G.forG (S := Unit) (cx := fun s1084 => [some (SF.mk (rTu (aCons (rp (rL (rL rInt))) (aCons (rp (rL rInt)) (aCons (rp (rL rInt)) aNil)))) p_law_web), some (SF.mk (rTu (aCons (rp (rL rInt)) (aCons (rp (rL rInt)) aNil))) v_law_totals_here_1080), none, none, none]) (me := fun s1084 => []) (s0 := ()) 2 hp (JI.list (JE.ofM (JM.cat (JE.hp (JE.ixD 0 (JE.var 0) AtR.zero)) (JE.hp (JE.ofM (JM.lst (r := (rL rInt)) (JA.consL (JE.ixD 1 (JE.var 0) (AtR.succ AtR.zero)) (JA.consL (JE.ixD 2 (JE.var 0) (AtR.succ (AtR.succ AtR.zero))) JA.nilL)))))))) (fun i1096 s1084 => JG.at (c' := [some (SF.mk (rTu (aCons (rp (rL (rL rInt))) (aCons (rp (rL rInt)) (aCons (rp (rL rInt)) aNil)))) p_law_web), some (SF.mk (rTu (aCons (rp (rL rInt)) (aCons (rp (rL rInt)) aNil))) v_law_totals_here_1080), some (SF.mk (rL rInt) i1096), none, none]) (JG.seqG (J1G.forG (S := Unit) (cx := fun s1097 => [some (SF.mk (rTu (aCons (rp (rL (rL rInt))) (aCons (rp (rL rInt)) (aCons (rp (rL rInt)) aNil)))) p_law_web), some (SF.mk (rTu (aCons (rp (rL rInt)) (aCons (rp (rL rInt)) aNil))) v_law_totals_here_1080), some (SF.mk (rL rInt) i1096), none, none]) (me := fun s1097 => []) (s0 := ()) 3 hp (JI.list (JE.var 2)) (fun i1098 s1097 => JG.at (c' := [some (SF.mk (rTu (aCons (rp (rL (rL rInt))) (aCons (rp (rL rInt)) (aCons (rp (rL rInt)) aNil)))) p_law_web), some (SF.mk (rTu (aCons (rp (rL rInt)) (aCons (rp (rL rInt)) aNil))) v_law_totals_here_1080), some (SF.mk (rL rInt) i1096), some (SF.mk rInt i1098), none]) (JG.ifT (JT.bool (JW.or (JT.not (JT.of (JE.isi (JE.var 3) (w_type_at T.n_int (by decide +kernel) rfl (by decide) (by decide)) (.ty _) (tyr_int (t := "int") (by decide +kernel)) T.n_isinstance))) (JW.or1 (JT.cmp (JE.var 3) JE.int opj_lt)))) (JG.rt (JR.ret JE.bl hx)) (JG.nil (fun _ _ _ h => (Stt.weak h (weak_some (weak_some (weak_some (weak_none (weak_none weak_nil)))))))) hx)) hx (weak_some (weak_some (weak_some (weak_none (weak_none weak_nil))))) sc_law_sound.nd) fun s1097 => (JG.nil (fun _ _ _ h => (Stt.weak h (weak_some (weak_some (weak_none (weak_none (weak_none weak_nil)))))))))) hx (weak_some (weak_some (weak_none (weak_none (weak_none weak_nil))))) sc_law_sound.nd) fun s1084 => (JR.seqG (GL := fun _ _ _ _ => False) (J1G.forG (S := Unit) (cx := fun s1109 => [some (SF.mk (rTu (aCons (rp (rL (rL rInt))) (aCons (rp (rL rInt)) (aCons (rp (rL rInt)) aNil)))) p_law_web), some (SF.mk (rTu (aCons (rp (rL rInt)) (aCons (rp (rL rInt)) aNil))) v_law_totals_here_1080), none, none, none]) (me := fun s1109 => []) (s0 := ()) 4 hp (JI.list (JE.ofM (JM.cat (JE.hp (JE.ixD 0 (JE.var 1) AtR.zero)) (JE.hp (JE.ixD 1 (JE.var 1) (AtR.succ AtR.zero)))))) (fun i1114 s1109 => JG.at (c' := [some (SF.mk (rTu (aCons (rp (rL (rL rInt))) (aCons (rp (rL rInt)) (aCons (rp (rL rInt)) aNil)))) p_law_web), some (SF.mk (rTu (aCons (rp (rL rInt)) (aCons (rp (rL rInt)) aNil))) v_law_totals_here_1080), none, none, some (SF.mk rInt i1114)]) (JG.ifT (JT.cmp (JE.var 4) JE.int opj_lt) (JG.rt (JR.ret JE.bl hx)) (JG.nil (fun _ _ _ h => (Stt.weak h (weak_some (weak_some (weak_none (weak_none (weak_none weak_nil)))))))) hx)) hx (weak_some (weak_some (weak_none (weak_none (weak_none weak_nil))))) sc_law_sound.nd) fun s1109 => (JR.ret JE.bl hx))))⟩
theorem fn_law_sound {P : Program} {w : World} {K : PySem.W.Frag} {mg : Str → Option Value} {base : Heap} (T : Txt w K mg) (c_law_totals : C_law_totals P w K mg base) : FnR P w K mg base (L2N.CX P w) 2 (He.ga K "_law_sound") (spF K (aCons (rp (rTu (aCons (rp (rL (rL rInt))) (aCons (rp (rL rInt)) (aCons (rp (rL rInt)) aNil))))) aNil) (fun d => m_law_sound d.1) (rp rBl)) := by
  obtain ⟨fd, F⟩ := T.F_law_sound
  exact FnOk.fr0 (ok_law_sound T c_law_totals F) (F.bindsN fun _ _ _ _ _ _ us hl => match us, hl with | [_], _ => rfl)
theorem sc_law_half : FnScope ["_law_held", "_law_down", "_law_scale", "_law_result", "_law_node", "_law_up"] ["_law_held", "_law_down", "_law_scale"] (defScope s_law_half) := ⟨rfl, rfl, rfl, by decide +kernel, rfl, by decide +kernel, by decide +kernel⟩
def m_law_half (p_law_held : (List Int)) (p_law_down : (List Int)) (p_law_scale : Int) : Res (List Int) :=
  ((((Res.ok (0 : Int)).bind fun a1278 => (Res.ok []).bind fun b1279 => .ok (a1278 :: b1279)).bind fun a1283 => (((Res.ok p_law_held).bind fun a1281 => (Res.ok ()).bind fun b1282 => .ok (a1281, b1282)).bind (fun d => .ok (d.1.length : Int))).bind fun b1284 => repM a1283 b1284).bind fun v_law_result_1276 => ((((((Res.ok p_law_held).bind fun a1288 => (Res.ok ()).bind fun b1289 => .ok (a1288, b1289)).bind (fun d => .ok (d.1.length : Int))).bind fun a1290 => rangeM1 a1290).bind fun l1344 => forS (fun (i1291 : Int) (s1286 : (List Int)) => ((((Res.ok i1291).bind fun a1292 => (Res.ok (0 : Int)).bind fun b1293 => .ok (decide (a1292 > b1293))).bind fun x1313 => if x1313 = true then (((((Res.ok s1286).bind fun a1296 => ((Res.ok i1291).bind fun a1294 => (Res.ok (1 : Int)).bind fun b1295 => .ok (a1294 - b1295)).bind fun b1297 => atM a1296 b1297).bind fun a1304 => (((Res.ok p_law_held).bind fun a1298 => (Res.ok i1291).bind fun b1299 => atM a1298 b1299).bind fun a1302 => ((Res.ok p_law_down).bind fun a1300 => (Res.ok i1291).bind fun b1301 => atM a1300 b1301).bind fun b1303 => mulI a1302 b1303).bind fun b1305 => .ok (a1304 + b1305)).bind fun y1310 => ((Res.ok i1291).bind fun a1307 => (Res.ok (1 : Int)).bind fun b1308 => .ok (a1307 - b1308)).bind fun k1311 => putM s1286 k1311 y1310).bind fun v_law_result_1309 => (Res.ok v_law_result_1309)) else (Res.ok s1286)).bind fun s1312 => (((((Res.ok i1291).bind fun a1314 => (Res.ok (1 : Int)).bind fun b1315 => .ok (a1314 + b1315)).bind fun a1319 => (((Res.ok p_law_held).bind fun a1317 => (Res.ok ()).bind fun b1318 => .ok (a1317, b1318)).bind (fun d => .ok (d.1.length : Int))).bind fun b1320 => .ok (decide (a1319 < b1320))).bind fun x1343 => if x1343 = true then (((Res.ok p_law_scale).bind fun a1324 => ((Res.ok p_law_down).bind fun a1322 => (Res.ok i1291).bind fun b1323 => atM a1322 b1323).bind fun b1325 => .ok (a1324 - b1325)).bind fun v_law_up_1321 => (((((Res.ok s1312).bind fun a1328 => ((Res.ok i1291).bind fun a1326 => (Res.ok (1 : Int)).bind fun b1327 => .ok (a1326 + b1327)).bind fun b1329 => atM a1328 b1329).bind fun a1334 => (((Res.ok p_law_held).bind fun a1330 => (Res.ok i1291).bind fun b1331 => atM a1330 b1331).bind fun a1332 => (Res.ok v_law_up_1321).bind fun b1333 => mulI a1332 b1333).bind fun b1335 => .ok (a1334 + b1335)).bind fun y1340 => ((Res.ok i1291).bind fun a1337 => (Res.ok (1 : Int)).bind fun b1338 => .ok (a1337 + b1338)).bind fun k1341 => putM s1312 k1341 y1340).bind fun v_law_result_1339 => (Res.ok v_law_result_1339))) else (Res.ok s1312)).bind fun s1342 => (Res.ok s1342)))) l1344 v_law_result_1276).bind fun s1286 => (Res.ok s1286)))
abbrev C_law_half (P : Program) (w : World) (K : PySem.W.Frag) (mg : Str → Option Value) (base : Heap) : Prop := FnR P w K mg base (L2N.CX P w) 1 (He.ga K "_law_half") (spF K (aCons (rdL K (rp rInt)) (aCons (rdL K (rp rInt)) (aCons (rp rInt) aNil))) (fun d => m_law_half d.1 d.2.1 d.2.2.1) (rp (rL rInt)))
theorem ok_law_half {P : Program} {w : World} {K : PySem.W.Frag} {mg : Str → Option Value} {base : Heap} (T : Txt w K mg) {fd : FuncData} (F : FunD K "_law_half" "_law_half" (defArgs s_law_half) (defBody s_law_half) (defScope s_law_half) [] [] (He.ga K "_law_half") fd) : FnOk P w K mg base (L2N.CX P w) 1 (He.ga K "_law_half") fd ["_law_held", "_law_down", "_law_scale"] (spF K (aCons (rdL K (rp rInt)) (aCons (rdL K (rp rInt)) (aCons (rp rInt) aNil))) (fun d => m_law_half d.1 d.2.1 d.2.2.1) (rp (rL rInt))) := by
  refine FunD.fn (k := 0) (N := ["_law_held", "_law_down", "_law_scale", "_law_result", "_law_node", "_law_up"]) (ps := ["_law_held", "_law_down", "_law_scale"]) F sc_law_half (fun I H vs d h => ?_) (fun cdv A outer s I0 H0 E vs d hr sm h => ?_)
  · obtain ⟨v0, _, rfl, h0, v1, _, rfl, h1, v2, _, rfl, h2, rfl⟩ := h; rfl
  obtain ⟨v0, _, rfl, h0, v1, _, rfl, h1, v2, _, rfl, h2, rfl⟩ := h
  have hx : ∀ {ctx : List (Option SF)} {mem : List MF} (I H : Hp) (σ : St) (d : Option Addr), Stt I0 H0 ctx mem I H σ → Fr H0 d → bK I0 H0 I H σ d := fun _ _ _ _ s f => ⟨s.fm, f⟩
  have tk : L2N.Takes (bx P w K mg base ["_law_held", "_law_down", "_law_scale", "_law_result", "_law_node", "_law_up"] "_law_half" (defScope s_law_half) (He.ga K "_law_half") cdv A outer s H0 E) (bW E) := L2N.takes_of rfl rfl rfl rfl
  have hp : PassesOwn (model P w) (bx P w K mg base ["_law_held", "_law_down", "_law_scale", "_law_result", "_law_node", "_law_up"] "_law_half" (defScope s_law_half) (He.ga K "_law_half") cdv A outer s H0 E).A (bx P w K mg base ["_law_held", "_law_down", "_law_scale", "_law_result", "_law_node", "_law_up"] "_law_half" (defScope s_law_half) (He.ga K "_law_half") cdv A outer s H0 E).env (bx P w K mg base ["_law_held", "_law_down", "_law_scale", "_law_result", "_law_node", "_law_up"] "_law_half" (defScope s_law_half) (He.ga K "_law_half") cdv A outer s H0 E).xe := passes_of rfl
  obtain ⟨p_law_held, p_law_down, p_law_scale, _⟩ := d
  exact ⟨Stt I0 H0 [some (SF.mk (fun I v x => (rdL K (rp rInt)) I H0 v x) p_law_held), some (SF.mk (fun I v x => (rdL K (rp rInt)) I H0 v x) p_law_down), some (SF.mk rInt p_law_scale), none, none, none] [], Stt.start sm ⟨h0, h1, h2, ini_nil rfl⟩ rfl (by simp), (JR.seq (J1.cn (c' := fun v_law_result_1276 l1285 => [some (SF.mk (fun I v x => (rdL K (rp rInt)) I H0 v x) p_law_held), some (SF.mk (fun I v x => (rdL K (rp rInt)) I H0 v x) p_law_down), some (SF.mk rInt p_law_scale), some (SF.mk (rRef l1285) ()), none, none]) (me' := fun v_law_result_1276 l1285 => [MF.lst l1285 rInt v_law_result_1276]) (J1.setM 3 (JM.rep (JE.hp (JE.ofM (JM.lst (r := rInt) (JA.consL JE.int JA.nilL)))) (JE.callB (JA.cons (JE.varP 0 (r := (rdL K (rp rInt)))) JA.nil) cj_len T.n_len boot_len)) hx sc_law_half.nd)) fun v_law_result_1276 => JR.ex fun l1285 => (JR.seq (J1.forS (S := (List Int)) (cx := fun s1286 => [some (SF.mk (fun I v x => (rdL K (rp rInt)) I H0 v x) p_law_held), some (SF.mk (fun I v x => (rdL K (rp rInt)) I H0 v x) p_law_down), some (SF.mk rInt p_law_scale), some (SF.mk (rRef l1285) ()), none, none]) (me := fun s1286 => [MF.lst l1285 rInt s1286]) (s0 := v_law_result_1276) 4 hp (JI.range1 (JE.callB (JA.cons (JE.varP 0 (r := (rdL K (rp rInt)))) JA.nil) cj_len T.n_len boot_len) T.n_range) (fun i1291 s1286 => JN.at (c' := [some (SF.mk (fun I v x => (rdL K (rp rInt)) I H0 v x) p_law_held), some (SF.mk (fun I v x => (rdL K (rp rInt)) I H0 v x) p_law_down), some (SF.mk rInt p_law_scale), some (SF.mk (rRef l1285) ()), some (SF.mk rInt i1291), none]) (JN.seq (J1.if (S := (List Int)) (G' := fun s1312 => Stt I0 H0 [some (SF.mk (fun I v x => (rdL K (rp rInt)) I H0 v x) p_law_held), some (SF.mk (fun I v x => (rdL K (rp rInt)) I H0 v x) p_law_down), some (SF.mk rInt p_law_scale), some (SF.mk (rRef l1285) ()), some (SF.mk rInt i1291), none] [MF.lst l1285 rInt s1312]) (JT.cmp (JE.var 4) JE.int opj_gt) (JN.seq (J1.cm (c' := fun v_law_result_1309 => [some (SF.mk (fun I v x => (rdL K (rp rInt)) I H0 v x) p_law_held), some (SF.mk (fun I v x => (rdL K (rp rInt)) I H0 v x) p_law_down), some (SF.mk rInt p_law_scale), some (SF.mk (rRef l1285) ()), some (SF.mk rInt i1291), none]) (me' := fun v_law_result_1309 => [MF.lst l1285 rInt v_law_result_1309]) (J1.put 3 0 (JE.bin (JE.ix (JE.rdM 3 0) (JE.bin (JE.var 4) JE.int opj_sub)) (JE.bin (JE.ix (JE.varP 0 (r := (rdL K (rp rInt)))) (JE.var 4)) (JE.ix (JE.varP 1 (r := (rdL K (rp rInt)))) (JE.var 4)) opj_mul) opj_add) (JE.bin (JE.var 4) JE.int opj_sub) hx)) fun v_law_result_1309 => (JN.nil (fun _ _ _ h => h))) (JN.nil (fun _ _ _ h => h)) hx) fun s1312 => (JN.seq (J1.if (S := (List Int)) (G' := fun s1342 => Stt I0 H0 [some (SF.mk (fun I v x => (rdL K (rp rInt)) I H0 v x) p_law_held), some (SF.mk (fun I v x => (rdL K (rp rInt)) I H0 v x) p_law_down), some (SF.mk rInt p_law_scale), some (SF.mk (rRef l1285) ()), some (SF.mk rInt i1291), none] [MF.lst l1285 rInt s1342]) (JT.cmp (JE.bin (JE.var 4) JE.int opj_add) (JE.callB (JA.cons (JE.varP 0 (r := (rdL K (rp rInt)))) JA.nil) cj_len T.n_len boot_len) opj_lt) (JN.seq (J1.cx (c' := fun v_law_up_1321 => [some (SF.mk (fun I v x => (rdL K (rp rInt)) I H0 v x) p_law_held), some (SF.mk (fun I v x => (rdL K (rp rInt)) I H0 v x) p_law_down), some (SF.mk rInt p_law_scale), some (SF.mk (rRef l1285) ()), some (SF.mk rInt i1291), some (SF.mk rInt v_law_up_1321)]) (J1.set 5 (JE.bin (JE.var 2) (JE.ix (JE.varP 1 (r := (rdL K (rp rInt)))) (JE.var 4)) opj_sub) hx sc_law_half.nd)) fun v_law_up_1321 => (JN.seq (J1.cm (c' := fun v_law_result_1339 => [some (SF.mk (fun I v x => (rdL K (rp rInt)) I H0 v x) p_law_held), some (SF.mk (fun I v x => (rdL K (rp rInt)) I H0 v x) p_law_down), some (SF.mk rInt p_law_scale), some (SF.mk (rRef l1285) ()), some (SF.mk rInt i1291), some (SF.mk rInt v_law_up_1321)]) (me' := fun v_law_result_1339 => [MF.lst l1285 rInt v_law_result_1339]) (J1.put 3 0 (JE.bin (JE.ix (JE.rdM 3 0) (JE.bin (JE.var 4) JE.int opj_add)) (JE.bin (JE.ix (JE.varP 0 (r := (rdL K (rp rInt)))) (JE.var 4)) (JE.var 5) opj_mul) opj_add) (JE.bin (JE.var 4) JE.int opj_add) hx)) fun v_law_result_1339 => (JN.nil (fun _ _ _ h => (Stt.weak h (weak_some (weak_some (weak_some (weak_some (weak_some (weak_none weak_nil))))))))))) (JN.nil (fun _ _ _ h => h)) hx) fun s1342 => (JN.nil (fun _ _ _ h => (Stt.weak h (weak_some (weak_some (weak_some (weak_some (weak_none (weak_none weak_nil)))))))))))) hx (weak_some (weak_some (weak_some (weak_some (weak_none (weak_none weak_nil)))))) sc_law_half.nd) fun s1286 => (JR.fz 3 0 (ctx' := [some (SF.mk (fun I v x => (rdL K (rp rInt)) I H0 v x) p_law_held), some (SF.mk (fun I v x => (rdL K (rp rInt)) I H0 v x) p_law_down), some (SF.mk rInt p_law_scale), some (SF.mk (rL rInt) s1286), none, none]) (mem' := []) (JR.ret (JE.var 3) hx))))⟩
theorem fn_law_half {P : Program} {w : World} {K : PySem.W.Frag} {mg : Str → Option Value} {base : Heap} (T : Txt w K mg) : FnR P w K mg base (L2N.CX P w) 1 (He.ga K "_law_half") (spF K (aCons (rdL K (rp rInt)) (aCons (rdL K (rp rInt)) (aCons (rp rInt) aNil))) (fun d => m_law_half d.1 d.2.1 d.2.2.1) (rp (rL rInt))) := by
  obtain ⟨fd, F⟩ := T.F_law_half
  exact FnOk.fr0 (ok_law_half T F) (F.bindsN fun _ _ _ _ _ _ us hl => match us, hl with | [_, _, _], _ => rfl)
theorem sc_law_walk : FnScope ["_law_pairs", "_law_end", "_law_count", "_law_scale", "_law_pair", "_law_down", "_law_held", "_law_readings", "_law_tick_here"] ["_law_pairs", "_law_end", "_law_count"] (defScope s_law_walk) := ⟨rfl, rfl, rfl, by decide +kernel, rfl, by decide +kernel, by decide +kernel⟩
def m_law_walk (p_law_pairs : (List (Int × Int × Unit))) (p_law_end : Int) (p_law_count : Int) : Res (List (Int × Int × Unit)) :=
  ((Res.ok (1 : Int)).bind fun v_law_scale_1177 => (((Res.ok p_law_pairs).bind fun l1184 => forS (fun (i1179 : (Int × Int × Unit)) (s1178 : Int) => (((Res.ok s1178).bind fun a1182 => ((Res.ok i1179).bind fun a1181 => .ok a1181.2.1).bind fun b1183 => mulI a1182 b1183).bind fun v_law_scale_1180 => (Res.ok v_law_scale_1180))) l1184 v_law_scale_1177).bind fun s1178 => (((((Res.ok (0 : Int)).bind fun a1187 => (Res.ok []).bind fun b1188 => .ok (a1187 :: b1188)).bind fun a1199 => ((Res.ok p_law_pairs).bind fun l1198 => lcR (fun (i1189 : (Int × Int × Unit)) => (((Res.ok i1189).bind fun a1191 => .ok a1191.1).bind fun a1195 => ((Res.ok s1178).bind fun a1193 => ((Res.ok i1189).bind fun a1192 => .ok a1192.2.1).bind fun b1194 => fdivI a1193 b1194).bind fun b1196 => mulI a1195 b1196)) l1198).bind fun b1200 => catM a1199 b1200).bind fun a1206 => (((Res.ok s1178).bind fun a1202 => (Res.ok []).bind fun b1203 => .ok (a1202 :: b1203)).bind fun a1204 => (Res.ok p_law_end).bind fun b1205 => repM a1204 b1205).bind fun b1207 => catM a1206 b1207).bind fun v_law_down_1185 => ((((Res.ok (1 : Int)).bind fun a1210 => (Res.ok []).bind fun b1211 => .ok (a1210 :: b1211)).bind fun a1222 => (((Res.ok (0 : Int)).bind fun a1213 => (Res.ok []).bind fun b1214 => .ok (a1213 :: b1214)).bind fun a1220 => ((((Res.ok v_law_down_1185).bind fun a1216 => (Res.ok ()).bind fun b1217 => .ok (a1216, b1217)).bind (fun d => .ok (d.1.length : Int))).bind fun a1218 => (Res.ok (1 : Int)).bind fun b1219 => .ok (a1218 - b1219)).bind fun b1221 => repM a1220 b1221).bind fun b1223 => catM a1222 b1223).bind fun v_law_held_1208 => ((((Res.ok (1 : Int)).bind fun a1229 => ((Res.ok (1 : Int)).bind fun a1227 => (Res.ok ()).bind fun b1228 => .ok (a1227, b1228)).bind fun b1230 => .ok (a1229, b1230)).bind fun a1232 => (Res.ok []).bind fun b1233 => .ok (a1232 :: b1233)).bind fun v_law_readings_1224 => ((((Res.ok p_law_count).bind fun a1236 => rangeM1 a1236).bind fun l1275 => forS (fun (i1237 : Int) (s1235 : ((List Int) × (List (Int × Int × Unit)))) => ((((((Res.ok s1235.1).bind fun a1246 => ((Res.ok v_law_down_1185).bind fun a1244 => ((Res.ok s1178).bind fun a1242 => (Res.ok ()).bind fun b1243 => .ok (a1242, b1243)).bind fun b1245 => .ok (a1244, b1245)).bind fun b1247 => .ok (a1246, b1247)).bind (fun d => m_law_half d.1 d.2.1 d.2.2.1)).bind fun a1255 => ((Res.ok v_law_down_1185).bind fun a1253 => ((Res.ok s1178).bind fun a1251 => (Res.ok ()).bind fun b1252 => .ok (a1251, b1252)).bind fun b1254 => .ok (a1253, b1254)).bind fun b1256 => .ok (a1255, b1256)).bind (fun d => m_law_half d.1 d.2.1 d.2.2.1)).bind fun v_law_held_1238 => (((((Res.ok v_law_held_1238).bind fun a1258 => (Res.ok (0 : Int)).bind fun b1259 => atM a1258 b1259).bind fun a1271 => ((((((Res.ok s1235.2).bind fun a1260 => (Res.ok i1237).bind fun b1261 => atM a1260 b1261).bind fun a1262 => .ok a1262.2.1).bind fun a1263 => (Res.ok s1178).bind fun b1264 => mulI a1263 b1264).bind fun a1265 => (Res.ok s1178).bind fun b1266 => mulI a1265 b1266).bind fun a1269 => (Res.ok ()).bind fun b1270 => .ok (a1269, b1270)).bind fun b1272 => .ok (a1271, b1272)).bind fun y1274 => appM s1235.2 y1274).bind fun v_law_readings_1257 => (Res.ok (v_law_held_1238, v_law_readings_1257))))) l1275 (v_law_held_1208, v_law_readings_1224)).bind fun s1235 => (Res.ok s1235.2)))))))
abbrev C_law_walk (P : Program) (w : World) (K : PySem.W.Frag) (mg : Str → Option Value) (base : Heap) : Prop := FnR P w K mg base (L2N.CX P w) 2 (He.ga K "_law_walk") (spN K (aCons (rp (rL (rTu (aCons (rp rInt) (aCons (rp rInt) aNil))))) (aCons (rp rInt) (aCons (rp rInt) aNil))) (fun d => m_law_walk d.1 d.2.1 d.2.2.1) (rTu (aCons (rp rInt) (aCons (rp rInt) aNil))))
theorem ok_law_walk {P : Program} {w : World} {K : PySem.W.Frag} {mg : Str → Option Value} {base : Heap} (T : Txt w K mg) (c_law_half : C_law_half P w K mg base) {fd : FuncData} (F : FunD K "_law_walk" "_law_walk" (defArgs s_law_walk) (defBody s_law_walk) (defScope s_law_walk) [] [] (He.ga K "_law_walk") fd) : FnOk P w K mg base (L2N.CX P w) 2 (He.ga K "_law_walk") fd ["_law_pairs", "_law_end", "_law_count"] (spN K (aCons (rp (rL (rTu (aCons (rp rInt) (aCons (rp rInt) aNil))))) (aCons (rp rInt) (aCons (rp rInt) aNil))) (fun d => m_law_walk d.1 d.2.1 d.2.2.1) (rTu (aCons (rp rInt) (aCons (rp rInt) aNil)))) := by
  refine FunD.fnN (k := 1) (N := ["_law_pairs", "_law_end", "_law_count", "_law_scale", "_law_pair", "_law_down", "_law_held", "_law_readings", "_law_tick_here"]) (ps := ["_law_pairs", "_law_end", "_law_count"]) F sc_law_walk (fun I H vs d h => ?_) (fun cdv A outer s I0 H0 E vs d hr sm h => ?_)
  · obtain ⟨v0, _, rfl, h0, v1, _, rfl, h1, v2, _, rfl, h2, rfl⟩ := h; rfl
  obtain ⟨v0, _, rfl, h0, v1, _, rfl, h1, v2, _, rfl, h2, rfl⟩ := h
  have hx : ∀ {ctx : List (Option SF)} {mem : List MF} (I H : Hp) (σ : St) (d : Option Addr), Stt I0 H0 ctx mem I H σ → Fr H0 d → bK I0 H0 I H σ d := fun _ _ _ _ s f => ⟨s.fm, f⟩
  have tk : L2N.Takes (bx P w K mg base ["_law_pairs", "_law_end", "_law_count", "_law_scale", "_law_pair", "_law_down", "_law_held", "_law_readings", "_law_tick_here"] "_law_walk" (defScope s_law_walk) (He.ga K "_law_walk") cdv A outer s H0 E) (bW E) := L2N.takes_of rfl rfl rfl rfl
  have hp : PassesOwn (model P w) (bx P w K mg base ["_law_pairs", "_law_end", "_law_count", "_law_scale", "_law_pair", "_law_down", "_law_held", "_law_readings", "_law_tick_here"] "_law_walk" (defScope s_law_walk) (He.ga K "_law_walk") cdv A outer s H0 E).A (bx P w K mg base ["_law_pairs", "_law_end", "_law_count", "_law_scale", "_law_pair", "_law_down", "_law_held", "_law_readings", "_law_tick_here"] "_law_walk" (defScope s_law_walk) (He.ga K "_law_walk") cdv A outer s H0 E).env (bx P w K mg base ["_law_pairs", "_law_end", "_law_count", "_law_scale", "_law_pair", "_law_down", "_law_held", "_law_readings", "_law_tick_here"] "_law_walk" (defScope s_law_walk) (He.ga K "_law_walk") cdv A outer s H0 E).xe := passes_of rfl
  obtain ⟨p_law_pairs, p_law_end, p_law_count, _⟩ := d
  exact ⟨Stt I0 H0 [some (SF.mk (rL (rTu (aCons (rp rInt) (aCons (rp rInt) aNil)))) p_law_pairs), some (SF.mk rInt p_law_end), some (SF.mk rInt p_law_count), none, none, none, none, none, none] [], Stt.start sm ⟨h0, h1, h2, ini_nil rfl⟩ rfl (by simp), (JR.seq (J1.cx (c' := fun v_law_scale_1177 => [some (SF.mk (rL (rTu (aCons (rp rInt) (aCons (rp rInt) aNil)))) p_law_pairs), some (SF.mk rInt p_law_end), some (SF.mk rInt p_law_count), some (SF.mk rInt v_law_scale_1177), none, none, none, none, none]) (J1.set 3 JE.int hx sc_law_walk.nd)) fun v_law_scale_1177 => (JR.seq (J1.forS (S := Int) (cx := fun s1178 => [some (SF.mk (rL (rTu (aCons (rp rInt) (aCons (rp rInt) aNil)))) p_law_pairs), some (SF.mk rInt p_law_end), some (SF.mk rInt p_law_count), some (SF.mk rInt s1178), none, none, none, none, none]) (me := fun s1178 => []) (s0 := v_law_scale_1177) 4 hp (JI.list (JE.var 0)) (fun i1179 s1178 => JN.at (c' := [some (SF.mk (rL (rTu (aCons (rp rInt) (aCons (rp rInt) aNil)))) p_law_pairs), some (SF.mk rInt p_law_end), some (SF.mk rInt p_law_count), some (SF.mk rInt s1178), some (SF.mk (rTu (aCons (rp rInt) (aCons (rp rInt) aNil))) i1179), none, none, none, none]) (JN.seq (J1.cx (c' := fun v_law_scale_1180 => [some (SF.mk (rL (rTu (aCons (rp rInt) (aCons (rp rInt) aNil)))) p_law_pairs), some (SF.mk rInt p_law_end), some (SF.mk rInt p_law_count), some (SF.mk rInt v_law_scale_1180), some (SF.mk (rTu (aCons (rp rInt) (aCons (rp rInt) aNil))) i1179), none, none, none, none]) (J1.set 3 (JE.bin (JE.var 3) (JE.ixD 1 (JE.var 4) (AtR.succ AtR.zero)) opj_mul) hx sc_law_walk.nd)) fun v_law_scale_1180 => (JN.nil (fun _ _ _ h => (Stt.weak h (weak_some (weak_some (weak_some (weak_some (weak_none (weak_none (weak_none (weak_none (weak_none weak_nil)))))))))))))) hx (weak_some (weak_some (weak_some (weak_some (weak_none (weak_none (weak_none (weak_none (weak_none weak_nil))))))))) sc_law_walk.nd) fun s1178 => (JR.seq (J1.cx (c' := fun v_law_down_1185 => [some (SF.mk (rL (rTu (aCons (rp rInt) (aCons (rp rInt) aNil)))) p_law_pairs), some (SF.mk rInt p_law_end), some (SF.mk rInt p_law_count), some (SF.mk rInt s1178), none, some (SF.mk (rL rInt) v_law_down_1185), none, none, none]) (J1.set 5 (JE.ofM (JM.cat (JE.hp (JE.ofM (JM.cat (JE.hp (JE.ofM (JM.lst (r := rInt) (JA.consL JE.int JA.nilL)))) (JE.hp (JE.ofM (JM.lcT (r := rInt) 4 (JI.list (JE.var 0)) (fun _ _ _ _ _ D acc i1189 tk1190 => (JE.at (c' := [some (SF.mk (rL (rTu (aCons (rp rInt) (aCons (rp rInt) aNil)))) p_law_pairs), some (SF.mk rInt p_law_end), some (SF.mk rInt p_law_count), some (SF.mk rInt s1178), some (SF.mk (rTu (aCons (rp rInt) (aCons (rp rInt) aNil))) i1189), none, none, none, none]) (JE.bin (JE.ixD 0 (JE.var 4) AtR.zero) (JE.bin (JE.var 3) (JE.ixD 1 (JE.var 4) (AtR.succ AtR.zero)) opj_fdiv) opj_mul))) sc_law_walk.nd (blkok_of (by kernel_rfl)))))))) (JE.hp (JE.ofM (JM.rep (JE.hp (JE.ofM (JM.lst (r := rInt) (JA.consL (JE.var 3) JA.nilL)))) (JE.var 1)))))) hx sc_law_walk.nd)) fun v_law_down_1185 => (JR.seq (J1.cx (c' := fun v_law_held_1208 => [some (SF.mk (rL (rTu (aCons (rp rInt) (aCons (rp rInt) aNil)))) p_law_pairs), some (SF.mk rInt p_law_end), some (SF.mk rInt p_law_count), some (SF.mk rInt s1178), none, some (SF.mk (rL rInt) v_law_down_1185), some (SF.mk (rL rInt) v_law_held_1208), none, none]) (J1.set 6 (JE.ofM (JM.cat (JE.hp (JE.ofM (JM.lst (r := rInt) (JA.consL JE.int JA.nilL)))) (JE.hp (JE.ofM (JM.rep (JE.hp (JE.ofM (JM.lst (r := rInt) (JA.consL JE.int JA.nilL)))) (JE.bin (JE.callB (JA.cons (JE.rd (JE.var 5)) JA.nil) cj_len T.n_len boot_len) JE.int opj_sub)))))) hx sc_law_walk.nd)) fun v_law_held_1208 => (JR.seq (J1.cn (c' := fun v_law_readings_1224 l1234 => [some (SF.mk (rL (rTu (aCons (rp rInt) (aCons (rp rInt) aNil)))) p_law_pairs), some (SF.mk rInt p_law_end), some (SF.mk rInt p_law_count), some (SF.mk rInt s1178), none, some (SF.mk (rL rInt) v_law_down_1185), some (SF.mk (rL rInt) v_law_held_1208), some (SF.mk (rRef l1234) ()), none]) (me' := fun v_law_readings_1224 l1234 => [MF.lst l1234 (rTu (aCons (rp rInt) (aCons (rp rInt) aNil))) v_law_readings_1224]) (J1.setM 7 (JM.lst (r := (rTu (aCons (rp rInt) (aCons (rp rInt) aNil)))) (JA.consL (JE.tupD (k := 2) (JA.cons JE.int (JA.cons JE.int JA.nil)) (by rintro _ _ _ _ ⟨_, _, rfl, _, _, _, rfl, _, rfl⟩; rfl)) JA.nilL)) hx sc_law_walk.nd)) fun v_law_readings_1224 => JR.ex fun l1234 => (JR.seq (J1.forS (S := ((List Int) × (List (Int × Int × Unit)))) (cx := fun s1235 => [some (SF.mk (rL (rTu (aCons (rp rInt) (aCons (rp rInt) aNil)))) p_law_pairs), some (SF.mk rInt p_law_end), some (SF.mk rInt p_law_count), some (SF.mk rInt s1178), none, some (SF.mk (rL rInt) v_law_down_1185), some (SF.mk (rL rInt) s1235.1), some (SF.mk (rRef l1234) ()), none]) (me := fun s1235 => [MF.lst l1234 (rTu (aCons (rp rInt) (aCons (rp rInt) aNil))) s1235.2]) (s0 := (v_law_held_1208, v_law_readings_1224)) 8 hp (JI.range1 (JE.var 2) T.n_range) (fun i1237 s1235 => JN.at (c' := [some (SF.mk (rL (rTu (aCons (rp rInt) (aCons (rp rInt) aNil)))) p_law_pairs), some (SF.mk rInt p_law_end), some (SF.mk rInt p_law_count), some (SF.mk rInt s1178), none, some (SF.mk (rL rInt) v_law_down_1185), some (SF.mk (rL rInt) s1235.1), some (SF.mk (rRef l1234) ()), some (SF.mk rInt i1237)]) (JN.seq (J1.cx (c' := fun v_law_held_1238 => [some (SF.mk (rL (rTu (aCons (rp rInt) (aCons (rp rInt) aNil)))) p_law_pairs), some (SF.mk rInt p_law_end), some (SF.mk rInt p_law_count), some (SF.mk rInt s1178), none, some (SF.mk (rL rInt) v_law_down_1185), some (SF.mk (rL rInt) v_law_held_1238), some (SF.mk (rRef l1234) ()), some (SF.mk rInt i1237)]) (J1.set 6 (JE.call (JA.cons (JE.rd (JE.call (JA.cons (JE.rd (JE.var 6)) (JA.cons (JE.rd (JE.var 5)) (JA.cons (JE.var 3) JA.nil))) (cj_of c_law_half (hr.mono (by decide)) tk) T.g_law_half T.k_law_half)) (JA.cons (JE.rd (JE.var 5)) (JA.cons (JE.var 3) JA.nil))) (cj_of c_law_half (hr.mono (by decide)) tk) T.g_law_half T.k_law_half) hx sc_law_walk.nd)) fun v_law_held_1238 => (JN.seq (J1.cm (c' := fun v_law_readings_1257 => [some (SF.mk (rL (rTu (aCons (rp rInt) (aCons (rp rInt) aNil)))) p_law_pairs), some (SF.mk rInt p_law_end), some (SF.mk rInt p_law_count), some (SF.mk rInt s1178), none, some (SF.mk (rL rInt) v_law_down_1185), some (SF.mk (rL rInt) v_law_held_1238), some (SF.mk (rRef l1234) ()), some (SF.mk rInt i1237)]) (me' := fun v_law_readings_1257 => [MF.lst l1234 (rTu (aCons (rp rInt) (aCons (rp rInt) aNil))) v_law_readings_1257]) (J1.app 7 0 (JE.tupD (k := 2) (JA.cons (JE.ix (JE.rd (JE.var 6)) JE.int) (JA.cons (JE.bin (JE.bin (JE.ixD 1 (JE.ix (JE.rdM 7 0) (JE.var 8)) (AtR.succ AtR.zero)) (JE.var 3) opj_mul) (JE.var 3) opj_mul) JA.nil)) (by rintro _ _ _ _ ⟨_, _, rfl, _, _, _, rfl, _, rfl⟩; rfl)) hx)) fun v_law_readings_1257 => (JN.nil (fun _ _ _ h => (Stt.weak h (weak_some (weak_some (weak_some (weak_some (weak_none (weak_some (weak_some (weak_some (weak_none weak_nil))))))))))))))) hx (weak_some (weak_some (weak_some (weak_some (weak_none (weak_some (weak_some (weak_some (weak_none weak_nil))))))))) sc_law_walk.nd) fun s1235 => (JR.retC 7 0)))))))⟩
theorem fn_law_walk {P : Program} {w : World} {K : PySem.W.Frag} {mg : Str → Option Value} {base : Heap} (T : Txt w K mg) (c_law_half : C_law_half P w K mg base) : FnR P w K mg base (L2N.CX P w) 2 (He.ga K "_law_walk") (spN K (aCons (rp (rL (rTu (aCons (rp rInt) (aCons (rp rInt) aNil))))) (aCons (rp rInt) (aCons (rp rInt) aNil))) (fun d => m_law_walk d.1 d.2.1 d.2.2.1) (rTu (aCons (rp rInt) (aCons (rp rInt) aNil)))) := by
  obtain ⟨fd, F⟩ := T.F_law_walk
  exact FnOk.frN0 (ok_law_walk T c_law_half F) (F.bindsN fun _ _ _ _ _ _ us hl => match us, hl with | [_, _, _], _ => rfl)
theorem sc_BadTick_init : FnScope ["self", "tick"] ["self", "tick"] (defScope s_BadTick_init) := ⟨rfl, rfl, rfl, by decide +kernel, rfl, by decide +kernel, by decide +kernel⟩
abbrev C_err_BadTick (P : Program) (w : World) (K : PySem.W.Frag) (mg : Str → Option Value) (base : Heap) : Prop := ErR1 P w K mg base "BadTick" "tick"
theorem fn_err_BadTick {P : Program} {w : World} {K : PySem.W.Frag} {mg : Str → Option Value} {base : Heap} (T : Txt w K mg) : C_err_BadTick P w K mg base := by
  obtain ⟨fd, F⟩ := T.F_BadTick_init
  exact ⟨T.ev_BadTick, fd, ["self", "tick"], init1 F sc_BadTick_init rfl T.ev_BadTick.oex (T.ev_BadTick.no _ (by simp)) (by first | exact Or.inl rfl | exact Or.inr (Or.inl rfl) | exact Or.inr (Or.inr rfl)) (by first | exact Or.inl rfl | exact Or.inr (Or.inl rfl) | exact Or.inr (Or.inr rfl)) (by decide) (by decide), F.bindsN fun _ _ _ _ _ _ us hl => match us, hl with | [_, _], _ => rfl⟩
theorem sc_Web_next_amounts : FnScope ["self", "amounts", "held", "i", "part", "c", "result"] ["self", "amounts"] (defScope s_Web_next_amounts) := ⟨rfl, rfl, rfl, by decide +kernel, rfl, by decide +kernel, by decide +kernel⟩
def m_Web_next_amounts (p_self : O_Web) (p_amounts : (List Int)) : Res (List Int) :=
  ((((Res.ok (0 : Int)).bind fun a1408 => (Res.ok []).bind fun b1409 => .ok (a1408 :: b1409)).bind fun a1411 => ((Res.ok p_self).bind fun a1410 => .ok a1410.f_passages).bind fun b1412 => repM a1411 b1412).bind fun v_held_1406 => (((((Res.ok p_self).bind fun a1415 => .ok a1415.f_rooms).bind fun a1416 => rangeM1 a1416).bind fun l1446 => forS (fun (i1417 : Int) (s1414 : (List Int)) => ((((Res.ok p_amounts).bind fun a1419 => (Res.ok i1417).bind fun b1420 => atM a1419 b1420).bind fun a1427 => (((Res.ok p_self).bind fun a1421 => .ok a1421.f_room_scale).bind fun a1425 => (((Res.ok p_self).bind fun a1422 => .ok a1422.f_room_totals).bind fun a1423 => (Res.ok i1417).bind fun b1424 => atM a1423 b1424).bind fun b1426 => fdivI a1425 b1426).bind fun b1428 => mulI a1427 b1428).bind fun v_part_1418 => (((((Res.ok p_self).bind fun a1430 => .ok a1430.f_passages).bind fun a1431 => rangeM1 a1431).bind fun l1445 => forS (fun (i1432 : Int) (s1429 : (List Int)) => (((Res.ok i1432).bind fun k1441 => (atM s1429 k1441).bind fun o1442 => ((Res.ok v_part_1418).bind fun a1438 => ((((Res.ok p_self).bind fun a1433 => .ok a1433.f_joints).bind fun a1434 => (Res.ok i1417).bind fun b1435 => atM a1434 b1435).bind fun a1436 => (Res.ok i1432).bind fun b1437 => atM a1436 b1437).bind fun b1439 => mulI a1438 b1439).bind fun y1443 => (noErr (.ok (o1442 + y1443))).bind fun z1444 => putM s1429 k1441 z1444).bind fun v_held_1440 => (Res.ok v_held_1440))) l1445 s1414).bind fun s1429 => (Res.ok s1429)))) l1446 v_held_1406).bind fun s1414 => ((((Res.ok (0 : Int)).bind fun a1449 => (Res.ok []).bind fun b1450 => .ok (a1449 :: b1450)).bind fun a1452 => ((Res.ok p_self).bind fun a1451 => .ok a1451.f_rooms).bind fun b1453 => repM a1452 b1453).bind fun v_result_1447 => (((((Res.ok p_self).bind fun a1456 => .ok a1456.f_passages).bind fun a1457 => rangeM1 a1457).bind fun l1487 => forS (fun (i1458 : Int) (s1455 : (List Int)) => ((((Res.ok s1414).bind fun a1460 => (Res.ok i1458).bind fun b1461 => atM a1460 b1461).bind fun a1468 => (((Res.ok p_self).bind fun a1462 => .ok a1462.f_passage_scale).bind fun a1466 => (((Res.ok p_self).bind fun a1463 => .ok a1463.f_passage_totals).bind fun a1464 => (Res.ok i1458).bind fun b1465 => atM a1464 b1465).bind fun b1467 => fdivI a1466 b1467).bind fun b1469 => mulI a1468 b1469).bind fun v_part_1459 => (((((Res.ok p_self).bind fun a1471 => .ok a1471.f_rooms).bind fun a1472 => rangeM1 a1472).bind fun l1486 => forS (fun (i1473 : Int) (s1470 : (List Int)) => (((Res.ok i1473).bind fun k1482 => (atM s1470 k1482).bind fun o1483 => ((Res.ok v_part_1459).bind fun a1479 => ((((Res.ok p_self).bind fun a1474 => .ok a1474.f_joints).bind fun a1475 => (Res.ok i1473).bind fun b1476 => atM a1475 b1476).bind fun a1477 => (Res.ok i1458).bind fun b1478 => atM a1477 b1478).bind fun b1480 => mulI a1479 b1480).bind fun y1484 => (noErr (.ok (o1483 + y1484))).bind fun z1485 => putM s1470 k1482 z1485).bind fun v_result_1481 => (Res.ok v_result_1481))) l1486 s1455).bind fun s1470 => (Res.ok s1470)))) l1487 v_result_1447).bind fun s1455 => (Res.ok s1455)))))
abbrev C_Web_next_amounts (P : Program) (w : World) (K : PySem.W.Frag) (mg : Str → Option Value) (base : Heap) : Prop := FnR P w K mg base (L2N.CX P w) 1 (He.ma K (He.ga K "Web") "next_amounts") (spF K (aCons (rp (r_Web K)) (aCons (rdL K (rp rInt)) aNil)) (fun d => m_Web_next_amounts d.1 d.2.1) (rp (rL rInt)))
theorem ok_Web_next_amounts {P : Program} {w : World} {K : PySem.W.Frag} {mg : Str → Option Value} {base : Heap} (T : Txt w K mg) {fd : FuncData} (F : FunD K "next_amounts" "Web.next_amounts" (defArgs s_Web_next_amounts) (defBody s_Web_next_amounts) (defScope s_Web_next_amounts) [] [] (He.ma K (He.ga K "Web") "next_amounts") fd) : FnOk P w K mg base (L2N.CX P w) 1 (He.ma K (He.ga K "Web") "next_amounts") fd ["self", "amounts"] (spF K (aCons (rp (r_Web K)) (aCons (rdL K (rp rInt)) aNil)) (fun d => m_Web_next_amounts d.1 d.2.1) (rp (rL rInt))) := by
  refine FunD.fn (k := 0) (N := ["self", "amounts", "held", "i", "part", "c", "result"]) (ps := ["self", "amounts"]) F sc_Web_next_amounts (fun I H vs d h => ?_) (fun cdv A outer s I0 H0 E vs d hr sm h => ?_)
  · obtain ⟨v0, _, rfl, h0, v1, _, rfl, h1, rfl⟩ := h; rfl
  obtain ⟨v0, _, rfl, h0, v1, _, rfl, h1, rfl⟩ := h
  have hx : ∀ {ctx : List (Option SF)} {mem : List MF} (I H : Hp) (σ : St) (d : Option Addr), Stt I0 H0 ctx mem I H σ → Fr H0 d → bK I0 H0 I H σ d := fun _ _ _ _ s f => ⟨s.fm, f⟩
  have tk : L2N.Takes (bx P w K mg base ["self", "amounts", "held", "i", "part", "c", "result"] "Web.next_amounts" (defScope s_Web_next_amounts) (He.ma K (He.ga K "Web") "next_amounts") cdv A outer s H0 E) (bW E) := L2N.takes_of rfl rfl rfl rfl
  have hp : PassesOwn (model P w) (bx P w K mg base ["self", "amounts", "held", "i", "part", "c", "result"] "Web.next_amounts" (defScope s_Web_next_amounts) (He.ma K (He.ga K "Web") "next_amounts") cdv A outer s H0 E).A (bx P w K mg base ["self", "amounts", "held", "i", "part", "c", "result"] "Web.next_amounts" (defScope s_Web_next_amounts) (He.ma K (He.ga K "Web") "next_amounts") cdv A outer s H0 E).env (bx P w K mg base ["self", "amounts", "held", "i", "part", "c", "result"] "Web.next_amounts" (defScope s_Web_next_amounts) (He.ma K (He.ga K "Web") "next_amounts") cdv A outer s H0 E).xe := passes_of rfl
  obtain ⟨p_self, p_amounts, _⟩ := d
  exact ⟨Stt I0 H0 [some (SF.mk (r_Web K) p_self), some (SF.mk (fun I v x => (rdL K (rp rInt)) I H0 v x) p_amounts), none, none, none, none, none] [], Stt.start sm ⟨h0, h1, ini_nil rfl⟩ rfl (by simp), (JR.seq (J1.cn (c' := fun v_held_1406 l1413 => [some (SF.mk (r_Web K) p_self), some (SF.mk (fun I v x => (rdL K (rp rInt)) I H0 v x) p_amounts), some (SF.mk (rRef l1413) ()), none, none, none, none]) (me' := fun v_held_1406 l1413 => [MF.lst l1413 rInt v_held_1406]) (J1.setM 2 (JM.rep (JE.hp (JE.ofM (JM.lst (r := rInt) (JA.consL JE.int JA.nilL)))) (JE.fld (JE.var 0) (fldI (fl_Web_passages K)) T.o_Web.cl T.na_Web_passages)) hx sc_Web_next_amounts.nd)) fun v_held_1406 => JR.ex fun l1413 => (JR.seq (J1.forS (S := (List Int)) (cx := fun s1414 => [some (SF.mk (r_Web K) p_self), some (SF.mk (fun I v x => (rdL K (rp rInt)) I H0 v x) p_amounts), some (SF.mk (rRef l1413) ()), none, none, none, none]) (me := fun s1414 => [MF.lst l1413 rInt s1414]) (s0 := v_held_1406) 3 hp (JI.range1 (JE.fld (JE.var 0) (fldI (fl_Web_rooms K)) T.o_Web.cl T.na_Web_rooms) T.n_range) (fun i1417 s1414 => JN.at (c' := [some (SF.mk (r_Web K) p_self), some (SF.mk (fun I v x => (rdL K (rp rInt)) I H0 v x) p_amounts), some (SF.mk (rRef l1413) ()), some (SF.mk rInt i1417), none, none, none]) (JN.seq (J1.cx (c' := fun v_part_1418 => [some (SF.mk (r_Web K) p_self), some (SF.mk (fun I v x => (rdL K (rp rInt)) I H0 v x) p_amounts), some (SF.mk (rRef l1413) ()), some (SF.mk rInt i1417), some (SF.mk rInt v_part_1418), none, none]) (J1.set 4 (JE.bin (JE.ix (JE.varP 1 (r := (rdL K (rp rInt)))) (JE.var 3)) (JE.bin (JE.fld (JE.var 0) (fldI (fl_Web_room_scale K)) T.o_Web.cl T.na_Web_room_scale) (JE.ix (JE.rd (JE.fld (JE.var 0) (fldI (fl_Web_room_totals K)) T.o_Web.cl T.na_Web_room_totals)) (JE.var 3)) opj_fdiv) opj_mul) hx sc_Web_next_amounts.nd)) fun v_part_1418 => (JN.seq (J1.forS (S := (List Int)) (cx := fun s1429 => [some (SF.mk (r_Web K) p_self), some (SF.mk (fun I v x => (rdL K (rp rInt)) I H0 v x) p_amounts), some (SF.mk (rRef l1413) ()), some (SF.mk rInt i1417), some (SF.mk rInt v_part_1418), none, none]) (me := fun s1429 => [MF.lst l1413 rInt s1429]) (s0 := s1414) 5 hp (JI.range1 (JE.fld (JE.var 0) (fldI (fl_Web_passages K)) T.o_Web.cl T.na_Web_passages) T.n_range) (fun i1432 s1429 => JN.at (c' := [some (SF.mk (r_Web K) p_self), some (SF.mk (fun I v x => (rdL K (rp rInt)) I H0 v x) p_amounts), some (SF.mk (rRef l1413) ()), some (SF.mk rInt i1417), some (SF.mk rInt v_part_1418), some (SF.mk rInt i1432), none]) (JN.seq (J1.cm (c' := fun v_held_1440 => [some (SF.mk (r_Web K) p_self), some (SF.mk (fun I v x => (rdL K (rp rInt)) I H0 v x) p_amounts), some (SF.mk (rRef l1413) ()), some (SF.mk rInt i1417), some (SF.mk rInt v_part_1418), some (SF.mk rInt i1432), none]) (me' := fun v_held_1440 => [MF.lst l1413 rInt v_held_1440]) (J1.augIx 2 0 (h := fun a b => .ok (a + b)) (JE.var 5) (JE.bin (JE.var 4) (JE.ix (JE.rd (JE.ix (JE.rd (JE.fld (JE.var 0) (fldI (fl_Web_joints K)) T.o_Web.cl T.na_Web_joints)) (JE.var 3))) (JE.var 5)) opj_mul) opi_add hx)) fun v_held_1440 => (JN.nil (fun _ _ _ h => (Stt.weak h (weak_some (weak_some (weak_some (weak_some (weak_some (weak_none (weak_none weak_nil)))))))))))) hx (weak_some (weak_some (weak_some (weak_some (weak_some (weak_none (weak_none weak_nil))))))) sc_Web_next_amounts.nd) fun s1429 => (JN.nil (fun _ _ _ h => (Stt.weak h (weak_some (weak_some (weak_some (weak_none (weak_none (weak_none (weak_none weak_nil))))))))))))) hx (weak_some (weak_some (weak_some (weak_none (weak_none (weak_none (weak_none weak_nil))))))) sc_Web_next_amounts.nd) fun s1414 => (JR.fz 2 0 (ctx' := [some (SF.mk (r_Web K) p_self), some (SF.mk (fun I v x => (rdL K (rp rInt)) I H0 v x) p_amounts), some (SF.mk (rL rInt) s1414), none, none, none, none]) (mem' := []) (JR.seq (J1.cn (c' := fun v_result_1447 l1454 => [some (SF.mk (r_Web K) p_self), some (SF.mk (fun I v x => (rdL K (rp rInt)) I H0 v x) p_amounts), some (SF.mk (rL rInt) s1414), none, none, none, some (SF.mk (rRef l1454) ())]) (me' := fun v_result_1447 l1454 => [MF.lst l1454 rInt v_result_1447]) (J1.setM 6 (JM.rep (JE.hp (JE.ofM (JM.lst (r := rInt) (JA.consL JE.int JA.nilL)))) (JE.fld (JE.var 0) (fldI (fl_Web_rooms K)) T.o_Web.cl T.na_Web_rooms)) hx sc_Web_next_amounts.nd)) fun v_result_1447 => JR.ex fun l1454 => (JR.seq (J1.forS (S := (List Int)) (cx := fun s1455 => [some (SF.mk (r_Web K) p_self), some (SF.mk (fun I v x => (rdL K (rp rInt)) I H0 v x) p_amounts), some (SF.mk (rL rInt) s1414), none, none, none, some (SF.mk (rRef l1454) ())]) (me := fun s1455 => [MF.lst l1454 rInt s1455]) (s0 := v_result_1447) 5 hp (JI.range1 (JE.fld (JE.var 0) (fldI (fl_Web_passages K)) T.o_Web.cl T.na_Web_passages) T.n_range) (fun i1458 s1455 => JN.at (c' := [some (SF.mk (r_Web K) p_self), some (SF.mk (fun I v x => (rdL K (rp rInt)) I H0 v x) p_amounts), some (SF.mk (rL rInt) s1414), none, none, some (SF.mk rInt i1458), some (SF.mk (rRef l1454) ())]) (JN.seq (J1.cx (c' := fun v_part_1459 => [some (SF.mk (r_Web K) p_self), some (SF.mk (fun I v x => (rdL K (rp rInt)) I H0 v x) p_amounts), some (SF.mk (rL rInt) s1414), none, some (SF.mk rInt v_part_1459), some (SF.mk rInt i1458), some (SF.mk (rRef l1454) ())]) (J1.set 4 (JE.bin (JE.ix (JE.rd (JE.var 2)) (JE.var 5)) (JE.bin (JE.fld (JE.var 0) (fldI (fl_Web_passage_scale K)) T.o_Web.cl T.na_Web_passage_scale) (JE.ix (JE.rd (JE.fld (JE.var 0) (fldI (fl_Web_passage_totals K)) T.o_Web.cl T.na_Web_passage_totals)) (JE.var 5)) opj_fdiv) opj_mul) hx sc_Web_next_amounts.nd)) fun v_part_1459 => (JN.seq (J1.forS (S := (List Int)) (cx := fun s1470 => [some (SF.mk (r_Web K) p_self), some (SF.mk (fun I v x => (rdL K (rp rInt)) I H0 v x) p_amounts), some (SF.mk (rL rInt) s1414), none, some (SF.mk rInt v_part_1459), some (SF.mk rInt i1458), some (SF.mk (rRef l1454) ())]) (me := fun s1470 => [MF.lst l1454 rInt s1470]) (s0 := s1455) 3 hp (JI.range1 (JE.fld (JE.var 0) (fldI (fl_Web_rooms K)) T.o_Web.cl T.na_Web_rooms) T.n_range) (fun i1473 s1470 => JN.at (c' := [some (SF.mk (r_Web K) p_self), some (SF.mk (fun I v x => (rdL K (rp rInt)) I H0 v x) p_amounts), some (SF.mk (rL rInt) s1414), some (SF.mk rInt i1473), some (SF.mk rInt v_part_1459), some (SF.mk rInt i1458), some (SF.mk (rRef l1454) ())]) (JN.seq (J1.cm (c' := fun v_result_1481 => [some (SF.mk (r_Web K) p_self), some (SF.mk (fun I v x => (rdL K (rp rInt)) I H0 v x) p_amounts), some (SF.mk (rL rInt) s1414), some (SF.mk rInt i1473), some (SF.mk rInt v_part_1459), some (SF.mk rInt i1458), some (SF.mk (rRef l1454) ())]) (me' := fun v_result_1481 => [MF.lst l1454 rInt v_result_1481]) (J1.augIx 6 0 (h := fun a b => .ok (a + b)) (JE.var 3) (JE.bin (JE.var 4) (JE.ix (JE.rd (JE.ix (JE.rd (JE.fld (JE.var 0) (fldI (fl_Web_joints K)) T.o_Web.cl T.na_Web_joints)) (JE.var 3))) (JE.var 5)) opj_mul) opi_add hx)) fun v_result_1481 => (JN.nil (fun _ _ _ h => (Stt.weak h (weak_some (weak_some (weak_some (weak_none (weak_some (weak_some (weak_some weak_nil)))))))))))) hx (weak_some (weak_some (weak_some (weak_none (weak_some (weak_some (weak_some weak_nil))))))) sc_Web_next_amounts.nd) fun s1470 => (JN.nil (fun _ _ _ h => (Stt.weak h (weak_some (weak_some (weak_some (weak_none (weak_none (weak_none (weak_some weak_nil))))))))))))) hx (weak_some (weak_some (weak_some (weak_none (weak_none (weak_none (weak_some weak_nil))))))) sc_Web_next_amounts.nd) fun s1455 => (JR.fz 6 0 (ctx' := [some (SF.mk (r_Web K) p_self), some (SF.mk (fun I v x => (rdL K (rp rInt)) I H0 v x) p_amounts), some (SF.mk (rL rInt) s1414), none, none, none, some (SF.mk (rL rInt) s1455)]) (mem' := []) (JR.ret (JE.var 6) hx)))))))⟩
theorem fn_Web_next_amounts {P : Program} {w : World} {K : PySem.W.Frag} {mg : Str → Option Value} {base : Heap} (T : Txt w K mg) : FnR P w K mg base (L2N.CX P w) 1 (He.ma K (He.ga K "Web") "next_amounts") (spF K (aCons (rp (r_Web K)) (aCons (rdL K (rp rInt)) aNil)) (fun d => m_Web_next_amounts d.1 d.2.1) (rp (rL rInt))) := by
  obtain ⟨fd, F⟩ := T.F_Web_next_amounts
  exact FnOk.fr0 (ok_Web_next_amounts T F) (F.bindsN fun _ _ _ _ _ _ us hl => match us, hl with | [_, _], _ => rfl)
theorem sc_Web_ticking : GScope ["self", "ticks", "amounts", "bottom", "step"] ["self", "ticks"] (defScope s_Web_ticking) := ⟨rfl, rfl, rfl, by decide +kernel, rfl, by decide +kernel, by decide +kernel⟩
def m_Web_ticking (p_self : O_Web) (p_ticks : Int) : Res (List Rat) :=
  ((((Res.ok p_ticks).bind fun a1351 => (Res.ok (0 : Int)).bind fun b1352 => .ok (decide (a1351 < b1352))).bind fun x1356 => if x1356 = true then (((Res.ok p_ticks).bind fun y1354 => Res.err ⟨"BadTick", [("tick", Pay.int y1354)]⟩)) else (Res.ok ())).bind fun s1355 => ((((Res.ok (1 : Int)).bind fun a1359 => (Res.ok []).bind fun b1360 => .ok (a1359 :: b1360)).bind fun a1369 => (((Res.ok (0 : Int)).bind fun a1362 => (Res.ok []).bind fun b1363 => .ok (a1362 :: b1363)).bind fun a1367 => (((Res.ok p_self).bind fun a1364 => .ok a1364.f_rooms).bind fun a1365 => (Res.ok (1 : Int)).bind fun b1366 => .ok (a1365 - b1366)).bind fun b1368 => repM a1367 b1368).bind fun b1370 => catM a1369 b1370).bind fun v_amounts_1357 => ((Res.ok (1 : Int)).bind fun v_bottom_1371 => (Res.guard (([] : (List Rat)).length < sizeLine) ((((Res.ok (1 : Int)).bind fun a1373 => (Res.ok ()).bind fun b1374 => .ok (a1373, b1374)).bind (fun d => qInt d.1)).bind fun y1376 => ((((Res.ok p_ticks).bind fun a1378 => rangeM1 a1378).bind fun l1404 => forS (fun (i1380 : Int) (z1379 : List Rat × ((List Int) × Int)) => (((Res.ok p_self).bind fun a1382 => ((Res.ok z1379.2.1).bind fun a1384 => (Res.ok ()).bind fun b1385 => .ok (a1384, b1385)).bind fun b1386 => (fun d => m_Web_next_amounts d.1 d.2.1) (a1382, b1386)).bind fun v_amounts_1381 => ((((Res.ok z1379.2.2).bind fun a1389 => ((Res.ok p_self).bind fun a1388 => .ok a1388.f_room_scale).bind fun b1390 => mulI a1389 b1390).bind fun a1392 => ((Res.ok p_self).bind fun a1391 => .ok a1391.f_passage_scale).bind fun b1393 => mulI a1392 b1393).bind fun v_bottom_1387 => (Res.guard (z1379.1.length < sizeLine) (((((Res.ok v_amounts_1381).bind fun a1394 => (Res.ok (0 : Int)).bind fun b1395 => atM a1394 b1395).bind fun a1400 => ((Res.ok v_bottom_1387).bind fun a1398 => (Res.ok ()).bind fun b1399 => .ok (a1398, b1399)).bind fun b1401 => .ok (a1400, b1401)).bind (fun d => qMk d.1 d.2.1)).bind fun y1403 => (Res.ok ((z1379.1 ++ [y1403]), (v_amounts_1381, v_bottom_1387)))))))) l1404 ((([] : (List Rat)) ++ [y1376]), (v_amounts_1357, v_bottom_1371))).bind fun z1379 => (Res.ok z1379.1)))))))
abbrev C_Web_ticking (P : Program) (w : World) (K : PySem.W.Frag) (mg : Str → Option Value) (base : Heap) : Prop := GnR P w K mg base 4 (He.ma K (He.ga K "Web") "ticking") (spGn K (aCons (rp (r_Web K)) (aCons (rp rInt) aNil)) (fun d => m_Web_ticking d.1 d.2.1) (rFrac K))
theorem fn_Web_ticking {P : Program} {w : World} {K : PySem.W.Frag} {mg : Str → Option Value} {base : Heap} (T : Txt w K mg) (c_err_BadTick : C_err_BadTick P w K mg base) (c_Fraction_1 : C_Fraction_1 P w K mg base) (c_Web_next_amounts : C_Web_next_amounts P w K mg base) (c_Fraction_2 : C_Fraction_2 P w K mg base) : GnR P w K mg base 4 (He.ma K (He.ga K "Web") "ticking") (spGn K (aCons (rp (r_Web K)) (aCons (rp rInt) aNil)) (fun d => m_Web_ticking d.1 d.2.1) (rFrac K)) := by
  obtain ⟨fd, F⟩ := T.F_Web_ticking
  refine ⟨fd, ["self", "ticks"], FunD.gen (k := 3) (N := ["self", "ticks", "amounts", "bottom", "step"]) (ps := ["self", "ticks"]) F sc_Web_ticking (fun I H vs d h => ?_) (fun cdv A outer s I0 H0 E pn vs d hr sm h => ?_), F.bindsN fun _ _ _ _ _ _ us hl => match us, hl with | [_, _], _ => rfl⟩
  · obtain ⟨v0, _, rfl, h0, v1, _, rfl, h1, rfl⟩ := h; rfl
  obtain ⟨v0, _, rfl, h0, v1, _, rfl, h1, rfl⟩ := h
  have hx : ∀ {ctx : List (Option SF)} {mem : List MF} (I H : Hp) (σ : St) (d : Option Addr), Stt I0 H0 ctx mem I H σ → Fr H0 d → bK I0 H0 I H σ d := fun _ _ _ _ s f => ⟨s.fm, f⟩
  have tk : L2N.Takes (gx P w K mg base ["self", "ticks", "amounts", "bottom", "step"] "Web.ticking" (defScope s_Web_ticking) (He.ma K (He.ga K "Web") "ticking") cdv A outer s H0 E pn) (bW E) := takesN_gcx
  have hp : PassesOwn (model P w) (gx P w K mg base ["self", "ticks", "amounts", "bottom", "step"] "Web.ticking" (defScope s_Web_ticking) (He.ma K (He.ga K "Web") "ticking") cdv A outer s H0 E pn).A (gx P w K mg base ["self", "ticks", "amounts", "bottom", "step"] "Web.ticking" (defScope s_Web_ticking) (He.ma K (He.ga K "Web") "ticking") cdv A outer s H0 E pn).env (gx P w K mg base ["self", "ticks", "amounts", "bottom", "step"] "Web.ticking" (defScope s_Web_ticking) (He.ma K (He.ga K "Web") "ticking") cdv A outer s H0 E pn).xe := owns_gcx
  obtain ⟨p_self, p_ticks, _⟩ := d
  exact ⟨Stt I0 H0 [some (SF.mk (r_Web K) p_self), some (SF.mk rInt p_ticks), none, none, none] [], Stt.start sm ⟨h0, h1, ini_nil rfl⟩ rfl (by simp), (YE.seqP (J1.if (S := Unit) (G' := fun s1355 => Stt I0 H0 [some (SF.mk (r_Web K) p_self), some (SF.mk rInt p_ticks), none, none, none] []) (JT.cmp (JE.var 1) JE.int opj_lt) (JN.raise1 (pay := Pay.int) rfl tk c_err_BadTick (hr.mono (by decide)) (JE.var 1) pay_int hx) (JN.nil (fun _ _ _ h => h)) hx) fun s1355 => (YE.seqP (J1.cx (c' := fun v_amounts_1357 => [some (SF.mk (r_Web K) p_self), some (SF.mk rInt p_ticks), some (SF.mk (rL rInt) v_amounts_1357), none, none]) (J1.set 2 (JE.ofM (JM.cat (JE.hp (JE.ofM (JM.lst (r := rInt) (JA.consL JE.int JA.nilL)))) (JE.hp (JE.ofM (JM.rep (JE.hp (JE.ofM (JM.lst (r := rInt) (JA.consL JE.int JA.nilL)))) (JE.bin (JE.fld (JE.var 0) (fldI (fl_Web_rooms K)) T.o_Web.cl T.na_Web_rooms) JE.int opj_sub)))))) hx sc_Web_ticking.nd)) fun v_amounts_1357 => (YE.seqP (J1.cx (c' := fun v_bottom_1371 => [some (SF.mk (r_Web K) p_self), some (SF.mk rInt p_ticks), some (SF.mk (rL rInt) v_amounts_1357), some (SF.mk rInt v_bottom_1371), none]) (J1.set 3 JE.int hx sc_Web_ticking.nd)) fun v_bottom_1371 => (YE.yield (JE.call (JA.cons JE.int JA.nil) (c_Fraction_1 _ _ rfl rfl rfl rfl rfl (hr.mono (by decide)) tk) T.g_Fraction T.mk_Fraction.kp) hx fun y1376 => (YE.seq (Y1.for (S := ((List Int) × Int)) (cx := fun s1405 => [some (SF.mk (r_Web K) p_self), some (SF.mk rInt p_ticks), some (SF.mk (rL rInt) s1405.1), some (SF.mk rInt s1405.2), none]) (me := fun s1405 => []) (s0 := (v_amounts_1357, v_bottom_1371)) 4 hp (JI.range1 (JE.var 1) T.n_range) (fun i1380 z1379 => YN.at (c' := [some (SF.mk (r_Web K) p_self), some (SF.mk rInt p_ticks), some (SF.mk (rL rInt) z1379.2.1), some (SF.mk rInt z1379.2.2), some (SF.mk rInt i1380)]) (YN.seqP (J1.cx (c' := fun v_amounts_1381 => [some (SF.mk (r_Web K) p_self), some (SF.mk rInt p_ticks), some (SF.mk (rL rInt) v_amounts_1381), some (SF.mk rInt z1379.2.2), some (SF.mk rInt i1380)]) (J1.set 2 (JE.meth (JE.var 0) (insOfI fun _ => by kernel_rfl) (JA.cons (JE.rd (JE.var 2)) JA.nil) (cj_of c_Web_next_amounts (hr.mono (by decide)) tk) T.o_Web.cl T.me_Web_next_amounts) hx sc_Web_ticking.nd)) fun v_amounts_1381 => (YN.seqP (J1.cx (c' := fun v_bottom_1387 => [some (SF.mk (r_Web K) p_self), some (SF.mk rInt p_ticks), some (SF.mk (rL rInt) v_amounts_1381), some (SF.mk rInt v_bottom_1387), some (SF.mk rInt i1380)]) (J1.set 3 (JE.bin (JE.bin (JE.var 3) (JE.fld (JE.var 0) (fldI (fl_Web_room_scale K)) T.o_Web.cl T.na_Web_room_scale) opj_mul) (JE.fld (JE.var 0) (fldI (fl_Web_passage_scale K)) T.o_Web.cl T.na_Web_passage_scale) opj_mul) hx sc_Web_ticking.nd)) fun v_bottom_1387 => (YN.yield (JE.call (JA.cons (JE.ix (JE.rd (JE.var 2)) JE.int) (JA.cons (JE.var 3) JA.nil)) (c_Fraction_2 _ _ rfl rfl rfl rfl rfl (hr.mono (by decide)) tk) T.g_Fraction T.mk_Fraction.kp) hx fun y1403 => (YN.nil (fun _ _ _ h => (Stt.weak h (weak_some (weak_some (weak_some (weak_some (weak_none weak_nil)))))))))))) hx (weak_some (weak_some (weak_some (weak_some (weak_none weak_nil))))) sc_Web_ticking.nd) fun z1379 => (YE.nil fun _ _ _ h => h.fm))))))⟩
theorem sc_Web_readings : FnScope ["self", "ticks"] ["self", "ticks"] (defScope s_Web_readings) := ⟨rfl, rfl, rfl, by decide +kernel, rfl, by decide +kernel, by decide +kernel⟩
def m_Web_readings (p_self : O_Web) (p_ticks : Int) : Res (List Rat) :=
  ((Res.ok p_self).bind fun a1346 => ((Res.ok p_ticks).bind fun a1349 => (Res.ok ()).bind fun b1350 => .ok (a1349, b1350)).bind fun b1347 => noErr ((fun d => m_Web_ticking d.1 d.2.1) (a1346, b1347)))
abbrev C_Web_readings (P : Program) (w : World) (K : PySem.W.Frag) (mg : Str → Option Value) (base : Heap) : Prop := FnR P w K mg base (L2N.CX P w) 8 (He.ma K (He.ga K "Web") "readings") (spN K (aCons (rp (r_Web K)) (aCons (rp rInt) aNil)) (fun d => m_Web_readings d.1 d.2.1) (rFrac K))
theorem ok_Web_readings {P : Program} {w : World} {K : PySem.W.Frag} {mg : Str → Option Value} {base : Heap} (T : Txt w K mg) (c_Web_ticking : C_Web_ticking P w K mg base) {fd : FuncData} (F : FunD K "readings" "Web.readings" (defArgs s_Web_readings) (defBody s_Web_readings) (defScope s_Web_readings) [] [] (He.ma K (He.ga K "Web") "readings") fd) : FnOk P w K mg base (L2N.CX P w) 8 (He.ma K (He.ga K "Web") "readings") fd ["self", "ticks"] (spN K (aCons (rp (r_Web K)) (aCons (rp rInt) aNil)) (fun d => m_Web_readings d.1 d.2.1) (rFrac K)) := by
  refine FunD.fnN (k := 7) (N := ["self", "ticks"]) (ps := ["self", "ticks"]) F sc_Web_readings (fun I H vs d h => ?_) (fun cdv A outer s I0 H0 E vs d hr sm h => ?_)
  · obtain ⟨v0, _, rfl, h0, v1, _, rfl, h1, rfl⟩ := h; rfl
  obtain ⟨v0, _, rfl, h0, v1, _, rfl, h1, rfl⟩ := h
  have hx : ∀ {ctx : List (Option SF)} {mem : List MF} (I H : Hp) (σ : St) (d : Option Addr), Stt I0 H0 ctx mem I H σ → Fr H0 d → bK I0 H0 I H σ d := fun _ _ _ _ s f => ⟨s.fm, f⟩
  have tk : L2N.Takes (bx P w K mg base ["self", "ticks"] "Web.readings" (defScope s_Web_readings) (He.ma K (He.ga K "Web") "readings") cdv A outer s H0 E) (bW E) := L2N.takes_of rfl rfl rfl rfl
  obtain ⟨p_self, p_ticks, _⟩ := d
  exact ⟨Stt I0 H0 [some (SF.mk (r_Web K) p_self), some (SF.mk rInt p_ticks)] [], Stt.start sm ⟨h0, h1, ini_nil rfl⟩ rfl (by simp), (JR.retM (JM.listG (g := (fun d => m_Web_ticking d.1 d.2.1)) (r := (rFrac K)) (JE.var 0) (insOfI fun _ => by kernel_rfl) (JA.cons (JE.var 1) JA.nil) c_Web_ticking T.o_Web.cl T.me_Web_ticking (hr.mono (by decide)) T.n_list) hx)⟩
theorem fn_Web_readings {P : Program} {w : World} {K : PySem.W.Frag} {mg : Str → Option Value} {base : Heap} (T : Txt w K mg) (c_Web_ticking : C_Web_ticking P w K mg base) : FnR P w K mg base (L2N.CX P w) 8 (He.ma K (He.ga K "Web") "readings") (spN K (aCons (rp (r_Web K)) (aCons (rp rInt) aNil)) (fun d => m_Web_readings d.1 d.2.1) (rFrac K)) := by
  obtain ⟨fd, F⟩ := T.F_Web_readings
  exact FnOk.frN0 (ok_Web_readings T c_Web_ticking F) (F.bindsN fun _ _ _ _ _ _ us hl => match us, hl with | [_, _], _ => rfl)
theorem sc_law_product : FnScope ["_law_numbers", "_law_result", "_law_number"] ["_law_numbers"] (defScope s_law_product) := ⟨rfl, rfl, rfl, by decide +kernel, rfl, by decide +kernel, by decide +kernel⟩
def m_law_product (p_law_numbers : (List Int)) : Res Int :=
  ((Res.ok (1 : Int)).bind fun v_law_result_1651 => (((Res.ok p_law_numbers).bind fun l1657 => forS (fun (i1653 : Int) (s1652 : Int) => (((Res.ok s1652).bind fun a1655 => (Res.ok i1653).bind fun b1656 => mulI a1655 b1656).bind fun v_law_result_1654 => (Res.ok v_law_result_1654))) l1657 v_law_result_1651).bind fun s1652 => (Res.ok s1652)))
abbrev C_law_product (P : Program) (w : World) (K : PySem.W.Frag) (mg : Str → Option Value) (base : Heap) : Prop := FnR P w K mg base (L2N.CX P w) 1 (He.ga K "_law_product") (spF K (aCons (rdL K (rp rInt)) aNil) (fun d => m_law_product d.1) (rp rInt))
theorem ok_law_product {P : Program} {w : World} {K : PySem.W.Frag} {mg : Str → Option Value} {base : Heap} (T : Txt w K mg) {fd : FuncData} (F : FunD K "_law_product" "_law_product" (defArgs s_law_product) (defBody s_law_product) (defScope s_law_product) [] [] (He.ga K "_law_product") fd) : FnOk P w K mg base (L2N.CX P w) 1 (He.ga K "_law_product") fd ["_law_numbers"] (spF K (aCons (rdL K (rp rInt)) aNil) (fun d => m_law_product d.1) (rp rInt)) := by
  refine FunD.fn (k := 0) (N := ["_law_numbers", "_law_result", "_law_number"]) (ps := ["_law_numbers"]) F sc_law_product (fun I H vs d h => ?_) (fun cdv A outer s I0 H0 E vs d hr sm h => ?_)
  · obtain ⟨v0, _, rfl, h0, rfl⟩ := h; rfl
  obtain ⟨v0, _, rfl, h0, rfl⟩ := h
  have hx : ∀ {ctx : List (Option SF)} {mem : List MF} (I H : Hp) (σ : St) (d : Option Addr), Stt I0 H0 ctx mem I H σ → Fr H0 d → bK I0 H0 I H σ d := fun _ _ _ _ s f => ⟨s.fm, f⟩
  have tk : L2N.Takes (bx P w K mg base ["_law_numbers", "_law_result", "_law_number"] "_law_product" (defScope s_law_product) (He.ga K "_law_product") cdv A outer s H0 E) (bW E) := L2N.takes_of rfl rfl rfl rfl
  have hp : PassesOwn (model P w) (bx P w K mg base ["_law_numbers", "_law_result", "_law_number"] "_law_product" (defScope s_law_product) (He.ga K "_law_product") cdv A outer s H0 E).A (bx P w K mg base ["_law_numbers", "_law_result", "_law_number"] "_law_product" (defScope s_law_product) (He.ga K "_law_product") cdv A outer s H0 E).env (bx P w K mg base ["_law_numbers", "_law_result", "_law_number"] "_law_product" (defScope s_law_product) (He.ga K "_law_product") cdv A outer s H0 E).xe := passes_of rfl
  obtain ⟨p_law_numbers, _⟩ := d
  exact ⟨Stt I0 H0 [some (SF.mk (fun I v x => (rdL K (rp rInt)) I H0 v x) p_law_numbers), none, none] [], Stt.start sm ⟨h0, ini_nil rfl⟩ rfl (by simp), (JR.seq (J1.cx (c' := fun v_law_result_1651 => [some (SF.mk (fun I v x => (rdL K (rp rInt)) I H0 v x) p_law_numbers), some (SF.mk rInt v_law_result_1651), none]) (J1.set 1 JE.int hx sc_law_product.nd)) fun v_law_result_1651 => (JR.seq (J1.forS (S := Int) (cx := fun s1652 => [some (SF.mk (fun I v x => (rdL K (rp rInt)) I H0 v x) p_law_numbers), some (SF.mk rInt s1652), none]) (me := fun s1652 => []) (s0 := v_law_result_1651) 2 hp (JI.par 0) (fun i1653 s1652 => JN.at (c' := [some (SF.mk (fun I v x => (rdL K (rp rInt)) I H0 v x) p_law_numbers), some (SF.mk rInt s1652), some (SF.mk rInt i1653)]) (JN.seq (J1.cx (c' := fun v_law_result_1654 => [some (SF.mk (fun I v x => (rdL K (rp rInt)) I H0 v x) p_law_numbers), some (SF.mk rInt v_law_result_1654), some (SF.mk rInt i1653)]) (J1.set 1 (JE.bin (JE.var 1) (JE.var 2) opj_mul) hx sc_law_product.nd)) fun v_law_result_1654 => (JN.nil (fun _ _ _ h => (Stt.weak h (weak_some (weak_some (weak_none weak_nil)))))))) hx (weak_some (weak_some (weak_none weak_nil))) sc_law_product.nd) fun s1652 => (JR.ret (JE.var 1) hx)))⟩
theorem fn_law_product {P : Program} {w : World} {K : PySem.W.Frag} {mg : Str → Option Value} {base : Heap} (T : Txt w K mg) : FnR P w K mg base (L2N.CX P w) 1 (He.ga K "_law_product") (spF K (aCons (rdL K (rp rInt)) aNil) (fun d => m_law_product d.1) (rp rInt)) := by
  obtain ⟨fd, F⟩ := T.F_law_product
  exact FnOk.fr0 (ok_law_product T F) (F.bindsN fun _ _ _ _ _ _ us hl => match us, hl with | [_], _ => rfl)
theorem sc_law_tick : FnScope ["_law_web", "_law_amounts", "_law_totals_here", "_law_first", "_law_second", "_law_held", "_law_i", "_law_part", "_law_c", "_law_result"] ["_law_web", "_law_amounts"] (defScope s_law_tick) := ⟨rfl, rfl, rfl, by decide +kernel, rfl, by decide +kernel, by decide +kernel⟩
def m_law_tick (p_law_web : ((List (List Int)) × (List Int) × (List Int) × Unit)) (p_law_amounts : (List Int)) : Res ((List Int) × Int × Unit) :=
  ((((Res.ok p_law_web).bind fun a1531 => (Res.ok ()).bind fun b1532 => .ok (a1531, b1532)).bind (fun d => m_law_totals d.1)).bind fun v_law_totals_here_1529 => (((((Res.ok v_law_totals_here_1529).bind fun a1534 => .ok a1534.1).bind fun a1536 => (Res.ok ()).bind fun b1537 => .ok (a1536, b1537)).bind (fun d => m_law_product d.1)).bind fun v_law_first_1533 => (((((Res.ok v_law_totals_here_1529).bind fun a1539 => .ok a1539.2.1).bind fun a1541 => (Res.ok ()).bind fun b1542 => .ok (a1541, b1542)).bind (fun d => m_law_product d.1)).bind fun v_law_second_1538 => ((((Res.ok (0 : Int)).bind fun a1545 => (Res.ok []).bind fun b1546 => .ok (a1545 :: b1546)).bind fun a1551 => ((((Res.ok v_law_totals_here_1529).bind fun a1547 => .ok a1547.2.1).bind fun a1549 => (Res.ok ()).bind fun b1550 => .ok (a1549, b1550)).bind (fun d => .ok (d.1.length : Int))).bind fun b1552 => repM a1551 b1552).bind fun v_law_held_1543 => ((((((Res.ok p_law_amounts).bind fun a1556 => (Res.ok ()).bind fun b1557 => .ok (a1556, b1557)).bind (fun d => .ok (d.1.length : Int))).bind fun a1558 => rangeM1 a1558).bind fun l1592 => forS (fun (i1559 : Int) (s1554 : (List Int)) => ((((Res.ok p_law_amounts).bind fun a1561 => (Res.ok i1559).bind fun b1562 => atM a1561 b1562).bind fun a1568 => ((Res.ok v_law_first_1533).bind fun a1566 => (((Res.ok v_law_totals_here_1529).bind fun a1563 => .ok a1563.1).bind fun a1564 => (Res.ok i1559).bind fun b1565 => atM a1564 b1565).bind fun b1567 => fdivI a1566 b1567).bind fun b1569 => mulI a1568 b1569).bind fun v_law_part_1560 => ((((((Res.ok s1554).bind fun a1572 => (Res.ok ()).bind fun b1573 => .ok (a1572, b1573)).bind (fun d => .ok (d.1.length : Int))).bind fun a1574 => rangeM1 a1574).bind fun l1591 => forS (fun (i1575 : Int) (s1570 : (List Int)) => (((((Res.ok s1570).bind fun a1576 => (Res.ok i1575).bind fun b1577 => atM a1576 b1577).bind fun a1585 => ((Res.ok v_law_part_1560).bind fun a1583 => ((((Res.ok p_law_web).bind fun a1578 => .ok a1578.1).bind fun a1579 => (Res.ok i1559).bind fun b1580 => atM a1579 b1580).bind fun a1581 => (Res.ok i1575).bind fun b1582 => atM a1581 b1582).bind fun b1584 => mulI a1583 b1584).bind fun b1586 => .ok (a1585 + b1586)).bind fun y1589 => (Res.ok i1575).bind fun k1590 => putM s1570 k1590 y1589).bind fun v_law_held_1588 => (Res.ok v_law_held_1588))) l1591 s1554).bind fun s1570 => (Res.ok s1570)))) l1592 v_law_held_1543).bind fun s1554 => ((((Res.ok (0 : Int)).bind fun a1595 => (Res.ok []).bind fun b1596 => .ok (a1595 :: b1596)).bind fun a1600 => (((Res.ok p_law_amounts).bind fun a1598 => (Res.ok ()).bind fun b1599 => .ok (a1598, b1599)).bind (fun d => .ok (d.1.length : Int))).bind fun b1601 => repM a1600 b1601).bind fun v_law_result_1593 => ((((((Res.ok s1554).bind fun a1605 => (Res.ok ()).bind fun b1606 => .ok (a1605, b1606)).bind (fun d => .ok (d.1.length : Int))).bind fun a1607 => rangeM1 a1607).bind fun l1641 => forS (fun (i1608 : Int) (s1603 : (List Int)) => ((((Res.ok s1554).bind fun a1610 => (Res.ok i1608).bind fun b1611 => atM a1610 b1611).bind fun a1617 => ((Res.ok v_law_second_1538).bind fun a1615 => (((Res.ok v_law_totals_here_1529).bind fun a1612 => .ok a1612.2.1).bind fun a1613 => (Res.ok i1608).bind fun b1614 => atM a1613 b1614).bind fun b1616 => fdivI a1615 b1616).bind fun b1618 => mulI a1617 b1618).bind fun v_law_part_1609 => ((((((Res.ok p_law_amounts).bind fun a1621 => (Res.ok ()).bind fun b1622 => .ok (a1621, b1622)).bind (fun d => .ok (d.1.length : Int))).bind fun a1623 => rangeM1 a1623).bind fun l1640 => forS (fun (i1624 : Int) (s1619 : (List Int)) => (((((Res.ok s1619).bind fun a1625 => (Res.ok i1624).bind fun b1626 => atM a1625 b1626).bind fun a1634 => ((Res.ok v_law_part_1609).bind fun a1632 => ((((Res.ok p_law_web).bind fun a1627 => .ok a1627.1).bind fun a1628 => (Res.ok i1624).bind fun b1629 => atM a1628 b1629).bind fun a1630 => (Res.ok i1608).bind fun b1631 => atM a1630 b1631).bind fun b1633 => mulI a1632 b1633).bind fun b1635 => .ok (a1634 + b1635)).bind fun y1638 => (Res.ok i1624).bind fun k1639 => putM s1619 k1639 y1638).bind fun v_law_result_1637 => (Res.ok v_law_result_1637))) l1640 s1603).bind fun s1619 => (Res.ok s1619)))) l1641 v_law_result_1593).bind fun s1603 => ((Res.ok s1603).bind fun a1648 => (((Res.ok v_law_first_1533).bind fun a1642 => (Res.ok v_law_second_1538).bind fun b1643 => mulI a1642 b1643).bind fun a1646 => (Res.ok ()).bind fun b1647 => .ok (a1646, b1647)).bind fun b1649 => .ok (a1648, b1649)))))))))
abbrev C_law_tick (P : Program) (w : World) (K : PySem.W.Frag) (mg : Str → Option Value) (base : Heap) : Prop := FnR P w K mg base (L2N.CX P w) 2 (He.ga K "_law_tick") (spF K (aCons (rp (rTu (aCons (rp (rL (rL rInt))) (aCons (rp (rL rInt)) (aCons (rp (rL rInt)) aNil))))) (aCons (rdL K (rp rInt)) aNil)) (fun d => m_law_tick d.1 d.2.1) (rp (rTu (aCons (rp (rL rInt)) (aCons (rp rInt) aNil)))))
theorem ok_law_tick {P : Program} {w : World} {K : PySem.W.Frag} {mg : Str → Option Value} {base : Heap} (T : Txt w K mg) (c_law_totals : C_law_totals P w K mg base) (c_law_product : C_law_product P w K mg base) {fd : FuncData} (F : FunD K "_law_tick" "_law_tick" (defArgs s_law_tick) (defBody s_law_tick) (defScope s_law_tick) [] [] (He.ga K "_law_tick") fd) : FnOk P w K mg base (L2N.CX P w) 2 (He.ga K "_law_tick") fd ["_law_web", "_law_amounts"] (spF K (aCons (rp (rTu (aCons (rp (rL (rL rInt))) (aCons (rp (rL rInt)) (aCons (rp (rL rInt)) aNil))))) (aCons (rdL K (rp rInt)) aNil)) (fun d => m_law_tick d.1 d.2.1) (rp (rTu (aCons (rp (rL rInt)) (aCons (rp rInt) aNil))))) := by
  refine FunD.fn (k := 1) (N := ["_law_web", "_law_amounts", "_law_totals_here", "_law_first", "_law_second", "_law_held", "_law_i", "_law_part", "_law_c", "_law_result"]) (ps := ["_law_web", "_law_amounts"]) F sc_law_tick (fun I H vs d h => ?_) (fun cdv A outer s I0 H0 E vs d hr sm h => ?_)
  · obtain ⟨v0, _, rfl, h0, v1, _, rfl, h1, rfl⟩ := h; rfl
  obtain ⟨v0, _, rfl, h0, v1, _, rfl, h1, rfl⟩ := h
  have hx : ∀ {ctx : List (Option SF)} {mem : List MF} (I H : Hp) (σ : St) (d : Option Addr), Stt I0 H0 ctx mem I H σ → Fr H0 d → bK I0 H0 I H σ d := fun _ _ _ _ s f => ⟨s.fm, f⟩
  have tk : L2N.Takes (bx P w K mg base ["_law_web", "_law_amounts", "_law_totals_here", "_law_first", "_law_second", "_law_held", "_law_i", "_law_part", "_law_c", "_law_result"] "_law_tick" (defScope s_law_tick) (He.ga K "_law_tick") cdv A outer s H0 E) (bW E) := L2N.takes_of rfl rfl rfl rfl
  have hp : PassesOwn (model P w) (bx P w K mg base ["_law_web", "_law_amounts", "_law_totals_here", "_law_first", "_law_second", "_law_held", "_law_i", "_law_part", "_law_c", "_law_result"] "_law_tick" (defScope s_law_tick) (He.ga K "_law_tick") cdv A outer s H0 E).A (bx P w K mg base ["_law_web", "_law_amounts", "_law_totals_here", "_law_first", "_law_second", "_law_held", "_law_i", "_law_part", "_law_c", "_law_result"] "_law_tick" (defScope s_law_tick) (He.ga K "_law_tick") cdv A outer s H0 E).env (bx P w K mg base ["_law_web", "_law_amounts", "_law_totals_here", "_law_first", "_law_second", "_law_held", "_law_i", "_law_part", "_law_c", "_law_result"] "_law_tick" (defScope s_law_tick) (He.ga K "_law_tick") cdv A outer s H0 E).xe := passes_of rfl
  obtain ⟨p_law_web, p_law_amounts, _⟩ := d
  exact ⟨Stt I0 H0 [some (SF.mk (rTu (aCons (rp (rL (rL rInt))) (aCons (rp (rL rInt)) (aCons (rp (rL rInt)) aNil)))) p_law_web), some (SF.mk (fun I v x => (rdL K (rp rInt)) I H0 v x) p_law_amounts), none, none, none, none, none, none, none, none] [], Stt.start sm ⟨h0, h1, ini_nil rfl⟩ rfl (by simp), (JR.seq (J1.cx (c' := fun v_law_totals_here_1529 => [some (SF.mk (rTu (aCons (rp (rL (rL rInt))) (aCons (rp (rL rInt)) (aCons (rp (rL rInt)) aNil)))) p_law_web), some (SF.mk (fun I v x => (rdL K (rp rInt)) I H0 v x) p_law_amounts), some (SF.mk (rTu (aCons (rp (rL rInt)) (aCons (rp (rL rInt)) aNil))) v_law_totals_here_1529), none, none, none, none, none, none, none]) (J1.set 2 (JE.call (JA.cons (JE.var 0) JA.nil) (cj_of c_law_totals (hr.mono (by decide)) tk) T.g_law_totals T.k_law_totals) hx sc_law_tick.nd)) fun v_law_totals_here_1529 => (JR.seq (J1.cx (c' := fun v_law_first_1533 => [some (SF.mk (rTu (aCons (rp (rL (rL rInt))) (aCons (rp (rL rInt)) (aCons (rp (rL rInt)) aNil)))) p_law_web), some (SF.mk (fun I v x => (rdL K (rp rInt)) I H0 v x) p_law_amounts), some (SF.mk (rTu (aCons (rp (rL rInt)) (aCons (rp (rL rInt)) aNil))) v_law_totals_here_1529), some (SF.mk rInt v_law_first_1533), none, none, none, none, none, none]) (J1.set 3 (JE.call (JA.cons (JE.rd (JE.ixD 0 (JE.var 2) AtR.zero)) JA.nil) (cj_of c_law_product (hr.mono (by decide)) tk) T.g_law_product T.k_law_product) hx sc_law_tick.nd)) fun v_law_first_1533 => (JR.seq (J1.cx (c' := fun v_law_second_1538 => [some (SF.mk (rTu (aCons (rp (rL (rL rInt))) (aCons (rp (rL rInt)) (aCons (rp (rL rInt)) aNil)))) p_law_web), some (SF.mk (fun I v x => (rdL K (rp rInt)) I H0 v x) p_law_amounts), some (SF.mk (rTu (aCons (rp (rL rInt)) (aCons (rp (rL rInt)) aNil))) v_law_totals_here_1529), some (SF.mk rInt v_law_first_1533), some (SF.mk rInt v_law_second_1538), none, none, none, none, none]) (J1.set 4 (JE.call (JA.cons (JE.rd (JE.ixD 1 (JE.var 2) (AtR.succ AtR.zero))) JA.nil) (cj_of c_law_product (hr.mono (by decide)) tk) T.g_law_product T.k_law_product) hx sc_law_tick.nd)) fun v_law_second_1538 => (JR.seq (J1.cn (c' := fun v_law_held_1543 l1553 => [some (SF.mk (rTu (aCons (rp (rL (rL rInt))) (aCons (rp (rL rInt)) (aCons (rp (rL rInt)) aNil)))) p_law_web), some (SF.mk (fun I v x => (rdL K (rp rInt)) I H0 v x) p_law_amounts), some (SF.mk (rTu (aCons (rp (rL rInt)) (aCons (rp (rL rInt)) aNil))) v_law_totals_here_1529), some (SF.mk rInt v_law_first_1533), some (SF.mk rInt v_law_second_1538), some (SF.mk (rRef l1553) ()), none, none, none, none]) (me' := fun v_law_held_1543 l1553 => [MF.lst l1553 rInt v_law_held_1543]) (J1.setM 5 (JM.rep (JE.hp (JE.ofM (JM.lst (r := rInt) (JA.consL JE.int JA.nilL)))) (JE.callB (JA.cons (JE.rd (JE.ixD 1 (JE.var 2) (AtR.succ AtR.zero))) JA.nil) cj_len T.n_len boot_len)) hx sc_law_tick.nd)) fun v_law_held_1543 => JR.ex fun l1553 => (JR.seq (J1.forS (S := (List Int)) (cx := fun s1554 => [some (SF.mk (rTu (aCons (rp (rL (rL rInt))) (aCons (rp (rL rInt)) (aCons (rp (rL rInt)) aNil)))) p_law_web), some (SF.mk (fun I v x => (rdL K (rp rInt)) I H0 v x) p_law_amounts), some (SF.mk (rTu (aCons (rp (rL rInt)) (aCons (rp (rL rInt)) aNil))) v_law_totals_here_1529), some (SF.mk rInt v_law_first_1533), some (SF.mk rInt v_law_second_1538), some (SF.mk (rRef l1553) ()), none, none, none, none]) (me := fun s1554 => [MF.lst l1553 rInt s1554]) (s0 := v_law_held_1543) 6 hp (JI.range1 (JE.callB (JA.cons (JE.varP 1 (r := (rdL K (rp rInt)))) JA.nil) cj_len T.n_len boot_len) T.n_range) (fun i1559 s1554 => JN.at (c' := [some (SF.mk (rTu (aCons (rp (rL (rL rInt))) (aCons (rp (rL rInt)) (aCons (rp (rL rInt)) aNil)))) p_law_web), some (SF.mk (fun I v x => (rdL K (rp rInt)) I H0 v x) p_law_amounts), some (SF.mk (rTu (aCons (rp (rL rInt)) (aCons (rp (rL rInt)) aNil))) v_law_totals_here_1529), some (SF.mk rInt v_law_first_1533), some (SF.mk rInt v_law_second_1538), some (SF.mk (rRef l1553) ()), some (SF.mk rInt i1559), none, none, none]) (JN.seq (J1.cx (c' := fun v_law_part_1560 => [some (SF.mk (rTu (aCons (rp (rL (rL rInt))) (aCons (rp (rL rInt)) (aCons (rp (rL rInt)) aNil)))) p_law_web), some (SF.mk (fun I v x => (rdL K (rp rInt)) I H0 v x) p_law_amounts), some (SF.mk (rTu (aCons (rp (rL rInt)) (aCons (rp (rL rInt)) aNil))) v_law_totals_here_1529), some (SF.mk rInt v_law_first_1533), some (SF.mk rInt v_law_second_1538), some (SF.mk (rRef l1553) ()), some (SF.mk rInt i1559), some (SF.mk rInt v_law_part_1560), none, none]) (J1.set 7 (JE.bin (JE.ix (JE.varP 1 (r := (rdL K (rp rInt)))) (JE.var 6)) (JE.bin (JE.var 3) (JE.ix (JE.rd (JE.ixD 0 (JE.var 2) AtR.zero)) (JE.var 6)) opj_fdiv) opj_mul) hx sc_law_tick.nd)) fun v_law_part_1560 => (JN.seq (J1.forS (S := (List Int)) (cx := fun s1570 => [some (SF.mk (rTu (aCons (rp (rL (rL rInt))) (aCons (rp (rL rInt)) (aCons (rp (rL rInt)) aNil)))) p_law_web), some (SF.mk (fun I v x => (rdL K (rp rInt)) I H0 v x) p_law_amounts), some (SF.mk (rTu (aCons (rp (rL rInt)) (aCons (rp (rL rInt)) aNil))) v_law_totals_here_1529), some (SF.mk rInt v_law_first_1533), some (SF.mk rInt v_law_second_1538), some (SF.mk (rRef l1553) ()), some (SF.mk rInt i1559), some (SF.mk rInt v_law_part_1560), none, none]) (me := fun s1570 => [MF.lst l1553 rInt s1570]) (s0 := s1554) 8 hp (JI.range1 (JE.callB (JA.cons (JE.rdM 5 0) JA.nil) cj_len T.n_len boot_len) T.n_range) (fun i1575 s1570 => JN.at (c' := [some (SF.mk (rTu (aCons (rp (rL (rL rInt))) (aCons (rp (rL rInt)) (aCons (rp (rL rInt)) aNil)))) p_law_web), some (SF.mk (fun I v x => (rdL K (rp rInt)) I H0 v x) p_law_amounts), some (SF.mk (rTu (aCons (rp (rL rInt)) (aCons (rp (rL rInt)) aNil))) v_law_totals_here_1529), some (SF.mk rInt v_law_first_1533), some (SF.mk rInt v_law_second_1538), some (SF.mk (rRef l1553) ()), some (SF.mk rInt i1559), some (SF.mk rInt v_law_part_1560), some (SF.mk rInt i1575), none]) (JN.seq (J1.cm (c' := fun v_law_held_1588 => [some (SF.mk (rTu (aCons (rp (rL (rL rInt))) (aCons (rp (rL rInt)) (aCons (rp (rL rInt)) aNil)))) p_law_web), some (SF.mk (fun I v x => (rdL K (rp rInt)) I H0 v x) p_law_amounts), some (SF.mk (rTu (aCons (rp (rL rInt)) (aCons (rp (rL rInt)) aNil))) v_law_totals_here_1529), some (SF.mk rInt v_law_first_1533), some (SF.mk rInt v_law_second_1538), some (SF.mk (rRef l1553) ()), some (SF.mk rInt i1559), some (SF.mk rInt v_law_part_1560), some (SF.mk rInt i1575), none]) (me' := fun v_law_held_1588 => [MF.lst l1553 rInt v_law_held_1588]) (J1.put 5 0 (JE.bin (JE.ix (JE.rdM 5 0) (JE.var 8)) (JE.bin (JE.var 7) (JE.ix (JE.rd (JE.ix (JE.rd (JE.ixD 0 (JE.var 0) AtR.zero)) (JE.var 6))) (JE.var 8)) opj_mul) opj_add) (JE.var 8) hx)) fun v_law_held_1588 => (JN.nil (fun _ _ _ h => (Stt.weak h (weak_some (weak_some (weak_some (weak_some (weak_some (weak_some (weak_some (weak_some (weak_none (weak_none weak_nil))))))))))))))) hx (weak_some (weak_some (weak_some (weak_some (weak_some (weak_some (weak_some (weak_some (weak_none (weak_none weak_nil)))))))))) sc_law_tick.nd) fun s1570 => (JN.nil (fun _ _ _ h => (Stt.weak h (weak_some (weak_some (weak_some (weak_some (weak_some (weak_some (weak_none (weak_none (weak_none (weak_none weak_nil)))))))))))))))) hx (weak_some (weak_some (weak_some (weak_some (weak_some (weak_some (weak_none (weak_none (weak_none (weak_none weak_nil)))))))))) sc_law_tick.nd) fun s1554 => (JR.fz 5 0 (ctx' := [some (SF.mk (rTu (aCons (rp (rL (rL rInt))) (aCons (rp (rL rInt)) (aCons (rp (rL rInt)) aNil)))) p_law_web), some (SF.mk (fun I v x => (rdL K (rp rInt)) I H0 v x) p_law_amounts), some (SF.mk (rTu (aCons (rp (rL rInt)) (aCons (rp (rL rInt)) aNil))) v_law_totals_here_1529), some (SF.mk rInt v_law_first_1533), some (SF.mk rInt v_law_second_1538), some (SF.mk (rL rInt) s1554), none, none, none, none]) (mem' := []) (JR.seq (J1.cn (c' := fun v_law_result_1593 l1602 => [some (SF.mk (rTu (aCons (rp (rL (rL rInt))) (aCons (rp (rL rInt)) (aCons (rp (rL rInt)) aNil)))) p_law_web), some (SF.mk (fun I v x => (rdL K (rp rInt)) I H0 v x) p_law_amounts), some (SF.mk (rTu (aCons (rp (rL rInt)) (aCons (rp (rL rInt)) aNil))) v_law_totals_here_1529), some (SF.mk rInt v_law_first_1533), some (SF.mk rInt v_law_second_1538), some (SF.mk (rL rInt) s1554), none, none, none, some (SF.mk (rRef l1602) ())]) (me' := fun v_law_result_1593 l1602 => [MF.lst l1602 rInt v_law_result_1593]) (J1.setM 9 (JM.rep (JE.hp (JE.ofM (JM.lst (r := rInt) (JA.consL JE.int JA.nilL)))) (JE.callB (JA.cons (JE.varP 1 (r := (rdL K (rp rInt)))) JA.nil) cj_len T.n_len boot_len)) hx sc_law_tick.nd)) fun v_law_result_1593 => JR.ex fun l1602 => (JR.seq (J1.forS (S := (List Int)) (cx := fun s1603 => [some (SF.mk (rTu (aCons (rp (rL (rL rInt))) (aCons (rp (rL rInt)) (aCons (rp (rL rInt)) aNil)))) p_law_web), some (SF.mk (fun I v x => (rdL K (rp rInt)) I H0 v x) p_law_amounts), some (SF.mk (rTu (aCons (rp (rL rInt)) (aCons (rp (rL rInt)) aNil))) v_law_totals_here_1529), some (SF.mk rInt v_law_first_1533), some (SF.mk rInt v_law_second_1538), some (SF.mk (rL rInt) s1554), none, none, none, some (SF.mk (rRef l1602) ())]) (me := fun s1603 => [MF.lst l1602 rInt s1603]) (s0 := v_law_result_1593) 8 hp (JI.range1 (JE.callB (JA.cons (JE.rd (JE.var 5)) JA.nil) cj_len T.n_len boot_len) T.n_range) (fun i1608 s1603 => JN.at (c' := [some (SF.mk (rTu (aCons (rp (rL (rL rInt))) (aCons (rp (rL rInt)) (aCons (rp (rL rInt)) aNil)))) p_law_web), some (SF.mk (fun I v x => (rdL K (rp rInt)) I H0 v x) p_law_amounts), some (SF.mk (rTu (aCons (rp (rL rInt)) (aCons (rp (rL rInt)) aNil))) v_law_totals_here_1529), some (SF.mk rInt v_law_first_1533), some (SF.mk rInt v_law_second_1538), some (SF.mk (rL rInt) s1554), none, none, some (SF.mk rInt i1608), some (SF.mk (rRef l1602) ())]) (JN.seq (J1.cx (c' := fun v_law_part_1609 => [some (SF.mk (rTu (aCons (rp (rL (rL rInt))) (aCons (rp (rL rInt)) (aCons (rp (rL rInt)) aNil)))) p_law_web), some (SF.mk (fun I v x => (rdL K (rp rInt)) I H0 v x) p_law_amounts), some (SF.mk (rTu (aCons (rp (rL rInt)) (aCons (rp (rL rInt)) aNil))) v_law_totals_here_1529), some (SF.mk rInt v_law_first_1533), some (SF.mk rInt v_law_second_1538), some (SF.mk (rL rInt) s1554), none, some (SF.mk rInt v_law_part_1609), some (SF.mk rInt i1608), some (SF.mk (rRef l1602) ())]) (J1.set 7 (JE.bin (JE.ix (JE.rd (JE.var 5)) (JE.var 8)) (JE.bin (JE.var 4) (JE.ix (JE.rd (JE.ixD 1 (JE.var 2) (AtR.succ AtR.zero))) (JE.var 8)) opj_fdiv) opj_mul) hx sc_law_tick.nd)) fun v_law_part_1609 => (JN.seq (J1.forS (S := (List Int)) (cx := fun s1619 => [some (SF.mk (rTu (aCons (rp (rL (rL rInt))) (aCons (rp (rL rInt)) (aCons (rp (rL rInt)) aNil)))) p_law_web), some (SF.mk (fun I v x => (rdL K (rp rInt)) I H0 v x) p_law_amounts), some (SF.mk (rTu (aCons (rp (rL rInt)) (aCons (rp (rL rInt)) aNil))) v_law_totals_here_1529), some (SF.mk rInt v_law_first_1533), some (SF.mk rInt v_law_second_1538), some (SF.mk (rL rInt) s1554), none, some (SF.mk rInt v_law_part_1609), some (SF.mk rInt i1608), some (SF.mk (rRef l1602) ())]) (me := fun s1619 => [MF.lst l1602 rInt s1619]) (s0 := s1603) 6 hp (JI.range1 (JE.callB (JA.cons (JE.varP 1 (r := (rdL K (rp rInt)))) JA.nil) cj_len T.n_len boot_len) T.n_range) (fun i1624 s1619 => JN.at (c' := [some (SF.mk (rTu (aCons (rp (rL (rL rInt))) (aCons (rp (rL rInt)) (aCons (rp (rL rInt)) aNil)))) p_law_web), some (SF.mk (fun I v x => (rdL K (rp rInt)) I H0 v x) p_law_amounts), some (SF.mk (rTu (aCons (rp (rL rInt)) (aCons (rp (rL rInt)) aNil))) v_law_totals_here_1529), some (SF.mk rInt v_law_first_1533), some (SF.mk rInt v_law_second_1538), some (SF.mk (rL rInt) s1554), some (SF.mk rInt i1624), some (SF.mk rInt v_law_part_1609), some (SF.mk rInt i1608), some (SF.mk (rRef l1602) ())]) (JN.seq (J1.cm (c' := fun v_law_result_1637 => [some (SF.mk (rTu (aCons (rp (rL (rL rInt))) (aCons (rp (rL rInt)) (aCons (rp (rL rInt)) aNil)))) p_law_web), some (SF.mk (fun I v x => (rdL K (rp rInt)) I H0 v x) p_law_amounts), some (SF.mk (rTu (aCons (rp (rL rInt)) (aCons (rp (rL rInt)) aNil))) v_law_totals_here_1529), some (SF.mk rInt v_law_first_1533), some (SF.mk rInt v_law_second_1538), some (SF.mk (rL rInt) s1554), some (SF.mk rInt i1624), some (SF.mk rInt v_law_part_1609), some (SF.mk rInt i1608), some (SF.mk (rRef l1602) ())]) (me' := fun v_law_result_1637 => [MF.lst l1602 rInt v_law_result_1637]) (J1.put 9 0 (JE.bin (JE.ix (JE.rdM 9 0) (JE.var 6)) (JE.bin (JE.var 7) (JE.ix (JE.rd (JE.ix (JE.rd (JE.ixD 0 (JE.var 0) AtR.zero)) (JE.var 6))) (JE.var 8)) opj_mul) opj_add) (JE.var 6) hx)) fun v_law_result_1637 => (JN.nil (fun _ _ _ h => (Stt.weak h (weak_some (weak_some (weak_some (weak_some (weak_some (weak_some (weak_none (weak_some (weak_some (weak_some weak_nil))))))))))))))) hx (weak_some (weak_some (weak_some (weak_some (weak_some (weak_some (weak_none (weak_some (weak_some (weak_some weak_nil)))))))))) sc_law_tick.nd) fun s1619 => (JN.nil (fun _ _ _ h => (Stt.weak h (weak_some (weak_some (weak_some (weak_some (weak_some (weak_some (weak_none (weak_none (weak_none (weak_some weak_nil)))))))))))))))) hx (weak_some (weak_some (weak_some (weak_some (weak_some (weak_some (weak_none (weak_none (weak_none (weak_some weak_nil)))))))))) sc_law_tick.nd) fun s1603 => (JR.fz 9 0 (ctx' := [some (SF.mk (rTu (aCons (rp (rL (rL rInt))) (aCons (rp (rL rInt)) (aCons (rp (rL rInt)) aNil)))) p_law_web), some (SF.mk (fun I v x => (rdL K (rp rInt)) I H0 v x) p_law_amounts), some (SF.mk (rTu (aCons (rp (rL rInt)) (aCons (rp (rL rInt)) aNil))) v_law_totals_here_1529), some (SF.mk rInt v_law_first_1533), some (SF.mk rInt v_law_second_1538), some (SF.mk (rL rInt) s1554), none, none, none, some (SF.mk (rL rInt) s1603)]) (mem' := []) (JR.ret (JE.tupD (k := 2) (JA.cons (JE.var 9) (JA.cons (JE.bin (JE.var 3) (JE.var 4) opj_mul) JA.nil)) (by rintro _ _ _ _ ⟨_, _, rfl, _, _, _, rfl, _, rfl⟩; rfl)) hx))))))))))⟩
theorem fn_law_tick {P : Program} {w : World} {K : PySem.W.Frag} {mg : Str → Option Value} {base : Heap} (T : Txt w K mg) (c_law_totals : C_law_totals P w K mg base) (c_law_product : C_law_product P w K mg base) : FnR P w K mg base (L2N.CX P w) 2 (He.ga K "_law_tick") (spF K (aCons (rp (rTu (aCons (rp (rL (rL rInt))) (aCons (rp (rL rInt)) (aCons (rp (rL rInt)) aNil))))) (aCons (rdL K (rp rInt)) aNil)) (fun d => m_law_tick d.1 d.2.1) (rp (rTu (aCons (rp (rL rInt)) (aCons (rp rInt) aNil))))) := by
  obtain ⟨fd, F⟩ := T.F_law_tick
  exact FnOk.fr0 (ok_law_tick T c_law_totals c_law_product F) (F.bindsN fun _ _ _ _ _ _ us hl => match us, hl with | [_, _], _ => rfl)
theorem sc_law_played : FnScope ["_law_web", "_law_count", "_law_begin", "_law_amounts", "_law_i", "_law_bottom", "_law_tick_here", "_law_step"] ["_law_web", "_law_count", "_law_begin"] (defScope s_law_played) := ⟨rfl, rfl, rfl, by decide +kernel, rfl, by decide +kernel, by decide +kernel⟩
def m_law_played (p_law_web : ((List (List Int)) × (List Int) × (List Int) × Unit)) (p_law_count : Int) (p_law_begin : Int) : Res ((List Int) × Int × Unit) :=
  (((((((Res.ok p_law_web).bind fun a1490 => .ok a1490.1).bind fun a1492 => (Res.ok ()).bind fun b1493 => .ok (a1492, b1493)).bind (fun d => .ok (d.1.length : Int))).bind fun a1494 => rangeM1 a1494).bind fun l1502 => lcR (fun (i1495 : Int) => ((((Res.ok i1495).bind fun a1497 => (Res.ok p_law_begin).bind fun b1498 => .ok (decide (a1497 = b1498))).bind fun a1499 => (Res.ok ()).bind fun b1500 => .ok (a1499, b1500)).bind (fun d => .ok (if d.1 = true then 1 else 0)))) l1502).bind fun v_law_amounts_1489 => ((Res.ok (1 : Int)).bind fun v_law_bottom_1504 => ((((Res.ok p_law_count).bind fun a1506 => rangeM1 a1506).bind fun l1521 => forS (fun (i1507 : Int) (s1505 : ((List Int) × Int)) => ((((Res.ok p_law_web).bind fun a1513 => ((Res.ok s1505.1).bind fun a1511 => (Res.ok ()).bind fun b1512 => .ok (a1511, b1512)).bind fun b1514 => .ok (a1513, b1514)).bind (fun d => m_law_tick d.1 d.2.1)).bind fun v_law_step_1508 => (((Res.ok v_law_step_1508).bind fun a1516 => .ok a1516.1).bind fun v_law_amounts_1515 => (((Res.ok s1505.2).bind fun a1519 => ((Res.ok v_law_step_1508).bind fun a1518 => .ok a1518.2.1).bind fun b1520 => mulI a1519 b1520).bind fun v_law_bottom_1517 => (Res.ok (v_law_amounts_1515, v_law_bottom_1517)))))) l1521 (v_law_amounts_1489, v_law_bottom_1504)).bind fun s1505 => ((Res.ok s1505.1).bind fun a1526 => ((Res.ok s1505.2).bind fun a1524 => (Res.ok ()).bind fun b1525 => .ok (a1524, b1525)).bind fun b1527 => .ok (a1526, b1527)))))
abbrev C_law_played (P : Program) (w : World) (K : PySem.W.Frag) (mg : Str → Option Value) (base : Heap) : Prop := FnR P w K mg base (L2N.CX P w) 3 (He.ga K "_law_played") (spF K (aCons (rp (rTu (aCons (rp (rL (rL rInt))) (aCons (rp (rL rInt)) (aCons (rp (rL rInt)) aNil))))) (aCons (rp rInt) (aCons (rp rInt) aNil))) (fun d => m_law_played d.1 d.2.1 d.2.2.1) (rp (rTu (aCons (rp (rL rInt)) (aCons (rp rInt) aNil)))))
theorem ok_law_played {P : Program} {w : World} {K : PySem.W.Frag} {mg : Str → Option Value} {base : Heap} (T : Txt w K mg) (c_law_tick : C_law_tick P w K mg base) {fd : FuncData} (F : FunD K "_law_played" "_law_played" (defArgs s_law_played) (defBody s_law_played) (defScope s_law_played) [] [] (He.ga K "_law_played") fd) : FnOk P w K mg base (L2N.CX P w) 3 (He.ga K "_law_played") fd ["_law_web", "_law_count", "_law_begin"] (spF K (aCons (rp (rTu (aCons (rp (rL (rL rInt))) (aCons (rp (rL rInt)) (aCons (rp (rL rInt)) aNil))))) (aCons (rp rInt) (aCons (rp rInt) aNil))) (fun d => m_law_played d.1 d.2.1 d.2.2.1) (rp (rTu (aCons (rp (rL rInt)) (aCons (rp rInt) aNil))))) := by
  refine FunD.fn (k := 2) (N := ["_law_web", "_law_count", "_law_begin", "_law_amounts", "_law_i", "_law_bottom", "_law_tick_here", "_law_step"]) (ps := ["_law_web", "_law_count", "_law_begin"]) F sc_law_played (fun I H vs d h => ?_) (fun cdv A outer s I0 H0 E vs d hr sm h => ?_)
  · obtain ⟨v0, _, rfl, h0, v1, _, rfl, h1, v2, _, rfl, h2, rfl⟩ := h; rfl
  obtain ⟨v0, _, rfl, h0, v1, _, rfl, h1, v2, _, rfl, h2, rfl⟩ := h
  have hx : ∀ {ctx : List (Option SF)} {mem : List MF} (I H : Hp) (σ : St) (d : Option Addr), Stt I0 H0 ctx mem I H σ → Fr H0 d → bK I0 H0 I H σ d := fun _ _ _ _ s f => ⟨s.fm, f⟩
  have tk : L2N.Takes (bx P w K mg base ["_law_web", "_law_count", "_law_begin", "_law_amounts", "_law_i", "_law_bottom", "_law_tick_here", "_law_step"] "_law_played" (defScope s_law_played) (He.ga K "_law_played") cdv A outer s H0 E) (bW E) := L2N.takes_of rfl rfl rfl rfl
  have hp : PassesOwn (model P w) (bx P w K mg base ["_law_web", "_law_count", "_law_begin", "_law_amounts", "_law_i", "_law_bottom", "_law_tick_here", "_law_step"] "_law_played" (defScope s_law_played) (He.ga K "_law_played") cdv A outer s H0 E).A (bx P w K mg base ["_law_web", "_law_count", "_law_begin", "_law_amounts", "_law_i", "_law_bottom", "_law_tick_here", "_law_step"] "_law_played" (defScope s_law_played) (He.ga K "_law_played") cdv A outer s H0 E).env (bx P w K mg base ["_law_web", "_law_count", "_law_begin", "_law_amounts", "_law_i", "_law_bottom", "_law_tick_here", "_law_step"] "_law_played" (defScope s_law_played) (He.ga K "_law_played") cdv A outer s H0 E).xe := passes_of rfl
  obtain ⟨p_law_web, p_law_count, p_law_begin, _⟩ := d
  exact ⟨Stt I0 H0 [some (SF.mk (rTu (aCons (rp (rL (rL rInt))) (aCons (rp (rL rInt)) (aCons (rp (rL rInt)) aNil)))) p_law_web), some (SF.mk rInt p_law_count), some (SF.mk rInt p_law_begin), none, none, none, none, none] [], Stt.start sm ⟨h0, h1, h2, ini_nil rfl⟩ rfl (by simp), (JR.seq (J1.cn (c' := fun v_law_amounts_1489 l1503 => [some (SF.mk (rTu (aCons (rp (rL (rL rInt))) (aCons (rp (rL rInt)) (aCons (rp (rL rInt)) aNil)))) p_law_web), some (SF.mk rInt p_law_count), some (SF.mk rInt p_law_begin), some (SF.mk (rRef l1503) ()), none, none, none, none]) (me' := fun v_law_amounts_1489 l1503 => [MF.lst l1503 rInt v_law_amounts_1489]) (J1.setLcT (r := rInt) 3 4 (JI.range1 (JE.callB (JA.cons (JE.rd (JE.ixD 0 (JE.var 0) AtR.zero)) JA.nil) cj_len T.n_len boot_len) T.n_range) (fun _ _ _ _ _ D acc i1495 tk1496 => (JE.at (c' := [some (SF.mk (rTu (aCons (rp (rL (rL rInt))) (aCons (rp (rL rInt)) (aCons (rp (rL rInt)) aNil)))) p_law_web), some (SF.mk rInt p_law_count), some (SF.mk rInt p_law_begin), none, some (SF.mk rInt i1495), none, none, none]) (JE.callTy (JA.cons (JE.cmp (JE.var 4) (JE.var 2) opj_eq) JA.nil) cj_intB T.n_int boot_int))) hx sc_law_played.nd (blkok_of (by kernel_rfl)))) fun v_law_amounts_1489 => JR.ex fun l1503 => (JR.fz 3 0 (ctx' := [some (SF.mk (rTu (aCons (rp (rL (rL rInt))) (aCons (rp (rL rInt)) (aCons (rp (rL rInt)) aNil)))) p_law_web), some (SF.mk rInt p_law_count), some (SF.mk rInt p_law_begin), some (SF.mk (rL rInt) v_law_amounts_1489), none, none, none, none]) (mem' := []) (JR.seq (J1.cx (c' := fun v_law_bottom_1504 => [some (SF.mk (rTu (aCons (rp (rL (rL rInt))) (aCons (rp (rL rInt)) (aCons (rp (rL rInt)) aNil)))) p_law_web), some (SF.mk rInt p_law_count), some (SF.mk rInt p_law_begin), some (SF.mk (rL rInt) v_law_amounts_1489), none, some (SF.mk rInt v_law_bottom_1504), none, none]) (J1.set 5 JE.int hx sc_law_played.nd)) fun v_law_bottom_1504 => (JR.seq (J1.forS (S := ((List Int) × Int)) (cx := fun s1505 => [some (SF.mk (rTu (aCons (rp (rL (rL rInt))) (aCons (rp (rL rInt)) (aCons (rp (rL rInt)) aNil)))) p_law_web), some (SF.mk rInt p_law_count), some (SF.mk rInt p_law_begin), some (SF.mk (rL rInt) s1505.1), none, some (SF.mk rInt s1505.2), none, none]) (me := fun s1505 => []) (s0 := (v_law_amounts_1489, v_law_bottom_1504)) 6 hp (JI.range1 (JE.var 1) T.n_range) (fun i1507 s1505 => JN.at (c' := [some (SF.mk (rTu (aCons (rp (rL (rL rInt))) (aCons (rp (rL rInt)) (aCons (rp (rL rInt)) aNil)))) p_law_web), some (SF.mk rInt p_law_count), some (SF.mk rInt p_law_begin), some (SF.mk (rL rInt) s1505.1), none, some (SF.mk rInt s1505.2), some (SF.mk rInt i1507), none]) (JN.seq (J1.cx (c' := fun v_law_step_1508 => [some (SF.mk (rTu (aCons (rp (rL (rL rInt))) (aCons (rp (rL rInt)) (aCons (rp (rL rInt)) aNil)))) p_law_web), some (SF.mk rInt p_law_count), some (SF.mk rInt p_law_begin), some (SF.mk (rL rInt) s1505.1), none, some (SF.mk rInt s1505.2), some (SF.mk rInt i1507), some (SF.mk (rTu (aCons (rp (rL rInt)) (aCons (rp rInt) aNil))) v_law_step_1508)]) (J1.set 7 (JE.call (JA.cons (JE.var 0) (JA.cons (JE.rd (JE.var 3)) JA.nil)) (cj_of c_law_tick (hr.mono (by decide)) tk) T.g_law_tick T.k_law_tick) hx sc_law_played.nd)) fun v_law_step_1508 => (JN.seq (J1.cx (c' := fun v_law_amounts_1515 => [some (SF.mk (rTu (aCons (rp (rL (rL rInt))) (aCons (rp (rL rInt)) (aCons (rp (rL rInt)) aNil)))) p_law_web), some (SF.mk rInt p_law_count), some (SF.mk rInt p_law_begin), some (SF.mk (rL rInt) v_law_amounts_1515), none, some (SF.mk rInt s1505.2), some (SF.mk rInt i1507), some (SF.mk (rTu (aCons (rp (rL rInt)) (aCons (rp rInt) aNil))) v_law_step_1508)]) (J1.set 3 (JE.ixD 0 (JE.var 7) AtR.zero) hx sc_law_played.nd)) fun v_law_amounts_1515 => (JN.seq (J1.cx (c' := fun v_law_bottom_1517 => [some (SF.mk (rTu (aCons (rp (rL (rL rInt))) (aCons (rp (rL rInt)) (aCons (rp (rL rInt)) aNil)))) p_law_web), some (SF.mk rInt p_law_count), some (SF.mk rInt p_law_begin), some (SF.mk (rL rInt) v_law_amounts_1515), none, some (SF.mk rInt v_law_bottom_1517), some (SF.mk rInt i1507), some (SF.mk (rTu (aCons (rp (rL rInt)) (aCons (rp rInt) aNil))) v_law_step_1508)]) (J1.set 5 (JE.bin (JE.var 5) (JE.ixD 1 (JE.var 7) (AtR.succ AtR.zero)) opj_mul) hx sc_law_played.nd)) fun v_law_bottom_1517 => (JN.nil (fun _ _ _ h => (Stt.weak h (weak_some (weak_some (weak_some (weak_some (weak_none (weak_some (weak_none (weak_none weak_nil))))))))))))))) hx (weak_some (weak_some (weak_some (weak_some (weak_none (weak_some (weak_none (weak_none weak_nil)))))))) sc_law_played.nd) fun s1505 => (JR.ret (JE.tupD (k := 2) (JA.cons (JE.var 3) (JA.cons (JE.var 5) JA.nil)) (by rintro _ _ _ _ ⟨_, _, rfl, _, _, _, rfl, _, rfl⟩; rfl)) hx)))))⟩
theorem fn_law_played {P : Program} {w : World} {K : PySem.W.Frag} {mg : Str → Option Value} {base : Heap} (T : Txt w K mg) (c_law_tick : C_law_tick P w K mg base) : FnR P w K mg base (L2N.CX P w) 3 (He.ga K "_law_played") (spF K (aCons (rp (rTu (aCons (rp (rL (rL rInt))) (aCons (rp (rL rInt)) (aCons (rp (rL rInt)) aNil))))) (aCons (rp rInt) (aCons (rp rInt) aNil))) (fun d => m_law_played d.1 d.2.1 d.2.2.1) (rp (rTu (aCons (rp (rL rInt)) (aCons (rp rInt) aNil))))) := by
  obtain ⟨fd, F⟩ := T.F_law_played
  exact FnOk.fr0 (ok_law_played T c_law_tick F) (F.bindsN fun _ _ _ _ _ _ us hl => match us, hl with | [_, _, _], _ => rfl)
theorem sc_law : FnScope ["_law_script", "_law_choice", "_law_pairs", "_law_end", "_law_made", "_law_nodes", "_law_web", "_law_due", "_law_told", "_law_tick_here", "_law_played_here", "_law_got"] ["_law_script"] (defScope s_law) := ⟨rfl, rfl, rfl, by decide +kernel, rfl, by decide +kernel, by decide +kernel⟩
def m_law (p_law_script : (List Int)) : Res Bool :=
  (((((((Res.ok p_law_script).bind fun a6 => ((Res.ok (0 : Int)).bind fun a4 => (Res.ok ()).bind fun b5 => .ok (a4, b5)).bind fun b7 => .ok (a6, b7)).bind (fun d => m_law_cell d.1 d.2.1)).bind fun a8 => (Res.ok ()).bind fun b9 => .ok (a8, b9)).bind (fun d => .ok d.1)).bind fun a12 => ((Res.ok (10 : Int)).bind fun a10 => (Res.ok (9 : Int)).bind fun b11 => powI a10 b11).bind fun b13 => modI a12 b13).bind fun v_law_choice_1 => ((((Res.ok p_law_script).bind fun a22 => ((Res.ok (1 : Int)).bind fun a20 => ((Res.ok (12 : Int)).bind fun a18 => (Res.ok ()).bind fun b19 => .ok (a18, b19)).bind fun b21 => .ok (a20, b21)).bind fun b23 => .ok (a22, b23)).bind (fun d => m_law_shares d.1 d.2.1 d.2.2.1)).bind fun v_law_pairs_14 => (((Res.ok v_law_choice_1).bind fun a25 => (Res.ok (2 : Int)).bind fun b26 => modI a25 b26).bind fun v_law_end_24 => (((((Res.ok v_law_pairs_14).bind fun a32 => ((Res.ok v_law_end_24).bind fun a30 => (Res.ok ()).bind fun b31 => .ok (a30, b31)).bind fun b33 => .ok (a32, b33)).bind (fun d => m_law_line d.1 d.2.1)).bind fun a34 => m_Line_web a34).bind fun v_law_made_27 => ((((((Res.ok v_law_pairs_14).bind fun a37 => (Res.ok ()).bind fun b38 => .ok (a37, b38)).bind (fun d => .ok (d.1.length : Int))).bind fun a39 => (Res.ok (1 : Int)).bind fun b40 => .ok (a39 + b40)).bind fun a41 => (Res.ok v_law_end_24).bind fun b42 => .ok (a41 + b42)).bind fun v_law_nodes_35 => (((((Res.ok v_law_made_27).bind fun a43 => .ok a43.f_rooms).bind fun a48 => (((Res.ok v_law_nodes_35).bind fun a44 => (Res.ok (1 : Int)).bind fun b45 => .ok (a44 + b45)).bind fun a46 => (Res.ok (2 : Int)).bind fun b47 => fdivI a46 b47).bind fun b49 => .ok (!decide (a48 = b49))).bind fun a55 => if a55 = true then .ok true else (((Res.ok v_law_made_27).bind fun a50 => .ok a50.f_passages).bind fun a53 => ((Res.ok v_law_nodes_35).bind fun a51 => (Res.ok (2 : Int)).bind fun b52 => fdivI a51 b52).bind fun b54 => .ok (!decide (a53 = b54)))).bind fun x56 => if x56 = true then (Res.ok false) else ((((Res.ok v_law_made_27).bind fun a60 => (Res.ok ()).bind fun b61 => .ok (a60, b61)).bind (fun d => m_law_read d.1)).bind fun v_law_web_58 => (((((Res.ok v_law_web_58).bind fun a63 => (Res.ok ()).bind fun b64 => .ok (a63, b64)).bind (fun d => m_law_sound d.1)).bind fun a65 => .ok (!a65)).bind fun x66 => if x66 = true then (Res.ok false) else ((((Res.ok v_law_pairs_14).bind fun a76 => ((Res.ok v_law_end_24).bind fun a74 => ((Res.ok (8 : Int)).bind fun a72 => (Res.ok ()).bind fun b73 => .ok (a72, b73)).bind fun b75 => .ok (a74, b75)).bind fun b77 => .ok (a76, b77)).bind (fun d => m_law_walk d.1 d.2.1 d.2.2.1)).bind fun v_law_due_68 => (((Res.ok v_law_made_27).bind fun a79 => ((Res.ok (8 : Int)).bind fun a81 => (Res.ok ()).bind fun b82 => .ok (a81, b82)).bind fun b83 => (fun d => m_Web_readings d.1 d.2.1) (a79, b83)).bind fun v_law_told_78 => ((((Res.ok (9 : Int)).bind fun a85 => rangeM1 a85).bind fun l139 => (forG (fun (i86 : Int) (s84 : Unit) => (((((Res.ok v_law_web_58).bind fun a95 => ((Res.ok i86).bind fun a93 => ((Res.ok (0 : Int)).bind fun a91 => (Res.ok ()).bind fun b92 => .ok (a91, b92)).bind fun b94 => .ok (a93, b94)).bind fun b96 => .ok (a95, b96)).bind (fun d => m_law_played d.1 d.2.1 d.2.2.1)).bind fun v_law_played_here_87 => ((((((Res.ok v_law_played_here_87).bind fun a97 => .ok a97.1).bind fun a98 => (Res.ok (0 : Int)).bind fun b99 => atM a98 b99).bind fun a103 => (((Res.ok v_law_due_68).bind fun a100 => (Res.ok i86).bind fun b101 => atM a100 b101).bind fun a102 => .ok a102.2.1).bind fun b104 => mulI a103 b104).bind fun a111 => ((((Res.ok v_law_due_68).bind fun a105 => (Res.ok i86).bind fun b106 => atM a105 b106).bind fun a107 => .ok a107.1).bind fun a109 => ((Res.ok v_law_played_here_87).bind fun a108 => .ok a108.2.1).bind fun b110 => mulI a109 b110).bind fun b112 => .ok (!decide (a111 = b112))).bind fun x113 => if x113 = true then ((Res.ok false).bind fun r115 => .ok (Fl.rt r115)) else (((Res.ok v_law_told_78).bind fun a117 => (Res.ok i86).bind fun b118 => atM a117 b118).bind fun v_law_got_116 => (((((Res.ok v_law_got_116).bind fun a119 => .ok true).bind fun a120 => .ok (!a120)).bind fun a135 => if a135 = true then .ok true else ((((Res.ok v_law_got_116).bind fun a121 => .ok a121.num).bind fun a125 => (((Res.ok v_law_due_68).bind fun a122 => (Res.ok i86).bind fun b123 => atM a122 b123).bind fun a124 => .ok a124.2.1).bind fun b126 => mulI a125 b126).bind fun a133 => ((((Res.ok v_law_due_68).bind fun a127 => (Res.ok i86).bind fun b128 => atM a127 b128).bind fun a129 => .ok a129.1).bind fun a131 => ((Res.ok v_law_got_116).bind fun a130 => .ok (a130.den : Int)).bind fun b132 => mulI a131 b132).bind fun b134 => .ok (!decide (a133 = b134)))).bind fun x136 => if x136 = true then ((Res.ok false).bind fun r138 => .ok (Fl.rt r138)) else (Res.ok (Fl.nx ())))))) : Res (Fl Unit Unit Bool))) l139 () : Res (Fl Unit Unit Bool))).bind (Fl.out fun s84 => ((((Res.ok v_law_told_78).bind fun a141 => (Res.ok ()).bind fun b142 => .ok (a141, b142)).bind (fun d => .ok (d.1.length : Int))).bind fun a143 => (Res.ok (9 : Int)).bind fun b144 => .ok (decide (a143 = b144)))))))))))))))
theorem fn_law {P : Program} {w : World} {K : PySem.W.Frag} {mg : Str → Option Value} {base : Heap} (T : Txt w K mg) (c_law_cell : C_law_cell P w K mg base) (c_law_shares : C_law_shares P w K mg base) (c_law_line : C_law_line P w K mg base) (c_Line_web : C_Line_web P w K mg base) (c_law_read : C_law_read P w K mg base) (c_law_sound : C_law_sound P w K mg base) (c_law_walk : C_law_walk P w K mg base) (c_Web_readings : C_Web_readings P w K mg base) (c_law_played : C_law_played P w K mg base) {fd : FuncData} (F : FunD K "law" "law" (defArgs s_law) (defBody s_law) (defScope s_law) [] [] (He.ga K "law") fd) : FnOk P w K mg base (L2N.CX P w) 9 (He.ga K "law") fd ["_law_script"] (spF K (aCons (rdL K (rp rInt)) aNil) (fun d => m_law d.1) (rp rBl)) := by
  refine FunD.fn (k := 8) (N := ["_law_script", "_law_choice", "_law_pairs", "_law_end", "_law_made", "_law_nodes", "_law_web", "_law_due", "_law_told", "_law_tick_here", "_law_played_here", "_law_got"]) (ps := ["_law_script"]) F sc_law (fun I H vs d h => ?_) (fun cdv A outer s I0 H0 E vs d hr sm h => ?_)
  · obtain ⟨v0, _, rfl, h0, rfl⟩ := h; rfl
  obtain ⟨v0, _, rfl, h0, rfl⟩ := h
  have hx : ∀ {ctx : List (Option SF)} {mem : List MF} (I H : Hp) (σ : St) (d : Option Addr), Stt I0 H0 ctx mem I H σ → Fr H0 d → bK I0 H0 I H σ d := fun _ _ _ _ s f => ⟨s.fm, f⟩
  have tk : L2N.Takes (bx P w K mg base ["_law_script", "_law_choice", "_law_pairs", "_law_end", "_law_made", "_law_nodes", "_law_web", "_law_due", "_law_told", "_law_tick_here", "_law_played_here", "_law_got"] "law" (defScope s_law) (He.ga K "law") cdv A outer s H0 E) (bW E) := L2N.takes_of rfl rfl rfl rfl
  have hp : PassesOwn (model P w) (bx P w K mg base ["_law_script", "_law_choice", "_law_pairs", "_law_end", "_law_made", "_law_nodes", "_law_web", "_law_due", "_law_told", "_law_tick_here", "_law_played_here", "_law_got"] "law" (defScope s_law) (He.ga K "law") cdv A outer s H0 E).A (bx P w K mg base ["_law_script", "_law_choice", "_law_pairs", "_law_end", "_law_made", "_law_nodes", "_law_web", "_law_due", "_law_told", "_law_tick_here", "_law_played_here", "_law_got"] "law" (defScope s_law) (He.ga K "law") cdv A outer s H0 E).env (bx P w K mg base ["_law_script", "_law_choice", "_law_pairs", "_law_end", "_law_made", "_law_nodes", "_law_web", "_law_due", "_law_told", "_law_tick_here", "_law_played_here", "_law_got"] "law" (defScope s_law) (He.ga K "law") cdv A outer s H0 E).xe := passes_of rfl
  obtain ⟨p_law_script, _⟩ := d
  exact ⟨Stt I0 H0 [some (SF.mk (fun I v x => (rdL K (rp rInt)) I H0 v x) p_law_script), none, none, none, none, none, none, none, none, none, none, none] [], Stt.start sm ⟨h0, ini_nil rfl⟩ rfl (by simp), (JR.seq (J1.cx (c' := fun v_law_choice_1 => [some (SF.mk (fun I v x => (rdL K (rp rInt)) I H0 v x) p_law_script), some (SF.mk rInt v_law_choice_1), none, none, none, none, none, none, none, none, none, none]) (J1.set 1 (JE.bin (JE.callTy (JA.cons (JE.call (JA.cons (JE.varP 0 (r := (rdL K (rp rInt)))) (JA.cons JE.int JA.nil)) (cj_of c_law_cell (hr.mono (by decide)) tk) T.g_law_cell T.k_law_cell) JA.nil) cj_int T.n_int boot_int) (JE.bin JE.int JE.int opj_pow) opj_mod) hx sc_law.nd)) fun v_law_choice_1 => (JR.seq (J1.cx (c' := fun v_law_pairs_14 => [some (SF.mk (fun I v x => (rdL K (rp rInt)) I H0 v x) p_law_script), some (SF.mk rInt v_law_choice_1), some (SF.mk (rL (rTu (aCons (rp rInt) (aCons (rp rInt) aNil)))) v_law_pairs_14), none, none, none, none, none, none, none, none, none]) (J1.set 2 (JE.ofM (JM.call (JA.cons (JE.varP 0 (r := (rdL K (rp rInt)))) (JA.cons JE.int (JA.cons JE.int JA.nil))) (cn_of c_law_shares (hr.mono (by decide)) tk) T.g_law_shares T.k_law_shares)) hx sc_law.nd)) fun v_law_pairs_14 => (JR.seq (J1.cx (c' := fun v_law_end_24 => [some (SF.mk (fun I v x => (rdL K (rp rInt)) I H0 v x) p_law_script), some (SF.mk rInt v_law_choice_1), some (SF.mk (rL (rTu (aCons (rp rInt) (aCons (rp rInt) aNil)))) v_law_pairs_14), some (SF.mk rInt v_law_end_24), none, none, none, none, none, none, none, none]) (J1.set 3 (JE.bin (JE.var 1) JE.int opj_mod) hx sc_law.nd)) fun v_law_end_24 => (JR.seq (J1.cx (c' := fun v_law_made_27 => [some (SF.mk (fun I v x => (rdL K (rp rInt)) I H0 v x) p_law_script), some (SF.mk rInt v_law_choice_1), some (SF.mk (rL (rTu (aCons (rp rInt) (aCons (rp rInt) aNil)))) v_law_pairs_14), some (SF.mk rInt v_law_end_24), some (SF.mk (r_Web K) v_law_made_27), none, none, none, none, none, none, none]) (J1.set 4 (JE.meth01 (g := m_Line_web) (JE.call (JA.cons (JE.var 2) (JA.cons (JE.var 3) JA.nil)) (cj_of c_law_line (hr.mono (by decide)) tk) T.g_law_line T.k_law_line) (insOfI fun _ => by kernel_rfl) (cj_of c_Line_web (hr.mono (by decide)) tk) T.o_Line.cl T.me_Line_web) hx sc_law.nd)) fun v_law_made_27 => (JR.seq (J1.cx (c' := fun v_law_nodes_35 => [some (SF.mk (fun I v x => (rdL K (rp rInt)) I H0 v x) p_law_script), some (SF.mk rInt v_law_choice_1), some (SF.mk (rL (rTu (aCons (rp rInt) (aCons (rp rInt) aNil)))) v_law_pairs_14), some (SF.mk rInt v_law_end_24), some (SF.mk (r_Web K) v_law_made_27), some (SF.mk rInt v_law_nodes_35), none, none, none, none, none, none]) (J1.set 5 (JE.bin (JE.bin (JE.callB (JA.cons (JE.rd (JE.var 2)) JA.nil) cj_len T.n_len boot_len) JE.int opj_add) (JE.var 3) opj_add) hx sc_law.nd)) fun v_law_nodes_35 => (JR.ifR (JT.bool (JW.or (JT.cmp (JE.fld (JE.var 4) (fldI (fl_Web_rooms K)) T.o_Web.cl T.na_Web_rooms) (JE.bin (JE.bin (JE.var 5) JE.int opj_add) JE.int opj_fdiv) opj_ne) (JW.or1 (JT.cmp (JE.fld (JE.var 4) (fldI (fl_Web_passages K)) T.o_Web.cl T.na_Web_passages) (JE.bin (JE.var 5) JE.int opj_fdiv) opj_ne)))) (JR.ret JE.bl hx) (JR.seq (J1.cx (c' := fun v_law_web_58 => [some (SF.mk (fun I v x => (rdL K (rp rInt)) I H0 v x) p_law_script), some (SF.mk rInt v_law_choice_1), some (SF.mk (rL (rTu (aCons (rp rInt) (aCons (rp rInt) aNil)))) v_law_pairs_14), some (SF.mk rInt v_law_end_24), some (SF.mk (r_Web K) v_law_made_27), some (SF.mk rInt v_law_nodes_35), some (SF.mk (rTu (aCons (rp (rL (rL rInt))) (aCons (rp (rL rInt)) (aCons (rp (rL rInt)) aNil)))) v_law_web_58), none, none, none, none, none]) (J1.set 6 (JE.call (JA.cons (JE.var 4) JA.nil) (cj_of c_law_read (hr.mono (by decide)) tk) T.g_law_read T.k_law_read) hx sc_law.nd)) fun v_law_web_58 => (JR.ifR (JT.not (JT.of (JE.call (JA.cons (JE.var 6) JA.nil) (cj_of c_law_sound (hr.mono (by decide)) tk) T.g_law_sound T.k_law_sound))) (JR.ret JE.bl hx) (JR.seq (J1.cx (c' := fun v_law_due_68 => [some (SF.mk (fun I v x => (rdL K (rp rInt)) I H0 v x) p_law_script), some (SF.mk rInt v_law_choice_1), some (SF.mk (rL (rTu (aCons (rp rInt) (aCons (rp rInt) aNil)))) v_law_pairs_14), some (SF.mk rInt v_law_end_24), some (SF.mk (r_Web K) v_law_made_27), some (SF.mk rInt v_law_nodes_35), some (SF.mk (rTu (aCons (rp (rL (rL rInt))) (aCons (rp (rL rInt)) (aCons (rp (rL rInt)) aNil)))) v_law_web_58), some (SF.mk (rL (rTu (aCons (rp rInt) (aCons (rp rInt) aNil)))) v_law_due_68), none, none, none, none]) (J1.set 7 (JE.ofM (JM.call (JA.cons (JE.var 2) (JA.cons (JE.var 3) (JA.cons JE.int JA.nil))) (cn_of c_law_walk (hr.mono (by decide)) tk) T.g_law_walk T.k_law_walk)) hx sc_law.nd)) fun v_law_due_68 => (JR.seq (J1.cx (c' := fun v_law_told_78 => [some (SF.mk (fun I v x => (rdL K (rp rInt)) I H0 v x) p_law_script), some (SF.mk rInt v_law_choice_1), some (SF.mk (rL (rTu (aCons (rp rInt) (aCons (rp rInt) aNil)))) v_law_pairs_14), some (SF.mk rInt v_law_end_24), some (SF.mk (r_Web K) v_law_made_27), some (SF.mk rInt v_law_nodes_35), some (SF.mk (rTu (aCons (rp (rL (rL rInt))) (aCons (rp (rL rInt)) (aCons (rp (rL rInt)) aNil)))) v_law_web_58), some (SF.mk (rL (rTu (aCons (rp rInt) (aCons (rp rInt) aNil)))) v_law_due_68), some (SF.mk (rL (rFrac K)) v_law_told_78), none, none, none]) (J1.set 8 (JE.ofM (JM.meth (JE.var 4) (insOfI fun _ => by kernel_rfl) (JA.cons JE.int JA.nil) (cn_of c_Web_readings (hr.mono (by decide)) tk) T.o_Web.cl T.me_Web_readings)) hx sc_law.nd)) fun v_law_told_78 => (JR.seqG (GL := fun _ _ _ _ => False) (J1G.forG (S := Unit) (cx := fun s84 => [some (SF.mk (fun I v x => (rdL K (rp rInt)) I H0 v x) p_law_script), some (SF.mk rInt v_law_choice_1), some (SF.mk (rL (rTu (aCons (rp rInt) (aCons (rp rInt) aNil)))) v_law_pairs_14), some (SF.mk rInt v_law_end_24), some (SF.mk (r_Web K) v_law_made_27), some (SF.mk rInt v_law_nodes_35), some (SF.mk (rTu (aCons (rp (rL (rL rInt))) (aCons (rp (rL rInt)) (aCons (rp (rL rInt)) aNil)))) v_law_web_58), some (SF.mk (rL (rTu (aCons (rp rInt) (aCons (rp rInt) aNil)))) v_law_due_68), some (SF.mk (rL (rFrac K)) v_law_told_78), none, none, none]) (me := fun s84 => []) (s0 := ()) 9 hp (JI.range1 JE.int T.n_range) (fun i86 s84 => JG.at (c' := [some (SF.mk (fun I v x => (rdL K (rp rInt)) I H0 v x) p_law_script), some (SF.mk rInt v_law_choice_1), some (SF.mk (rL (rTu (aCons (rp rInt) (aCons (rp rInt) aNil)))) v_law_pairs_14), some (SF.mk rInt v_law_end_24), some (SF.mk (r_Web K) v_law_made_27), some (SF.mk rInt v_law_nodes_35), some (SF.mk (rTu (aCons (rp (rL (rL rInt))) (aCons (rp (rL rInt)) (aCons (rp (rL rInt)) aNil)))) v_law_web_58), some (SF.mk (rL (rTu (aCons (rp rInt) (aCons (rp rInt) aNil)))) v_law_due_68), some (SF.mk (rL (rFrac K)) v_law_told_78), some (SF.mk rInt i86), none, none]) (JG.seq (J1.cx (c' := fun v_law_played_here_87 => [some (SF.mk (fun I v x => (rdL K (rp rInt)) I H0 v x) p_law_script), some (SF.mk rInt v_law_choice_1), some (SF.mk (rL (rTu (aCons (rp rInt) (aCons (rp rInt) aNil)))) v_law_pairs_14), some (SF.mk rInt v_law_end_24), some (SF.mk (r_Web K) v_law_made_27), some (SF.mk rInt v_law_nodes_35), some (SF.mk (rTu (aCons (rp (rL (rL rInt))) (aCons (rp (rL rInt)) (aCons (rp (rL rInt)) aNil)))) v_law_web_58), some (SF.mk (rL (rTu (aCons (rp rInt) (aCons (rp rInt) aNil)))) v_law_due_68), some (SF.mk (rL (rFrac K)) v_law_told_78), some (SF.mk rInt i86), some (SF.mk (rTu (aCons (rp (rL rInt)) (aCons (rp rInt) aNil))) v_law_played_here_87), none]) (J1.set 10 (JE.call (JA.cons (JE.var 6) (JA.cons (JE.var 9) (JA.cons JE.int JA.nil))) (cj_of c_law_played (hr.mono (by decide)) tk) T.g_law_played T.k_law_played) hx sc_law.nd)) fun v_law_played_here_87 => (JG.ifT (JT.cmp (JE.bin (JE.ix (JE.rd (JE.ixD 0 (JE.var 10) AtR.zero)) JE.int) (JE.ixD 1 (JE.ix (JE.rd (JE.var 7)) (JE.var 9)) (AtR.succ AtR.zero)) opj_mul) (JE.bin (JE.ixD 0 (JE.ix (JE.rd (JE.var 7)) (JE.var 9)) AtR.zero) (JE.ixD 1 (JE.var 10) (AtR.succ AtR.zero)) opj_mul) opj_ne) (JG.rt (JR.ret JE.bl hx)) (JG.seq (J1.cx (c' := fun v_law_got_116 => [some (SF.mk (fun I v x => (rdL K (rp rInt)) I H0 v x) p_law_script), some (SF.mk rInt v_law_choice_1), some (SF.mk (rL (rTu (aCons (rp rInt) (aCons (rp rInt) aNil)))) v_law_pairs_14), some (SF.mk rInt v_law_end_24), some (SF.mk (r_Web K) v_law_made_27), some (SF.mk rInt v_law_nodes_35), some (SF.mk (rTu (aCons (rp (rL (rL rInt))) (aCons (rp (rL rInt)) (aCons (rp (rL rInt)) aNil)))) v_law_web_58), some (SF.mk (rL (rTu (aCons (rp rInt) (aCons (rp rInt) aNil)))) v_law_due_68), some (SF.mk (rL (rFrac K)) v_law_told_78), some (SF.mk rInt i86), some (SF.mk (rTu (aCons (rp (rL rInt)) (aCons (rp rInt) aNil))) v_law_played_here_87), some (SF.mk (rFrac K) v_law_got_116)]) (J1.set 11 (JE.ix (JE.rd (JE.var 8)) (JE.var 9)) hx sc_law.nd)) fun v_law_got_116 => (JG.ifT (JT.bool (JW.or (JT.not (JT.of (JE.isi (JE.var 11) (w_glob_at T.g_Fraction rfl (by decide)) (.own _) (tyr_ins T.o_Fraction insF T.kt_Fraction_Fraction) T.n_isinstance))) (JW.or1 (JT.cmp (JE.bin (JE.fld (JE.var 11) fld_top T.o_Fraction.cl T.na_Fraction_top) (JE.ixD 1 (JE.ix (JE.rd (JE.var 7)) (JE.var 9)) (AtR.succ AtR.zero)) opj_mul) (JE.bin (JE.ixD 0 (JE.ix (JE.rd (JE.var 7)) (JE.var 9)) AtR.zero) (JE.fld (JE.var 11) fld_bottom T.o_Fraction.cl T.na_Fraction_bottom) opj_mul) opj_ne)))) (JG.rt (JR.ret JE.bl hx)) (JG.nil (fun _ _ _ h => (Stt.weak h (weak_some (weak_some (weak_some (weak_some (weak_some (weak_some (weak_some (weak_some (weak_some (weak_none (weak_none (weak_none weak_nil))))))))))))))) hx)) hx))) hx (weak_some (weak_some (weak_some (weak_some (weak_some (weak_some (weak_some (weak_some (weak_some (weak_none (weak_none (weak_none weak_nil)))))))))))) sc_law.nd) fun s84 => (JR.ret (JE.cmp (JE.callB (JA.cons (JE.rd (JE.var 8)) JA.nil) cj_len T.n_len boot_len) JE.int opj_eq) hx)))) hx)) hx))))))⟩
end L2.Tr

namespace L2.Tr
open PySem PySem.Spec PyProof.Rows
theorem cell_eq (ns : List Int) (k : Int) (hk : 0 ≤ k) : m_law_cell ns k = .ok (ns.getD k.toNat 0) := by
  unfold m_law_cell
  simp only [Res.okb]
  by_cases h : k < (ns.length : Int)
  · simp only [h, decide_true, if_true]
    have hl : k.toNat < ns.length := by omega
    have e : atM ns ((k.toNat : Nat) : Int) = .ok (ns.getD k.toNat 0) := atM_nat (by simp [List.getD, hl])
    rwa [Int.toNat_of_nonneg hk] at e
  · simp only [h, decide_false, Bool.false_eq_true, if_false]
    have : ns[k.toNat]? = none := List.getElem?_eq_none (by omega)
    simp [List.getD, this]

theorem row_ok (c s n : Int) (hs : 0 < s) (hs2 : s < 2 ^ 4000) (hn0 : 0 ≤ n) (hn : n ≤ 100) : Ok (m_law_row c s n) fun xs => xs.length = n.toNat ∧ ∀ x ∈ xs, 0 ≤ x ∧ x < s := by
  unfold m_law_row
  simp only [Res.okb, Res.bind_assoc]
  rw [show powI 10 18 = .ok (10 ^ 18) from rfl, Res.okb, rangeM1_ok ⟨by omega, by omega⟩, Res.okb]
  generalize hN : (if c < 0 then -c else c) = N
  have hN0 : 0 ≤ N := by rw [← hN]; split <;> omega
  have app : ∀ {xs : List Int} {i : Nat} {y : Int}, xs.length = i → i < 100 → (∀ x ∈ xs, 0 ≤ x ∧ x < s) → appM xs (y % s) = .ok (xs ++ [y % s]) ∧ (xs ++ [y % s]).length = i + 1 ∧ ∀ x ∈ xs ++ [y % s], 0 ≤ x ∧ x < s := fun {xs i y} h1 h2 h3 => by
    refine ⟨appM_ok (by omega), by rw [List.length_append, h1]; rfl, fun x hx => ?_⟩
    rcases List.mem_append.mp hx with h | h
    · exact h3 x h
    · rw [List.mem_singleton.mp h]; exact ⟨Int.emod_nonneg _ (by omega), Int.emod_lt_of_pos _ hs⟩
  refine Ok.bind (Ok.forS (fun i (st : Int × List Int) => 0 ≤ st.1 ∧ (N < 10 ^ 18 → st.1 = N) ∧ st.2.length = i ∧ ∀ x ∈ st.2, 0 ≤ x ∧ x < s) ⟨hN0, fun _ => rfl, rfl, by simp⟩ fun i x st e h => ?_) fun st h => .ok ⟨by rw [h.2.2.1, rngI_len], h.2.2.2⟩
  obtain ⟨ex, ei⟩ := rngI_get e
  obtain ⟨h1, h2, h3, h4⟩ := h
  have hi : i < 100 := by omega
  by_cases hg : N ≥ 10 ^ 18
  · rw [if_pos (decide_eq_true hg), modI_pos hs, Res.okb, (app h3 hi h4).1, Res.okb, fdivI_pos hs hs2]
    exact .ok ⟨Int.ediv_nonneg h1 (by omega), fun hh => by omega, (app h3 hi h4).2⟩
  · rw [if_neg (by simpa using hg)]
    have e1 := h2 (by omega)
    rw [mulI_le (s := 60) (t := 13) (by omega) (by decide) (by decide), Res.okb, mulI_le (s := 7) (t := 17) (by omega) (by decide) (by decide)]
    simp only [Res.okb]
    rw [show (3 : Int) = ((3 : Nat) : Int) from rfl, powI_le (s := 80) (by omega) (by decide), Res.okb, modI_pos (by decide), Res.okb]
    generalize hb : (st.1 * 7919 + x * 104729 + 13) ^ 3 % 2147483647 = b
    have hb0 : 0 ≤ b ∧ b < 2147483647 := by rw [← hb]; exact ⟨Int.emod_nonneg _ (by decide), Int.emod_lt_of_pos _ (by decide)⟩
    rw [mulI_le (s := 31) (t := 16) (by omega) (by decide) (by decide)]
    simp only [Res.okb]
    rw [mulI_le (s := 7) (t := 17) (by omega) (by decide) (by decide)]
    simp only [Res.okb]
    rw [show (2 : Int) = ((2 : Nat) : Int) from rfl, powI_le (s := 62) (by omega) (by decide), Res.okb, modI_pos (by decide), Res.okb, modI_pos hs, Res.okb, (app h3 hi h4).1]
    exact .ok ⟨h1, h2, (app h3 hi h4).2⟩

structure O_Polynomial where
  f_kept : List Rat

/-! ### lines -/
structure GL (b : O_Line) (n e : Nat) (s : Nat → Rat) (Λ l : Nat) : Prop where
  kept : b.f_kept = vec n fun k => s (k + 1)
  en : b.f_end = (e : Int)
  rm : b.f_rooms = (((n + e + 1) / 2 : Nat) : Int)
  ps : b.f_passages = (((n + e) / 2 : Nat) : Int)
  ls : LS s n e
  n20 : n ≤ 20
  L0 : 0 < Λ
  LB : Λ ≤ 2 ^ l
  fx : ∀ k, Fx Λ 1 (s k)
section
variable {b : O_Line} {n e : Nat} {s : Nat → Rat} {Λ l : Nat}
theorem LB_pow (h : Λ ≤ 2 ^ l) (a : Nat) : Λ ^ a ≤ 2 ^ (l * a) := by rw [Nat.pow_mul]; exact Nat.pow_le_pow_left h a
theorem p4 (a : Nat) : 4 ^ a = 2 ^ (2 * a) := by rw [Nat.pow_mul]
theorem p3 (a : Nat) : 3 ^ a ≤ 2 ^ (2 * a) := by rw [Nat.pow_mul]; exact Nat.pow_le_pow_left (by decide) a
end

/-! ### drawn shares -/
theorem forS_all {β : Type} {f : β → Unit → Res Unit} {xs : List β} (hf : ∀ x, x ∈ xs → f x () = .ok ()) : forS f xs () = .ok () := by
  induction xs with
  | nil => rfl
  | cons x xs ih =>
    unfold forS
    rw [hf x (List.mem_cons_self), Res.okb]
    exact ih fun y hy => hf y (List.mem_cons_of_mem _ hy)
theorem vec_last {α : Type} {n : Nat} {f : Nat → α} : atM (vec (n + 1) f) (-1) = .ok (f n) := by
  rw [atM_last (by rw [vec_len]; omega)]
  congr 1
  have h := vec_get (n := n + 1) (f := f) (i := n) (by omega)
  have e : (vec (n + 1) f)[(vec (n + 1) f).length - 1]? = some (f n) := by rw [vec_len]; exact h
  rw [List.getElem?_eq_getElem (by rw [vec_len]; omega)] at e
  exact Option.some.inj e
theorem vecs_of {xs : List Int} {n : Nat} {L : Int} (h1 : xs.length = n) (h2 : ∀ x ∈ xs, 0 ≤ x ∧ x < L) : ∃ f : Nat → Int, xs = vec n f ∧ ∀ i, i < n → 0 ≤ f i ∧ f i ≤ L - 1 := by
  subst h1
  refine ⟨fun i => xs.getD i 0, vec_of xs 0, fun i hi => ?_⟩
  dsimp only
  rw [List.getD_eq_getElem?_getD, List.getElem?_eq_getElem hi]
  have := h2 _ (List.getElem_mem hi)
  simp only [Option.getD_some]
  omega
structure DS (m : Nat) (tp bt : Nat → Int) : Prop where
  hm : m ≤ 12
  hp : ∀ i, i < m → 1 ≤ tp i ∧ tp i < bt i
  hb : (∀ i, i < m → bt i ≤ 12) ∨ (m ≤ 3 ∧ ∀ i, i < m → bt i ≤ 1000)
abbrev prs (m : Nat) (tp bt : Nat → Int) : List (Int × Int × Unit) := vec m fun i => (tp i, bt i, ())
theorem lim4_ok {k : Int} (h0 : 0 ≤ k) (h : k < 4) : Ok (atM [(4 : Int), 12, 12, 1000] k) fun L => 4 ≤ L ∧ L ≤ 1000 := by
  rcases (show k = 0 ∨ k = 1 ∨ k = 2 ∨ k = 3 by omega) with rfl | rfl | rfl | rfl
  · exact .of (a := 4) rfl (by decide)
  · exact .of (a := 12) rfl (by decide)
  · exact .of (a := 12) rfl (by decide)
  · exact .of (a := 1000) rfl (by decide)
theorem shares_ok (ns : List Int) (k m : Int) (hk : 0 ≤ k) (hm : 0 ≤ m ∧ m ≤ 12) : Ok (m_law_shares ns k m) fun ps => ∃ (n : Nat) (tp bt : Nat → Int), ps = prs n tp bt ∧ (n : Int) ≤ m ∧ DS n tp bt := by
  unfold m_law_shares
  simp only [Res.okb, Res.bind_assoc, Res.bind_ok]
  rw [cell_eq ns k hk, Res.okb]
  refine Ok.bind (row_ok _ 5040 3 (by decide) (by decide) (by decide) (by decide)) fun sh ⟨l1, m1⟩ => ?_
  obtain ⟨f, rfl, hf⟩ := vecs_of l1 m1
  have a0 : atM (vec (3 : Int).toNat f) 0 = .ok (f 0) := vec_atN (i := 0) (by decide)
  have a1 : atM (vec (3 : Int).toNat f) 1 = .ok (f 1) := vec_atN (i := 1) (by decide)
  rw [a0, Res.okb, modI_pos (by omega), Res.okb, a1, Res.okb, modI_pos (by decide), Res.okb]
  have r1 : 0 ≤ f 0 % (m + 1) := Int.emod_nonneg _ (by omega)
  have r2 : f 0 % (m + 1) < m + 1 := Int.emod_lt_of_pos _ (by omega)
  obtain ⟨n, en⟩ := Int.eq_ofNat_of_zero_le r1
  rw [en]
  refine Ok.bind (lim4_ok (Int.emod_nonneg _ (by decide)) (Int.emod_lt_of_pos _ (by decide))) fun L ⟨hL1, hL2⟩ => ?_
  have key : Ok ((if decide ((n : Int) > 3) = true then Res.ok (decide (L > 12)) else Res.ok false).bind fun x => if x = true then Res.ok (12 : Int) else Res.ok L) fun B => 4 ≤ B ∧ B ≤ 1000 ∧ (B ≤ 12 ∨ n ≤ 3) := by
    by_cases h1 : (n : Int) > 3
    · rw [if_pos (decide_eq_true h1), Res.okb]
      by_cases h2 : L > 12
      · rw [if_pos (decide_eq_true h2)]; exact .ok ⟨by decide, by decide, .inl (by decide)⟩
      · rw [if_neg (by rw [decide_eq_true_eq]; exact h2)]; exact .ok ⟨hL1, hL2, .inl (by omega)⟩
    · rw [if_neg (by rw [decide_eq_true_eq]; exact h1), Res.okb, if_neg (by decide)]
      exact .ok ⟨hL1, hL2, .inr (by omega)⟩
  rw [← Res.bind_assoc]
  refine Ok.bind key fun B ⟨b1, b2, b3⟩ => ?_
  rw [cell_eq ns (k + 1) (by omega), Res.okb]
  refine Ok.bind (row_ok _ (B - 1) n (by omega) (Int.lt_of_le_of_lt (show B - 1 ≤ 1000 by omega) (by decide)) (by omega) (by omega)) fun bo ⟨l2, m2⟩ => ?_
  obtain ⟨p, rfl, hp⟩ := vecs_of l2 m2
  rw [cell_eq ns (k + 2) (by omega), Res.okb]
  refine Ok.bind (row_ok _ 1000000 n (by decide) (by decide) (by omega) (by omega)) fun to ⟨l3, m3⟩ => ?_
  obtain ⟨q, rfl, hq⟩ := vecs_of l3 m3
  rw [Int.toNat_natCast] at hp hq ⊢
  rw [rangeM1_ok ⟨by omega, by omega⟩, Res.okb]
  have hF := fun F h => lcR_rng (α := Int × Int × Unit) (hi := (n : Int)) (F := F) (f := fun i => (1 + q i % (1 + p i), 2 + p i, ())) (by omega) (by omega) h
  rw [Int.toNat_natCast] at hF ⊢
  rw [hF _ fun i hi => ?_]
  · refine .ok ⟨n, fun i => 1 + q i % (1 + p i), fun i => 2 + p i, rfl, by omega, ⟨by omega, fun i hi => ?_, ?_⟩⟩
    · have h1 := hp i hi
      have h2 : 0 ≤ q i % (1 + p i) := Int.emod_nonneg _ (by omega)
      have h3 : q i % (1 + p i) < 1 + p i := Int.emod_lt_of_pos _ (by omega)
      omega
    · rcases b3 with h | h
      · exact .inl fun i hi => by have := hp i hi; omega
      · exact .inr ⟨h, fun i hi => by have := hp i hi; omega⟩
  · have h1 := hp i hi
    simp only [vec_atN hi, Res.okb]
    rw [modI_pos (by omega)]
    simp only [Res.okb]
def shv (m : Nat) (tp bt : Nat → Int) (e : Nat) (k : Nat) : Rat := if k = 0 then 0 else if k ≤ m then Rat.divInt (tp (k - 1)) (bt (k - 1)) else if k = m + 1 then (e : Rat) else 0
def Lam (bt : Nat → Int) : Nat → Nat
  | 0 => 1
  | k + 1 => Lam bt k * (bt k).toNat
section
variable {m : Nat} {tp bt : Nat → Int} {e : Nat}
theorem Lam_pos (g : DS m tp bt) : ∀ k, k ≤ m → 0 < Lam bt k
  | 0, _ => by show 0 < 1; decide
  | k + 1, h => Nat.mul_pos (Lam_pos g k (by omega)) (by have := g.hp k (by omega); omega)
theorem Lam_dvd (g : DS m tp bt) {i : Nat} : ∀ k, i < k → (bt i).toNat ∣ Lam bt k
  | k + 1, h => by
    by_cases e : i = k
    · subst e; exact Nat.dvd_mul_left _ _
    · exact Nat.dvd_trans (Lam_dvd g k (by omega)) (Nat.dvd_mul_right _ _)
theorem Lam_le {a : Nat} (h : ∀ i, i < m → bt i ≤ 2 ^ a) : ∀ k, k ≤ m → Lam bt k ≤ 2 ^ (a * k)
  | 0, _ => by rw [Nat.mul_zero]; show 1 ≤ 2 ^ 0; decide
  | k + 1, hk => by
    rw [Nat.mul_succ, Nat.pow_add]
    refine Nat.mul_le_mul (Lam_le h k (by omega)) ?_
    have h1 := h k (by omega)
    have : ((bt k).toNat : Int) ≤ ((2 ^ a : Nat) : Int) := by
      push_cast
      have : (0 : Int) ≤ 2 ^ a := Int.pow_nonneg (by decide)
      omega
    exact_mod_cast this
theorem DS.L48 (g : DS m tp bt) : Lam bt m ≤ 2 ^ 48 := by
  rcases g.hb with h | ⟨h3, h⟩
  · have := Lam_le (bt := bt) (a := 4) (m := m) (fun i hi => Int.le_trans (h i hi) (by decide)) m (Nat.le_refl _)
    exact Nat.le_trans this (Nat.pow_le_pow_right (by decide) (by have := g.hm; omega))
  · have := Lam_le (bt := bt) (a := 10) (m := m) (fun i hi => Int.le_trans (h i hi) (by decide)) m (Nat.le_refl _)
    exact Nat.le_trans this (Nat.pow_le_pow_right (by decide) (by omega))
theorem shv_mid {k : Nat} (h0 : 0 < k) (h : k ≤ m) : shv m tp bt e k = Rat.divInt (tp (k - 1)) (bt (k - 1)) := by
  unfold shv; rw [if_neg (by omega), if_pos h]
theorem shv_end : shv m tp bt e (m + 1) = (e : Rat) := by
  unfold shv; rw [if_neg (by omega), if_neg (by omega), if_pos rfl]
theorem DS.fx (g : DS m tp bt) (he : e = 0 ∨ e = 1) (k : Nat) : Fx (Lam bt m) 1 (shv m tp bt e k) := by
  have L0 := Lam_pos g m (Nat.le_refl _)
  unfold shv
  split
  · exact Fx.zero L0
  · split
    · rename_i h0 h1
      have h := g.hp (k - 1) (by omega)
      have := DB.mk (t := tp (k - 1)) (b := bt (k - 1)) (by omega)
      exact (show Fx _ 1 _ from this.mono (by omega)).up (Lam_dvd g m (by omega)) L0
    · split
      · rcases he with rfl | rfl
        · exact Fx.zero L0
        · exact Fx.one L0
      · exact Fx.zero L0
theorem divInt_bounds {t b : Int} (h1 : 1 ≤ t) (h2 : t < b) : 0 < Rat.divInt t b ∧ Rat.divInt t b < 1 := by
  rw [Rat.divInt_eq_div]
  have hb : (0 : Rat) < (b : Rat) := by have : 0 < b := by omega
                                        exact_mod_cast this
  have ht : (0 : Rat) < (t : Rat) := by have : 0 < t := by omega
                                        exact_mod_cast this
  have htb : (t : Rat) < (b : Rat) := by exact_mod_cast h2
  refine ⟨by rw [Rat.div_def]; exact Rat.mul_pos ht (Rat.inv_pos.mpr hb), ?_⟩
  have e : (t : Rat) / (b : Rat) * (b : Rat) = (t : Rat) := Rat.div_mul_cancel (by grind)
  have i0 := Rat.inv_pos.mpr hb
  have e1 : (b : Rat) * (b : Rat)⁻¹ = 1 := Rat.mul_inv_cancel _ (by grind)
  have := Rat.mul_lt_mul_of_pos_right htb i0
  rw [e1, ← Rat.div_def] at this
  exact this
theorem DS.ls (g : DS m tp bt) (he : e = 0 ∨ e = 1) : LS (shv m tp bt e) (m + 1) e := by
  refine ⟨rfl, by omega, fun k h0 h => ?_, ?_⟩
  · rw [shv_mid h0 (by omega)]
    have := g.hp (k - 1) (by omega)
    exact divInt_bounds this.1 this.2
  · rw [shv_end]
    rcases he with rfl | rfl
    · exact .inl ⟨rfl, rfl⟩
    · exact .inr ⟨rfl, rfl⟩
theorem line_ok (g : DS m tp bt) (he : e = 0 ∨ e = 1) {l : Nat} (hl : Lam bt m ≤ 2 ^ l) : Ok (m_law_line (prs m tp bt) (e : Int)) fun b => GL b (m + 1) e (shv m tp bt e) (Lam bt m) l := by
  have hm := g.hm
  unfold m_law_line
  simp only [Res.okb, Res.bind_assoc, Res.bind_ok]
  have mk : ∀ i, i < m → qMk (tp i) (bt i) = .ok (Rat.divInt (tp i) (bt i)) := fun i hi => by
    have := g.hp i hi
    refine qMk_ok (by omega) ?_
    have hb : bt i ≤ 1000 := by
      rcases g.hb with h | ⟨_, h⟩
      · have := h i hi; omega
      · exact h i hi
    have : (bt i).natAbs ≤ 2 ^ 10 := by omega
    have := log2_mono this
    rw [Nat.log2_two_pow] at this
    omega
  rw [lcR_vec (h := fun i => Num.q (Rat.divInt (tp i) (bt i))) (by omega) fun i hi => by simp only [mk i hi, Res.okb], Res.okb, catM_ok (by rw [vec_len]; simp; omega), Res.okb]
  have ev : vec m (fun i => Num.q (Rat.divInt (tp i) (bt i))) ++ [Num.i (e : Int)] = vec (m + 1) fun i => if i < m then Num.q (Rat.divInt (tp i) (bt i)) else Num.i (e : Int) := by
    rw [vec_succ, if_neg (Nat.lt_irrefl m)]
    congr 1
    exact vec_ext fun i hi => by rw [if_pos hi]
  rw [ev]
  unfold m_Line_1 m_Line_init
  simp only [Res.okb, Res.bind_assoc, Res.bind_ok]
  have vk : ∀ i, i < m + 1 → (if i < m then Num.q (Rat.divInt (tp i) (bt i)) else Num.i (e : Int)).val = shv m tp bt e (i + 1) := fun i hi => by
    by_cases h : i < m
    · rw [if_pos h, shv_mid (by omega) (by omega), Nat.add_sub_cancel]; rfl
    · rw [if_neg h, show i = m by omega, shv_end]; rfl
  rw [lcR_vec (h := fun i => shv m tp bt e (i + 1)) (by omega) fun i hi => by rw [← vk i hi]; rfl, Res.okb, vec_len, if_neg (by simp; omega)]
  rw [rangeM1_ok ⟨by omega, by omega⟩, Res.okb, show (((m + 1 : Nat) : Int) - 1).toNat = m by omega]
  have ls := g.ls he
  have fx := g.fx he
  have ft : ∀ k, fits (shv m tp bt e k) := fun k => (fx k).fits (b := 0) g.L48 (by decide) (by decide)
  have f1 : fits (Num.i 0).val := fits_0
  have f2 : fits (Num.i 1).val := fits_1
  rw [forS_all fun x hx => ?_, Res.okb]
  · rw [vec_last, Res.okb]
    rw [shv_end]
    have fl : ∀ z : Int, fdivI z 2 = .ok (z / 2) := fun z => fdivI_pos (by decide) (by decide)
    have q0 : qEq ((e : Nat) : Rat) (.i 0) = .ok (decide (e = 0)) := by rcases he with rfl | rfl <;> rfl
    have q1 : qEq ((e : Nat) : Rat) (.i 1) = .ok (decide (e = 1)) := by rcases he with rfl | rfl <;> rfl
    have en : ((e : Nat) : Rat).num = (e : Int) := by rcases he with rfl | rfl <;> rfl
    rw [q0, Res.okb, Res.okb, Res.okb, q1, en, fl, Res.okb, fl, Res.okb]
    have cond : ((if (!decide (e = 0)) = true then Res.ok (!decide (e = 1)) else Res.ok false)) = Res.ok false := by
      rcases he with rfl | rfl <;> rfl
    rw [cond, Res.okb, if_neg (by decide), Res.okb]
    exact .ok { kept := rfl, en := rfl, rm := by show _ / _ = _; omega, ps := by show _ / _ = _; omega, ls := ls, n20 := by omega, L0 := Lam_pos g m (Nat.le_refl _), LB := hl, fx := fx }
  · obtain ⟨h1, h2⟩ := rngI_mem hx
    obtain ⟨i, rfl⟩ := Int.eq_ofNat_of_zero_le h1
    have hi : i < m := by omega
    have md := ls.mid (i + 1) (by omega) (by omega)
    rw [vec_atN (show i < m + 1 by omega), Res.okb, qLe_ok (ft _) f1, Res.okb, Res.okb, qGe_ok (ft _) f2]
    have z0 : (Num.i 0).val = 0 := rfl
    have z1 : (Num.i 1).val = 1 := rfl
    rw [z0, z1, if_neg (by rw [decide_eq_true_eq]; grind), Res.okb, if_neg (by rw [decide_eq_true_eq]; grind)]
end

/-! ### the walk over a line's nodes, in whole numbers -/
def stp (N : Nat) (Λ : Int) (d a : Nat → Int) (k : Nat) : Int := (if 0 < k then a (k - 1) * (Λ - d (k - 1)) else 0) + (if k + 1 < N then a (k + 1) * d (k + 1) else 0)
theorem half_ok {N A B : Nat} {Λ : Int} {d a : Nat → Int} (hN : N ≤ 100) (ha : ∀ k, k < N → (a k).natAbs ≤ 2 ^ A) (hd : ∀ k, k < N → (d k).natAbs ≤ 2 ^ B ∧ (Λ - d k).natAbs ≤ 2 ^ B) (hAB : A + B < 900000) : m_law_half (vec N a) (vec N d) Λ = .ok (vec N (stp N Λ d a)) := by
  unfold m_law_half
  simp only [Res.okb, Res.bind_assoc, Res.bind_ok, vec_len]
  rw [rep_vec (by omega) (by omega), Res.okb, rangeM1_ok ⟨by omega, by omega⟩, Res.okb]
  simp only [Int.toNat_natCast]
  have key := for_rng (hi := (N : Int)) (S := List Int) (s0 := vec N fun _ => (0 : Int)) (F := fun i s => (if decide (i > 0) = true then (atM s (i - 1)).bind fun a_1 => (atM (vec N a) i).bind fun b => (atM (vec N d) i).bind fun c => (mulI b c).bind fun y => putM s (i - 1) (a_1 + y) else Res.ok s).bind fun s' => if decide (i + 1 < (N : Int)) = true then (atM (vec N d) i).bind fun c => (atM s' (i + 1)).bind fun a_1 => (atM (vec N a) i).bind fun b => (mulI b (Λ - c)).bind fun y => putM s' (i + 1) (a_1 + y) else Res.ok s')
    (fun i => vec N fun k => (if 0 < k ∧ k - 1 < i then a (k - 1) * (Λ - d (k - 1)) else 0) + (if k + 1 < i then a (k + 1) * d (k + 1) else 0)) (vec_ext fun k _ => by rw [if_neg (by omega), if_neg (by omega)]; rfl) fun i hi => ?_
  · rw [Int.toNat_natCast] at key
    rw [key]
    congr 1
    refine vec_ext fun k hk => ?_
    unfold stp
    by_cases h : 0 < k
    · rw [if_pos ⟨h, by omega⟩, if_pos h]
    · rw [if_neg (by omega), if_neg h]
  · rw [Int.toNat_natCast] at hi
    have first : ∀ f : Nat → Int, (if decide ((i : Int) > 0) = true then (atM (vec N f) ((i : Int) - 1)).bind fun a_1 => (atM (vec N a) (i : Int)).bind fun b => (atM (vec N d) (i : Int)).bind fun c => (mulI b c).bind fun y => putM (vec N f) ((i : Int) - 1) (a_1 + y) else Res.ok (vec N f)) = .ok (vec N fun k => f k + (if k + 1 = i then a i * d i else 0)) := fun f => by
      by_cases h : 0 < i
      · rw [if_pos (by rw [decide_eq_true_eq]; omega), show (i : Int) - 1 = ((i - 1 : Nat) : Int) by omega, vec_atN (show i - 1 < N by omega), Res.okb, vec_atN hi, Res.okb, vec_atN hi, Res.okb, mulI_le (ha i hi) (hd i hi).1 (by omega), Res.okb, vec_put (by omega) (by omega), Int.toNat_natCast]
        congr 1
        refine vec_ext fun k _ => ?_
        by_cases e : k = i - 1
        · rw [if_pos e, if_pos (by omega), e]
        · rw [if_neg e, if_neg (by omega), Int.add_zero]
      · rw [if_neg (by rw [decide_eq_true_eq]; omega)]
        congr 1
        refine vec_ext fun k _ => ?_
        rw [if_neg (by omega), Int.add_zero]
    have second : ∀ f : Nat → Int, (if decide ((i : Int) + 1 < (N : Int)) = true then (atM (vec N d) (i : Int)).bind fun c => (atM (vec N f) ((i : Int) + 1)).bind fun a_1 => (atM (vec N a) (i : Int)).bind fun b => (mulI b (Λ - c)).bind fun y => putM (vec N f) ((i : Int) + 1) (a_1 + y) else Res.ok (vec N f)) = .ok (vec N fun k => f k + (if k = i + 1 then a i * (Λ - d i) else 0)) := fun f => by
      by_cases h : i + 1 < N
      · rw [if_pos (by rw [decide_eq_true_eq]; omega), show (i : Int) + 1 = ((i + 1 : Nat) : Int) by omega, vec_atN hi, Res.okb, vec_atN h, Res.okb, vec_atN hi, Res.okb, mulI_le (ha i hi) (hd i hi).2 (by omega), Res.okb, vec_put (by omega) (by omega), Int.toNat_natCast]
        congr 1
        refine vec_ext fun k _ => ?_
        by_cases e : k = i + 1
        · rw [if_pos e, if_pos e, e]
        · rw [if_neg e, if_neg e, Int.add_zero]
      · rw [if_neg (by rw [decide_eq_true_eq]; omega)]
        congr 1
        refine vec_ext fun k hk => ?_
        rw [if_neg (by omega), Int.add_zero]
    rw [first, Res.okb, second]
    congr 1
    refine vec_ext fun k hk => ?_
    by_cases h1 : k = i + 1
    · subst h1
      rw [if_neg (by omega), if_neg (by omega), if_neg (by omega), if_pos rfl, if_pos ⟨by omega, by omega⟩, if_neg (by omega), Nat.add_sub_cancel]
      omega
    · rw [if_neg h1, Int.add_zero]
      have e1 : (if 0 < k ∧ k - 1 < i + 1 then a (k - 1) * (Λ - d (k - 1)) else 0) = if 0 < k ∧ k - 1 < i then a (k - 1) * (Λ - d (k - 1)) else 0 := by
        by_cases h2 : 0 < k ∧ k - 1 < i
        · rw [if_pos h2, if_pos ⟨h2.1, by omega⟩]
        · rw [if_neg h2, if_neg (by omega)]
      rw [e1]
      generalize (if 0 < k ∧ k - 1 < i then a (k - 1) * (Λ - d (k - 1)) else 0) = Y
      by_cases h3 : k + 1 = i
      · subst h3
        rw [if_neg (Nat.lt_irrefl (k + 1)), if_pos rfl, if_pos (by omega)]
        omega
      · rw [if_neg h3]
        by_cases h4 : k + 1 < i
        · rw [if_pos h4, if_pos (by omega), Int.add_zero]
        · rw [if_neg h4, if_neg (by omega), Int.add_zero]
section
variable {m : Nat} {tp bt : Nat → Int} {e : Nat}
def dw (m : Nat) (tp bt : Nat → Int) (k : Nat) : Int := if k = 0 then 0 else if k ≤ m then tp (k - 1) * ((Lam bt m : Int) / bt (k - 1)) else (Lam bt m : Int)
def zz (m : Nat) (tp bt : Nat → Int) (e : Nat) : Nat → Nat → Int
  | 0 => fun k => if k = 0 then 1 else 0
  | h + 1 => stp (m + 1 + e) (Lam bt m) (dw m tp bt) (zz m tp bt e h)
theorem Lam_dvdI (g : DS m tp bt) {i : Nat} (hi : i < m) : bt i ∣ (Lam bt m : Int) := by
  have h := Lam_dvd g (i := i) m hi
  have hb := g.hp i hi
  have : ((bt i).toNat : Int) ∣ ((Lam bt m : Nat) : Int) := Int.natCast_dvd_natCast.mpr h
  rwa [Int.toNat_of_nonneg (by omega)] at this
theorem dw_eq (g : DS m tp bt) (he : e = 0 ∨ e = 1) {k : Nat} (hk : k < m + 1 + e) : ((dw m tp bt k : Int) : Rat) = shv m tp bt e k * ((Lam bt m : Nat) : Rat) := by
  unfold dw shv
  by_cases h0 : k = 0
  · rw [if_pos h0, if_pos h0]; show (0 : Rat) = 0 * _; grind
  · rw [if_neg h0, if_neg h0]
    by_cases h1 : k ≤ m
    · rw [if_pos h1, if_pos h1, Rat.intCast_mul, Rat.divInt_eq_div]
      have hb := g.hp (k - 1) (by omega)
      have e1 := Int.ediv_mul_cancel (Lam_dvdI g (show k - 1 < m by omega))
      have e2 : (((Lam bt m : Int) / bt (k - 1) : Int) : Rat) * ((bt (k - 1) : Int) : Rat) = ((Lam bt m : Nat) : Rat) := by
        have : ((((Lam bt m : Int) / bt (k - 1)) * bt (k - 1) : Int) : Rat) = (((Lam bt m : Nat) : Int) : Rat) := by rw [e1]
        rw [Rat.intCast_mul] at this
        exact this
      have z : ((bt (k - 1) : Int) : Rat) ≠ 0 := fun h => by have : bt (k - 1) = 0 := (by exact_mod_cast h); omega
      rw [← e2]
      generalize (((Lam bt m : Int) / bt (k - 1) : Int) : Rat) = u at *
      grind
    · rw [if_neg h1, if_neg h1, if_pos (by omega), show e = 1 by omega]
      show ((Lam bt m : Nat) : Rat) = 1 * _
      grind
theorem dw_bound (g : DS m tp bt) {k : Nat} : 0 ≤ dw m tp bt k ∧ dw m tp bt k ≤ (Lam bt m : Int) := by
  unfold dw
  split
  · exact ⟨Int.le_refl _, by omega⟩
  · split
    · rename_i h0 h1
      have hb := g.hp (k - 1) (by omega)
      have e1 := Int.ediv_mul_cancel (Lam_dvdI g (show k - 1 < m by omega))
      have q0 : 0 ≤ (Lam bt m : Int) / bt (k - 1) := Int.ediv_nonneg (by omega) (by omega)
      refine ⟨Int.mul_nonneg (by omega) q0, ?_⟩
      have := Int.mul_le_mul_of_nonneg_right (show tp (k - 1) ≤ bt (k - 1) by omega) q0
      rw [Int.mul_comm (bt (k - 1))] at this
      omega
    · exact ⟨by omega, Int.le_refl _⟩
theorem zz_eq (g : DS m tp bt) (he : e = 0 ∨ e = 1) : ∀ h k, k < m + 1 + e → ((zz m tp bt e h k : Int) : Rat) = fr (shv m tp bt e) 0 h k * (((Lam bt m) ^ h : Nat) : Rat)
  | 0, k, hk => by
    show (((if k = 0 then 1 else 0 : Int)) : Rat) = (if k = 0 then (1 : Rat) else 0) * ((1 : Nat) : Rat)
    split
    · show (1 : Rat) = 1 * 1; grind
    · show (0 : Rat) = 0 * 1; grind
  | h + 1, k, hk => by
    have ls := g.ls he
    show ((stp (m + 1 + e) (Lam bt m) (dw m tp bt) (zz m tp bt e h) k : Int) : Rat) = hstep (shv m tp bt e) (fr (shv m tp bt e) 0 h) k * _
    unfold stp hstep
    rw [Rat.intCast_add, Nat.pow_succ]
    have eP : (((Lam bt m) ^ h * Lam bt m : Nat) : Rat) = (((Lam bt m) ^ h : Nat) : Rat) * ((Lam bt m : Nat) : Rat) := by push_cast; rfl
    rw [eP]
    have a1 : (((if 0 < k then zz m tp bt e h (k - 1) * ((Lam bt m : Int) - dw m tp bt (k - 1)) else 0 : Int)) : Rat) = (if k = 0 then 0 else (1 - shv m tp bt e (k - 1)) * fr (shv m tp bt e) 0 h (k - 1)) * ((((Lam bt m) ^ h : Nat) : Rat) * ((Lam bt m : Nat) : Rat)) := by
      by_cases h0 : k = 0
      · rw [if_neg (by omega), if_pos h0]; show (0 : Rat) = 0 * _; grind
      · rw [if_pos (by omega), if_neg h0, Rat.intCast_mul, Rat.intCast_sub, zz_eq g he h (k - 1) (by omega), dw_eq g he (show k - 1 < m + 1 + e by omega)]
        show _ * (((Lam bt m : Nat) : Rat) - _) = _
        generalize ((Lam bt m : Nat) : Rat) = Λ
        grind
    have a2 : (((if k + 1 < m + 1 + e then zz m tp bt e h (k + 1) * dw m tp bt (k + 1) else 0 : Int)) : Rat) = shv m tp bt e (k + 1) * fr (shv m tp bt e) 0 h (k + 1) * ((((Lam bt m) ^ h : Nat) : Rat) * ((Lam bt m : Nat) : Rat)) := by
      by_cases h1 : k + 1 < m + 1 + e
      · rw [if_pos h1, Rat.intCast_mul, zz_eq g he h (k + 1) h1, dw_eq g he h1]
        generalize ((Lam bt m : Nat) : Rat) = Λ
        grind
      · rw [if_neg h1]
        rcases he with rfl | rfl
        · rw [show k + 1 = m + 1 by omega, shv_end]; show (0 : Rat) = 0 * _ * _; grind
        · rw [ls.none rfl h (k + 1) (by omega)]; show (0 : Rat) = _; grind
    rw [a1, a2]
    grind
theorem zz_bound (g : DS m tp bt) {l : Nat} (hl : Lam bt m ≤ 2 ^ l) : ∀ h k, (zz m tp bt e h k).natAbs ≤ 2 ^ ((l + 1) * h)
  | 0, k => by
    show (if k = 0 then (1 : Int) else 0).natAbs ≤ 2 ^ 0
    split <;> decide
  | h + 1, k => by
    show (stp (m + 1 + e) (Lam bt m) (dw m tp bt) (zz m tp bt e h) k).natAbs ≤ _
    unfold stp
    have mul : ∀ {x y : Int} {u v : Nat}, x.natAbs ≤ 2 ^ u → y.natAbs ≤ 2 ^ v → (x * y).natAbs ≤ 2 ^ (u + v) := fun h1 h2 => by rw [Int.natAbs_mul, Nat.pow_add]; exact Nat.mul_le_mul h1 h2
    have d1 : ∀ k, (dw m tp bt k).natAbs ≤ 2 ^ l := fun k => by have := dw_bound g (k := k); omega
    have d2 : ∀ k, ((Lam bt m : Int) - dw m tp bt k).natAbs ≤ 2 ^ l := fun k => by have := dw_bound g (k := k); omega
    have a1 : (if 0 < k then zz m tp bt e h (k - 1) * ((Lam bt m : Int) - dw m tp bt (k - 1)) else 0).natAbs ≤ 2 ^ ((l + 1) * h + l) := by
      split
      · exact mul (zz_bound g hl h _) (d2 _)
      · exact Nat.zero_le _
    have a2 : (if k + 1 < m + 1 + e then zz m tp bt e h (k + 1) * dw m tp bt (k + 1) else 0).natAbs ≤ 2 ^ ((l + 1) * h + l) := by
      split
      · exact mul (zz_bound g hl h _) (d1 _)
      · exact Nat.zero_le _
    refine Nat.le_trans (Int.natAbs_add_le _ _) (Nat.le_trans (Nat.add_le_add a1 a2) (Nat.le_of_eq ?_))
    rw [← Nat.mul_two, ← Nat.pow_succ, show (l + 1) * (h + 1) = (l + 1) * h + l + 1 by rw [Nat.mul_succ, Nat.add_assoc]]
theorem half_zz (g : DS m tp bt) (he : e = 0 ∨ e = 1) {l h : Nat} (hl : Lam bt m ≤ 2 ^ l) (hb : (l + 1) * h + l < 900000) : m_law_half (vec (m + 1 + e) (zz m tp bt e h)) (vec (m + 1 + e) (dw m tp bt)) (Lam bt m : Int) = .ok (vec (m + 1 + e) (zz m tp bt e (h + 1))) :=
  half_ok (A := (l + 1) * h) (B := l) (by have := g.hm; omega) (fun k _ => zz_bound g hl h k) (fun k _ => by have := dw_bound g (k := k); omega) hb
abbrev wk (m : Nat) (tp bt : Nat → Int) (e t : Nat) : Int × Int × Unit := (zz m tp bt e (2 * t) 0, ((Lam bt m : Int)) ^ (2 * t), ())
theorem walk_ok (g : DS m tp bt) (he : e = 0 ∨ e = 1) {l t : Nat} (hl : Lam bt m ≤ 2 ^ l) (ht : t ≤ 60) (hb : l ≤ 1000) : m_law_walk (prs m tp bt) (e : Int) (t : Int) = .ok (vec (t + 1) (wk m tp bt e)) := by
  have hm := g.hm
  have L0 := Lam_pos g m (Nat.le_refl _)
  refine Ok.eq ?_
  unfold m_law_walk
  simp only [Res.okb, Res.bind_assoc, Res.bind_ok]
  have b1000 : ∀ i, i < m → bt i ≤ 1000 := fun i hi => by
    rcases g.hb with h | ⟨_, h⟩
    · have := h i hi; omega
    · exact h i hi
  refine Ok.bind (Ok.forS (fun i (s : Int) => s = (Lam bt i : Int)) rfl fun i x s ex hs => ?_) fun s hs => ?_
  · subst hs
    have hi : i < m := by have := (List.getElem?_eq_some_iff.mp ex).1; rwa [vec_len] at this
    rw [vec_get hi] at ex
    cases ex
    have hp := g.hp i hi
    have lb : Lam bt i ≤ 2 ^ (10 * i) := Lam_le (a := 10) (m := m) (fun j hj => Int.le_trans (b1000 j hj) (by decide)) i (by omega)
    have := b1000 i hi
    rw [mulI_le (s := 10 * i) (t := 10) (by omega) (by dsimp only; omega) (by omega)]
    refine .ok ?_
    show (Lam bt i : Int) * bt i = ((Lam bt i * (bt i).toNat : Nat) : Int)
    rw [Int.natCast_mul, Int.toNat_of_nonneg (by omega)]
  rw [vec_len] at hs
  subst hs
  rw [lcR_vec (h := fun i => tp i * ((Lam bt m : Int) / bt i)) (by omega) fun i hi => ?_, Res.okb, catM_ok (by rw [vec_len]; simp; omega), Res.okb, rep_vec (by omega) (by omega), Res.okb, Int.toNat_natCast, catM_ok (by rw [List.length_append, vec_len, vec_len]; simp; omega), Res.okb]
  · have ed : [(0 : Int)] ++ vec m (fun i => tp i * ((Lam bt m : Int) / bt i)) ++ vec e (fun _ => (Lam bt m : Int)) = vec (m + 1 + e) (dw m tp bt) := by
      refine List.ext_getElem? fun k => ?_
      by_cases hk : k < m + 1 + e
      · rw [vec_get hk]
        unfold dw
        cases k with
        | zero => rfl
        | succ k =>
          rw [if_neg (by omega)]
          by_cases h1 : k < m
          · rw [if_pos (by omega), List.getElem?_append_left (by rw [List.length_append, vec_len]; simp; omega)]
            show (vec m _)[k]? = _
            rw [vec_get h1, Nat.add_sub_cancel]
          · rw [if_neg (by omega), List.getElem?_append_right (by rw [List.length_append, vec_len]; simp; omega), List.length_append, vec_len, vec_get (by simp; omega)]
      · rw [vec_none (by omega), List.getElem?_eq_none (by rw [List.length_append, List.length_append, vec_len, vec_len]; simp; omega)]
    rw [ed, vec_len, rep_vec (by omega) (by omega), Res.okb, catM_ok (by rw [vec_len]; simp; omega), Res.okb]
    have eh : [(1 : Int)] ++ vec (((m + 1 + e : Nat) : Int) - 1).toNat (fun _ => (0 : Int)) = vec (m + 1 + e) (zz m tp bt e 0) := by
      refine List.ext_getElem? fun k => ?_
      by_cases hk : k < m + 1 + e
      · rw [vec_get hk]
        cases k with
        | zero => rfl
        | succ k =>
          show (vec _ _)[k]? = some (if k + 1 = 0 then (1 : Int) else 0)
          rw [vec_get (by omega), if_neg (by omega)]
      · rw [vec_none (by omega), List.getElem?_eq_none (by rw [List.length_append, vec_len]; simp; omega)]
    rw [eh, rangeM1_ok ⟨by omega, by omega⟩, Res.okb]
    refine Ok.bind (Ok.forS (fun i (st : List Int × List (Int × Int × Unit)) => st = (vec (m + 1 + e) (zz m tp bt e (2 * i)), vec (i + 1) (wk m tp bt e))) ?_ fun i x st ex hst => ?_) fun st hst => ?_
    · show _ = (vec (m + 1 + e) (zz m tp bt e (2 * 0)), [wk m tp bt e 0])
      rw [show wk m tp bt e 0 = (1, 1, ()) by show (_, ((Lam bt m : Int)) ^ (2 * 0), ()) = _; rw [Nat.mul_zero, Int.pow_zero]; rfl]
    · obtain ⟨ex, hi⟩ := rngI_get ex
      rw [Int.toNat_natCast] at hi
      subst hst
      have hx : x = (i : Int) := by omega
      subst hx
      dsimp only
      have sz1 : ∀ h, h ≤ 130 → (l + 1) * h + l < 900000 := fun h hh => by
        have : (l + 1) * h ≤ 1001 * 130 := Nat.mul_le_mul (by omega) hh
        omega
      rw [half_zz g he hl (sz1 _ (by omega)), Res.okb, half_zz g he hl (sz1 _ (by omega)), Res.okb]
      rw [show atM (vec (m + 1 + e) (zz m tp bt e (2 * i + 1 + 1))) 0 = .ok (zz m tp bt e (2 * i + 1 + 1) 0) from vec_atN (i := 0) (by omega), Res.okb, vec_atN (show i < i + 1 by omega), Res.okb]
      have lp : ∀ a, ((Lam bt m : Int) ^ a).natAbs ≤ 2 ^ (l * a) := fun a => by
        rw [Int.natAbs_pow, Int.natAbs_natCast, Nat.pow_mul]; exact Nat.pow_le_pow_left hl a
      have l1 : ((Lam bt m : Int)).natAbs ≤ 2 ^ l := by rw [Int.natAbs_natCast]; exact hl
      have lp2 : ((Lam bt m : Int) ^ (2 * i) * (Lam bt m : Int)).natAbs ≤ 2 ^ (l * (2 * i + 1)) := by rw [← Int.pow_succ]; exact lp _
      have la : ∀ a, a ≤ 130 → l * a ≤ 130000 := fun a ha => Nat.le_trans (Nat.mul_le_mul hb ha) (by decide)
      rw [mulI_le (lp _) l1 (by have := la (2 * i) (by omega); omega), Res.okb, mulI_le lp2 l1 (by have := la (2 * i + 1) (by omega); omega), Res.okb]
      rw [vec_app (by omega), Res.okb]
      refine .ok ?_
      rw [show 2 * (i + 1) = 2 * i + 1 + 1 by omega]
      congr 1
      refine vec_ext fun k _ => ?_
      by_cases hk : k = i + 1
      · rw [if_pos hk, hk]
        show _ = (zz m tp bt e (2 * (i + 1)) 0, ((Lam bt m : Int)) ^ (2 * (i + 1)), ())
        rw [show 2 * (i + 1) = 2 * i + 1 + 1 by omega, Int.pow_succ, Int.pow_succ]
      · rw [if_neg hk]
    · rw [rngI_len, Int.toNat_natCast] at hst
      subst hst
      exact .ok rfl
  · have hp := g.hp i hi
    have hb' := b1000 i hi
    have h48 := g.L48
    have q1 : (Lam bt m : Int) / bt i ≤ (Lam bt m : Int) := Int.ediv_le_self _ (by omega)
    have q0 : 0 ≤ (Lam bt m : Int) / bt i := Int.ediv_nonneg (by omega) (by omega)
    rw [fdivI_pos (by omega) (Int.lt_of_le_of_lt hb' (by decide)), Res.okb]
    exact mulI_le (s := 10) (t := 48) (by omega) (by omega) (by decide)
theorem wk_pv (g : DS m tp bt) (he : e = 0 ∨ e = 1) (t : Nat) : pv (wk m tp bt e t) = rl (shv m tp bt e) t := by
  have L0 := Lam_pos g m (Nat.le_refl _)
  show Rat.divInt _ _ = _
  rw [Rat.divInt_eq_div, zz_eq g he (2 * t) 0 (by omega)]
  have e1 : (((Lam bt m : Int) ^ (2 * t) : Int) : Rat) = (((Lam bt m) ^ (2 * t) : Nat) : Rat) := by
    have : ((Lam bt m : Int)) ^ (2 * t) = (((Lam bt m) ^ (2 * t) : Nat) : Int) := by push_cast; rfl
    rw [this]; rfl
  rw [e1]
  have z : (((Lam bt m) ^ (2 * t) : Nat) : Rat) ≠ 0 := by
    have : (Lam bt m) ^ (2 * t) ≠ 0 := Nat.pos_iff_ne_zero.mp (Nat.pow_pos L0)
    exact_mod_cast this
  unfold rl
  rw [Rat.div_def, Rat.mul_assoc, Rat.mul_inv_cancel _ z, Rat.mul_one]
theorem wk_pb (g : DS m tp bt) {l t : Nat} (hl : Lam bt m ≤ 2 ^ l) : PB ((l + 1) * (2 * t)) (wk m tp bt e t) := by
  have L0 := Lam_pos g m (Nat.le_refl _)
  refine ⟨zz_bound g hl _ _, Int.pow_pos (by omega), ?_⟩
  show ((Lam bt m : Int) ^ (2 * t)).natAbs ≤ _
  rw [Int.natAbs_pow, Int.natAbs_natCast, Nat.pow_mul 2 (l + 1)]
  exact Nat.pow_le_pow_left (Nat.le_trans hl (Nat.pow_le_pow_right (by decide) (by omega))) _
end

/-! webs -/
structure GW (b : O_Web) (R C : Nat) (w : Nat → Nat → Int) (T U : Nat → Int) (rs ps : Int) : Prop where
  rooms : b.f_rooms = (R : Int)
  passages : b.f_passages = (C : Int)
  joints : b.f_joints = vec R fun i => vec C (w i)
  tots : b.f_room_totals = vec R T
  ptots : b.f_passage_totals = vec C U
  rsc : b.f_room_scale = rs
  psc : b.f_passage_scale = ps
  w0 : ∀ i c, i < R → c < C → 0 ≤ w i c
  hT : ∀ i, i < R → 0 < T i ∧ T i ∣ rs ∧ sm (w i) C ≤ T i
  hU : ∀ c, c < C → 0 < U c ∧ U c ∣ ps ∧ sm (fun i => w i c) R ≤ U c
  rs0 : 0 < rs
  ps0 : 0 < ps
  hR : 0 < R ∧ R ≤ 10
  hC : C ≤ 10
  rsB : rs ≤ 2 ^ 360
  psB : ps ≤ 2 ^ 360
section
variable {b : O_Web} {R C : Nat} {w : Nat → Nat → Int} {T U : Nat → Int} {rs ps : Int}
def hld (R : Nat) (w : Nat → Nat → Int) (T : Nat → Int) (rs : Int) (a : Nat → Int) (c : Nat) : Int := sm (fun i => a i * (rs / T i) * w i c) R
def nxt (R C : Nat) (w : Nat → Nat → Int) (T U : Nat → Int) (rs ps : Int) (a : Nat → Int) (j : Nat) : Int := sm (fun c => hld R w T rs a c * (ps / U c) * w j c) C
theorem div_mul' {t r : Int} (h0 : 0 < t) (h : t ∣ r) : r / t * t = r := Int.ediv_mul_cancel h
theorem GW.q0 (g : GW b R C w T U rs ps) {i : Nat} (hi : i < R) : 0 ≤ rs / T i ∧ rs / T i * T i = rs := ⟨Int.ediv_nonneg (by have := g.rs0; omega) (by have := (g.hT i hi).1; omega), div_mul' (g.hT i hi).1 (g.hT i hi).2.1⟩
theorem GW.p0 (g : GW b R C w T U rs ps) {c : Nat} (hc : c < C) : 0 ≤ ps / U c ∧ ps / U c * U c = ps := ⟨Int.ediv_nonneg (by have := g.ps0; omega) (by have := (g.hU c hc).1; omega), div_mul' (g.hU c hc).1 (g.hU c hc).2.1⟩
theorem GW.wT (g : GW b R C w T U rs ps) {i c : Nat} (hi : i < R) (hc : c < C) : w i c ≤ T i := Int.le_trans (sm_ge (f := w i) hc fun k hk => g.w0 i k hi hk) (g.hT i hi).2.2
theorem GW.hld0 (g : GW b R C w T U rs ps) {a : Nat → Int} (ha : ∀ i, i < R → 0 ≤ a i) {c : Nat} (hc : c < C) : 0 ≤ hld R w T rs a c := sm_nonneg fun i hi => Int.mul_nonneg (Int.mul_nonneg (ha i hi) (g.q0 hi).1) (g.w0 i c hi hc)
theorem GW.hldS (g : GW b R C w T U rs ps) {a : Nat → Int} (ha : ∀ i, i < R → 0 ≤ a i) : sm (hld R w T rs a) C ≤ rs * sm a R := by
  unfold hld
  rw [sm_comm, ← sm_mul]
  refine sm_le fun i hi => ?_
  rw [show (fun j => a i * (rs / T i) * w i j) = fun j => (a i * (rs / T i)) * w i j from rfl, sm_mul]
  have h1 := Int.mul_le_mul_of_nonneg_left (g.hT i hi).2.2 (Int.mul_nonneg (ha i hi) (g.q0 hi).1)
  have h2 : a i * (rs / T i) * T i = rs * a i := by rw [Int.mul_assoc, (g.q0 hi).2, Int.mul_comm]
  omega
theorem GW.nxt0 (g : GW b R C w T U rs ps) {a : Nat → Int} (ha : ∀ i, i < R → 0 ≤ a i) {j : Nat} (hj : j < R) : 0 ≤ nxt R C w T U rs ps a j := sm_nonneg fun c hc => Int.mul_nonneg (Int.mul_nonneg (g.hld0 ha hc) (g.p0 hc).1) (g.w0 j c hj hc)
theorem GW.nxtS (g : GW b R C w T U rs ps) {a : Nat → Int} (ha : ∀ i, i < R → 0 ≤ a i) : sm (nxt R C w T U rs ps a) R ≤ ps * (rs * sm a R) := by
  unfold nxt
  rw [sm_comm]
  refine Int.le_trans (sm_le (g := fun c => ps * hld R w T rs a c) fun c hc => ?_) ?_
  · rw [show (fun i => hld R w T rs a c * (ps / U c) * w i c) = fun i => (hld R w T rs a c * (ps / U c)) * w i c from rfl, sm_mul]
    have h1 := Int.mul_le_mul_of_nonneg_left (g.hU c hc).2.2 (Int.mul_nonneg (g.hld0 ha hc) (g.p0 hc).1)
    have h2 : hld R w T rs a c * (ps / U c) * U c = ps * hld R w T rs a c := by rw [Int.mul_assoc, (g.p0 hc).2, Int.mul_comm]
    omega
  · rw [sm_mul]
    exact Int.mul_le_mul_of_nonneg_left (g.hldS ha) (by have := g.ps0; omega)
theorem natAbs_le_pow {x B : Int} {s : Nat} (h0 : 0 ≤ x) (h : x ≤ B) (hB : B ≤ 2 ^ s) : x.natAbs ≤ 2 ^ s := by
  have : (x.natAbs : Int) ≤ ((2 ^ s : Nat) : Int) := by rw [Int.natAbs_of_nonneg h0]; push_cast; omega
  exact_mod_cast this
theorem GW.next (g : GW b R C w T U rs ps) {a : Nat → Int} (ha : ∀ i, i < R → 0 ≤ a i) {s : Nat} (hs : s ≤ 10000) (hS : sm a R ≤ 2 ^ s) : m_Web_next_amounts b (vec R a) = .ok (vec R (nxt R C w T U rs ps a)) := by
  have hR := g.hR
  have hC := g.hC
  unfold m_Web_next_amounts
  simp only [Res.okb, Res.bind_assoc, Res.bind_ok, g.rooms, g.passages, g.joints, g.tots, g.ptots, g.rsc, g.psc]
  rw [rep_vec (by omega) (by omega), Res.okb, rangeM1_ok ⟨by omega, by omega⟩, Res.okb, rangeM1_ok ⟨by omega, by omega⟩]
  simp only [Int.toNat_natCast]
  have pw : ∀ k : Nat, (0 : Int) ≤ 2 ^ k := fun k => Int.pow_nonneg (by decide)
  have hrs : rs.natAbs ≤ 2 ^ 360 := natAbs_le_pow (by have := g.rs0; omega) (Int.le_refl _) g.rsB
  have hps : ps.natAbs ≤ 2 ^ 360 := natAbs_le_pow (by have := g.ps0; omega) (Int.le_refl _) g.psB
  have qB : ∀ i, i < R → (rs / T i).natAbs ≤ 2 ^ 360 := fun i hi => by
    have h := g.q0 hi
    have : rs / T i ≤ rs := by
      have h1 := (g.hT i hi).1
      have := Int.mul_le_mul_of_nonneg_left (show (1 : Int) ≤ T i by omega) h.1
      omega
    exact natAbs_le_pow h.1 this g.rsB
  have pB : ∀ c, c < C → (ps / U c).natAbs ≤ 2 ^ 360 := fun c hc => by
    have h := g.p0 hc
    have : ps / U c ≤ ps := by
      have h1 := (g.hU c hc).1
      have := Int.mul_le_mul_of_nonneg_left (show (1 : Int) ≤ U c by omega) h.1
      omega
    exact natAbs_le_pow h.1 this g.psB
  have wB : ∀ i c, i < R → c < C → (w i c).natAbs ≤ 2 ^ 360 := fun i c hi hc => natAbs_le_pow (g.w0 i c hi hc) (Int.le_trans (g.wT hi hc) (Int.le_of_dvd g.rs0 (g.hT i hi).2.1)) g.rsB
  have aB : ∀ i, i < R → (a i).natAbs ≤ 2 ^ s := fun i hi => natAbs_le_pow (ha i hi) (sm_ge hi ha) hS
  have e1 : ∀ F : Int → List Int → Res (List Int), (∀ (i : Nat) (f : Nat → Int), i < R → F (i : Int) (vec C f) = .ok (vec C fun c => f c + a i * (rs / T i) * w i c)) → forS F (rngI 0 R) (vec C fun _ => 0) = .ok (vec C (hld R w T rs a)) := fun F hF => by
    have := for_rng (hi := (R : Int)) (F := F) (fun i => vec C fun c => sm (fun k => a k * (rs / T k) * w k c) i) rfl fun i hi => hF i _ (by omega)
    rwa [Int.toNat_natCast] at this
  rw [e1 _ fun i f hi => ?_, Res.okb, rep_vec (by omega) (by omega), Res.okb, Res.okb]
  · simp only [Int.toNat_natCast]
    have e2 : ∀ F : Int → List Int → Res (List Int), (∀ (c : Nat) (f : Nat → Int), c < C → F (c : Int) (vec R f) = .ok (vec R fun j => f j + hld R w T rs a c * (ps / U c) * w j c)) → forS F (rngI 0 C) (vec R fun _ => 0) = .ok (vec R (nxt R C w T U rs ps a)) := fun F hF => by
      have := for_rng (hi := (C : Int)) (F := F) (fun c => vec R fun j => sm (fun k => hld R w T rs a k * (ps / U k) * w j k) c) rfl fun c hc => hF c _ (by omega)
      rwa [Int.toNat_natCast] at this
    refine e2 _ fun c f hc => ?_
    have hB : (hld R w T rs a c).natAbs ≤ 2 ^ (s + 360) := by
      refine natAbs_le_pow (g.hld0 ha hc) (Int.le_trans (sm_ge (f := hld R w T rs a) hc fun k hk => g.hld0 ha hk) (g.hldS ha)) ?_
      rw [Int.pow_add, Int.mul_comm]
      exact Int.mul_le_mul hS g.rsB (by have := g.rs0; omega) (pw s)
    have hB2 : (hld R w T rs a c * (ps / U c)).natAbs ≤ 2 ^ (s + 360 + 360) := by rw [Int.natAbs_mul, Nat.pow_add]; exact Nat.mul_le_mul hB (pB c hc)
    rw [vec_atN hc, Res.okb, vec_atN hc, Res.okb, fdivI_pos (g.hU c hc).1 (Int.lt_of_le_of_lt (Int.le_of_dvd g.ps0 (g.hU c hc).2.1) (Int.lt_of_le_of_lt g.psB (by decide))), Res.okb, mulI_le hB (pB c hc) (by omega), Res.okb]
    have := acc_loop (hi := (R : Int)) (n := R) f (fun j => hld R w T rs a c * (ps / U c) * w j c)
    rw [Int.toNat_natCast] at this
    refine this _ rfl fun j h hj => ?_
    rw [vec_atN hj, Res.okb, vec_atN hj, Res.okb, vec_atN hc, Res.okb, mulI_le hB2 (wB j c hj hc) (by omega), Res.okb]
    simp only [noErr, Res.okb]
    rw [vec_put (by omega) (by omega), Int.toNat_natCast]
    congr 1
    refine vec_ext fun k _ => ?_
    by_cases e : k = j
    · subst e; rfl
    · rw [if_neg e, if_neg e]
  · have hA : (a i * (rs / T i)).natAbs ≤ 2 ^ (s + 360) := by rw [Int.natAbs_mul, Nat.pow_add]; exact Nat.mul_le_mul (aB i hi) (qB i hi)
    rw [vec_atN hi, Res.okb, vec_atN hi, Res.okb, fdivI_pos (g.hT i hi).1 (Int.lt_of_le_of_lt (Int.le_of_dvd g.rs0 (g.hT i hi).2.1) (Int.lt_of_le_of_lt g.rsB (by decide))), Res.okb, mulI_le (aB i hi) (qB i hi) (by omega), Res.okb, Res.okb]
    have := acc_loop (hi := (C : Int)) (n := C) f (fun c => a i * (rs / T i) * w i c)
    rw [Int.toNat_natCast] at this
    refine this _ rfl fun c h hc => ?_
    rw [vec_atN hc, Res.okb, vec_atN hi, Res.okb, vec_atN hc, Res.okb, mulI_le hA (wB i c hi hc) (by omega), Res.okb]
    simp only [noErr, Res.okb]
    rw [vec_put (by omega) (by omega), Int.toNat_natCast]
    congr 1
    refine vec_ext fun k _ => ?_
    by_cases e : k = c
    · subst e; rfl
    · rw [if_neg e, if_neg e]
end

section
variable {b : O_Web} {R C : Nat} {w : Nat → Nat → Int} {T U : Nat → Int} {rs ps : Int}
def amt (R C : Nat) (w : Nat → Nat → Int) (T U : Nat → Int) (rs ps : Int) (st : Nat) : Nat → Nat → Int
  | 0 => fun i => if i = st then 1 else 0
  | t + 1 => nxt R C w T U rs ps (amt R C w T U rs ps st t)
theorem GW.amt0 (g : GW b R C w T U rs ps) (st : Nat) : ∀ t j, j < R → 0 ≤ amt R C w T U rs ps st t j
  | 0, j, _ => by show (0 : Int) ≤ if j = st then 1 else 0; split <;> decide
  | t + 1, j, hj => g.nxt0 (fun i hi => g.amt0 st t i hi) hj
theorem GW.amtS (g : GW b R C w T U rs ps) {st : Nat} (hst : st < R) : ∀ t, sm (amt R C w T U rs ps st t) R ≤ (rs * ps) ^ t
  | 0 => by
    rw [sm_one (f := amt R C w T U rs ps st 0) (k := st) hst fun i _ e => if_neg e]
    rw [Int.pow_zero]
    show (if st = st then (1 : Int) else 0) ≤ 1
    rw [if_pos rfl]; exact Int.le_refl _
  | t + 1 => by
    refine Int.le_trans (g.nxtS fun i hi => g.amt0 st t i hi) ?_
    have h1 := g.amtS hst t
    have h2 : 0 ≤ rs * ps := Int.mul_nonneg (by have := g.rs0; omega) (by have := g.ps0; omega)
    have h3 := Int.mul_le_mul_of_nonneg_left h1 h2
    rw [Int.pow_succ]
    have e1 : ps * (rs * sm (amt R C w T U rs ps st t) R) = rs * ps * sm (amt R C w T U rs ps st t) R := by rw [← Int.mul_assoc, Int.mul_comm ps]
    have e2 : (rs * ps) ^ t * (rs * ps) = rs * ps * (rs * ps) ^ t := Int.mul_comm _ _
    omega
theorem GW.btB (g : GW b R C w T U rs ps) : ∀ t, 0 < (rs * ps) ^ t ∧ (rs * ps) ^ t ≤ 2 ^ (720 * t)
  | 0 => ⟨by rw [Int.pow_zero]; decide, by rw [Int.pow_zero]; decide⟩
  | t + 1 => by
    obtain ⟨h1, h2⟩ := g.btB t
    have h3 : 0 < rs * ps := Int.mul_pos g.rs0 g.ps0
    have h4 : rs * ps ≤ 2 ^ 720 := by
      have := Int.mul_le_mul g.rsB g.psB (by have := g.ps0; omega) (by decide)
      rwa [← Int.pow_add] at this
    refine ⟨by rw [Int.pow_succ]; exact Int.mul_pos h1 h3, ?_⟩
    rw [Int.pow_succ, show 720 * (t + 1) = 720 * t + 720 by omega, Int.pow_add]
    exact Int.mul_le_mul h2 h4 (by omega) (Int.pow_nonneg (by decide))
def mvd (R C : Nat) (w : Nat → Nat → Int) (T U : Nat → Int) (rs ps : Int) (i j t : Nat) : Rat := Rat.divInt (amt R C w T U rs ps i t j) ((rs * ps) ^ t)
/-! the matrix -/
def mat (C : Nat) (w : Nat → Nat → Int) (T U : Nat → Int) (rs ps : Int) (i j : Nat) : Int := sm (fun c => rs / T i * w i c * (ps / U c) * w j c) C
theorem nxt_mat {a : Nat → Int} {j : Nat} : nxt R C w T U rs ps a j = sm (fun i => a i * mat C w T U rs ps i j) R := by
  unfold nxt hld mat
  have e1 : ∀ c, sm (fun i => a i * (rs / T i) * w i c) R * (ps / U c) * w j c = sm (fun i => a i * (rs / T i * w i c * (ps / U c) * w j c)) R := fun c => by
    rw [Int.mul_assoc, ← sm_mulr]
    exact sm_congr fun i _ => by grind
  rw [sm_congr fun c _ => e1 c, sm_comm]
  exact sm_congr fun i _ => sm_mul
theorem amt_semi {st s : Nat} : ∀ t j, j < R → amt R C w T U rs ps st (s + t) j = sm (fun k => amt R C w T U rs ps st s k * amt R C w T U rs ps k t j) R
  | 0, j, hj => by
    rw [sm_one (k := j) hj fun i _ e => by show _ * (if j = i then (1 : Int) else 0) = 0; rw [if_neg (fun z => e z.symm), Int.mul_zero]]
    show _ = _ * (if j = j then (1 : Int) else 0)
    rw [if_pos rfl, Int.mul_one]; rfl
  | t + 1, j, hj => by
    show nxt R C w T U rs ps (amt R C w T U rs ps st (s + t)) j = _
    rw [nxt_mat, sm_congr fun i hi => by rw [amt_semi t i hi, ← sm_mulr], sm_comm]
    refine sm_congr fun k _ => ?_
    show _ = _ * nxt R C w T U rs ps (amt R C w T U rs ps k t) j
    rw [nxt_mat, ← sm_mul]
    exact sm_congr fun i _ => by grind
theorem amt_one {st j : Nat} (hst : st < R) : amt R C w T U rs ps st 1 j = mat C w T U rs ps st j := by
  show nxt R C w T U rs ps (amt R C w T U rs ps st 0) j = _
  rw [nxt_mat, sm_one (k := st) hst fun i _ e => by show (if i = st then (1 : Int) else 0) * _ = 0; rw [if_neg e, Int.zero_mul]]
  show (if st = st then (1 : Int) else 0) * _ = _
  rw [if_pos rfl, Int.one_mul]
theorem GW.matS (g : GW b R C w T U rs ps) {i j : Nat} (hi : i < R) (hj : j < R) : T i * mat C w T U rs ps i j = T j * mat C w T U rs ps j i := by
  unfold mat
  rw [← sm_mul, ← sm_mul]
  refine sm_congr fun c _ => ?_
  have e1 := (g.q0 hi).2
  have e2 := (g.q0 hj).2
  generalize rs / T i = x at *
  generalize rs / T j = y at *
  have h1 : T i * (x * w i c * (ps / U c) * w j c) = (x * T i) * (w i c * (ps / U c) * w j c) := by grind
  have h2 : T j * (y * w j c * (ps / U c) * w i c) = (y * T j) * (w i c * (ps / U c) * w j c) := by grind
  rw [h1, h2, e1, e2]
theorem GW.sym (g : GW b R C w T U rs ps) : ∀ t i j, i < R → j < R → T i * amt R C w T U rs ps i t j = T j * amt R C w T U rs ps j t i
  | 0, i, j, _, _ => by
    show T i * (if j = i then (1 : Int) else 0) = T j * (if i = j then (1 : Int) else 0)
    by_cases e : i = j
    · subst e; rfl
    · rw [if_neg e, if_neg (fun z => e z.symm)]; omega
  | t + 1, i, j, hi, hj => by
    show T i * nxt R C w T U rs ps (amt R C w T U rs ps i t) j = _
    rw [nxt_mat, ← sm_mul, show t + 1 = 1 + t by omega, amt_semi t i hi, ← sm_mul]
    refine sm_congr fun k hk => ?_
    have h1 := g.sym t i k hi hk
    have h2 := g.matS hk hj
    rw [amt_one hj]
    generalize amt R C w T U rs ps i t k = x at *
    generalize amt R C w T U rs ps k t i = y at *
    generalize mat C w T U rs ps k j = m at *
    generalize mat C w T U rs ps j k = n at *
    have : T i * (x * m) = (T i * x) * m := by grind
    rw [this, h1]
    have : T k * y * m = y * (T k * m) := by grind
    rw [this, h2]
    grind
end

theorem pow2_le {a b : Nat} (h : a ≤ b) : (2 : Int) ^ a ≤ 2 ^ b := by exact_mod_cast Nat.pow_le_pow_right (show 0 < 2 by decide) h
theorem cm_ok {xs : List Int} {B : Nat} (h : ∀ x ∈ xs, 0 < x ∧ x ≤ 2 ^ B) (hB : B ≤ 100) (hl : xs.length ≤ 20) : Ok (m_common_multiple xs) fun m => 0 < m ∧ (∀ x ∈ xs, x ∣ m) ∧ m ≤ 2 ^ (B * xs.length) := by
  unfold m_common_multiple
  simp only [Res.okb, Res.bind_assoc, Res.bind_ok]
  refine (Ok.forS (fun i (m : Int) => 0 < m ∧ (∀ k x, k < i → xs[k]? = some x → x ∣ m) ∧ m ≤ 2 ^ (B * i)) ⟨by decide, fun k x hk => absurd hk (Nat.not_lt_zero _), by rw [Nat.mul_zero]; decide⟩ fun i x m e hm => ?_).mono fun m hm => ⟨hm.1, fun x hx => ?_, hm.2.2⟩
  · obtain ⟨h1, h2, h3⟩ := hm
    obtain ⟨x0, xB⟩ := h x (List.mem_of_getElem? e)
    have hi : i < xs.length := (List.getElem?_eq_some_iff.mp e).1
    have hBi : B * i ≤ 100 * 20 := Nat.mul_le_mul hB (by omega)
    have n1 : m.natAbs ≤ 2 ^ (B * i) := natAbs_le_pow (by omega) (Int.le_refl _) h3
    have n2 : x.natAbs ≤ 2 ^ B := natAbs_le_pow (by omega) (Int.le_refl _) xB
    rw [mulI_le n1 n2 (by omega), Res.okb, show n_cd m x = .ok (Int.gcd m x : Int) from rfl, Res.okb]
    have g0 : 0 < Int.gcd m x := Int.gcd_pos_of_ne_zero_left x (by omega)
    have gx : (Int.gcd m x : Int) ∣ x := Int.gcd_dvd_right m x
    have gm : (Int.gcd m x : Int) ∣ m := Int.gcd_dvd_left m x
    have gl : (Int.gcd m x : Int) ≤ x := Int.le_of_dvd x0 gx
    have p2 : (2 : Int) ^ B < 2 ^ 4000 := Int.pow_lt_pow_of_lt (by decide) (by omega)
    rw [fdivI_pos (by omega) (by omega)]
    have e1 : m * x / (Int.gcd m x : Int) = m * (x / (Int.gcd m x : Int)) := Int.mul_ediv_assoc m gx
    have e2 : m * x / (Int.gcd m x : Int) = m / (Int.gcd m x : Int) * x := Int.mul_ediv_assoc' x gm
    have x1 : 0 < x / (Int.gcd m x : Int) := Int.ediv_pos_of_pos_of_dvd x0 (by omega) gx
    have x2 : x / (Int.gcd m x : Int) ≤ x := Int.ediv_le_self _ (by omega)
    refine .ok ⟨by rw [e1]; exact Int.mul_pos h1 x1, fun k y hk ey => ?_, ?_⟩
    · by_cases hki : k = i
      · subst hki
        rw [e] at ey; cases ey
        rw [e2]; exact Int.dvd_mul_left _ _
      · rw [e1]; exact Int.dvd_trans (h2 k y (by omega) ey) (Int.dvd_mul_right _ _)
    · rw [e1, show B * (i + 1) = B * i + B by rw [Nat.mul_add, Nat.mul_one], Int.pow_add]
      exact Int.mul_le_mul h3 (by omega) (by omega) (Int.pow_nonneg (by decide))
  · obtain ⟨k, ek⟩ := List.getElem?_of_mem hx
    exact hm.2.1 k x (List.getElem?_eq_some_iff.mp ek).1 ek
theorem checked_some {n : Nat} {l : Nat → Int} (s : Str) (h : ∀ i, i < n → 0 ≤ l i) (hn : n ≤ 10) : m_checked_leaks (vec n l) (n : Int) s = .ok (vec n l) := by
  unfold m_checked_leaks
  simp only [Res.okb, Res.bind_assoc, Res.bind_ok, vec_len]
  by_cases h0 : n = 0
  · subst h0
    rw [if_pos (by simp), rep_vec (by omega) (by omega)]; rfl
  · rw [if_neg (by simp; omega), if_neg (by simp), lcR_vec (h := fun _ => false) (by omega) fun i hi => by rw [decide_eq_false (by have := h i hi; omega)], Res.okb, Res.okb, if_neg]
    rw [List.any_eq_true]
    rintro ⟨x, hx, e⟩
    obtain ⟨_, _, rfl⟩ := vec_mem hx
    cases e
theorem checked_none {n : Nat} (s : Str) (hn : n ≤ 10) : m_checked_leaks [] (n : Int) s = .ok (vec n fun _ => 0) := by
  unfold m_checked_leaks
  simp only [Res.okb, Res.bind_assoc, Res.bind_ok, List.length_nil]
  rw [if_pos (by simp), rep_vec (by omega) (by omega), Int.toNat_natCast]
theorem lc2_no {R C : Nat} {w : Nat → Nat → Int} (h : ∀ i c, i < R → c < C → 0 ≤ w i c) (hR : R ≤ 10) (hC : C ≤ 10) : Ok (lcR2 (fun a : List Int => Res.ok a) (fun _ x => Res.ok (decide (x < 0))) (vec R fun i => vec C (w i))) fun l => l.any id = false := by
  have key : ∀ xs : List Nat, (∀ i ∈ xs, i < R) → ∃ l : List Bool, lcM2 (fun a : List Int => Res.ok a) (fun _ x => Res.ok (decide (x < 0))) (xs.map fun i => vec C (w i)) = .ok l ∧ l.length = xs.length * C ∧ ∀ y ∈ l, y = false := fun xs => by
    induction xs with
    | nil => exact fun _ => ⟨[], rfl, by simp, by simp⟩
    | cons x xs ih =>
      intro hx
      obtain ⟨l, e, e2, e3⟩ := ih fun i hi => hx i (List.mem_cons_of_mem _ hi)
      have el : lcM (fun x : Int => Res.ok (decide (x < 0))) (vec C (w x)) = .ok (vec C fun _ => false) := by
        have := lcR_vec (F := fun x : Int => Res.ok (decide (x < 0))) (f := w x) (h := fun _ => false) (n := C) (by omega) fun c hc => by rw [decide_eq_false (by have := h x c (hx x (List.mem_cons_self)) hc; omega)]
        unfold lcR at this
        rwa [Res.guard_pos (size_le (by rw [vec_len]; omega))] at this
      refine ⟨vec C (fun _ => false) ++ l, ?_, by rw [List.length_append, vec_len, e2, List.length_cons, Nat.succ_mul]; omega, fun y hy => ?_⟩
      · rw [List.map_cons]
        unfold lcM2
        dsimp only
        rw [el, e]
      · rcases List.mem_append.mp hy with z | z
        · obtain ⟨_, _, e⟩ := vec_mem z; exact e
        · exact e3 y z
  obtain ⟨l, e, e2, e3⟩ := key (List.range R) fun i hi => List.mem_range.mp hi
  refine ⟨l, ?_, ?_⟩
  · unfold lcR2
    rw [show (vec R fun i => vec C (w i)) = (List.range R).map fun i => vec C (w i) from rfl, e]
    dsimp only
    rw [Res.guard_pos (size_le (by rw [e2, List.length_range]; exact Nat.le_trans (Nat.mul_le_mul hR hC) (by decide)))]
  · show l.any id = false
    rw [Bool.eq_false_iff]
    intro z
    obtain ⟨y, hy, ey⟩ := List.any_eq_true.mp z
    rw [e3 y hy] at ey; cases ey
theorem no_zero {n : Nat} {T : Nat → Int} (h : ∀ i, i < n → 0 < T i) : (vec n T).contains 0 = false := by
  rw [Bool.eq_false_iff]
  intro z
  obtain ⟨i, hi, e⟩ := vec_mem (List.contains_iff_mem.mp z)
  have := h i hi; omega
theorem init_web {R C : Nat} {w : Nat → Nat → Int} {lr lp : Nat → Int} {A B : List Int} (hR : 0 < R ∧ R ≤ 7) (hC : C ≤ 7) (hw : ∀ i c, i < R → c < C → 0 ≤ w i c) (hlr : ∀ i, i < R → 0 ≤ lr i) (hlp : ∀ c, c < C → 0 ≤ lp c)
    (hA : A = vec R lr ∨ A = [] ∧ ∀ i, i < R → lr i = 0) (hB : B = vec C lp ∨ B = [] ∧ ∀ c, c < C → lp c = 0) (hT : ∀ i, i < R → 0 < sm (w i) C + lr i ∧ sm (w i) C + lr i ≤ 2 ^ 51) (hU : ∀ c, c < C → 0 < sm (fun i => w i c) R + lp c ∧ sm (fun i => w i c) R + lp c ≤ 2 ^ 51) :
    Ok (m_Web_init (vec R fun i => vec C (w i)) A B) fun b => ∃ rs ps, GW b R C w (fun i => sm (w i) C + lr i) (fun c => sm (fun i => w i c) R + lp c) rs ps := by
  have cA : m_checked_leaks A (R : Int) "room_leaks" = .ok (vec R lr) := by
    rcases hA with rfl | ⟨rfl, z⟩
    · exact checked_some _ hlr (by omega)
    · rw [checked_none _ (by omega)]; congr 1; exact vec_ext fun i hi => (z i hi).symm
  have cB : m_checked_leaks B (C : Int) "passage_leaks" = .ok (vec C lp) := by
    rcases hB with rfl | ⟨rfl, z⟩
    · exact checked_some _ hlp (by omega)
    · rw [checked_none _ (by omega)]; congr 1; exact vec_ext fun i hi => (z i hi).symm
  unfold m_Web_init
  simp only [Res.okb, Res.bind_assoc, Res.bind_ok, vec_len]
  rw [if_neg (by simp; omega), lcR_vec (h := fun i => vec C (w i)) (by omega) fun i _ => rfl, Res.okb]
  have a0 : atM (vec R fun i => vec C (w i)) 0 = .ok (vec C (w 0)) := vec_atN (i := 0) (by omega)
  rw [a0, Res.okb, lcR_vec (h := fun _ => false) (by omega) fun i _ => by simp, Res.okb, if_neg (by rw [Bool.not_eq_true, Bool.eq_false_iff]; intro z; obtain ⟨y, hy, e⟩ := List.any_eq_true.mp z; obtain ⟨_, _, rfl⟩ := vec_mem hy; cases e)]
  refine Ok.bind (lc2_no hw (by omega) (by omega)) fun l hl => ?_
  rw [if_neg (by rw [hl]; decide), vec_len, vec_len, cA, Res.okb, cB, Res.okb, rangeM1_ok ⟨by omega, by omega⟩, Res.okb]
  rw [lcR_rng (f := fun i => sm (w i) C + lr i) (by omega) (by omega) fun i hi => by rw [Int.toNat_natCast] at hi; rw [vec_atN hi, Res.okb, vec_atN hi, Res.okb, sum_vec], Res.okb, rangeM1_ok ⟨by omega, by omega⟩, Res.okb]
  rw [lcR_rng (f := fun c => sm (fun i => w i c) R + lp c) (by omega) (by omega) fun c hc => by rw [Int.toNat_natCast] at hc; rw [lcR_vec (h := fun i => w i c) (by omega) fun i hi => vec_atN hc, Res.okb, vec_atN hc, Res.okb, sum_vec], Res.okb]
  rw [Int.toNat_natCast, Int.toNat_natCast, if_neg (by rw [no_zero fun i hi => (hT i hi).1]; decide), if_neg (by rw [no_zero fun c hc => (hU c hc).1]; decide)]
  refine Ok.bind (cm_ok (B := 51) (fun x hx => by obtain ⟨i, hi, rfl⟩ := vec_mem hx; exact hT i hi) (by decide) (by rw [vec_len]; omega)) fun rs ⟨r1, r2, r3⟩ => ?_
  refine Ok.bind (cm_ok (B := 51) (fun x hx => by obtain ⟨i, hi, rfl⟩ := vec_mem hx; exact hU i hi) (by decide) (by rw [vec_len]; omega)) fun ps ⟨p1, p2, p3⟩ => .ok ⟨rs, ps, ?_⟩
  rw [vec_len] at r3 p3
  exact { rooms := rfl, passages := rfl, joints := rfl, tots := rfl, ptots := rfl, rsc := rfl, psc := rfl, w0 := hw
          hT := fun i hi => ⟨(hT i hi).1, r2 _ (mem_vec hi), by have := hlr i hi; omega⟩
          hU := fun c hc => ⟨(hU c hc).1, p2 _ (mem_vec hc), by have := hlp c hc; omega⟩
          rs0 := r1, ps0 := p1, hR := ⟨hR.1, by omega⟩, hC := by omega
          rsB := Int.le_trans r3 (pow2_le (by omega)), psB := Int.le_trans p3 (pow2_le (by omega)) }

/-! a drawn web: widths, leaks of rooms, leaks of passages -/
abbrev W3 := List (List Int) × List Int × List Int × Unit
structure DW (d : W3) (R C : Nat) (w : Nat → Nat → Int) (lr lp : Nat → Int) (L : Int) : Prop where
  wd : d.1 = vec R fun i => vec C (w i)
  rl : d.2.1 = vec R lr
  pl : d.2.2.1 = vec C lp
  hw : ∀ i c, i < R → c < C → 0 ≤ w i c ∧ w i c ≤ L
  hlr : ∀ i, i < R → 0 ≤ lr i ∧ lr i ≤ L
  hlp : ∀ c, c < C → 0 ≤ lp c ∧ lp c ≤ L
  hT : ∀ i, i < R → 0 < sm (w i) C + lr i
  hU : ∀ c, c < C → 0 < sm (fun i => w i c) R + lp c
theorem sm_bound {f : Nat → Int} {n : Nat} {L : Int} (h : ∀ i, i < n → f i ≤ L) : sm f n ≤ (n : Int) * L := by
  induction n with
  | zero => rw [sm_zero]; simp
  | succ n ih =>
    rw [sm_succ]
    have h1 := ih fun i hi => h i (by omega)
    have h2 := h n (by omega)
    have e : ((n + 1 : Nat) : Int) * L = (n : Int) * L + L := by push_cast; grind
    omega
theorem DW.tB {d : W3} {R C : Nat} {w : Nat → Nat → Int} {lr lp : Nat → Int} {L : Int} (g : DW d R C w lr lp L) (hL : 0 ≤ L) (hL2 : L ≤ 100) (hR : R ≤ 6) (hC : C ≤ 6) : (∀ i, i < R → sm (w i) C + lr i ≤ 2 ^ 10) ∧ ∀ c, c < C → sm (fun i => w i c) R + lp c ≤ 2 ^ 10 := by
  have a1 : (C : Int) * L ≤ 6 * 100 := Int.mul_le_mul (by omega) hL2 hL (by decide)
  have a2 : (R : Int) * L ≤ 6 * 100 := Int.mul_le_mul (by omega) hL2 hL (by decide)
  refine ⟨fun i hi => ?_, fun c hc => ?_⟩
  · have h1 := sm_bound (f := w i) (n := C) fun c hc => (g.hw i c hi hc).2
    have h2 := (g.hlr i hi).2
    omega
  · have h1 := sm_bound (f := fun i => w i c) (n := R) fun i hi => (g.hw i c hi hc).2
    have h2 := (g.hlp c hc).2
    omega

section
variable {b : O_Web} {R C : Nat} {w : Nat → Nat → Int} {T U : Nat → Int} {rs ps : Int}
theorem GW.bN (g : GW b R C w T U rs ps) (t : Nat) : (((rs * ps) ^ t : Int) : Rat) ≠ 0 := by
  have := (g.btB t).1
  intro h
  have h2 : (rs * ps) ^ t = 0 := by exact_mod_cast h
  omega
theorem GW.mv (g : GW b R C w T U rs ps) {i j t : Nat} : mvd R C w T U rs ps i j t * (((rs * ps) ^ t : Int) : Rat) = ((amt R C w T U rs ps i t j : Int) : Rat) := by
  unfold mvd
  rw [Rat.divInt_eq_div]
  exact Rat.div_mul_cancel (g.bN t)
end

section
variable {b : O_Web} {R C : Nat} {w : Nat → Nat → Int} {T U : Nat → Int} {rs ps : Int}
theorem GW.start (g : GW b R C w T U rs ps) : catM [(1 : Int)] (vec (R - 1) fun _ => 0) = .ok (vec R (amt R C w T U rs ps 0 0)) := by
  have hR := g.hR
  rw [catM_ok (by rw [vec_len]; simp only [List.length_cons, List.length_nil]; omega)]
  congr 1
  refine List.ext_getElem? fun k => ?_
  by_cases hk : k < R
  · rw [vec_get hk]
    cases k with
    | zero => rfl
    | succ k =>
      rw [List.getElem?_append_right (by simp), List.length_singleton, Nat.add_sub_cancel, vec_get (by omega)]
      show some (0 : Int) = some (if k + 1 = 0 then 1 else 0)
      rw [if_neg (by omega)]
  · rw [vec_none (by omega), List.getElem?_eq_none (by rw [List.length_append, vec_len, List.length_singleton]; omega)]
theorem GW.ticking (g : GW b R C w T U rs ps) {t : Nat} (ht : t ≤ 8) : m_Web_ticking b (t : Int) = .ok (vec (t + 1) fun k => mvd R C w T U rs ps 0 0 k) := by
  have hR := g.hR
  unfold m_Web_ticking
  simp only [Res.okb, Res.bind_assoc, Res.bind_ok, g.rooms, g.rsc, g.psc]
  rw [if_neg (by simp), Res.okb, rep_vec (by omega) (by omega), Res.okb, show ((R : Int) - 1).toNat = R - 1 by omega, g.start, Res.okb]
  rw [Res.guard_pos (by rw [sizeLine_eq]; simp), show qInt 1 = .ok ((1 : Int) : Rat) from rfl, Res.okb, rangeM1_ok ⟨by omega, by omega⟩, Res.okb]
  simp only [Int.toNat_natCast]
  have h0 : ([] : List Rat) ++ [((1 : Int) : Rat)] = vec 1 fun k => mvd R C w T U rs ps 0 0 k := by
    show [((1 : Int) : Rat)] = [mvd R C w T U rs ps 0 0 0]
    congr 1
    unfold mvd
    rw [Int.pow_zero]
    show _ = Rat.divInt (if (0 : Nat) = 0 then 1 else 0) 1
    rw [if_pos rfl]; rfl
  rw [h0]
  have key := for_rng (hi := (t : Int)) (S := List Rat × List Int × Int) (s0 := (vec 1 fun k => mvd R C w T U rs ps 0 0 k, vec R (amt R C w T U rs ps 0 0), (1 : Int)))
    (F := fun _ z => (m_Web_next_amounts b z.2.1).bind fun v => (mulI z.2.2 rs).bind fun a => (mulI a ps).bind fun y => Res.guard (z.1.length < sizeLine) ((atM v 0).bind fun a => (qMk a y).bind fun q => .ok (z.1 ++ [q], v, y))) (fun i => (vec (i + 1) fun k => mvd R C w T U rs ps 0 0 k, vec R (amt R C w T U rs ps 0 i), (rs * ps) ^ i)) (by rw [Int.pow_zero]) fun i hi => ?_
  · rw [Int.toNat_natCast] at key
    rw [key, Res.okb]
  · obtain ⟨b1, b2⟩ := g.btB i
    rw [Int.toNat_natCast] at hi
    have hrs : rs.natAbs ≤ 2 ^ 360 := natAbs_le_pow (by have := g.rs0; omega) (Int.le_refl _) g.rsB
    have hps : ps.natAbs ≤ 2 ^ 360 := natAbs_le_pow (by have := g.ps0; omega) (Int.le_refl _) g.psB
    have hb : ((rs * ps) ^ i).natAbs ≤ 2 ^ (720 * i) := natAbs_le_pow (by omega) (Int.le_refl _) b2
    have hb2 : ((rs * ps) ^ i * rs).natAbs ≤ 2 ^ (720 * i + 360) := by rw [Int.natAbs_mul, Nat.pow_add]; exact Nat.mul_le_mul hb hrs
    dsimp only
    rw [g.next (fun k hk => g.amt0 0 i k hk) (s := 720 * i) (by omega) (Int.le_trans (g.amtS (by omega) i) b2), Res.okb, mulI_le hb hrs (by omega), Res.okb, mulI_le hb2 hps (by omega), Res.okb]
    rw [Int.mul_assoc, ← Int.pow_succ, Res.guard_pos (by rw [sizeLine_eq, vec_len]; omega)]
    have a0 : atM (vec R (nxt R C w T U rs ps (amt R C w T U rs ps 0 i))) 0 = .ok (amt R C w T U rs ps 0 (i + 1) 0) := vec_atN (i := 0) (by omega)
    rw [a0, Res.okb]
    obtain ⟨c1, c2⟩ := g.btB (i + 1)
    rw [qMk_ok (show (rs * ps) ^ (i + 1) ≠ 0 by omega) (by
      have := log2_mono (natAbs_le_pow (show 0 ≤ (rs * ps) ^ (i + 1) by omega) (Int.le_refl _) c2)
      rw [Nat.log2_two_pow] at this
      omega), Res.okb]
    rw [show (vec (i + 1 + 1) fun k => mvd R C w T U rs ps 0 0 k) = vec (i + 1) (fun k => mvd R C w T U rs ps 0 0 k) ++ [mvd R C w T U rs ps 0 0 (i + 1)] from vec_succ]
    rfl
theorem GW.readings (g : GW b R C w T U rs ps) {t : Nat} (ht : t ≤ 8) : m_Web_readings b (t : Int) = .ok (vec (t + 1) fun k => mvd R C w T U rs ps 0 0 k) := by
  unfold m_Web_readings
  simp only [Res.okb, Res.bind_assoc, Res.bind_ok]
  rw [g.ticking ht]; rfl
/-! the same with fractions -/
abbrev cQ (w : Nat → Nat → Int) : Nat → Nat → Rat := fun i c => ((w i c : Int) : Rat)
abbrev cV (T : Nat → Int) : Nat → Rat := fun i => ((T i : Int) : Rat)
theorem GW.rw_ (g : GW b R C w T U rs ps) : RW R C (cQ w) (cV T) (cV U) :=
  ⟨fun i c hi hc => by have := g.w0 i c hi hc; show (0 : Rat) ≤ ((w i c : Int) : Rat); exact_mod_cast this, fun i hi => by have := (g.hT i hi).1; show (0 : Rat) < ((T i : Int) : Rat); exact_mod_cast this, fun c hc => by have := (g.hU c hc).1; show (0 : Rat) < ((U c : Int) : Rat); exact_mod_cast this,
   fun i hi => by have h := (g.hT i hi).2.2; rw [show smQ (cQ w i) C = ((sm (w i) C : Int) : Rat) from (sm_cast C).symm]; exact_mod_cast h,
   fun c hc => by have h := (g.hU c hc).2.2; rw [show smQ (fun i => cQ w i c) R = ((sm (fun i => w i c) R : Int) : Rat) from (sm_cast R).symm]; exact_mod_cast h⟩
def e0 (i : Nat) : Rat := if i = 0 then 1 else 0
theorem GW.mvNext (g : GW b R C w T U rs ps) {t j : Nat} (hj : j < R) : mvd R C w T U rs ps 0 j (t + 1) = smQ (fun c => cV U c * 0 + cQ w j c / cV U c * smQ (fun i => mvd R C w T U rs ps 0 i t / cV T i * cQ w i c) R) C := by
  have h1 := g.mv (i := 0) (j := j) (t := t + 1)
  have hn := g.bN (t + 1)
  have hrs : ((rs : Int) : Rat) ≠ 0 := fun h => by have := g.rs0; have : rs = 0 := (by exact_mod_cast h); omega
  have hps : ((ps : Int) : Rat) ≠ 0 := fun h => by have := g.ps0; have : ps = 0 := (by exact_mod_cast h); omega
  have hb := g.bN t
  have e : ((amt R C w T U rs ps 0 (t + 1) j : Int) : Rat) = smQ (fun c => smQ (fun i => mvd R C w T U rs ps 0 i t / cV T i * cQ w i c) R * (cQ w j c / cV U c)) C * (((rs * ps) ^ (t + 1) : Int) : Rat) := by
    show ((nxt R C w T U rs ps (amt R C w T U rs ps 0 t) j : Int) : Rat) = _
    unfold nxt hld
    rw [sm_cast, ← smQ_mulr]
    refine smQ_congr fun c hc => ?_
    rw [Rat.intCast_mul, Rat.intCast_mul, sm_cast]
    have u0 := (g.hU c hc).1
    have u1 : ((ps / U c : Int) : Rat) = (ps : Rat) / (U c : Rat) := by
      have e := (g.p0 hc).2
      have e' : ((ps / U c : Int) : Rat) * (U c : Rat) = (ps : Rat) := by exact_mod_cast e
      have z : ((U c : Int) : Rat) ≠ 0 := fun h => by have : U c = 0 := (by exact_mod_cast h); omega
      rw [← e']; grind
    rw [u1]
    have e2 : smQ (fun i => ((amt R C w T U rs ps 0 t i * (rs / T i) * w i c : Int) : Rat)) R = smQ (fun i => mvd R C w T U rs ps 0 i t / cV T i * cQ w i c) R * ((((rs * ps) ^ t : Int) : Rat) * (rs : Rat)) := by
      rw [← smQ_mulr]
      refine smQ_congr fun i hi => ?_
      rw [Rat.intCast_mul, Rat.intCast_mul, ← g.mv (i := 0) (j := i) (t := t)]
      have t0 := (g.hT i hi).1
      have e := (g.q0 hi).2
      have e' : ((rs / T i : Int) : Rat) * (T i : Rat) = (rs : Rat) := by exact_mod_cast e
      have z : ((T i : Int) : Rat) ≠ 0 := fun h => by have : T i = 0 := (by exact_mod_cast h); omega
      rw [← e']
      show _ = mvd R C w T U rs ps 0 i t / (T i : Rat) * (w i c : Rat) * _
      grind
    rw [e2, Int.pow_succ, Rat.intCast_mul, Rat.intCast_mul]
    show _ = _ * ((w j c : Rat) / (U c : Rat)) * _
    grind
  rw [e] at h1
  have h2 : mvd R C w T U rs ps 0 j (t + 1) = smQ (fun c => smQ (fun i => mvd R C w T U rs ps 0 i t / cV T i * cQ w i c) R * (cQ w j c / cV U c)) C := by
    generalize smQ (fun c => smQ (fun i => mvd R C w T U rs ps 0 i t / cV T i * cQ w i c) R * (cQ w j c / cV U c)) C = x at *
    grind
  rw [h2]
  exact smQ_congr fun c _ => by grind
theorem GW.mvPw (g : GW b R C w T U rs ps) : ∀ t j, j < R → cV T 0 * mvd R C w T U rs ps 0 j t = cV T j * pw R C (cQ w) (cV T) (cV U) e0 t j
  | 0, j, hj => by
    unfold mvd
    rw [Int.pow_zero]
    show cV T 0 * Rat.divInt (if j = 0 then 1 else 0) 1 = cV T j * e0 j
    unfold e0
    by_cases h : j = 0
    · subst h; rfl
    · rw [if_neg h, if_neg h, Rat.mul_zero]
      show cV T 0 * 0 = 0
      rw [Rat.mul_zero]
  | t + 1, j, hj => by
    have hr := g.rw_
    rw [g.mvNext hj]
    show _ = cV T j * dn C (tr (cQ w)) (cV T) (dn R (cQ w) (cV U) (pw R C (cQ w) (cV T) (cV U) e0 t)) j
    rw [dn_mul (hr.T0 j hj), ← smQ_mul]
    refine smQ_congr fun c hc => ?_
    unfold dn tr
    have e : smQ (fun i => cQ w i c * pw R C (cQ w) (cV T) (cV U) e0 t i) R = cV T 0 * smQ (fun i => mvd R C w T U rs ps 0 i t / cV T i * cQ w i c) R := by
      rw [← smQ_mul]
      refine smQ_congr fun i hi => ?_
      have h := g.mvPw t i hi
      have z := hr.T0 i hi
      generalize pw R C (cQ w) (cV T) (cV U) e0 t i = x at *
      generalize mvd R C w T U rs ps 0 i t = y at *
      grind
    rw [e]
    grind
theorem GW.hm (g : GW b R C w T U rs ps) : HM fun t => mvd R C w T U rs ps 0 0 t := by
  have hr := g.rw_
  have t0 := hr.T0 0 g.hR.1
  refine ((hr.hm e0).scale (c := 1 / cV T 0) (Rat.le_of_lt (by rw [Rat.div_def, Rat.one_mul]; exact Rat.inv_pos.mpr t0))).congr fun k => ?_
  have h := g.mvPw k 0 g.hR.1
  have e : ip (cV T) R (pw R C (cQ w) (cV T) (cV U) e0 k) e0 = cV T 0 * pw R C (cQ w) (cV T) (cV U) e0 k 0 := by
    unfold ip
    rw [smQ_one (k := 0) g.hR.1 fun i _ hi => by unfold e0; rw [if_neg hi, Rat.mul_zero]]
    unfold e0
    rw [if_pos rfl, Rat.mul_one]
  rw [e]
  grind
end

def prd (f : Nat → Int) : Nat → Int
  | 0 => 1
  | n + 1 => prd f n * f n
theorem prd_pos {f : Nat → Int} : ∀ {n : Nat}, (∀ i, i < n → 0 < f i) → 0 < prd f n
  | 0, _ => by show (0 : Int) < 1; decide
  | n + 1, h => Int.mul_pos (prd_pos fun i hi => h i (by omega)) (h n (by omega))
theorem prd_dvd {f : Nat → Int} : ∀ {n i : Nat}, i < n → f i ∣ prd f n
  | 0, i, h => absurd h (Nat.not_lt_zero i)
  | n + 1, i, h => by
    show f i ∣ prd f n * f n
    by_cases e : i = n
    · subst e; exact Int.dvd_mul_left _ _
    · exact Int.dvd_trans (prd_dvd (by omega)) (Int.dvd_mul_right _ _)
theorem prd_le {f : Nat → Int} {b : Nat} : ∀ {n : Nat}, (∀ i, i < n → 0 < f i ∧ f i ≤ 2 ^ b) → prd f n ≤ 2 ^ (b * n)
  | 0, _ => by show (1 : Int) ≤ 2 ^ 0; decide
  | n + 1, h => by
    show prd f n * f n ≤ 2 ^ (b * n + b)
    rw [Int.pow_add]
    have h1 := prd_le (n := n) fun i hi => h i (by omega)
    have h2 := h n (by omega)
    exact Int.mul_le_mul h1 h2.2 (by omega) (Int.pow_nonneg (by decide))

theorem for_vec {α S : Type} {F : α → S → Res S} {n : Nat} {f : Nat → α} {s0 : S} (st : Nat → S) (h0 : st 0 = s0) (hF : ∀ i : Nat, i < n → F (f i) (st i) = .ok (st (i + 1))) : forS F (vec n f) s0 = .ok (st n) := by
  refine Ok.eq ?_
  refine (Ok.forS (fun i s => s = st i) h0.symm fun i x s ex hs => ?_).mono fun s h => by rw [vec_len] at h; exact h
  have hi : i < n := by
    have := (List.getElem?_eq_some_iff.mp ex).1; rw [vec_len] at this; exact this
  rw [vec_get hi] at ex
  cases ex
  rw [hs]
  exact .of (hF i hi) rfl
/-! ### a web that the law plays itself -/
section
theorem product_ok {f : Nat → Int} {n : Nat} (hn : n ≤ 7) (h : ∀ i, i < n → 0 < f i ∧ f i ≤ 2 ^ 51) : m_law_product (vec n f) = .ok (prd f n) := by
  unfold m_law_product
  simp only [Res.okb, Res.bind_assoc, Res.bind_ok]
  rw [for_vec (s0 := (1 : Int)) (fun i => prd f i) rfl fun i hi => ?_]
  have h1 := prd_le (f := f) (b := 51) (n := i) fun k hk => h k (by omega)
  have h2 := prd_pos (f := f) (n := i) fun k hk => (h k (by omega)).1
  rw [mulI_le (s := 51 * i) (t := 51) (natAbs_le_pow (Int.le_of_lt h2) h1 (Int.le_refl _)) (natAbs_le_pow (Int.le_of_lt (h i hi).1) (h i hi).2 (Int.le_refl _)) (by omega)]
  rfl
def dT (w : Nat → Nat → Int) (lr : Nat → Int) (C : Nat) : Nat → Int := fun i => sm (w i) C + lr i
def dU (w : Nat → Nat → Int) (lp : Nat → Int) (R : Nat) : Nat → Int := fun c => sm (fun i => w i c) R + lp c
def oW (R C : Nat) (w : Nat → Nat → Int) (T U : Nat → Int) : O_Web := ⟨(R : Int), (C : Int), vec R fun i => vec C (w i), [], [], vec R T, vec C U, prd T R, prd U C⟩
variable {d : W3} {R C : Nat} {w : Nat → Nat → Int} {lr lp : Nat → Int} {L : Int}
theorem dTB (g : DW d R C w lr lp L) {i : Nat} (hi : i < R) : 0 < dT w lr C i ∧ dT w lr C i ≤ (C : Int) * L + L := by
  have h := sm_bound (f := w i) (n := C) fun c hc => (g.hw i c hi hc).2
  have := g.hT i hi
  have := (g.hlr i hi).2
  unfold dT
  omega
theorem dUB (g : DW d R C w lr lp L) {c : Nat} (hc : c < C) : 0 < dU w lp R c ∧ dU w lp R c ≤ (R : Int) * L + L := by
  have h := sm_bound (f := fun i => w i c) (n := R) fun i hi => (g.hw i c hi hc).2
  have := g.hU c hc
  have := (g.hlp c hc).2
  unfold dU
  omega
theorem lcR_rngN {α : Type} {F : Int → Res α} {n : Nat} {f : Nat → α} (h : n ≤ 1000000) (hF : ∀ i : Nat, i < n → F (i : Int) = .ok (f i)) : lcR F (rngI 0 n) = .ok (vec n f) := by
  have := lcR_rng (F := F) (f := f) (hi := (n : Int)) (by omega) (by omega) fun i hi => hF i (by rwa [Int.toNat_natCast] at hi)
  rwa [Int.toNat_natCast] at this
structure PLY (d : W3) (R C : Nat) (w : Nat → Nat → Int) (lr lp : Nat → Int) (L : Int) : Prop where
  dw : DW d R C w lr lp L
  L0 : 0 ≤ L
  R0 : 0 < R
  R6 : R ≤ 7
  C6 : C ≤ 7
  tB : (C : Int) * L + L ≤ 2 ^ 51
  uB : (R : Int) * L + L ≤ 2 ^ 51
theorem PLY.gw (p : PLY d R C w lr lp L) : GW (oW R C w (dT w lr C) (dU w lp R)) R C w (dT w lr C) (dU w lp R) (prd (dT w lr C) R) (prd (dU w lp R) C) where
  rooms := rfl
  passages := rfl
  joints := rfl
  tots := rfl
  ptots := rfl
  rsc := rfl
  psc := rfl
  w0 := fun i c hi hc => (p.dw.hw i c hi hc).1
  hT := fun i hi => ⟨(dTB p.dw hi).1, prd_dvd hi, by unfold dT; have := (p.dw.hlr i hi).1; omega⟩
  hU := fun c hc => ⟨(dUB p.dw hc).1, prd_dvd hc, by unfold dU; have := (p.dw.hlp c hc).1; omega⟩
  rs0 := prd_pos fun i hi => (dTB p.dw hi).1
  ps0 := prd_pos fun c hc => (dUB p.dw hc).1
  hR := ⟨p.R0, by have := p.R6; omega⟩
  hC := by have := p.C6; omega
  rsB := Int.le_trans (prd_le (b := 51) fun i hi => ⟨(dTB p.dw hi).1, Int.le_trans (dTB p.dw hi).2 p.tB⟩) (pow2_le (by have := p.R6; omega))
  psB := Int.le_trans (prd_le (b := 51) fun c hc => ⟨(dUB p.dw hc).1, Int.le_trans (dUB p.dw hc).2 p.uB⟩) (pow2_le (by have := p.C6; omega))
end

section
variable {d : W3} {R C : Nat} {w : Nat → Nat → Int} {lr lp : Nat → Int} {L : Int}
theorem totals_ok (g : DW d R C w lr lp L) (hR : R ≤ 7) (hC : C ≤ 7) : m_law_totals d = .ok (vec R (dT w lr C), vec C (dU w lp R), ()) := by
  unfold m_law_totals
  simp only [Res.okb, Res.bind_assoc, Res.bind_ok, g.wd, g.rl, g.pl, vec_len]
  rw [rangeM1_ok ⟨by omega, by omega⟩, Res.okb, Int.toNat_natCast, lcR_rngN (f := dT w lr C) (by omega) fun i hi => ?_, Res.okb, rangeM1_ok ⟨by omega, by omega⟩, Res.okb, Int.toNat_natCast, lcR_rngN (f := dU w lp R) (by omega) fun c hc => ?_, Res.okb]
  · rw [lcR_vec (F := fun r : List Int => atM r (c : Int)) (f := fun i => vec C (w i)) (h := fun r => w r c) (by omega) fun r _ => vec_atN hc, Res.okb, vec_atN hc, Res.okb, sum_vec]
    rfl
  · rw [vec_atN hi, Res.okb, vec_atN hi, Res.okb, sum_vec]
    rfl
theorem acc_row {f q : Nat → Int} {F : Int → List Int → Res (List Int)} (hC : C ≤ 1000) (hF : ∀ (c : Nat) (h : Nat → Int), c < C → F (c : Int) (vec C h) = .ok (vec C fun i => if i = c then h c + q c else h i)) : forS F (rngI 0 C) (vec C f) = .ok (vec C fun c => f c + q c) := by
  have := for_rng (hi := (C : Int)) (S := List Int) (s0 := vec C f) (F := F) (fun k => vec C fun c => if c < k then f c + q c else f c) (vec_ext fun k hk => by rw [if_neg (by omega)]) fun k hk => by
    rw [hF k _ (by omega)]
    congr 1
    exact vec_ext fun i hi => by
      by_cases e : i = k
      · rw [if_pos e, if_neg (by omega), if_pos (by omega), e]
      · rw [if_neg e]
        by_cases c : i < k
        · rw [if_pos c, if_pos (by omega)]
        · rw [if_neg c, if_neg (by omega)]
  rw [Int.toNat_natCast] at this
  rw [this]
  congr 1
  exact vec_ext fun i hi => by rw [if_pos hi]
theorem tick_ok {b : O_Web} {T U : Nat → Int} (g : GW b R C w T U (prd T R) (prd U C)) (hR : R ≤ 7) (hC : C ≤ 7) (hd : d.1 = vec R fun i => vec C (w i)) (ht : m_law_totals d = .ok (vec R T, vec C U, ())) (tB : ∀ i, i < R → 0 < T i ∧ T i ≤ 2 ^ 51) (uB : ∀ c, c < C → 0 < U c ∧ U c ≤ 2 ^ 51) {a : Nat → Int} (ha : ∀ i, i < R → 0 ≤ a i) {s : Nat} (hs : s ≤ 10000) (hS : sm a R ≤ 2 ^ s) :
    m_law_tick d (vec R a) = .ok (vec R (nxt R C w T U (prd T R) (prd U C) a), prd T R * prd U C, ()) := by
  unfold m_law_tick
  simp only [Res.okb, Res.bind_assoc, Res.bind_ok, vec_len]
  rw [ht, Res.okb, product_ok hR tB, Res.okb, product_ok hC uB, Res.okb]
  generalize hrs : prd T R = rs at *
  generalize hps : prd U C = ps at *
  have pw : ∀ k : Nat, (0 : Int) ≤ 2 ^ k := fun k => Int.pow_nonneg (by decide)
  have qB : ∀ i, i < R → (rs / T i).natAbs ≤ 2 ^ 360 := fun i hi => by
    have h := g.q0 hi
    have : rs / T i ≤ rs := by
      have h1 := (g.hT i hi).1
      have := Int.mul_le_mul_of_nonneg_left (show (1 : Int) ≤ T i by omega) h.1
      omega
    exact natAbs_le_pow h.1 this g.rsB
  have pB : ∀ c, c < C → (ps / U c).natAbs ≤ 2 ^ 360 := fun c hc => by
    have h := g.p0 hc
    have : ps / U c ≤ ps := by
      have h1 := (g.hU c hc).1
      have := Int.mul_le_mul_of_nonneg_left (show (1 : Int) ≤ U c by omega) h.1
      omega
    exact natAbs_le_pow h.1 this g.psB
  have wB : ∀ i c, i < R → c < C → (w i c).natAbs ≤ 2 ^ 360 := fun i c hi hc => natAbs_le_pow (g.w0 i c hi hc) (Int.le_trans (g.wT hi hc) (Int.le_of_dvd g.rs0 (g.hT i hi).2.1)) g.rsB
  have aB : ∀ i, i < R → (a i).natAbs ≤ 2 ^ s := fun i hi => natAbs_le_pow (ha i hi) (sm_ge hi ha) hS
  have sB : ∀ i, i < R → (a i * (rs / T i)).natAbs ≤ 2 ^ (s + 360) := fun i hi => by rw [Int.natAbs_mul, Nat.pow_add]; exact Nat.mul_le_mul (aB i hi) (qB i hi)
  have hB : ∀ c, c < C → (hld R w T rs a c).natAbs ≤ 2 ^ (s + 360) := fun c hc => by
    refine natAbs_le_pow (g.hld0 ha hc) (Int.le_trans (sm_ge (f := hld R w T rs a) hc fun k hk => g.hld0 ha hk) (g.hldS ha)) ?_
    rw [Int.pow_add, Int.mul_comm]
    exact Int.mul_le_mul hS g.rsB (by have := g.rs0; omega) (pw s)
  have hB2 : ∀ c, c < C → (hld R w T rs a c * (ps / U c)).natAbs ≤ 2 ^ (s + 360 + 360) := fun c hc => by rw [Int.natAbs_mul, Nat.pow_add]; exact Nat.mul_le_mul (hB c hc) (pB c hc)
  have k1 : ∀ F : Int → List Int → Res (List Int), (∀ i : Nat, i < R → F (i : Int) (vec C fun c => sm (fun i => a i * (rs / T i) * w i c) i) = .ok (vec C fun c => sm (fun i => a i * (rs / T i) * w i c) (i + 1))) → forS F (rngI 0 R) (vec C fun _ => 0) = .ok (vec C (hld R w T rs a)) := fun F hF => by
    have := for_rng (hi := (R : Int)) (S := List Int) (s0 := vec C fun _ => 0) (F := F) (fun i => vec C fun c => sm (fun i => a i * (rs / T i) * w i c) i) rfl fun i hi => hF i (by omega)
    rwa [Int.toNat_natCast] at this
  have k2 : ∀ F : Int → List Int → Res (List Int), (∀ c : Nat, c < C → F (c : Int) (vec R fun j => sm (fun c => hld R w T rs a c * (ps / U c) * w j c) c) = .ok (vec R fun j => sm (fun c => hld R w T rs a c * (ps / U c) * w j c) (c + 1))) → forS F (rngI 0 C) (vec R fun _ => 0) = .ok (vec R (nxt R C w T U rs ps a)) := fun F hF => by
    have := for_rng (hi := (C : Int)) (S := List Int) (s0 := vec R fun _ => 0) (F := F) (fun c => vec R fun j => sm (fun c => hld R w T rs a c * (ps / U c) * w j c) c) rfl fun c hc => hF c (by omega)
    rwa [Int.toNat_natCast] at this
  simp only [vec_len]
  rw [rep_vec (by omega) (by omega), Res.okb, Int.toNat_natCast, rangeM1_ok ⟨by omega, by omega⟩, Res.okb, Int.toNat_natCast, k1 _ fun i hi => ?_, Res.okb]
  · rw [rep_vec (by omega) (by omega), Res.okb, Int.toNat_natCast, vec_len, rangeM1_ok ⟨by omega, by omega⟩, Res.okb, Int.toNat_natCast, k2 _ fun c hc => ?_, Res.okb, mulI_le (natAbs_le_pow (Int.le_of_lt g.rs0) (Int.le_refl _) g.rsB) (natAbs_le_pow (Int.le_of_lt g.ps0) (Int.le_refl _) g.psB) (by decide), Res.okb]
    rw [vec_atN hc, Res.okb, vec_atN hc, Res.okb, fdivI_pos (g.hU c hc).1 (Int.lt_of_le_of_lt (Int.le_of_dvd g.ps0 (g.hU c hc).2.1) (Int.lt_of_le_of_lt g.psB (by decide))), Res.okb, mulI_le (hB c hc) (pB c hc) (by omega), Res.okb, Res.okb]
    rw [acc_row (q := fun j => hld R w T rs a c * (ps / U c) * w j c) (by omega) fun j h hj => ?_]
    · rfl
    · rw [vec_atN hj, Res.okb, hd, vec_atN hj, Res.okb, vec_atN hc, Res.okb, mulI_le (hB2 c hc) (wB j c hj hc) (by omega), Res.okb, vec_put (by omega) (by omega), Int.toNat_natCast]
  · rw [vec_atN hi, Res.okb, vec_atN hi, Res.okb, fdivI_pos (g.hT i hi).1 (Int.lt_of_le_of_lt (Int.le_of_dvd g.rs0 (g.hT i hi).2.1) (Int.lt_of_le_of_lt g.rsB (by decide))), Res.okb, mulI_le (aB i hi) (qB i hi) (by omega), Res.okb, vec_len, rangeM1_ok ⟨by omega, by omega⟩, Res.okb, Int.toNat_natCast]
    rw [acc_row (q := fun c => a i * (rs / T i) * w i c) (by omega) fun c h hc => ?_]
    · rfl
    · rw [vec_atN hc, Res.okb, hd, vec_atN hi, Res.okb, vec_atN hc, Res.okb, mulI_le (sB i hi) (wB i c hi hc) (by omega), Res.okb, vec_put (by omega) (by omega), Int.toNat_natCast]
end

/-! ### a line as a web of the program -/
theorem cut_last1 {α : Type} {n : Nat} {f : Nat → α} : cutL (vec (n + 1) f) none (some (-1)) = vec n f := by
  unfold cutL
  have e1 : HT.sIx (vec (n + 1) f).length 0 none = 0 := rfl
  have e2 : HT.sIx (vec (n + 1) f).length (vec (n + 1) f).length (some (-1)) = n := by
    rw [vec_len]; unfold HT.sIx; simp; omega
  rw [e1, e2, List.drop_zero, Nat.sub_zero, vec_succ, List.take_left' (by rw [vec_len])]
theorem rlast {α : Type} {n : Nat} {f : Nat → α} {y : α} : putM (vec (n + 1) f) (-1) y = .ok (vec (n + 1) fun k => if k = n then y else f k) := by
  unfold putM
  have e : ixN (vec (n + 1) f).length (-1) = some n := by
    rw [vec_len]; unfold ixN
    rw [if_neg (by omega), if_pos (by omega)]
    congr 1; omega
  rw [e]
  have h := vec_put (n := n + 1) (f := f) (i := (n : Int)) (y := y) (by omega) (by omega)
  rw [putM_ok (by omega) (by rw [vec_len]; omega)] at h
  rw [Int.toNat_natCast] at h
  exact h
theorem vec_set {α : Type} {n q : Nat} {f : Nat → α} {y : α} (h : q < n) : (vec n f).set q y = vec n fun k => if k = q then y else f k := by
  have h1 := vec_put (n := n) (f := f) (i := (q : Int)) (y := y) (by omega) (by omega)
  rw [putM_ok (by omega) (by rw [vec_len]; omega), Int.toNat_natCast] at h1
  injection h1
theorem rowT_vec {α : Type} {n q : Nat} {f : Nat → List α} (h : q < n) : rowT (vec n f) (q : Int) = .ok q := by
  unfold rowT ixN
  rw [vec_len, if_pos (by omega), if_pos (by omega), Int.toNat_natCast]
theorem vec_getL {α : Type} {n q : Nat} {f : Nat → List α} (h : q < n) : (vec n f).getD q [] = f q := by
  rw [List.getD_eq_getElem?_getD, vec_get h]; rfl
theorem cm_lcm {xs : List Int} {B : Nat} (h : ∀ x ∈ xs, 0 < x ∧ x ≤ 2 ^ B) (hB : B ≤ 100) (hl : xs.length ≤ 20) : Ok (m_common_multiple xs) fun m => 0 < m ∧ (∀ x ∈ xs, x ∣ m) ∧ ∀ M : Int, (∀ x ∈ xs, x ∣ M) → m ∣ M := by
  unfold m_common_multiple
  simp only [Res.okb, Res.bind_assoc, Res.bind_ok]
  refine (Ok.forS (fun i (m : Int) => (0 < m ∧ (∀ k x, k < i → xs[k]? = some x → x ∣ m) ∧ m ≤ 2 ^ (B * i)) ∧ ∀ M : Int, (∀ x ∈ xs, x ∣ M) → m ∣ M) ⟨⟨by decide, fun k x hk => absurd hk (Nat.not_lt_zero _), by rw [Nat.mul_zero]; decide⟩, fun M _ => Int.one_dvd M⟩ fun i x m e hm => ?_).mono fun m hm => ⟨hm.1.1, fun x hx => ?_, hm.2⟩
  · obtain ⟨⟨h1, h2, h3⟩, h4⟩ := hm
    have xm := List.mem_of_getElem? e
    obtain ⟨x0, xB⟩ := h x xm
    have hi : i < xs.length := (List.getElem?_eq_some_iff.mp e).1
    have hBi : B * i ≤ 100 * 20 := Nat.mul_le_mul hB (by omega)
    have n1 : m.natAbs ≤ 2 ^ (B * i) := natAbs_le_pow (by omega) (Int.le_refl _) h3
    have n2 : x.natAbs ≤ 2 ^ B := natAbs_le_pow (by omega) (Int.le_refl _) xB
    rw [mulI_le n1 n2 (by omega), Res.okb, show n_cd m x = .ok (Int.gcd m x : Int) from rfl, Res.okb]
    have g0 : 0 < Int.gcd m x := Int.gcd_pos_of_ne_zero_left x (by omega)
    have gx : (Int.gcd m x : Int) ∣ x := Int.gcd_dvd_right m x
    have gm : (Int.gcd m x : Int) ∣ m := Int.gcd_dvd_left m x
    have gl : (Int.gcd m x : Int) ≤ x := Int.le_of_dvd x0 gx
    have p2 : (2 : Int) ^ B < 2 ^ 4000 := Int.pow_lt_pow_of_lt (by decide) (by omega)
    rw [fdivI_pos (by omega) (by omega)]
    have e1 : m * x / (Int.gcd m x : Int) = m * (x / (Int.gcd m x : Int)) := Int.mul_ediv_assoc m gx
    have e2 : m * x / (Int.gcd m x : Int) = m / (Int.gcd m x : Int) * x := Int.mul_ediv_assoc' x gm
    have x1 : 0 < x / (Int.gcd m x : Int) := Int.ediv_pos_of_pos_of_dvd x0 (by omega) gx
    have x2 : x / (Int.gcd m x : Int) ≤ x := Int.ediv_le_self _ (by omega)
    refine .ok ⟨⟨by rw [e1]; exact Int.mul_pos h1 x1, fun k y hk ey => ?_, ?_⟩, fun M hM => ?_⟩
    · by_cases hki : k = i
      · subst hki
        rw [e] at ey; cases ey
        rw [e2]; exact Int.dvd_mul_left _ _
      · rw [e1]; exact Int.dvd_trans (h2 k y (by omega) ey) (Int.dvd_mul_right _ _)
    · rw [e1, show B * (i + 1) = B * i + B by rw [Nat.mul_add, Nat.mul_one], Int.pow_add]
      exact Int.mul_le_mul h3 (by omega) (by omega) (Int.pow_nonneg (by decide))
    · have d1 := h4 M hM
      have d2 := hM x xm
      obtain ⟨a, rfl⟩ := Int.eq_ofNat_of_zero_le (Int.le_of_lt h1)
      obtain ⟨c, rfl⟩ := Int.eq_ofNat_of_zero_le (Int.le_of_lt x0)
      have hl : (a : Int) * (c : Int) / (Int.gcd (a : Int) (c : Int) : Int) = ((Nat.lcm a c : Nat) : Int) := by
        unfold Nat.lcm
        rw [Int.gcd_natCast_natCast]
        push_cast
        rfl
      rw [hl]
      rw [Int.ofNat_dvd_left] at d1 d2 ⊢
      exact Nat.lcm_dvd d1 d2
  · obtain ⟨k, ek⟩ := List.getElem?_of_mem hx
    exact hm.1.2.1 k x (List.getElem?_eq_some_iff.mp ek).1 ek
structure WC (s : Nat → Rat) (n B : Nat) : Prop where
  B0 : 0 < B
  BB : B ≤ 2 ^ 48
  dv : ∀ k, k < n → (wq s k).den ∣ B
  le : ∀ k, k < n → wq s k * (B : Rat) ≤ ((2 ^ 48 : Nat) : Rat)
section
variable {b : O_Line} {n e : Nat} {s : Nat → Rat} {Λ l B : Nat}
theorem LS.wq0 (g : LS s n e) {k : Nat} (hk : k < n) : 0 < wq s k := by
  have h1 := g.T0 k (by omega)
  have h2 : s k < 1 := by
    by_cases h : k = 0
    · subst h; rw [g.h0]; decide
    · exact (g.mid k (by omega) hk).2
  exact Rat.mul_pos h1 (by grind)
theorem WC.sz (c : WC s n B) (g : LS s n e) {k : Nat} (hk : k < n) : Sz 48 (wq s k) := by
  have d := Nat.le_trans (Nat.le_of_dvd c.B0 (c.dv k hk)) c.BB
  refine ⟨?_, d⟩
  have h0 := g.wq0 hk
  have h1 := c.le k hk
  have h2 : (((wq s k).num : Int) : Rat) ≤ ((2 ^ 48 : Nat) : Rat) := by
    rw [num_qd]
    have h3 : (((wq s k).den : Int) : Rat) ≤ (B : Rat) := by
      have := Nat.le_of_dvd c.B0 (c.dv k hk)
      exact_mod_cast this
    exact Rat.le_trans (Rat.mul_le_mul_of_nonneg_left h3 (Rat.le_of_lt h0)) h1
  have h4 : 0 ≤ (wq s k).num := Rat.num_nonneg.mpr (Rat.le_of_lt h0)
  have h5 : (wq s k).num ≤ ((2 ^ 48 : Nat) : Int) := by
    generalize (2 ^ 48 : Nat) = Z at h2 ⊢
    exact_mod_cast h2
  have h6 : ((wq s k).num.natAbs : Int) ≤ ((2 ^ 48 : Nat) : Int) := by rw [Int.natAbs_of_nonneg h4]; exact h5
  exact_mod_cast h6
def jW (s : Nat → Rat) (κ : Int) (k : Nat) : Int := (wq s k).num * (κ / ((wq s k).den : Int))
def jT (W : Nat → Int) (i c : Nat) : Int := if i = c then W (2 * c) else if i = c + 1 then W (2 * c + 1) else 0
def jLr (W : Nat → Int) (n e i : Nat) : Int := if e = 0 ∧ 2 * i + 1 = n then W (2 * i) else 0
def jLp (W : Nat → Int) (n e c : Nat) : Int := if e = 0 ∧ 2 * c + 2 = n then W (2 * c + 1) else 0
theorem wI_eq {κ : Int} {k : Nat} (hd : ((wq s k).den : Int) ∣ κ) : ((jW s κ k : Int) : Rat) = (κ : Rat) * wq s k := by
  unfold jW
  rw [Rat.intCast_mul, num_qd]
  have e := Int.ediv_mul_cancel hd
  have e' : ((κ / ((wq s k).den : Int) : Int) : Rat) * (((wq s k).den : Int) : Rat) = (κ : Rat) := by exact_mod_cast e
  rw [← e']
  generalize ((κ / ((wq s k).den : Int) : Int) : Rat) = x
  generalize (((wq s k).den : Int) : Rat) = y
  grind
theorem placed_ok {W : Nat → Int} (hn : 0 < n ∧ n ≤ 13) (he : e = 0 ∨ e = 1) : m_placed (vec n W) (e : Int) = m_Web_init (vec ((n + e + 1) / 2) fun i => vec ((n + e) / 2) (jT W i)) (vec ((n + e + 1) / 2) (jLr W n e)) (vec ((n + e) / 2) (jLp W n e)) := by
  unfold m_placed
  simp only [Res.okb, Res.bind_assoc, Res.bind_ok, vec_len]
  have fl : ∀ z : Int, fdivI z 2 = .ok (z / 2) := fun z => fdivI_pos (by decide) (by decide)
  have e1 : ((n : Int) + (e : Int) + 1) / 2 = (((n + e + 1) / 2 : Nat) : Int) := by omega
  have e2 : ((n : Int) + (e : Int)) / 2 = (((n + e) / 2 : Nat) : Int) := by omega
  simp only [fl, Res.okb, e1, e2]
  generalize hR : (n + e + 1) / 2 = R
  generalize hC : (n + e) / 2 = C
  rw [rangeM1_ok ⟨by omega, by omega⟩, Res.okb, Int.toNat_natCast, lcR_rngN (f := fun _ => vec C fun _ => (0 : Int)) (by omega) fun i hi => by rw [rep_vec (by omega) (by omega), Int.toNat_natCast], Res.okb]
  rw [rangeM1_ok ⟨by omega, by omega⟩, Res.okb]
  have key := for_rng (hi := (n : Int) + (e : Int) - 1) (S := List (List Int)) (s0 := vec R fun _ => vec C fun _ => (0 : Int))
    (F := fun i st => (atM (vec n W) i).bind fun y => (rowT st ((i + 1) / 2)).bind fun q => putT st q (i / 2) y)
    (fun k => vec R fun i => vec C fun c => if i = c then (if 2 * c < k then W (2 * c) else 0) else if i = c + 1 then (if 2 * c + 1 < k then W (2 * c + 1) else 0) else 0)
    (vec_ext fun i _ => vec_ext fun c _ => by
      by_cases h1 : i = c
      · rw [if_pos h1, if_neg (by omega)]
      · rw [if_neg h1]
        by_cases h2 : i = c + 1
        · rw [if_pos h2, if_neg (by omega)]
        · rw [if_neg h2]) fun k hk => by
      rw [vec_atN (show k < n by omega), Res.okb, show ((k : Int) + 1) / 2 = (((k + 1) / 2 : Nat) : Int) by omega, rowT_vec (by omega), Res.okb]
      unfold putT
      rw [vec_getL (by omega), show (k : Int) / 2 = ((k / 2 : Nat) : Int) by omega, vec_put (by omega) (by omega), Res.okb, Int.toNat_natCast, vec_set (by omega)]
      congr 1
      refine vec_ext fun i hi => ?_
      by_cases h1 : i = (k + 1) / 2
      · rw [if_pos h1]
        refine vec_ext fun c hc => ?_
        by_cases h2 : c = k / 2
        · rw [if_pos h2]
          by_cases h3 : i = c
          · rw [if_pos h3, if_pos (by omega), show 2 * c = k by omega]
          · rw [if_neg h3, if_pos (by omega), if_pos (by omega), show 2 * c + 1 = k by omega]
        · rw [if_neg h2]
          rw [← h1]
          by_cases h3 : i = c
          · rw [if_pos h3, if_pos h3]
            by_cases h4 : 2 * c < k
            · rw [if_pos h4, if_pos (by omega)]
            · rw [if_neg h4, if_neg (by omega)]
          · rw [if_neg h3, if_neg h3]
            by_cases h5 : i = c + 1
            · rw [if_pos h5, if_pos h5]
              by_cases h4 : 2 * c + 1 < k
              · rw [if_pos h4, if_pos (by omega)]
              · rw [if_neg h4, if_neg (by omega)]
            · rw [if_neg h5, if_neg h5]
      · rw [if_neg h1]
        refine vec_ext fun c hc => ?_
        by_cases h3 : i = c
        · rw [if_pos h3, if_pos h3]
          by_cases h4 : 2 * c < k
          · rw [if_pos h4, if_pos (by omega)]
          · rw [if_neg h4, if_neg (by omega)]
        · rw [if_neg h3, if_neg h3]
          by_cases h5 : i = c + 1
          · rw [if_pos h5, if_pos h5]
            by_cases h4 : 2 * c + 1 < k
            · rw [if_pos h4, if_pos (by omega)]
            · rw [if_neg h4, if_neg (by omega)]
          · rw [if_neg h5, if_neg h5]
  rw [key, Res.okb, rep_vec (by omega) (by omega), Res.okb, rep_vec (by omega) (by omega), Res.okb, Int.toNat_natCast, Int.toNat_natCast]
  have et : (vec R fun i => vec C fun c => if i = c then (if 2 * c < ((n : Int) + (e : Int) - 1).toNat then W (2 * c) else 0) else if i = c + 1 then (if 2 * c + 1 < ((n : Int) + (e : Int) - 1).toNat then W (2 * c + 1) else 0) else 0) = vec R fun i => vec C (jT W i) := vec_ext fun i hi => vec_ext fun c hc => by
    unfold jT
    by_cases h3 : i = c
    · rw [if_pos h3, if_pos h3, if_pos (by omega)]
    · rw [if_neg h3, if_neg h3]
      by_cases h5 : i = c + 1
      · rw [if_pos h5, if_pos h5, if_pos (by omega)]
      · rw [if_neg h5, if_neg h5]
  rw [et]
  have last : atM (vec n W) (-1) = .ok (W (n - 1)) := by
    obtain ⟨m, rfl⟩ : ∃ m, n = m + 1 := ⟨n - 1, by omega⟩
    rw [vec_last]; rfl
  have mo : ∀ z : Int, modI z 2 = .ok (z % 2) := fun z => modI_pos (by decide)
  simp only [mo, Res.okb]
  rcases he with rfl | rfl
  · have c1 : ∀ x : Bool, (if decide (((0 : Nat) : Int) = 0) = true then Res.ok x else Res.ok false) = Res.ok x := fun x => rfl
    simp only [c1, Res.okb]
    by_cases hp : n % 2 = 1
    · rw [if_pos (by rw [decide_eq_true_eq]; omega), last, Res.okb, if_neg (by rw [decide_eq_true_eq]; omega)]
      have hR1 : R = (R - 1) + 1 := by omega
      have e3 : putM (vec R fun _ => (0 : Int)) (-1) (W (n - 1)) = .ok (vec R (jLr W n 0)) := by
        rw [hR1, rlast]
        congr 1
        refine vec_ext fun i hi => ?_
        unfold jLr
        by_cases h : i = R - 1
        · rw [if_pos h, if_pos ⟨rfl, by omega⟩, show 2 * i = n - 1 by omega]
        · rw [if_neg h, if_neg (by omega)]
      have e4 : (vec C fun _ => (0 : Int)) = vec C (jLp W n 0) := vec_ext fun c hc => by unfold jLp; rw [if_neg (by omega)]
      rw [e3, e4]
      simp only [Res.okb]
    · rw [if_neg (by rw [decide_eq_true_eq]; omega), if_pos (by rw [decide_eq_true_eq]; omega), last, Res.okb]
      have hC1 : C = (C - 1) + 1 := by omega
      have e3 : putM (vec C fun _ => (0 : Int)) (-1) (W (n - 1)) = .ok (vec C (jLp W n 0)) := by
        rw [hC1, rlast]
        congr 1
        refine vec_ext fun i hi => ?_
        unfold jLp
        by_cases h : i = C - 1
        · rw [if_pos h, if_pos ⟨rfl, by omega⟩, show 2 * i + 1 = n - 1 by omega]
        · rw [if_neg h, if_neg (by omega)]
      have e4 : (vec R fun _ => (0 : Int)) = vec R (jLr W n 0) := vec_ext fun i hi => by unfold jLr; rw [if_neg (by omega)]
      simp only [Res.okb]
      rw [e3, e4, Res.okb]
  · have c1 : ∀ x : Bool, (if decide (((1 : Nat) : Int) = 0) = true then Res.ok x else Res.ok false) = Res.ok false := fun x => rfl
    simp only [c1, Res.okb]
    rw [if_neg (by decide), if_neg (by decide)]
    have e4 : (vec R fun _ => (0 : Int)) = vec R (jLr W n 1) := vec_ext fun i hi => by unfold jLr; rw [if_neg (by omega)]
    have e5 : (vec C fun _ => (0 : Int)) = vec C (jLp W n 1) := vec_ext fun i hi => by unfold jLp; rw [if_neg (by omega)]
    rw [e4, e5]
    simp only [Res.okb]
end
section
variable {b : O_Line} {n e : Nat} {s : Nat → Rat} {Λ l B : Nat} {W : Nat → Int} {κ : Int}
theorem wT_rat (hW : ∀ k, k < n → ((W k : Int) : Rat) = (κ : Rat) * wq s k) {i c : Nat} (hi : i < (n + e + 1) / 2) (hc : c < (n + e) / 2) (he : e = 0 ∨ e = 1) : ((jT W i c : Int) : Rat) = (if i = c then (κ : Rat) * wq s (2 * c) else 0) + (if i = c + 1 then (κ : Rat) * wq s (2 * c + 1) else 0) := by
  unfold jT
  by_cases h1 : i = c
  · rw [if_pos h1, if_pos h1, if_neg (by omega), hW _ (by omega)]; grind
  · rw [if_neg h1, if_neg h1]
    by_cases h2 : i = c + 1
    · rw [if_pos h2, if_pos h2, hW _ (by omega)]; grind
    · rw [if_neg h2, if_neg h2]; grind
theorem wT_room (ls : LS s n e) (hW : ∀ k, k < n → ((W k : Int) : Rat) = (κ : Rat) * wq s k) {i : Nat} (hi : i < (n + e + 1) / 2) (he : e = 0 ∨ e = 1) : ((sm (jT W i) ((n + e) / 2) + jLr W n e i : Int) : Rat) = (κ : Rat) * nT s (2 * i) := by
  have e1 : smQ (fun c => ((jT W i c : Int) : Rat)) ((n + e) / 2) = (if i < (n + e) / 2 then (κ : Rat) * wq s (2 * i) else 0) + if 0 < i then (κ : Rat) * wq s (2 * i - 1) else 0 := by
    have e2 : smQ (fun c => ((jT W i c : Int) : Rat)) ((n + e) / 2) = smQ (fun c => if c = i then (κ : Rat) * wq s (2 * c) else 0) ((n + e) / 2) + smQ (fun c => if i = c + 1 then (κ : Rat) * wq s (2 * c + 1) else 0) ((n + e) / 2) := by
      rw [← smQ_add]
      refine smQ_congr fun c hc => ?_
      rw [wT_rat hW hi hc he]
      by_cases h1 : i = c
      · rw [if_pos h1, if_pos h1.symm]
      · rw [if_neg h1, if_neg (Ne.symm h1)]
    rw [e2, smQ_at]
    congr 1
    by_cases h2 : 0 < i
    · rw [if_pos h2, smQ_one (k := i - 1) (by omega) fun c _ hc => if_neg (by omega), if_pos (by omega), show 2 * (i - 1) + 1 = 2 * i - 1 by omega]
    · rw [if_neg h2]; exact smQ_null fun c _ => if_neg (by omega)
  rw [Rat.intCast_add, sm_cast, e1, ← ls.wq_T (show 2 * i < n + e by omega)]
  unfold jLr
  have e3 : (if 0 < 2 * i then wq s (2 * i - 1) else 0) = if 0 < i then wq s (2 * i - 1) else 0 := by
    by_cases h : 0 < i
    · rw [if_pos h, if_pos (by omega)]
    · rw [if_neg h, if_neg (by omega)]
  rw [e3]
  have e4 : (if 0 < i then (κ : Rat) * wq s (2 * i - 1) else 0) = (κ : Rat) * if 0 < i then wq s (2 * i - 1) else 0 := by
    split
    · rfl
    · grind
  rw [e4]
  generalize (if 0 < i then wq s (2 * i - 1) else 0) = X
  by_cases h1 : i < (n + e) / 2
  · rw [if_pos h1, if_neg (by omega)]
    show _ + (((0 : Int) : Int) : Rat) = _
    grind
  · rw [if_neg h1]
    rcases he with rfl | rfl
    · rw [if_pos ⟨rfl, by omega⟩, hW _ (by omega)]; grind
    · rw [if_neg (by omega)]
      have z : wq s (2 * i) = 0 := by
        unfold wq
        rw [show 2 * i = n by omega]
        rcases ls.en with ⟨h, _⟩ | ⟨_, h⟩
        · cases h
        · rw [h]; grind
      rw [z]
      show _ + (((0 : Int) : Int) : Rat) = _
      grind
theorem wT_pass (ls : LS s n e) (hW : ∀ k, k < n → ((W k : Int) : Rat) = (κ : Rat) * wq s k) {c : Nat} (hc : c < (n + e) / 2) (he : e = 0 ∨ e = 1) : ((sm (fun i => jT W i c) ((n + e + 1) / 2) + jLp W n e c : Int) : Rat) = (κ : Rat) * nT s (2 * c + 1) := by
  have e1 : smQ (fun i => ((jT W i c : Int) : Rat)) ((n + e + 1) / 2) = (κ : Rat) * wq s (2 * c) + if c + 1 < (n + e + 1) / 2 then (κ : Rat) * wq s (2 * c + 1) else 0 := by
    have e2 : smQ (fun i => ((jT W i c : Int) : Rat)) ((n + e + 1) / 2) = smQ (fun i => if i = c then (κ : Rat) * wq s (2 * c) else 0) ((n + e + 1) / 2) + smQ (fun i => if i = c + 1 then (κ : Rat) * wq s (2 * c + 1) else 0) ((n + e + 1) / 2) := by
      rw [← smQ_add]
      exact smQ_congr fun i hi => wT_rat hW hi hc he
    rw [e2, smQ_at, smQ_at, if_pos (by omega)]
  rw [Rat.intCast_add, sm_cast, e1, ← ls.wq_T (show 2 * c + 1 < n + e by omega), if_pos (show 0 < 2 * c + 1 by omega), Nat.add_sub_cancel]
  unfold jLp
  by_cases h1 : c + 1 < (n + e + 1) / 2
  · rw [if_pos h1, if_neg (by omega)]
    show _ + (((0 : Int) : Int) : Rat) = _
    grind
  · rw [if_neg h1]
    rcases he with rfl | rfl
    · rw [if_pos ⟨rfl, by omega⟩, hW _ (by omega)]; grind
    · rw [if_neg (by omega)]
      have z : wq s (2 * c + 1) = 0 := by
        unfold wq
        rw [show 2 * c + 1 = n by omega]
        rcases ls.en with ⟨h, _⟩ | ⟨_, h⟩
        · cases h
        · rw [h]; grind
      rw [z]
      show _ + (((0 : Int) : Int) : Rat) = _
      grind
abbrev jTT (s : Nat → Rat) (n e : Nat) (κ : Int) : Nat → Int := fun i => sm (jT (jW s κ) i) ((n + e) / 2) + jLr (jW s κ) n e i
abbrev jUU (s : Nat → Rat) (n e : Nat) (κ : Int) : Nat → Int := fun c => sm (fun i => jT (jW s κ) i c) ((n + e + 1) / 2) + jLp (jW s κ) n e c
structure LWB (wb : O_Web) (s : Nat → Rat) (n e : Nat) (κ rs ps : Int) : Prop where
  k0 : 0 < κ
  gw : GW wb ((n + e + 1) / 2) ((n + e) / 2) (jT (jW s κ)) (jTT s n e κ) (jUU s n e κ) rs ps
  lw : LW s n e ((n + e + 1) / 2) ((n + e) / 2) (cQ (jT (jW s κ))) (cV (jTT s n e κ)) (cV (jUU s n e κ)) κ
  wB : ∀ k, k < n → 0 ≤ jW s κ k ∧ jW s κ k ≤ 2 ^ 48
theorem wT_le {W : Nat → Int} {n e : Nat} (wB : ∀ k, k < n → 0 ≤ W k ∧ W k ≤ 2 ^ 48) (he : e = 0 ∨ e = 1) : (∀ i c, i < (n + e + 1) / 2 → c < (n + e) / 2 → 0 ≤ jT W i c ∧ jT W i c ≤ 2 ^ 48) ∧ (∀ i, i < (n + e + 1) / 2 → 0 ≤ jLr W n e i ∧ jLr W n e i ≤ 2 ^ 48) ∧ ∀ c, c < (n + e) / 2 → 0 ≤ jLp W n e c ∧ jLp W n e c ≤ 2 ^ 48 := by
  refine ⟨fun i c hi hc => ?_, fun i hi => ?_, fun c hc => ?_⟩
  · unfold jT
    split
    · exact wB _ (by omega)
    · split
      · exact wB _ (by omega)
      · exact ⟨by decide, by decide⟩
  · unfold jLr
    split
    · exact wB _ (by omega)
    · exact ⟨by decide, by decide⟩
  · unfold jLp
    split
    · exact wB _ (by omega)
    · exact ⟨by decide, by decide⟩
theorem lineweb_ok (G : GL b n e s Λ l) (hn : n ≤ 13) (c : WC s n B) (he : e = 0 ∨ e = 1) (ft : ∀ k, k < n → fits (s (k + 1)) ∧ fits (1 - s (k + 1))) (fq : ∀ k, k + 1 < n → fits ((1 - s (k + 1)) / s (k + 1))) : Ok (m_Line_web b) fun wb => ∃ κ rs ps, LWB wb s n e κ rs ps := by
  have ls := G.ls
  have n0 := ls.n0
  unfold m_Line_web
  simp only [Res.okb, Res.bind_assoc, Res.bind_ok, G.kept, G.en]
  obtain ⟨m, rfl⟩ : ∃ m, n = m + 1 := ⟨n - 1, by omega⟩
  rw [show qInt 1 = .ok ((1 : Int) : Rat) from rfl, Res.okb, cut_last1]
  have key := for_vec (S := List Rat) (s0 := [((1 : Int) : Rat)]) (f := fun k => s (k + 1)) (n := m) (F := fun x st => (atM st (-1)).bind fun a => (qRsub x 1).bind fun y => (qOver y (.q x)).bind fun z => (qMul a (.q z)).bind fun p => appM st p)
    (fun k => vec (k + 1) (wq s)) (by show [wq s 0] = _; rw [wq_zero ls.h0]; rfl) fun k hk => by
      have md := ls.mid (k + 1) (by omega) (by omega)
      rw [vec_last, Res.okb, show qRsub (s (k + 1)) 1 = .ok (((1 : Int) : Rat) - s (k + 1)) from qRsub_ok (ft k (by omega)).1 fits_1, Res.okb]
      show (qOver (1 - s (k + 1)) (.q (s (k + 1)))).bind _ = _
      rw [qOver_ok (y := .q (s (k + 1))) (ft k (by omega)).2 (ft k (by omega)).1 (show s (k + 1) ≠ 0 by grind), Res.okb, show qMul (wq s k) (.q ((1 - s (k + 1)) / (Num.q (s (k + 1))).val)) = .ok (wq s k * ((1 - s (k + 1)) / s (k + 1))) from qMul_ok ((c.sz ls (by omega)).fits) (fq k (by omega)), Res.okb, vec_app (by omega)]
      congr 1
      refine vec_ext fun i hi => ?_
      by_cases h : i = k + 1
      · rw [if_pos h, h, wq_succ]
      · rw [if_neg h]
  rw [key, Res.okb]
  have p0 : ∀ k, k < m + 1 → 0 < wq s k := fun k hk => ls.wq0 hk
  rw [lcR_vec (F := fun x : Rat => Res.ok (x.den : Int)) (f := wq s) (h := fun k => ((wq s k).den : Int)) (by omega) fun i hi => rfl, Res.okb]
  refine Ok.bind (cm_lcm (B := 48) (fun x hx => by
    obtain ⟨i, hi, rfl⟩ := vec_mem hx
    have := (wq s i).den_pos
    have d := Nat.le_trans (Nat.le_of_dvd c.B0 (c.dv i hi)) c.BB
    exact ⟨by omega, show (((wq s i).den : Nat) : Int) ≤ ((2 ^ 48 : Nat) : Int) from Int.ofNat_le.mpr d⟩) (by decide) (by rw [vec_len]; omega)) fun κ ⟨k0, kd, kl⟩ => ?_
  have kd' : ∀ k, k < m + 1 → ((wq s k).den : Int) ∣ κ := fun k hk => kd _ (mem_vec hk)
  have kB : κ ≤ (B : Int) := Int.le_of_dvd (by have := c.B0; omega) (kl _ fun x hx => by
    obtain ⟨i, hi, rfl⟩ := vec_mem hx
    exact Int.natCast_dvd_natCast.mpr (c.dv i hi))
  have hW : ∀ k, k < m + 1 → ((jW s κ k : Int) : Rat) = (κ : Rat) * wq s k := fun k hk => wI_eq (kd' k hk)
  have wB : ∀ k, k < m + 1 → 0 ≤ jW s κ k ∧ jW s κ k ≤ 2 ^ 48 := fun k hk => by
    have h := hW k hk
    have p := p0 k hk
    have q : (0 : Rat) < (κ : Rat) := by exact_mod_cast k0
    have q2 : (κ : Rat) ≤ (B : Rat) := by exact_mod_cast kB
    have h1 : (0 : Rat) ≤ ((jW s κ k : Int) : Rat) := by rw [h]; exact Rat.le_of_lt (Rat.mul_pos q p)
    have h2 : ((jW s κ k : Int) : Rat) ≤ ((2 ^ 48 : Nat) : Rat) := by
      rw [h, Rat.mul_comm]
      exact Rat.le_trans (Rat.mul_le_mul_of_nonneg_left q2 (Rat.le_of_lt p)) (c.le k hk)
    have h3 : jW s κ k ≤ ((2 ^ 48 : Nat) : Int) := by
      generalize (2 ^ 48 : Nat) = Z at h2 ⊢
      exact_mod_cast h2
    exact ⟨by exact_mod_cast h1, h3⟩
  have kq : κ ≤ 2 ^ 48 := Int.le_trans kB (show ((B : Nat) : Int) ≤ ((2 ^ 48 : Nat) : Int) from Int.ofNat_le.mpr c.BB)
  rw [lcR_vec (F := fun x : Rat => (fdivI κ (x.den : Int)).bind fun y => mulI x.num y) (f := wq s) (h := jW s κ) (by omega) fun i hi => by
    have dp := (wq s i).den_pos
    have d := Nat.le_trans (Nat.le_of_dvd c.B0 (c.dv i hi)) c.BB
    have p2 : (2 : Int) ^ 48 < 2 ^ 4000 := Int.pow_lt_pow_of_lt (by decide) (by decide)
    have d' : ((wq s i).den : Int) ≤ 2 ^ 48 := show (((wq s i).den : Nat) : Int) ≤ ((2 ^ 48 : Nat) : Int) from Int.ofNat_le.mpr d
    rw [fdivI_pos (by omega) (Int.lt_of_le_of_lt d' p2), Res.okb]
    have d0 : 0 ≤ κ / ((wq s i).den : Int) := Int.ediv_nonneg (Int.le_of_lt k0) (by omega)
    have d1 : κ / ((wq s i).den : Int) ≤ κ := Int.ediv_le_self _ (Int.le_of_lt k0)
    exact mulI_le (c.sz ls hi).1 (natAbs_le_pow d0 (Int.le_trans d1 kq) (Int.le_refl _)) (by decide), Res.okb]
  rw [placed_ok ⟨by omega, hn⟩ he]
  obtain ⟨b1, b2, b3⟩ := wT_le wB he
  have q : (0 : Rat) < (κ : Rat) := by exact_mod_cast k0
  have hT0 := fun i (hi : i < (m + 1 + e + 1) / 2) => wT_room ls hW hi he
  have hU0 := fun c (hc : c < (m + 1 + e) / 2) => wT_pass ls hW hc he
  have L : (0 : Int) ≤ 2 ^ 48 := by decide
  refine (init_web (R := (m + 1 + e + 1) / 2) (C := (m + 1 + e) / 2) (w := jT (jW s κ)) (lr := jLr (jW s κ) (m + 1) e) (lp := jLp (jW s κ) (m + 1) e) ⟨by omega, by omega⟩ (by omega) (fun i c hi hc => (b1 i c hi hc).1) (fun i hi => (b2 i hi).1) (fun c hc => (b3 c hc).1) (.inl rfl) (.inl rfl) (fun i hi => ⟨?_, ?_⟩) (fun c hc => ⟨?_, ?_⟩)).mono fun wb ⟨rs, ps, gw⟩ => ⟨κ, rs, ps, ⟨k0, gw, ⟨ls, q, rfl, rfl, fun i c hi hc => wT_rat hW hi hc he, hT0, hU0⟩, wB⟩⟩
  · have h := hT0 i hi
    have t := ls.T0 (2 * i) (by omega)
    have : (0 : Rat) < ((sm (jT (jW s κ) i) ((m + 1 + e) / 2) + jLr (jW s κ) (m + 1) e i : Int) : Rat) := by rw [h]; exact Rat.mul_pos q t
    exact_mod_cast this
  · have h := sm_bound (f := jT (jW s κ) i) (n := (m + 1 + e) / 2) (L := 2 ^ 48) fun c hc => (b1 i c hi hc).2
    have h2 := (b2 i hi).2
    have h3 : (((m + 1 + e) / 2 : Nat) : Int) * 2 ^ 48 ≤ 7 * 2 ^ 48 := Int.mul_le_mul_of_nonneg_right (by omega) L
    have h4 : (7 : Int) * 2 ^ 48 + 2 ^ 48 ≤ 2 ^ 51 := by decide
    omega
  · have h := hU0 c hc
    have t := ls.T0 (2 * c + 1) (by omega)
    have : (0 : Rat) < ((sm (fun i => jT (jW s κ) i c) ((m + 1 + e + 1) / 2) + jLp (jW s κ) (m + 1) e c : Int) : Rat) := by rw [h]; exact Rat.mul_pos q t
    exact_mod_cast this
  · have h := sm_bound (f := fun i => jT (jW s κ) i c) (n := (m + 1 + e + 1) / 2) (L := 2 ^ 48) fun i hi => (b1 i c hi hc).2
    have h2 := (b3 c hc).2
    have h3 : (((m + 1 + e + 1) / 2 : Nat) : Int) * 2 ^ 48 ≤ 7 * 2 ^ 48 := Int.mul_le_mul_of_nonneg_right (by omega) L
    have h4 : (7 : Int) * 2 ^ 48 + 2 ^ 48 ≤ 2 ^ 51 := by decide
    omega
theorem LWB.mv {wb : O_Web} {rs ps : Int} (g : LWB wb s n e κ rs ps) {rs' ps' : Int} {wb' : O_Web} (gw : GW wb' ((n + e + 1) / 2) ((n + e) / 2) (jT (jW s κ)) (jTT s n e κ) (jUU s n e κ) rs' ps') (t : Nat) : mvd ((n + e + 1) / 2) ((n + e) / 2) (jT (jW s κ)) (jTT s n e κ) (jUU s n e κ) rs' ps' 0 0 t = rl s t := by
  have h := gw.mvPw t 0 gw.hR.1
  have h2 := g.lw.rl t
  have e0' : e0 = fun i => if i = 0 then 1 else 0 := rfl
  rw [e0', h2] at h
  have t0 := gw.rw_.T0 0 gw.hR.1
  have : cV (jTT s n e κ) 0 ≠ 0 := by grind
  have h3 : cV (jTT s n e κ) 0 * (mvd ((n + e + 1) / 2) ((n + e) / 2) (jT (jW s κ)) (jTT s n e κ) (jUU s n e κ) rs' ps' 0 0 t - rl s t) = 0 := by grind
  rcases Rat.mul_eq_zero.mp h3 with z | z
  · exact absurd z this
  · grind
end

section
variable {m e : Nat} {tp bt : Nat → Int}
def Ag (tp bt : Nat → Int) : Nat → Nat
  | 0 => 1
  | k + 1 => Ag tp bt k * (bt k - tp k).toNat
def Bg (tp : Nat → Int) : Nat → Nat
  | 0 => 1
  | k + 1 => Bg tp k * (tp k).toNat
theorem Bg_pos (g : DS m tp bt) : ∀ k, k ≤ m → 0 < Bg tp k
  | 0, _ => by show 0 < 1; decide
  | k + 1, h => Nat.mul_pos (Bg_pos g k (by omega)) (by have := g.hp k (by omega); omega)
theorem Bg_dvd (k : Nat) : ∀ d, Bg tp k ∣ Bg tp (k + d)
  | 0 => Nat.dvd_refl _
  | d + 1 => Nat.dvd_trans (Bg_dvd k d) (Nat.dvd_mul_right _ _)
theorem Bg_le (g : DS m tp bt) : ∀ k, k ≤ m → Bg tp k ≤ Lam bt k
  | 0, _ => Nat.le_refl _
  | k + 1, h => Nat.mul_le_mul (Bg_le g k (by omega)) (by have := g.hp k (by omega); omega)
theorem Ag_le (g : DS m tp bt) : ∀ k, k ≤ m → Ag tp bt k ≤ Lam bt k
  | 0, _ => Nat.le_refl _
  | k + 1, h => Nat.mul_le_mul (Ag_le g k (by omega)) (by have := g.hp k (by omega); omega)
theorem BL_le (g : DS m tp bt) (k : Nat) : ∀ d, k + d ≤ m → Bg tp (k + d) * Lam bt k ≤ Lam bt (k + d) * Bg tp k
  | 0, _ => by rw [Nat.add_zero, Nat.mul_comm]; exact Nat.le_refl _
  | d + 1, h => by
    have ih := BL_le g k d (by omega)
    show Bg tp (k + d) * (tp (k + d)).toNat * Lam bt k ≤ Lam bt (k + d) * (bt (k + d)).toNat * Bg tp k
    have h2 : (tp (k + d)).toNat ≤ (bt (k + d)).toNat := by have := g.hp (k + d) (by omega); omega
    calc Bg tp (k + d) * (tp (k + d)).toNat * Lam bt k = Bg tp (k + d) * Lam bt k * (tp (k + d)).toNat := by rw [Nat.mul_right_comm]
      _ ≤ Lam bt (k + d) * Bg tp k * (bt (k + d)).toNat := Nat.mul_le_mul ih h2
      _ = _ := by rw [Nat.mul_right_comm]
theorem wq_AB (g : DS m tp bt) (he : e = 0 ∨ e = 1) : ∀ k, k ≤ m → wq (shv m tp bt e) k * ((Bg tp k : Nat) : Rat) = ((Ag tp bt k : Nat) : Rat)
  | 0, _ => by
    rw [wq_zero (g.ls he).h0]
    show (1 : Rat) * ((1 : Nat) : Rat) = ((1 : Nat) : Rat)
    rw [Rat.one_mul]
  | k + 1, h => by
    have ih := wq_AB g he k (by omega)
    have hp := g.hp k (by omega)
    rw [wq_succ, shv_mid (by omega) h, Nat.add_sub_cancel]
    show _ * ((Bg tp k * (tp k).toNat : Nat) : Rat) = ((Ag tp bt k * (bt k - tp k).toNat : Nat) : Rat)
    have b0 : ((bt k : Int) : Rat) ≠ 0 := fun z => by have : bt k = 0 := (by exact_mod_cast z); omega
    have t0 : ((tp k : Int) : Rat) ≠ 0 := fun z => by have : tp k = 0 := (by exact_mod_cast z); omega
    have c1 : (((tp k).toNat : Nat) : Rat) = ((tp k : Int) : Rat) := by
      have : (((tp k).toNat : Nat) : Int) = tp k := Int.toNat_of_nonneg (by omega)
      exact_mod_cast congrArg (fun z : Int => (z : Rat)) this
    have c2 : (((bt k - tp k).toNat : Nat) : Rat) = ((bt k : Int) : Rat) - ((tp k : Int) : Rat) := by
      have : (((bt k - tp k).toNat : Nat) : Int) = bt k - tp k := Int.toNat_of_nonneg (by omega)
      have h2 := congrArg (fun z : Int => (z : Rat)) this
      rw [Rat.intCast_sub] at h2
      exact_mod_cast h2
    rw [Rat.natCast_mul, Rat.natCast_mul, c1, c2, ← ih, Rat.divInt_eq_div]
    generalize ((tp k : Int) : Rat) = t at *
    generalize ((bt k : Int) : Rat) = u at *
    generalize wq (shv m tp bt e) k = x
    generalize ((Bg tp k : Nat) : Rat) = y
    have e1 : t / u * u = t := Rat.div_mul_cancel b0
    have e2 : t / u ≠ 0 := fun z => by rw [z] at e1; exact t0 (by grind)
    have e3 : (1 - t / u) / (t / u) * (t / u) = 1 - t / u := Rat.div_mul_cancel e2
    generalize (1 - t / u) / (t / u) = q at *
    generalize t / u = p at *
    have e4 : q * t = u - t := by
      have : q * (p * u) = (1 - p) * u := by grind
      rw [e1] at this
      grind
    grind
theorem den_dvd {q : Rat} {b a : Nat} (hb : 0 < b) (h : q * (b : Rat) = (a : Rat)) : q.den ∣ b := by
  have e : q = ((a : Int) : Rat) / ((b : Int) : Rat) := by
    have b0 : ((b : Nat) : Rat) ≠ 0 := fun z => by have : b = 0 := (by exact_mod_cast z); omega
    have c1 : (((a : Nat) : Int) : Rat) = ((a : Nat) : Rat) := by exact_mod_cast rfl
    have c2 : (((b : Nat) : Int) : Rat) = ((b : Nat) : Rat) := by exact_mod_cast rfl
    rw [c1, c2, ← h]
    exact (Rat.mul_div_cancel b0).symm
  have h1 := (cross_iff (q := q) (a := (a : Int)) (b := (b : Int)) (by omega)).mpr e
  have h2 : q.num.natAbs * b = a * q.den := by
    have := congrArg Int.natAbs h1
    rwa [Int.natAbs_mul, Int.natAbs_mul, Int.natAbs_natCast, Int.natAbs_natCast, Int.natAbs_natCast] at this
  exact (Nat.Coprime.symm q.reduced).dvd_of_dvd_mul_left (n := b) (m := q.num.natAbs) (by rw [h2]; exact Nat.dvd_mul_left _ _)
theorem DS.wc (g : DS m tp bt) (he : e = 0 ∨ e = 1) : WC (shv m tp bt e) (m + 1) (Bg tp m) where
  B0 := Bg_pos g m (Nat.le_refl _)
  BB := Nat.le_trans (Bg_le g m (Nat.le_refl _)) g.L48
  dv := fun k hk => Nat.dvd_trans (den_dvd (Bg_pos g k (by omega)) (wq_AB g he k (by omega))) (by have := Bg_dvd (tp := tp) k (m - k); rwa [show k + (m - k) = m by omega] at this)
  le := fun k hk => by
    obtain ⟨d, rfl⟩ : ∃ d, m = k + d := ⟨m - k, by omega⟩
    have h1 := wq_AB g he k (by omega)
    have h2 := BL_le g k d (by omega)
    have h3 := Ag_le g k (by omega)
    have h4 := g.L48
    have b0 := Bg_pos g k (by omega)
    have h5 : Ag tp bt k * Bg tp (k + d) ≤ 2 ^ 48 * Bg tp k := calc
      Ag tp bt k * Bg tp (k + d) ≤ Lam bt k * Bg tp (k + d) := Nat.mul_le_mul_right _ h3
      _ = Bg tp (k + d) * Lam bt k := Nat.mul_comm _ _
      _ ≤ Lam bt (k + d) * Bg tp k := h2
      _ ≤ 2 ^ 48 * Bg tp k := Nat.mul_le_mul_right _ h4
    generalize (2 ^ 48 : Nat) = Z at *
    have h6 : ((Ag tp bt k : Nat) : Rat) * ((Bg tp (k + d) : Nat) : Rat) ≤ ((Z : Nat) : Rat) * ((Bg tp k : Nat) : Rat) := by exact_mod_cast h5
    have b1 : (0 : Rat) < ((Bg tp k : Nat) : Rat) := by exact_mod_cast b0
    rw [← h1] at h6
    generalize ((Bg tp k : Nat) : Rat) = y at *
    generalize ((Bg tp (k + d) : Nat) : Rat) = v at *
    generalize wq (shv (k + d) tp bt e) k = x at *
    have h7 : y * (x * v) ≤ y * ((Z : Nat) : Rat) := by grind
    exact Rat.le_of_mul_le_mul_left h7 b1
end
section
variable {m e : Nat} {tp bt : Nat → Int}
theorem DS.ft (g : DS m tp bt) (he : e = 0 ∨ e = 1) (k : Nat) : fits (shv m tp bt e k) ∧ fits (1 - shv m tp bt e k) := by
  have L0 := Lam_pos g m (Nat.le_refl _)
  have fx := g.fx he k
  exact ⟨fx.fits (b := 0) g.L48 (by decide) (by decide), ((Fx.one L0).sub fx).fits (b := 1) g.L48 (by decide) (by decide)⟩
theorem DS.fq (g : DS m tp bt) {k : Nat} (hk : k < m) : fits ((1 - shv m tp bt e (k + 1)) / shv m tp bt e (k + 1)) := by
  have hp := g.hp k hk
  have hb : bt k ≤ 1000 := by
    rcases g.hb with h | ⟨_, h⟩
    · have := h k hk; omega
    · exact h k hk
  rw [shv_mid (by omega) (by omega), Nat.add_sub_cancel]
  have e1 : (1 - Rat.divInt (tp k) (bt k)) / Rat.divInt (tp k) (bt k) = Rat.divInt (bt k - tp k) (tp k) := by
    rw [Rat.divInt_eq_div, Rat.divInt_eq_div, Rat.intCast_sub]
    have b0 : ((bt k : Int) : Rat) ≠ 0 := fun z => by have : bt k = 0 := (by exact_mod_cast z); omega
    have t0 : ((tp k : Int) : Rat) ≠ 0 := fun z => by have : tp k = 0 := (by exact_mod_cast z); omega
    generalize ((tp k : Int) : Rat) = t at *
    generalize ((bt k : Int) : Rat) = u at *
    have e1 : t / u * u = t := Rat.div_mul_cancel b0
    have e2 : t / u ≠ 0 := fun z => by rw [z] at e1; exact t0 (by grind)
    have e3 : (1 - t / u) / (t / u) * (t / u) = 1 - t / u := Rat.div_mul_cancel e2
    have e4 : (u - t) / t * t = u - t := Rat.div_mul_cancel t0
    generalize (1 - t / u) / (t / u) = q at *
    generalize (u - t) / t = r at *
    generalize t / u = p at *
    have e5 : q * t = u - t := by
      have : q * (p * u) = (1 - p) * u := by grind
      rw [e1] at this
      grind
    have : (q - r) * t = 0 := by grind
    rcases Rat.mul_eq_zero.mp this with z | z
    · grind
    · exact absurd z t0
  rw [e1]
  exact (sz_divInt (s := 10) (by omega) (by omega)).fits
end
section
variable {wb : O_Web} {R C : Nat} {w : Nat → Nat → Int} {T U lr lp : Nat → Int} {rs ps L : Int}
theorem read_ok (g : GW wb R C w T U rs ps) (hT : ∀ i, i < R → T i = sm (w i) C + lr i) (hU : ∀ c, c < C → U c = sm (fun i => w i c) R + lp c) : m_law_read wb = .ok (vec R fun i => vec C (w i), vec R lr, vec C lp, ()) := by
  have hR := g.hR
  have hC := g.hC
  unfold m_law_read m_Web_width m_Web_room_total m_Web_passage_total
  simp only [Res.okb, Res.bind_assoc, Res.bind_ok, g.rooms, g.passages, g.joints, g.tots, g.ptots]
  rw [rangeM1_ok ⟨by omega, by omega⟩, Res.okb]
  have key := for_rng (hi := (R : Int)) (S := List (List Int) × List Int) (s0 := ([], []))
    (F := fun i st => (rangeM1 (C : Int)).bind fun l => (lcR (fun c => (atM (vec R fun i => vec C (w i)) i).bind fun r => atM r c) l).bind fun y => (appM st.1 y).bind fun v => (atM (vec R T) i).bind fun a => (atM v i).bind fun r => (appM st.2 (a - r.sum)).bind fun v2 => .ok (v, v2))
    (fun k => (vec k fun i => vec C (w i), vec k lr)) rfl fun k hk => by
      rw [Int.toNat_natCast] at hk
      dsimp only
      rw [rangeM1_ok ⟨by omega, by omega⟩, Res.okb, Int.toNat_natCast, lcR_rngN (f := w k) (by omega) fun c hc => by rw [vec_atN hk, Res.okb, vec_atN hc], Res.okb, vec_app (by omega), Res.okb, vec_atN hk, Res.okb, vec_atN (by omega), Res.okb, if_pos rfl, sum_vec, vec_app (by omega), Res.okb, hT k hk]
      have e1 : (vec (k + 1) fun i => if i = k then vec C (w k) else vec C (w i)) = vec (k + 1) fun i => vec C (w i) := vec_ext fun i hi => by
        by_cases h : i = k
        · rw [if_pos h, h]
        · rw [if_neg h]
      have e2 : (vec (k + 1) fun i => if i = k then sm (w k) C + lr k - sm (w k) C else lr i) = vec (k + 1) lr := vec_ext fun i hi => by
        by_cases h : i = k
        · rw [if_pos h, h]; omega
        · rw [if_neg h]
      rw [e1, e2]
  rw [key, Res.okb, Int.toNat_natCast]
  rw [rangeM1_ok ⟨by omega, by omega⟩, Res.okb]
  have key2 := for_rng (hi := (C : Int)) (S := List Int) (s0 := [])
    (F := fun c st => (atM (vec C U) c).bind fun a => (lcR (fun r => atM r c) (vec R fun i => vec C (w i))).bind fun y => appM st (a - y.sum))
    (fun k => vec k lp) rfl fun k hk => by
      rw [Int.toNat_natCast] at hk
      rw [vec_atN hk, Res.okb, lcR_vec (F := fun r : List Int => atM r (k : Int)) (f := fun i => vec C (w i)) (h := fun i => w i k) (by omega) fun i hi => vec_atN hk, Res.okb, sum_vec, vec_app (by omega), hU k hk]
      congr 1
      refine vec_ext fun i hi => ?_
      by_cases h : i = k
      · rw [if_pos h, h]; omega
      · rw [if_neg h]
  dsimp only
  rw [key2, Res.okb, Int.toNat_natCast]
variable {d : W3}
theorem sound_ok (g : DW d R C w lr lp L) (hR : R ≤ 7) (hC : C ≤ 7) : m_law_sound d = .ok true := by
  unfold m_law_sound
  simp only [Res.okb, Res.bind_assoc, Res.bind_ok]
  rw [totals_ok g hR hC, Res.okb, g.wd, g.rl, g.pl, catM_ok (by rw [vec_len]; simp; omega), Res.okb]
  rw [forG_all (L := Unit) (γ := Bool) fun x hx => ?_, Res.okb, Fl.okb_out, catM_ok (by rw [vec_len, vec_len]; omega), Res.okb, forG_all (L := Unit) (γ := Bool) fun x hx => ?_, Res.okb, Fl.okb_out]
  · have h1 : ¬ x < 1 := by
      rcases List.mem_append.mp hx with z | z
      · obtain ⟨i, hi, rfl⟩ := vec_mem z
        have := (dTB g hi).1; omega
      · obtain ⟨i, hi, rfl⟩ := vec_mem z
        have := (dUB g hi).1; omega
    rw [if_neg (by rw [decide_eq_true_eq]; exact h1)]
  · have h1 : ∀ y ∈ x, 0 ≤ y := by
      rcases List.mem_append.mp hx with z | z
      · obtain ⟨i, hi, rfl⟩ := vec_mem z
        intro y hy
        obtain ⟨c, hc, rfl⟩ := vec_mem hy
        exact (g.hw i c hi hc).1
      · rcases List.mem_cons.mp z with rfl | z
        · intro y hy
          obtain ⟨c, hc, rfl⟩ := vec_mem hy
          exact (g.hlr c hc).1
        · rcases List.mem_cons.mp z with rfl | z
          · intro y hy
            obtain ⟨c, hc, rfl⟩ := vec_mem hy
            exact (g.hlp c hc).1
          · cases z
    rw [forG_all (L := Unit) (γ := Bool) fun y hy => by
      have := h1 y hy
      rw [if_neg (by decide), Res.okb, if_neg (by rw [decide_eq_true_eq]; omega)], Res.okb, Fl.okb_nx]
theorem played_ok (p : PLY d R C w lr lp L) {n : Nat} (hn : n ≤ 8) : m_law_played d (n : Int) 0 = .ok (vec R (amt R C w (dT w lr C) (dU w lp R) (prd (dT w lr C) R) (prd (dU w lp R) C) 0 n), (prd (dT w lr C) R * prd (dU w lp R) C) ^ n, ()) := by
  have G := p.gw
  have R6 := p.R6
  have C6 := p.C6
  unfold m_law_played
  simp only [Res.okb, Res.bind_assoc, Res.bind_ok, p.dw.wd, vec_len]
  have ht := totals_ok p.dw R6 C6
  have tB := fun i (hi : i < R) => (⟨(dTB p.dw hi).1, Int.le_trans (dTB p.dw hi).2 p.tB⟩ : 0 < dT w lr C i ∧ dT w lr C i ≤ 2 ^ 51)
  have uB := fun c (hc : c < C) => (⟨(dUB p.dw hc).1, Int.le_trans (dUB p.dw hc).2 p.uB⟩ : 0 < dU w lp R c ∧ dU w lp R c ≤ 2 ^ 51)
  generalize dT w lr C = T at *
  generalize dU w lp R = U at *
  have rB : (prd T R).natAbs ≤ 2 ^ 360 := natAbs_le_pow (Int.le_of_lt G.rs0) (Int.le_refl _) G.rsB
  have pB : (prd U C).natAbs ≤ 2 ^ 360 := natAbs_le_pow (Int.le_of_lt G.ps0) (Int.le_refl _) G.psB
  rw [rangeM1_ok ⟨by omega, by omega⟩, Res.okb, Int.toNat_natCast, lcR_rngN (f := amt R C w T U (prd T R) (prd U C) 0 0) (by omega) fun i hi => ?_, Res.okb, rangeM1_ok ⟨by omega, by omega⟩, Res.okb]
  · have fin : ∀ F : Int → List Int × Int → Res (List Int × Int), (∀ k : Nat, k < n → F (k : Int) (vec R (amt R C w T U (prd T R) (prd U C) 0 k), (prd T R * prd U C) ^ k) = .ok (vec R (amt R C w T U (prd T R) (prd U C) 0 (k + 1)), (prd T R * prd U C) ^ (k + 1))) → forS F (rngI 0 (n : Int).toNat) (vec R (amt R C w T U (prd T R) (prd U C) 0 0), 1) = .ok (vec R (amt R C w T U (prd T R) (prd U C) 0 n), (prd T R * prd U C) ^ n) := fun F hF => by
      have := for_rng (hi := (n : Int)) (S := List Int × Int) (s0 := (vec R (amt R C w T U (prd T R) (prd U C) 0 0), 1)) (F := F) (fun k => (vec R (amt R C w T U (prd T R) (prd U C) 0 k), (prd T R * prd U C) ^ k)) (by
        show (_, (prd T R * prd U C) ^ 0) = _
        rw [Int.pow_zero]) fun k hk => hF k (by omega)
      exact this
    rw [fin _ fun k hk => ?_, Res.okb]
    have aS := G.amtS (st := 0) p.R0 k
    have bt := G.btB k
    dsimp only
    rw [tick_ok G R6 C6 p.dw.wd ht tB uB (fun i hi => G.amt0 0 k i hi) (s := 720 * k) (by omega) (Int.le_trans aS bt.2), Res.okb]
    dsimp only
    rw [mulI_le (s := 720 * k) (t := 360 + 360) (natAbs_le_pow (Int.le_of_lt bt.1) bt.2 (Int.le_refl _)) (by rw [Int.natAbs_mul, Nat.pow_add]; exact Nat.mul_le_mul rB pB) (by omega), Res.okb]
    rw [← Int.pow_succ]
    rfl
  · show Res.ok (if decide ((i : Int) = 0) = true then (1 : Int) else 0) = .ok (if i = 0 then 1 else 0)
    by_cases e : i = 0
    · subst e; rfl
    · rw [if_neg (by rw [decide_eq_true_eq]; omega), if_neg e]
end
theorem law_ok (ns : List Int) (hl : ns.length ≤ 63) : m_law ns = .ok true := by
  refine Ok.eq ?_
  unfold m_law
  simp only [Res.okb, Res.bind_assoc, Res.bind_ok]
  rw [cell_eq ns 0 (by decide), Res.okb, show powI 10 9 = .ok (10 ^ 9) from rfl, Res.okb, modI_pos (by decide), Res.okb]
  generalize hc : ns.getD (0 : Int).toNat 0 % 10 ^ 9 = c
  refine Ok.bind (shares_ok ns 1 12 (by decide) (by decide)) fun ps ⟨m, tp, bt, eps, hm, g⟩ => ?_
  subst eps
  have e1 : 0 ≤ c % 2 := Int.emod_nonneg _ (by decide)
  have e2 : c % 2 < 2 := Int.emod_lt_of_pos _ (by decide)
  obtain ⟨e, ee⟩ := Int.eq_ofNat_of_zero_le e1
  have he : e = 0 ∨ e = 1 := by omega
  rw [modI_pos (by decide), Res.okb, ee]
  have hm12 := g.hm
  refine Ok.bind (line_ok g he g.L48) fun b G => ?_
  refine Ok.bind (lineweb_ok G (by omega) (g.wc he) he (fun k hk => g.ft he (k + 1)) (fun k hk => g.fq (by omega))) fun wb ⟨κ, rs, ps, lw⟩ => ?_
  have gw := lw.gw
  have hR := gw.hR
  have hC := gw.hC
  have fl : ∀ z : Int, fdivI z 2 = .ok (z / 2) := fun z => fdivI_pos (by decide) (by decide)
  rw [vec_len, fl, Res.okb, fl, gw.rooms, gw.passages]
  have x1 : ((m : Int) + 1 + (e : Int) + 1) / 2 = (((m + 1 + e + 1) / 2 : Nat) : Int) := by omega
  have x2 : ((m : Int) + 1 + (e : Int)) / 2 = (((m + 1 + e) / 2 : Nat) : Int) := by omega
  rw [x1, x2]
  simp only [Res.okb]
  rw [if_neg (by simp), Res.okb, if_neg (by simp), read_ok gw (lr := jLr (jW (shv m tp bt e) κ) (m + 1) e) (lp := jLp (jW (shv m tp bt e) κ) (m + 1) e) (fun i hi => rfl) (fun c hc => rfl), Res.okb]
  obtain ⟨b1, b2, b3⟩ := wT_le lw.wB he
  have dw : DW (vec ((m + 1 + e + 1) / 2) fun i => vec ((m + 1 + e) / 2) (jT (jW (shv m tp bt e) κ) i), vec ((m + 1 + e + 1) / 2) (jLr (jW (shv m tp bt e) κ) (m + 1) e), vec ((m + 1 + e) / 2) (jLp (jW (shv m tp bt e) κ) (m + 1) e), ()) ((m + 1 + e + 1) / 2) ((m + 1 + e) / 2) (jT (jW (shv m tp bt e) κ)) (jLr (jW (shv m tp bt e) κ) (m + 1) e) (jLp (jW (shv m tp bt e) κ) (m + 1) e) (2 ^ 48) :=
    ⟨rfl, rfl, rfl, b1, b2, b3, fun i hi => (gw.hT i hi).1, fun c hc => (gw.hU c hc).1⟩
  have L0 : (0 : Int) ≤ 2 ^ 48 := by decide
  have p : PLY _ ((m + 1 + e + 1) / 2) ((m + 1 + e) / 2) (jT (jW (shv m tp bt e) κ)) (jLr (jW (shv m tp bt e) κ) (m + 1) e) (jLp (jW (shv m tp bt e) κ) (m + 1) e) (2 ^ 48) :=
    ⟨dw, L0, by omega, by omega, by omega, by
      have h3 : (((m + 1 + e) / 2 : Nat) : Int) * 2 ^ 48 ≤ 7 * 2 ^ 48 := Int.mul_le_mul_of_nonneg_right (by omega) L0
      have h4 : (7 : Int) * 2 ^ 48 + 2 ^ 48 ≤ 2 ^ 51 := by decide
      omega, by
      have h3 : (((m + 1 + e + 1) / 2 : Nat) : Int) * 2 ^ 48 ≤ 7 * 2 ^ 48 := Int.mul_le_mul_of_nonneg_right (by omega) L0
      have h4 : (7 : Int) * 2 ^ 48 + 2 ^ 48 ≤ 2 ^ 51 := by decide
      omega⟩
  rw [sound_ok dw (by omega) (by omega), Res.okb, if_neg (by decide)]
  rw [show (8 : Int) = ((8 : Nat) : Int) from rfl, walk_ok g he g.L48 (by omega) (by decide), Res.okb, gw.readings (by decide), Res.okb, rangeM1_ok ⟨by decide, by decide⟩, Res.okb]
  have mv : ∀ t, mvd ((m + 1 + e + 1) / 2) ((m + 1 + e) / 2) (jT (jW (shv m tp bt e) κ)) (jTT (shv m tp bt e) (m + 1) e κ) (jUU (shv m tp bt e) (m + 1) e κ) rs ps 0 0 t = rl (shv m tp bt e) t := fun t => lw.mv gw t
  rw [forG_all (L := Unit) (γ := Bool) fun x hx => ?_, Res.okb, Fl.okb_out, vec_len]
  · exact .ok rfl
  · obtain ⟨x1, x2⟩ := rngI_mem hx
    obtain ⟨t, rfl⟩ := Int.eq_ofNat_of_zero_le x1
    have ht : t < 9 := by
      have : ((9 : Int).toNat : Int) = 9 := rfl
      omega
    rw [played_ok p (by omega), Res.okb]
    have P := p.gw
    have a0 : ∀ a : Nat → Int, atM (vec ((m + 1 + e + 1) / 2) a) 0 = .ok (a 0) := fun a => vec_atN (i := 0) (by omega)
    rw [a0, Res.okb, vec_atN ht, Res.okb]
    have wp := wk_pb (t := t) (e := e) g g.L48
    have wv := wk_pv g he t
    have pm := lw.mv P t
    have bt' := P.btB t
    have am := P.amt0 0 t 0 (by omega)
    have aS := Int.le_trans (sm_ge (f := amt ((m + 1 + e + 1) / 2) ((m + 1 + e) / 2) (jT (jW (shv m tp bt e) κ)) (dT (jT (jW (shv m tp bt e) κ)) (jLr (jW (shv m tp bt e) κ) (m + 1) e) ((m + 1 + e) / 2)) (dU (jT (jW (shv m tp bt e) κ)) (jLp (jW (shv m tp bt e) κ) (m + 1) e) ((m + 1 + e + 1) / 2)) (prd (dT (jT (jW (shv m tp bt e) κ)) (jLr (jW (shv m tp bt e) κ) (m + 1) e) ((m + 1 + e) / 2)) ((m + 1 + e + 1) / 2)) (prd (dU (jT (jW (shv m tp bt e) κ)) (jLp (jW (shv m tp bt e) κ) (m + 1) e) ((m + 1 + e + 1) / 2)) ((m + 1 + e) / 2)) 0 t) (show 0 < (m + 1 + e + 1) / 2 by omega) fun i hi => P.amt0 0 t i hi) (P.amtS (st := 0) (by omega) t)
    have pm' : Rat.divInt (amt ((m + 1 + e + 1) / 2) ((m + 1 + e) / 2) (jT (jW (shv m tp bt e) κ)) (dT (jT (jW (shv m tp bt e) κ)) (jLr (jW (shv m tp bt e) κ) (m + 1) e) ((m + 1 + e) / 2)) (dU (jT (jW (shv m tp bt e) κ)) (jLp (jW (shv m tp bt e) κ) (m + 1) e) ((m + 1 + e + 1) / 2)) (prd (dT (jT (jW (shv m tp bt e) κ)) (jLr (jW (shv m tp bt e) κ) (m + 1) e) ((m + 1 + e) / 2)) ((m + 1 + e + 1) / 2)) (prd (dU (jT (jW (shv m tp bt e) κ)) (jLp (jW (shv m tp bt e) κ) (m + 1) e) ((m + 1 + e + 1) / 2)) ((m + 1 + e) / 2)) 0 t 0) ((prd (dT (jT (jW (shv m tp bt e) κ)) (jLr (jW (shv m tp bt e) κ) (m + 1) e) ((m + 1 + e) / 2)) ((m + 1 + e + 1) / 2) * prd (dU (jT (jW (shv m tp bt e) κ)) (jLp (jW (shv m tp bt e) κ) (m + 1) e) ((m + 1 + e + 1) / 2)) ((m + 1 + e) / 2)) ^ t) = rl (shv m tp bt e) t := pm
    have aB := natAbs_le_pow am (Int.le_trans aS bt'.2) (Int.le_refl _)
    have bB := natAbs_le_pow (Int.le_of_lt bt'.1) bt'.2 (Int.le_refl _)
    have b0 := bt'.1
    generalize (prd (dT (jT (jW (shv m tp bt e) κ)) (jLr (jW (shv m tp bt e) κ) (m + 1) e) ((m + 1 + e) / 2)) ((m + 1 + e + 1) / 2) * prd (dU (jT (jW (shv m tp bt e) κ)) (jLp (jW (shv m tp bt e) κ) (m + 1) e) ((m + 1 + e + 1) / 2)) ((m + 1 + e) / 2)) ^ t = Z at pm' aB bB b0 ⊢
    generalize amt ((m + 1 + e + 1) / 2) ((m + 1 + e) / 2) (jT (jW (shv m tp bt e) κ)) (dT (jT (jW (shv m tp bt e) κ)) (jLr (jW (shv m tp bt e) κ) (m + 1) e) ((m + 1 + e) / 2)) (dU (jT (jW (shv m tp bt e) κ)) (jLp (jW (shv m tp bt e) κ) (m + 1) e) ((m + 1 + e + 1) / 2)) (prd (dT (jT (jW (shv m tp bt e) κ)) (jLr (jW (shv m tp bt e) κ) (m + 1) e) ((m + 1 + e) / 2)) ((m + 1 + e + 1) / 2)) (prd (dU (jT (jW (shv m tp bt e) κ)) (jLp (jW (shv m tp bt e) κ) (m + 1) e) ((m + 1 + e + 1) / 2)) ((m + 1 + e) / 2)) 0 t 0 = A at pm' aB ⊢
    have rf : Sz 1600 (rl (shv m tp bt e) t) := ((fx_rl G.L0 G.fx t).sz (LB_pow G.LB _) (by rw [p4]; exact Nat.le_refl _)).mono (by omega)
    generalize wk m tp bt e t = q at wp wv ⊢
    obtain ⟨q1, q2, q3⟩ := q
    have wp1 : q1.natAbs ≤ 2 ^ ((48 + 1) * (2 * t)) := wp.1
    have wp2 : 0 < q2 := wp.2.1
    have wp3 : q2.natAbs ≤ 2 ^ ((48 + 1) * (2 * t)) := wp.2.2
    have wv' : Rat.divInt q1 q2 = rl (shv m tp bt e) t := wv
    have c1 : A * q2 = q1 * Z := (Rat.divInt_eq_divInt_iff (by omega) (by omega)).mp (by rw [pm', wv'])
    have c2 : (rl (shv m tp bt e) t).num * q2 = q1 * ((rl (shv m tp bt e) t).den : Int) := (cross_iff wp2).mpr (by rw [← wv', Rat.divInt_eq_div])
    have rd : (((rl (shv m tp bt e) t).den : Int)).natAbs ≤ 2 ^ 1600 := by rw [Int.natAbs_natCast]; exact rf.2
    simp only [Res.okb]
    rw [mulI_le aB wp3 (by omega), Res.okb, mulI_le wp1 bB (by omega), Res.okb, if_neg (by rw [c1]; simp), vec_atN (show t < 8 + 1 by omega), Res.okb, mv t]
    rw [if_neg (by decide), mulI_le rf.1 wp3 (by omega), Res.okb, mulI_le wp1 rd (by omega), Res.okb, Res.okb, if_neg (by rw [c2]; simp)]
end L2.Tr

namespace L2.Tr
open PySem PySem.Spec PyProof.Rows He
def fs : List FB := [fGlo "_law_cell", fKeep "_law_cell", fFree "int", fGlo "_law_shares", fKeep "_law_shares", fGlo "_law_line", fKeep "_law_line", fOcl "Line", fMeth "Line" "web", fFree "len", fOcl "Web", fNoat "Web" "rooms", fNoat "Web" "passages", fGlo "_law_read", fKeep "_law_read", fGlo "_law_sound", fKeep "_law_sound", fGlo "_law_walk", fKeep "_law_walk", fMeth "Web" "readings", fFree "range", fGlo "_law_played", fKeep "_law_played", fGlo "Fraction", fKit "Fraction" "Fraction" true, fOcl "Fraction", fFree "isinstance", fNoat "Fraction" "top", fNoat "Fraction" "bottom", fGlo "_law_row", fKeep "_law_row", fFree "abs", fMkr "Fraction", fGlo "Line", fMkr "Line", fGlo "as_fraction", fKeep "as_fraction", fOMet "Fraction" "__le__", fNf "Fraction", fOMet "Fraction" "__ge__", fOMet "Fraction" "__eq__", fNoat "Line" "kept", fNoat "Line" "end", fNoat "Line" "rooms", fNoat "Line" "passages", fKitI "int" "Fraction" false, fExcV "BadLine" ["place"], fKitT "Fraction" "int" false, fOMet "Fraction" "__sub__", fOMet "Fraction" "__rsub__", fMeth "Fraction" "over", fOMet "Fraction" "__mul__", fGlo "common_multiple", fKeep "common_multiple", fGlo "placed", fKeep "placed", fExc "BadFraction", fGlo "common_divisor", fKeep "common_divisor", fGlo "Web", fMkr "Web", fFree "list", fFree "any", fNoat "Web" "joints", fGlo "checked_leaks", fKeep "checked_leaks", fNoat "Web" "from_rooms", fNoat "Web" "from_passages", fFree "sum", fNoat "Web" "room_totals", fNoat "Web" "passage_totals", fNoat "Web" "room_scale", fNoat "Web" "passage_scale", fExcV "BadWeb" ["reason"], fMeth "Web" "width", fMeth "Web" "room_total", fMeth "Web" "passage_total", fGlo "_law_totals", fKeep "_law_totals", fGlo "_law_half", fKeep "_law_half", fMeth "Web" "ticking", fMeth "Web" "next_amounts", fExcV "BadTick" ["tick"], fGlo "_law_tick", fKeep "_law_tick", fGlo "_law_product", fKeep "_law_product", fGlo "law"]
def fnl : List DX := [⟨fun K => (He.ga K "_law_cell"), "_law_cell", "_law_cell", defArgs s_law_cell, defBody s_law_cell, defScope s_law_cell, [], []⟩,
  ⟨fun K => (He.ga K "_law_row"), "_law_row", "_law_row", defArgs s_law_row, defBody s_law_row, defScope s_law_row, [], []⟩,
  ⟨fun K => (He.ga K "_law_shares"), "_law_shares", "_law_shares", defArgs s_law_shares, defBody s_law_shares, defScope s_law_shares, [], []⟩,
  ⟨fun K => (He.ga K "common_divisor"), "common_divisor", "common_divisor", defArgs s_common_divisor, defBody s_common_divisor, defScope s_common_divisor, [], []⟩,
  ⟨fun K => (He.ga K "as_fraction"), "as_fraction", "as_fraction", defArgs s_as_fraction, defBody s_as_fraction, defScope s_as_fraction, [], []⟩,
  ⟨fun K => (He.ma K (He.ga K "BadLine") "__init__"), "__init__", "BadLine.__init__", defArgs s_BadLine_init, defBody s_BadLine_init, defScope s_BadLine_init, [], []⟩,
  ⟨fun K => (He.ma K (He.ga K "Fraction") "__le__"), "__le__", "Fraction.__le__", defArgs s_Fraction_le, defBody s_Fraction_le, defScope s_Fraction_le, [], []⟩,
  ⟨fun K => (He.ma K (He.ga K "Fraction") "__ge__"), "__ge__", "Fraction.__ge__", defArgs s_Fraction_ge, defBody s_Fraction_ge, defScope s_Fraction_ge, [], []⟩,
  ⟨fun K => (He.ma K (He.ga K "Fraction") "__eq__"), "__eq__", "Fraction.__eq__", defArgs s_Fraction_eq, defBody s_Fraction_eq, defScope s_Fraction_eq, [], []⟩,
  ⟨fun K => (He.ma K (He.ga K "Line") "__init__"), "__init__", "Line.__init__", defArgs s_Line_init, defBody s_Line_init, defScope s_Line_init, [], []⟩,
  ⟨fun K => (He.ga K "_law_line"), "_law_line", "_law_line", defArgs s_law_line, defBody s_law_line, defScope s_law_line, [], []⟩,
  ⟨fun K => (He.ma K (He.ga K "Fraction") "__rsub__"), "__rsub__", "Fraction.__rsub__", defArgs s_Fraction_rsub, defBody s_Fraction_rsub, defScope s_Fraction_rsub, [], []⟩,
  ⟨fun K => (He.ma K (He.ga K "Fraction") "over"), "over", "Fraction.over", defArgs s_Fraction_over, defBody s_Fraction_over, defScope s_Fraction_over, [], []⟩,
  ⟨fun K => (He.ma K (He.ga K "Fraction") "__mul__"), "__mul__", "Fraction.__mul__", defArgs s_Fraction_mul, defBody s_Fraction_mul, defScope s_Fraction_mul, [], []⟩,
  ⟨fun K => (He.ga K "common_multiple"), "common_multiple", "common_multiple", defArgs s_common_multiple, defBody s_common_multiple, defScope s_common_multiple, [], []⟩,
  ⟨fun K => (He.ma K (He.ga K "BadWeb") "__init__"), "__init__", "BadWeb.__init__", defArgs s_BadWeb_init, defBody s_BadWeb_init, defScope s_BadWeb_init, [], []⟩,
  ⟨fun K => (He.ga K "checked_leaks"), "checked_leaks", "checked_leaks", defArgs s_checked_leaks, defBody s_checked_leaks, defScope s_checked_leaks, [], []⟩,
  ⟨fun K => (He.ma K (He.ga K "Web") "__init__"), "__init__", "Web.__init__", defArgs s_Web_init, defBody s_Web_init, defScope s_Web_init, [], [("room_leaks", .adr (kwAt (fun K => (He.ma K (He.ga K "Web") "__init__")) "room_leaks")), ("passage_leaks", .adr (kwAt (fun K => (He.ma K (He.ga K "Web") "__init__")) "passage_leaks"))]⟩,
  ⟨fun K => (He.ga K "placed"), "placed", "placed", defArgs s_placed, defBody s_placed, defScope s_placed, [], []⟩,
  ⟨fun K => (He.ma K (He.ga K "Line") "web"), "web", "Line.web", defArgs s_Line_web, defBody s_Line_web, defScope s_Line_web, [], []⟩,
  ⟨fun K => (He.ma K (He.ga K "Web") "width"), "width", "Web.width", defArgs s_Web_width, defBody s_Web_width, defScope s_Web_width, [], []⟩,
  ⟨fun K => (He.ma K (He.ga K "Web") "room_total"), "room_total", "Web.room_total", defArgs s_Web_room_total, defBody s_Web_room_total, defScope s_Web_room_total, [], []⟩,
  ⟨fun K => (He.ma K (He.ga K "Web") "passage_total"), "passage_total", "Web.passage_total", defArgs s_Web_passage_total, defBody s_Web_passage_total, defScope s_Web_passage_total, [], []⟩,
  ⟨fun K => (He.ga K "_law_read"), "_law_read", "_law_read", defArgs s_law_read, defBody s_law_read, defScope s_law_read, [], []⟩,
  ⟨fun K => (He.ga K "_law_totals"), "_law_totals", "_law_totals", defArgs s_law_totals, defBody s_law_totals, defScope s_law_totals, [], []⟩,
  ⟨fun K => (He.ga K "_law_sound"), "_law_sound", "_law_sound", defArgs s_law_sound, defBody s_law_sound, defScope s_law_sound, [], []⟩,
  ⟨fun K => (He.ga K "_law_half"), "_law_half", "_law_half", defArgs s_law_half, defBody s_law_half, defScope s_law_half, [], []⟩,
  ⟨fun K => (He.ga K "_law_walk"), "_law_walk", "_law_walk", defArgs s_law_walk, defBody s_law_walk, defScope s_law_walk, [], []⟩,
  ⟨fun K => (He.ma K (He.ga K "BadTick") "__init__"), "__init__", "BadTick.__init__", defArgs s_BadTick_init, defBody s_BadTick_init, defScope s_BadTick_init, [], []⟩,
  ⟨fun K => (He.ma K (He.ga K "Web") "next_amounts"), "next_amounts", "Web.next_amounts", defArgs s_Web_next_amounts, defBody s_Web_next_amounts, defScope s_Web_next_amounts, [], []⟩,
  ⟨fun K => (He.ma K (He.ga K "Web") "ticking"), "ticking", "Web.ticking", defArgs s_Web_ticking, defBody s_Web_ticking, defScope s_Web_ticking, [], []⟩,
  ⟨fun K => (He.ma K (He.ga K "Web") "readings"), "readings", "Web.readings", defArgs s_Web_readings, defBody s_Web_readings, defScope s_Web_readings, [], []⟩,
  ⟨fun K => (He.ga K "_law_product"), "_law_product", "_law_product", defArgs s_law_product, defBody s_law_product, defScope s_law_product, [], []⟩,
  ⟨fun K => (He.ga K "_law_tick"), "_law_tick", "_law_tick", defArgs s_law_tick, defBody s_law_tick, defScope s_law_tick, [], []⟩,
  ⟨fun K => (He.ga K "_law_played"), "_law_played", "_law_played", defArgs s_law_played, defBody s_law_played, defScope s_law_played, [], []⟩,
  ⟨fun K => (He.ga K "law"), "law", "law", defArgs s_law, defBody s_law, defScope s_law, [], []⟩,
  ⟨fun K => (He.ma K (He.ga K "Fraction") "__init__"), "__init__", "Fraction.__init__", defArgs s_Fraction_init, defBody s_Fraction_init, defScope s_Fraction_init, [.int 1], []⟩]
def tbs : List He.Tab := []
theorem txt_of {w : World} {K : PySem.W.Frag} {mg : Str → Option Value} {h : Heap} (KX : K.In h) (G : h.Ns mainGlobals mg) (c : SaysZ fs fnl tbs w K) : Txt w K mg where
  g_law_cell := glo_of KX G (c.fact 0)
  k_law_cell := (c.fact 1)
  n_int := free_of KX G (c.fact 2)
  g_law_shares := glo_of KX G (c.fact 3)
  k_law_shares := (c.fact 4)
  g_law_line := glo_of KX G (c.fact 5)
  k_law_line := (c.fact 6)
  o_Line := ocl_of (c.fact 7)
  me_Line_web := meth_of (c.fact 8)
  n_len := free_of KX G (c.fact 9)
  o_Web := ocl_of (c.fact 10)
  na_Web_rooms := noat_of (c.fact 11)
  na_Web_passages := noat_of (c.fact 12)
  g_law_read := glo_of KX G (c.fact 13)
  k_law_read := (c.fact 14)
  g_law_sound := glo_of KX G (c.fact 15)
  k_law_sound := (c.fact 16)
  g_law_walk := glo_of KX G (c.fact 17)
  k_law_walk := (c.fact 18)
  me_Web_readings := meth_of (c.fact 19)
  n_range := free_of KX G (c.fact 20)
  g_law_played := glo_of KX G (c.fact 21)
  k_law_played := (c.fact 22)
  g_Fraction := glo_of KX G (c.fact 23)
  kt_Fraction_Fraction := kit_of' (c.fact 24)
  o_Fraction := ocl_of (c.fact 25)
  n_isinstance := free_of KX G (c.fact 26)
  na_Fraction_top := noat_of (c.fact 27)
  na_Fraction_bottom := noat_of (c.fact 28)
  F_law_cell := c.def_ 0
  g_law_row := glo_of KX G (c.fact 29)
  k_law_row := (c.fact 30)
  n_abs := free_of KX G (c.fact 31)
  F_law_row := c.def_ 1
  F_law_shares := c.def_ 2
  mk_Fraction := mkr_of (c.fact 32)
  g_Line := glo_of KX G (c.fact 33)
  mk_Line := mkr_of (c.fact 34)
  g_as_fraction := glo_of KX G (c.fact 35)
  k_as_fraction := (c.fact 36)
  om_Fraction_le := omet_of (c.fact 37)
  nf_Fraction := nf_of (c.fact 38)
  om_Fraction_ge := omet_of (c.fact 39)
  om_Fraction_eq := omet_of (c.fact 40)
  na_Line_kept := noat_of (c.fact 41)
  na_Line_end := noat_of (c.fact 42)
  na_Line_rooms := noat_of (c.fact 43)
  na_Line_passages := noat_of (c.fact 44)
  kI_int_Fraction := kitI_of (c.fact 45)
  F_common_divisor := c.def_ 3
  F_as_fraction := c.def_ 4
  F_BadLine_init := c.def_ 5
  ev_BadLine := excV_of KX G (c.fact 46)
  kT_Fraction_int := kitT_of (c.fact 47)
  F_Fraction_le := c.def_ 6
  F_Fraction_ge := c.def_ 7
  F_Fraction_eq := c.def_ 8
  F_Line_init := c.def_ 9
  F_law_line := c.def_ 10
  om_Fraction_sub := omet_of (c.fact 48)
  om_Fraction_rsub := omet_of (c.fact 49)
  me_Fraction_over := meth_of (c.fact 50)
  om_Fraction_mul := omet_of (c.fact 51)
  g_common_multiple := glo_of KX G (c.fact 52)
  k_common_multiple := (c.fact 53)
  g_placed := glo_of KX G (c.fact 54)
  k_placed := (c.fact 55)
  F_Fraction_rsub := c.def_ 11
  ex_BadFraction := exc_of KX G (c.fact 56)
  F_Fraction_over := c.def_ 12
  F_Fraction_mul := c.def_ 13
  g_common_divisor := glo_of KX G (c.fact 57)
  k_common_divisor := (c.fact 58)
  F_common_multiple := c.def_ 14
  g_Web := glo_of KX G (c.fact 59)
  mk_Web := mkr_of (c.fact 60)
  n_list := free_of KX G (c.fact 61)
  n_any := free_of KX G (c.fact 62)
  na_Web_joints := noat_of (c.fact 63)
  g_checked_leaks := glo_of KX G (c.fact 64)
  k_checked_leaks := (c.fact 65)
  na_Web_from_rooms := noat_of (c.fact 66)
  na_Web_from_passages := noat_of (c.fact 67)
  n_sum := free_of KX G (c.fact 68)
  na_Web_room_totals := noat_of (c.fact 69)
  na_Web_passage_totals := noat_of (c.fact 70)
  na_Web_room_scale := noat_of (c.fact 71)
  na_Web_passage_scale := noat_of (c.fact 72)
  F_BadWeb_init := c.def_ 15
  ev_BadWeb := excV_of KX G (c.fact 73)
  F_checked_leaks := c.def_ 16
  F_Web_init := c.def_ 17
  F_placed := c.def_ 18
  F_Line_web := c.def_ 19
  me_Web_width := meth_of (c.fact 74)
  me_Web_room_total := meth_of (c.fact 75)
  me_Web_passage_total := meth_of (c.fact 76)
  F_Web_width := c.def_ 20
  F_Web_room_total := c.def_ 21
  F_Web_passage_total := c.def_ 22
  F_law_read := c.def_ 23
  g_law_totals := glo_of KX G (c.fact 77)
  k_law_totals := (c.fact 78)
  F_law_totals := c.def_ 24
  F_law_sound := c.def_ 25
  g_law_half := glo_of KX G (c.fact 79)
  k_law_half := (c.fact 80)
  F_law_half := c.def_ 26
  F_law_walk := c.def_ 27
  me_Web_ticking := meth_of (c.fact 81)
  me_Web_next_amounts := meth_of (c.fact 82)
  F_BadTick_init := c.def_ 28
  ev_BadTick := excV_of KX G (c.fact 83)
  F_Web_next_amounts := c.def_ 29
  F_Web_ticking := c.def_ 30
  F_Web_readings := c.def_ 31
  g_law_tick := glo_of KX G (c.fact 84)
  k_law_tick := (c.fact 85)
  g_law_product := glo_of KX G (c.fact 86)
  k_law_product := (c.fact 87)
  F_law_product := c.def_ 32
  F_law_tick := c.def_ 33
  F_law_played := c.def_ 34
  F_law := c.def_ 35
  g_law := glo_of KX G (c.fact 88)
  F_Fraction_init := c.def_ 36
theorem all_of {P : Program} {w : World} {K : PySem.W.Frag} {mg : Str → Option Value} {base : Heap} (T : Txt w K mg) {fd : FuncData} (F : FunD K "law" "law" (defArgs s_law) (defBody s_law) (defScope s_law) [] [] (He.ga K "law") fd) : FnOk P w K mg base (L2N.CX P w) 9 (He.ga K "law") fd ["_law_script"] (spF K (aCons (rdL K (rp rInt)) aNil) (fun d => m_law d.1) (rp rBl)) := by
  have c_law_cell : C_law_cell P w K mg base := fn_law_cell T
  have c_law_row : C_law_row P w K mg base := fn_law_row T
  have c_law_shares : C_law_shares P w K mg base := fn_law_shares T c_law_cell c_law_row
  have c_common_divisor : C_common_divisor P w K mg base := FnR.nice (fn_common_divisor T) nice_common_divisor
  have c_Fraction_1 : C_Fraction_1 P w K mg base := fn_Fraction_1 T c_common_divisor
  have c_as_fraction : C_as_fraction P w K mg base := FnR.nice (fn_as_fraction T c_Fraction_1) nice_as_fraction
  have c_err_BadLine : C_err_BadLine P w K mg base := fn_err_BadLine T
  have c_Fraction_le : C_Fraction_le P w K mg base := FnR.nice (fn_Fraction_le T) nice_Fraction_le
  have c_Fraction_ge : C_Fraction_ge P w K mg base := FnR.nice (fn_Fraction_ge T) nice_Fraction_ge
  have c_Fraction_eq : C_Fraction_eq P w K mg base := FnR.nice (fn_Fraction_eq T) nice_Fraction_eq
  have c_Line_1 : C_Line_1 P w K mg base := fn_Line_1 T c_as_fraction c_err_BadLine c_Fraction_le c_Fraction_ge c_Fraction_eq
  have c_Fraction_2 : C_Fraction_2 P w K mg base := fn_Fraction_2 T c_common_divisor
  have c_law_line : C_law_line P w K mg base := fn_law_line T c_Line_1 c_Fraction_2
  have c_Fraction_rsub : C_Fraction_rsub P w K mg base := FnR.nice (fn_Fraction_rsub T c_Fraction_2) nice_Fraction_rsub
  have c_Fraction_over : C_Fraction_over P w K mg base := FnR.nice (fn_Fraction_over T c_as_fraction c_Fraction_2) nice_Fraction_over
  have c_Fraction_mul : C_Fraction_mul P w K mg base := FnR.nice (fn_Fraction_mul T c_Fraction_2) nice_Fraction_mul
  have c_common_multiple : C_common_multiple P w K mg base := fn_common_multiple T c_common_divisor
  have c_err_BadWeb : C_err_BadWeb P w K mg base := fn_err_BadWeb T
  have c_checked_leaks : C_checked_leaks P w K mg base := fn_checked_leaks T c_err_BadWeb
  have c_Web_1_room_leaks_passage_leaks : C_Web_1_room_leaks_passage_leaks P w K mg base := fn_Web_1_room_leaks_passage_leaks T c_err_BadWeb c_checked_leaks c_common_multiple
  have c_placed : C_placed P w K mg base := fn_placed T c_Web_1_room_leaks_passage_leaks
  have c_Line_web : C_Line_web P w K mg base := fn_Line_web T c_Fraction_1 c_Fraction_rsub c_Fraction_over c_Fraction_mul c_common_multiple c_placed
  have c_Web_width : C_Web_width P w K mg base := fn_Web_width T
  have c_Web_room_total : C_Web_room_total P w K mg base := fn_Web_room_total T
  have c_Web_passage_total : C_Web_passage_total P w K mg base := fn_Web_passage_total T
  have c_law_read : C_law_read P w K mg base := fn_law_read T c_Web_width c_Web_room_total c_Web_passage_total
  have c_law_totals : C_law_totals P w K mg base := fn_law_totals T
  have c_law_sound : C_law_sound P w K mg base := fn_law_sound T c_law_totals
  have c_law_half : C_law_half P w K mg base := fn_law_half T
  have c_law_walk : C_law_walk P w K mg base := fn_law_walk T c_law_half
  have c_err_BadTick : C_err_BadTick P w K mg base := fn_err_BadTick T
  have c_Web_next_amounts : C_Web_next_amounts P w K mg base := fn_Web_next_amounts T
  have c_Web_ticking : C_Web_ticking P w K mg base := fn_Web_ticking T c_err_BadTick c_Fraction_1 c_Web_next_amounts c_Fraction_2
  have c_Web_readings : C_Web_readings P w K mg base := fn_Web_readings T c_Web_ticking
  have c_law_product : C_law_product P w K mg base := fn_law_product T
  have c_law_tick : C_law_tick P w K mg base := fn_law_tick T c_law_totals c_law_product
  have c_law_played : C_law_played P w K mg base := fn_law_played T c_law_tick
  exact fn_law T c_law_cell c_law_shares c_law_line c_Line_web c_law_read c_law_sound c_law_walk c_Web_readings c_law_played F
theorem law_end {P : Program} {w : World} {K : PySem.W.Frag} {mg : Str → Option Value} {h : Heap} {fa : Addr} (KX : K.In h) (hmg : mg ("law" : Str) = some (.ref fa)) (T : Txt w K mg) :
    ∃ (K : PySem.W.Frag) (fd : FuncData) (sp : Sp), K.In h ∧ (∀ (s : Shared) (u : Value), BindsTo s fd ⟨[u], []⟩ [(("_law_script" : Str), u)]) ∧
        (∀ (H : Hp) (a : Addr) (ns : List Int), ns.length ≤ 63 → Only H → SqL K H a (ns.map V.int) → sp [.ref a] H (fun v _ => v = .bl true) fun _ _ _ => False) ∧
        ∀ base : Heap, K.In base → base.Ns mainGlobals mg → FnOk P w K mg base CX0 9 fa fd ["_law_script"] sp := by
  obtain ⟨fd, F⟩ := T.F_law
  have e := hmg.symm.trans T.g_law
  cases e
  have b := FunD.bindsA (ps := ["_law_script"]) F fun _ _ _ _ _ _ us hl => match us, hl with | [_], _ => rfl
  refine ⟨K, fd, (fun vs H Q _ => spF K (aCons (rdL K (rp rInt)) aNil) (fun d => m_law d.1) (rp rBl) vs H Q fun _ _ _ => False), KX, fun s u => b s [u] rfl, fun H a ns hl _ hS => ⟨fun _ => none, (ns, ()), (fun b o e => nomatch e), ⟨.ref a, [], rfl, ⟨a, ns.map V.int, rfl, hS, paired_ints _ _ ns⟩, rfl⟩, ?_⟩, fun base _ _ => FnOk.no (all_of T F)⟩
  show PostE K (m_law ns) _ _ _ _ _
  rw [law_ok ns hl]
  exact fun I' H' v _ r => r
abbrev RR : PySem.W.OpenRow := PySem.W.OpenLaw.row PySem.Challenge.rw_tracerline_k21_lines_as_webs
abbrev hk : PySem.W.Hook := hookA [3, 31, 44, 63, 101, 120, 129, 259, 270, 416, 421, 519, 535, 626, 637, 644, 649, 656, 661, 666, 673, 678, 685, 690, 695, 702, 709, 30, 43, 62, 100, 119, 128, 258, 269, 415, 420, 518, 534, 625, 636, 643, 648, 655, 660, 665, 672, 677, 684, 689, 694, 701, 708, 60, 98, 117, 144, 165, 172, 179, 214, 228, 242, 256, 436, 453, 460, 467, 474, 509, 516, 547, 609, 59, 97, 116, 143, 137, 171, 178, 213, 227, 241, 255, 435, 431, 452, 459, 466, 473, 508, 515, 546, 608] fs fnl tbs
def ob (s : PySem.W.SharedT) : AlZ := obsZ fs fnl tbs (frG (HandSHeadRun.getT s) [3, 31, 44, 63, 101, 120, 129, 259, 270, 416, 421, 519, 535, 626, 637, 644, 649, 656, 661, 666, 673, 678, 685, 690, 695, 702, 709, 30, 43, 62, 100, 119, 128, 258, 269, 415, 420, 518, 534, 625, 636, 643, 648, 655, 660, 665, 672, 677, 684, 689, 694, 701, 708, 60, 98, 117, 144, 165, 172, 179, 214, 228, 242, 256, 436, 453, 460, 467, 474, 509, 516, 547, 609, 59, 97, 116, 143, 137, 171, 178, 213, 227, 241, 255, 435, 431, 452, 459, 466, 473, 508, 515, 546, 608])
theorem ob_eq (s : PySem.W.SharedT) : ob s = hk.obs s.abs := obsA_eq (HandSHeadRun.getT_eq s)
def names : List PySem.Str := ((["_wall", "__name__", "TracerError", "BadFraction", "BadTick", "BadRoom", "BadWeb", "BadLine", "common_divisor", "Fraction", "as_fraction", "entry", "product_entry", "Polynomial", "common_multiple", "checked_leaks", "Web", "next_reading", "placed", "Line", "_law_cell", "_law_row", "_law_shares", "_law_half", "_law_walk", "_law_line", "_law_product", "_law_totals", "_law_tick", "_law_played"] : List PySem.Str) ++ (["_law_read", "_law_sound"] : List PySem.Str))
set_option maxHeartbeats 0 in
theorem run (w : World) : HandSHeadRun.RunEq RR (PySem.W.view RR.prog [37]) hk ob 20000 names w := by
  intro os
  kernel_rfl
end L2.Tr
open PySem PySem.W PySem.Calls PyProof.Rows
set_option maxHeartbeats 0 in
theorem PySem.Challenge.cw_tracerline_k21_lines_as_webs_holds : PySem.Challenge.rw_tracerline_k21_lines_as_webs.Holds := by
  w_on; o_law
  refine HandSHeadRun.head_any (r := OpenLaw.row PySem.Challenge.rw_tracerline_k21_lines_as_webs) (q := view (OpenLaw.row PySem.Challenge.rw_tracerline_k21_lines_as_webs).prog [37]) (H := L2.Tr.hk) (ob := L2.Tr.ob) (M := 20000) (loose := L2.Tr.names) (d := HandSHeadRun.topDef (OpenLaw.row PySem.Challenge.rw_tracerline_k21_lines_as_webs).prog 37) (kwd := []) L2.Tr.ob_eq
    (by kernel_rfl) (fun s => by kernel_rfl) L2.Tr.run (by kernel_rfl) (by kernel_rfl) (by kernel_rfl) (by rfl) (by first | assumption | decide +kernel) (by decide +kernel) ⟨rfl, rfl, rfl, rfl, rfl, by decide +kernel⟩ ?hw ?hc
  case hw => w_witness2
  case hc =>
    refine L2.walk_ofE (l := PySem.Challenge.rw_tracerline_k21_lines_as_webs) (n := 63) (k := 9) (x := "_law_script") (CX := L2.CX0) rfl (by decide) (by kernel_rfl) ⟨rfl, by decide, by decide⟩ ?F (fun _ _ _ _ z => z)
    intro w mg fa h Y G hmg0
    obtain ⟨K, KX, c⟩ := Y
    have hmg : mg ("law" : PySem.Str) = some (.ref fa) := by
      have e : (HandSHeadRun.topDef (OpenLaw.row PySem.Challenge.rw_tracerline_k21_lines_as_webs).prog 37).name = ("law" : PySem.Str) := by kernel_rfl
      rw [← e]
      exact hmg0
    have T := L2.Tr.txt_of KX G c
    exact L2.Tr.law_end (P := (PySem.Challenge.rw_tracerline_k21_lines_as_webs).prog) (w := w) KX hmg T

