import PyProof.Rows.All
import Wide.All
import OpenK.AllK
import Wide.FinOn
import HandS.ForMost
import HandS.ForExc
import HandS.More
import HandS.Comp
import HandS.HotCalls
import HandS.ExcCtx
import HandS.TryMany
import HandS.TryOnly
import HandS.Wide
import HandS.Flow
import HandS.Defaults
import HandS.MakeKw
import HandS.CallSlots
import HandS.IsInst
import HandS.ExcIs
import HandS.OwnEq
import HandS.HeadHook1
import KE.KStateDown
import HandS.Head0
import HandS.Head1
import HandS.Head2
import HandS.HeadEnd
import HandS.HeadHook2
import HandS.MakeKwOnly
import OpenK.KOps
import HandS.List
import HandS.Style
import KE.KCallOwn
import HandS.Property
import HandS.ClsMeth
import HandS.GenList
import HandS.ExcInit
import HandS.ExcField
import KE.KExcIs
import HandS.HeadHook3
import Wide.Once
import HandS.NoneIn
import PySem.Challenge.RW_tracerline_k79_delay_rows
set_option Elab.async false
set_option linter.all false
set_option maxRecDepth 100000
set_option maxHeartbeats 0
set_option exponentiation.threshold 100000
namespace L2
open PySem PySem.Spec PyProof.Rows HotX L2H
/-! ### loops and comprehensions wherever they stand: nothing is handled, or an exception without a context is -/
/-- nothing is handled, or an exception without a context -/
def Cool (X : Cx) : Prop := X.calm = true ∨ HotC X
section
variable {prog : Program} {w : World} {A : Around} {E : Value → Shared → Prop} {s : Shared}
/-- a list's iterator ends while an exception is handled -/
theorem list_end_hot {it l x1 : Addr} {i : Nat} {items} {Q : Option Value → Shared → Prop} (hot : HotAt A x1 s.heap) (hne : x1 ≠ it) (hit : s.heap.IsListIter it l i) (hl : s.heap.IsList l items) (hx : items[i]? = none)
    (hQ : ∀ h', (∀ b o, b ≠ it → s.heap.get? b = some o → h'.get? b = some o) → Q none { s with heap := h' }) : wpAny (model prog w) A (pyNext (.ref it)) Q E s := by
  obtain ⟨hh, o1, vs1, h1, d1, c1⟩ := hot
  obtain ⟨o, ho, hc, hd⟩ := id hit
  obtain ⟨ol, hol, _, nl, hdl⟩ := hl
  unfold pyNext
  refine wpAny_bind (wpAny_attempt (wpAny_callSpecial?_slot (name := Str.ofString "__next__") hit.typeIs slot_listiter_next (wpAny_call_entry slot_listiter_next hit.typeIs entry_listiter_next ?_ (args_listiter_next _))))
  show wpAny _ _ (field (.ref it) 0 >>= _) _ _ s
  refine wpAny_bind (wpAny_field ho hd (x := .ref l) rfl ?_)
  show wpAny _ _ (if (Value.ref l == Value.none) = true then _ else _) _ _ s
  rw [if_neg (show ¬ ((Value.ref l == Value.none) = true) from Bool.false_ne_true)]
  show wpAny _ _ (field (.ref it) 1 >>= _) _ _ s
  refine wpAny_bind (wpAny_field ho hd (x := .int i 0) rfl ?_)
  show wpAny _ _ (seqItems? (.ref l) >>= _) _ _ s
  refine wpAny_bind (wpAny_seqItems hol hdl ?_)
  simp only [Int.toNat_natCast, hx]
  refine wpAny_bind (wpAny_rule (wpAny_bind (wpAny_setField ho hd (by simp) ?_)))
  show wpAny _ _ (newExc (.type "StopIteration") [] >>= _) _ _ _
  refine wpAny_bind ?_
  simp only [newExc, newTuple]
  refine wpAny_bind (wpAny_newObj_type ?_ (by size_fits))
  refine wpAny_bind (m := firstArgMember _ _) (wpAny_of_eq (a := Value.none) (by first | rfl | (simp only [firstArgMember]; rfl)) ?_)
  refine wpAny_newObj_type ?_ (by size_fits)
  have g0 := (Heap.get?_update_other s.heap (Obj.mapFields (·.setIfInBounds 0 .none)) (Ne.symm hne)).trans h1
  have k1 : ∀ (h : Heap) (q : Obj) {b : Addr} {o : Obj}, h.get? b = some o → (h.push q).get? b = some o := fun h q {b o} e => Heap.get?_push_of_some _ e
  refine raiseNew_hot ⟨hh, o1, vs1, k1 _ _ (k1 _ _ g0), d1, c1⟩ (Nat.ne_of_lt (Heap.lt_size (k1 _ _ g0))) (Heap.get?_push_size _ rfl) rfl (by first | (simp; done) | (simp; omega) | (simp only [Array.size_append]; simp; omega)) ?_
  refine wpAny_bind (wpAny_isInstance (T := "StopIteration") (b := true) ⟨_, Heap.get?_update_self _ (Heap.get?_push_size _ rfl) rfl, rfl⟩ isSubtype_stop ?_)
  refine wpAny_pure (hQ _ fun b o hb e => ?_)
  have e0 := (Heap.get?_update_other s.heap (Obj.mapFields (·.setIfInBounds 0 .none)) (Ne.symm hb)).trans e
  rw [Heap.get?_update_other _ _ (Nat.ne_of_gt (Heap.lt_size (k1 _ _ e0)))]
  exact k1 _ _ (k1 _ _ e0)
/-- a tuple's iterator ends while an exception is handled -/
theorem tuple_end_hot {it l x1 : Addr} {i : Nat} {items} {Q : Option Value → Shared → Prop} (hot : HotAt A x1 s.heap) (hne : x1 ≠ it) (hit : s.heap.IsTupleIter it l i) (hl : s.heap.IsTuple l items) (hx : items[i]? = none)
    (hQ : ∀ h', (∀ b o, b ≠ it → s.heap.get? b = some o → h'.get? b = some o) → Q none { s with heap := h' }) : wpAny (model prog w) A (pyNext (.ref it)) Q E s := by
  obtain ⟨hh, o1, vs1, h1, d1, c1⟩ := hot
  obtain ⟨o, ho, hc, hd⟩ := id hit
  obtain ⟨ol, hol, _, nl, hdl⟩ := hl
  unfold pyNext
  refine wpAny_bind (wpAny_attempt (wpAny_callSpecial?_slot (name := Str.ofString "__next__") hit.typeIs F.slot_tuple_iterator_next (wpAny_call_entry F.slot_tuple_iterator_next hit.typeIs F.entry_tuple_iterator_next ?_ (F.args_tuple_iterator_next_1 _))))
  show wpAny _ _ (field (.ref it) 0 >>= _) _ _ s
  refine wpAny_bind (wpAny_field ho hd (x := .ref l) rfl ?_)
  show wpAny _ _ (if (Value.ref l == Value.none) = true then _ else _) _ _ s
  rw [if_neg (show ¬ ((Value.ref l == Value.none) = true) from Bool.false_ne_true)]
  show wpAny _ _ (field (.ref it) 1 >>= _) _ _ s
  refine wpAny_bind (wpAny_field ho hd (x := .int i 0) rfl ?_)
  show wpAny _ _ (seqItems? (.ref l) >>= _) _ _ s
  refine wpAny_bind (wpAny_seqItems hol hdl ?_)
  simp only [Int.toNat_natCast, hx]
  refine wpAny_bind (wpAny_rule (wpAny_bind (wpAny_setField ho hd (by simp) ?_)))
  show wpAny _ _ (newExc (.type "StopIteration") [] >>= _) _ _ _
  refine wpAny_bind ?_
  simp only [newExc, newTuple]
  refine wpAny_bind (wpAny_newObj_type ?_ (by size_fits))
  refine wpAny_bind (m := firstArgMember _ _) (wpAny_of_eq (a := Value.none) (by first | rfl | (simp only [firstArgMember]; rfl)) ?_)
  refine wpAny_newObj_type ?_ (by size_fits)
  have g0 := (Heap.get?_update_other s.heap (Obj.mapFields (·.setIfInBounds 0 .none)) (Ne.symm hne)).trans h1
  have k1 : ∀ (h : Heap) (q : Obj) {b : Addr} {o : Obj}, h.get? b = some o → (h.push q).get? b = some o := fun h q {b o} e => Heap.get?_push_of_some _ e
  refine raiseNew_hot ⟨hh, o1, vs1, k1 _ _ (k1 _ _ g0), d1, c1⟩ (Nat.ne_of_lt (Heap.lt_size (k1 _ _ g0))) (Heap.get?_push_size _ rfl) rfl (by first | (simp; done) | (simp; omega) | (simp only [Array.size_append]; simp; omega)) ?_
  refine wpAny_bind (wpAny_isInstance (T := "StopIteration") (b := true) ⟨_, Heap.get?_update_self _ (Heap.get?_push_size _ rfl) rfl, rfl⟩ isSubtype_stop ?_)
  refine wpAny_pure (hQ _ fun b o hb e => ?_)
  have e0 := (Heap.get?_update_other s.heap (Obj.mapFields (·.setIfInBounds 0 .none)) (Ne.symm hb)).trans e
  rw [Heap.get?_update_other _ _ (Nat.ne_of_gt (Heap.lt_size (k1 _ _ e0)))]
  exact k1 _ _ (k1 _ _ e0)
end
theorem turn_listH {P : Program} {w : World} {K : PySem.W.Frag} {tg : Expr} (a it : Addr) : TurnH P w K tg (Itl K a) [it] it (fun i h => h.IsListIter it a i) where
  mem := by simp
  obj := (turn_list (P := P) (w := w) (K := K) (tg := tg) a it).obj
  keep := (turn_list (P := P) (w := w) (K := K) (tg := tg) a it).keep
  item := by
    intro X hP hw hK hc i pins s σ H E I hf st hg
    subst hP hw hK
    obtain ⟨xs, x, hq, hx⟩ := hg
    obtain ⟨its, rv, p, hz⟩ := I.list hq
    obtain ⟨u, hu, ru⟩ := rv.get hx
    obtain ⟨f0, f1, f2, f3, f4, f5⟩ := hf it (by simp)
    refine wpAny_pyNext_list_item st p.isList (x := u) (by simpa using hu) fun h' st' sb => ?_
    have J : Inv X pins σ H { s with heap := h' } := I.turned (t' := s.toks) (fun b o hb e => (sb.2 b hb).trans e) f0 f1 f3 f4 f5
    obtain ⟨o, e, c, d⟩ := id st'
    exact ⟨u, rfl, go_of (s := { s with heap := h' }) e c d (by decide) ⟨x, H, J, ru, ⟨rfl, fun ys hy => by rw [I.list_inj hy hq]; exact hx⟩, st', fun b hb => (hf b hb).1⟩⟩
  done := by
    intro X hP hw hK hc i pins s σ H E I hf st hg
    subst hP hw hK
    obtain ⟨xs, hq, hx⟩ := hg
    obtain ⟨its, rv, p, hz⟩ := I.list hq
    obtain ⟨f0, f1, f2, f3, f4, f5⟩ := hf it (by simp)
    have hl := rv.length
    obtain ⟨p1, ⟨hh, v1, e1, c1⟩, hp⟩ := hc
    have hp' := List.mem_append_left pins hp
    exact list_end_hot (x1 := p1.1) ⟨hh, p1.2, v1, (I.pin p1 hp').1, e1, c1⟩ (f5 p1 hp') st p.isList (by simp; omega) fun h' eb => ⟨rfl, I.turned (t' := s.toks) eb f0 f1 f3 f4 f5⟩
  self := (turn_list (P := P) (w := w) (K := K) (tg := tg) a it).self

theorem turn_tupleH {P : Program} {w : World} {K : PySem.W.Frag} {tg : Expr} (a it : Addr) : TurnH P w K tg (Itt K a) [it] it (fun i h => h.IsTupleIter it a i) where
  mem := by simp
  obj := (turn_tuple (P := P) (w := w) (K := K) (tg := tg) a it).obj
  keep := (turn_tuple (P := P) (w := w) (K := K) (tg := tg) a it).keep
  item := by
    intro X hP hw hK hc i pins s σ H E I hf st hg
    subst hP hw hK
    obtain ⟨xs, x, hq, hx⟩ := hg
    obtain ⟨its, rv, p, hz⟩ := I.tuple hq
    obtain ⟨u, hu, ru⟩ := rv.get hx
    obtain ⟨f0, f1, f2, f3, f4, f5⟩ := hf it (by simp)
    refine wpAny_pyNext_tuple_item st (show s.heap.IsTuple a its.toArray from p) (x := u) (by simpa using hu) fun h' st' sb => ?_
    have J : Inv X pins σ H { s with heap := h' } := I.turned (t' := s.toks) (fun b o hb e => (sb.2 b hb).trans e) f0 f1 f3 f4 f5
    obtain ⟨o, e, c, d⟩ := id st'
    exact ⟨u, rfl, go_of (s := { s with heap := h' }) e c d (by decide) ⟨x, H, J, ru, ⟨rfl, fun ys hy => by rw [I.tuple_inj hy hq]; exact hx⟩, st', fun b hb => (hf b hb).1⟩⟩
  done := by
    intro X hP hw hK hc i pins s σ H E I hf st hg
    subst hP hw hK
    obtain ⟨xs, hq, hx⟩ := hg
    obtain ⟨its, rv, p, hz⟩ := I.tuple hq
    obtain ⟨f0, f1, f2, f3, f4, f5⟩ := hf it (by simp)
    have hl := rv.length
    obtain ⟨p1, ⟨hh, v1, e1, c1⟩, hp⟩ := hc
    have hp' := List.mem_append_left pins hp
    exact tuple_end_hot (x1 := p1.1) ⟨hh, p1.2, v1, (I.pin p1 hp').1, e1, c1⟩ (f5 p1 hp') st (show s.heap.IsTuple a its.toArray from p) (by simp; omega) fun h' eb => ⟨rfl, I.turned (t' := s.toks) eb f0 f1 f3 f4 f5⟩
  self := (turn_tuple (P := P) (w := w) (K := K) (tg := tg) a it).self

/-! ### an iterator for both -/
def PIEC (X : Cx) (pins : List (Addr × Obj)) (σ : St) (tg : Expr) (R : It → Hp → Prop) (itv : Value) (s2 : Shared) : Prop :=
  ∃ (it : Addr) (fp : List Addr) (tn : Nat → Heap → Prop) (J : It) (H' : Hp), itv = .ref it ∧ Inv X pins σ H' s2 ∧ (Turn X.prog X.w X.K tg J fp it tn ∧ (X.calm = false → TurnH X.prog X.w X.K tg J fp it tn)) ∧ tn 0 s2.heap ∧ (∀ b ∈ fp, FpOk X pins H' b) ∧ R J H'
structure PIC (X : Cx) (tg iter : Expr) (wi : TI) : Prop where
  run : ∀ (pins : List (Addr × Obj)) (s : Shared) (σ : St) (H : Hp) (R : It → Hp → Prop), Inv X pins σ H s → wi σ H R →
    wpAny (model X.prog X.w) X.A (eval iter X.env) (fun v s1 => wpAny (model X.prog X.w) X.A (pyIter v) (PIEC X pins σ tg R) X.xe s1) X.xe s
section
variable {X : Cx} {tg iter : Expr} {wi : TI}
theorem PIC.calm (h : PIC X tg iter wi) : PI X tg iter wi := ⟨fun pins s σ H R I q => thn (h.run pins s σ H R I q) fun v s1 x => thn x fun u s2 ⟨it, fp, tn, J, H', e, J2, T, st, f, r⟩ => ⟨it, fp, tn, J, H', e, J2, T.1, st, f, r⟩⟩
theorem PIC.hot (h : PIC X tg iter wi) (hc : X.calm = false) : PIH X tg iter wi := ⟨fun pins s σ H R I q => thn (h.run pins s σ H R I q) fun v s1 x => thn x fun u s2 ⟨it, fp, tn, J, H', e, J2, T, st, f, r⟩ => ⟨it, fp, tn, J, H', e, J2, T.2 hc, st, f, r⟩⟩
theorem pi_listC {l : Expr} {tl : TE} (hl : PE X l tl) : PIC X tg l (iList X.K tl) := by
  refine ⟨fun pins s σ H R I h => ?_⟩
  refine thn (hl.run pins s σ H _ I h) fun v s1 ⟨x, H1, I1, r1, q1⟩ => ?_
  obtain ⟨a, e, ⟨xs, hq⟩, q⟩ := q1
  subst e
  cases r1
  obtain ⟨its, rv, p, hz⟩ := I1.list hq
  refine wpAny_pyIter_list p.isList ?_
  refine ⟨s1.heap.objs.size, [s1.heap.objs.size], _, _, H1, rfl, I1.kept (t' := s1.toks) fun b o e => Heap.get?_push_of_some _ e, ⟨turn_list a _, fun _ => turn_listH a _⟩, ⟨_, Heap.get?_push_size _ rfl, rfl, rfl⟩, fun b hb => ?_, q⟩
  have e : b = s1.heap.objs.size := by simpa using hb
  subst e
  exact I1.fpOk (Nat.le_refl _) (I1.hok.fresh (Nat.le_refl _))
theorem pi_tupC {l : Expr} {tl : TE} (hl : PE X l tl) : PIC X tg l (iTup X.K tl) := by
  refine ⟨fun pins s σ H R I h => ?_⟩
  refine thn (hl.run pins s σ H _ I h) fun v s1 ⟨x, H1, I1, r1, q1⟩ => ?_
  obtain ⟨a, e, ⟨xs, hq⟩, q⟩ := q1
  subst e
  cases r1
  obtain ⟨its, rv, p, hz⟩ := I1.tuple hq
  refine wpAny_pyIter_tuple (show s1.heap.IsTuple a its.toArray from p) ?_
  refine ⟨s1.heap.objs.size, [s1.heap.objs.size], _, _, H1, rfl, I1.kept (t' := s1.toks) fun b o e => Heap.get?_push_of_some _ e, ⟨turn_tuple a _, fun _ => turn_tupleH a _⟩, ⟨_, Heap.get?_push_size _ rfl, rfl, rfl⟩, fun b hb => ?_, q⟩
  have e : b = s1.heap.objs.size := by simpa using hb
  subst e
  exact I1.fpOk (Nat.le_refl _) (I1.hok.fresh (Nat.le_refl _))
/-- a range object just made -/
theorem range_itC {pins : List (Addr × Obj)} {σ : St} {H : Hp} {s : Shared} {R : It → Hp → Prop} {E : Value → Shared → Prop} {lo hi : Int} {t u v : Tok} {tk : Nat} (I : Inv X pins σ H s) (h1 : -(2 ^ 62) ≤ lo) (h2 : lo < 2 ^ 62) (h3 : -(2 ^ 62) ≤ hi) (h4 : hi < 2 ^ 62)
    (q : R (Itr lo (hi - lo).toNat) H) : wpAny (model X.prog X.w) X.A (pyIter (.ref s.heap.objs.size)) (PIEC X pins σ tg R) E { s with heap := s.heap.push { cls := .type "range", data := .fields #[.int lo t, .int hi u, .int 1 v] }, toks := tk } := by
  refine wpAny_pyIter_range (IsRange.new ..) (small_one h1 h2 h3 h4) ?_
  have J : Inv X pins σ H { s with heap := s.heap.push { cls := .type "range", data := .fields #[.int lo t, .int hi u, .int 1 v] }, toks := tk } := I.kept fun b o e => Heap.get?_push_of_some _ e
  refine ⟨(s.heap.push { cls := .type "range", data := .fields #[.int lo t, .int hi u, .int 1 v] }).objs.size, [(s.heap.push { cls := .type "range", data := .fields #[.int lo t, .int hi u, .int 1 v] }).objs.size], _, _, H, rfl,
    J.kept (t' := tk) fun b o e => Heap.get?_push_of_some _ e, ⟨turn_range _ lo (hi - lo).toNat, fun _ => turn_rangeH _ lo (hi - lo).toNat⟩, ?_, fun b hb => ?_, q⟩
  · have e1 : lo + ((0 : Nat) : Int) * 1 = lo := by simp
    have e2 : (((hi - lo).toNat : Nat) : Int) - ((0 : Nat) : Int) = Builtin.Range.rangeSize lo hi 1 := by rw [rangeSize_one]; split <;> omega
    show IsRangeIter _ _ (lo + ((0 : Nat) : Int) * 1) ((((hi - lo).toNat : Nat) : Int) - ((0 : Nat) : Int)) 1
    rw [e1, e2]
    exact Heap.get?_push_size _ rfl
  · have e : b = (s.heap.push { cls := .type "range", data := .fields #[.int lo t, .int hi u, .int 1 v] }).objs.size := by simpa using hb
    subst e
    exact J.fpOk (Nat.le_refl _) (J.hok.fresh (Nat.le_refl _))
theorem pi_range1C {a : Expr} {ta : TA} {p pos : Pos} (hg : Gl X "range") (hm : X.mg "range" = none) (ha : PA X [a] ta) (hs : starEach [a] X.env = [(false, eval a X.env)] := by rfl) : PIC X tg (.Call (.Name "range" p) [a] [] pos) (iRng1 ta) := by
  refine ⟨fun pins s σ H R I h => Call_ (ld_blt I hg hm boot_range (PyProof.Rows.callWith_type1 (thn (ha.run pos pins s σ H _ I h) fun us s1 ⟨vs, H1, I1, r1, q1⟩ => ?_) hs rfl))⟩
  obtain ⟨j, e, q1, q2, q⟩ := q1
  subst e
  cases r1 with
  | cons r rr =>
    cases rr
    obtain ⟨t, rfl⟩ := r
    exact call_range_1 (range_itC I1 (by omega) (by omega) q1 q2 (by simpa using q))
theorem pi_range2C {a b : Expr} {ta : TA} {p pos : Pos} (hg : Gl X "range") (hm : X.mg "range" = none) (ha : PA X [a, b] ta) (hs : starEach [a, b] X.env = [(false, eval a X.env), (false, eval b X.env)] := by rfl) (hs2 : starEach [b] X.env = [(false, eval b X.env)] := by rfl) :
    PIC X tg (.Call (.Name "range" p) [a, b] [] pos) (iRng2 ta) := by
  refine ⟨fun pins s σ H R I h => Call_ (ld_blt I hg hm boot_range (PyProof.Rows.callWith_type1 (thn (ha.run pos pins s σ H _ I h) fun us s1 ⟨vs, H1, I1, r1, q1⟩ => ?_) (by rw [hs, hs2]) (by rw [hs2]; rfl)))⟩
  obtain ⟨i, j, e, ⟨q1, q2, q3, q4⟩, q⟩ := q1
  subst e
  cases r1 with
  | cons r rr =>
    cases rr with
    | cons r' rr =>
      cases rr
      obtain ⟨t, rfl⟩ := r
      obtain ⟨t', rfl⟩ := r'
      exact call_range_2 (range_itC I1 q1 q2 q3 q4 q)
theorem HotC.uncalm (h : Cool X) : X.calm = true ∨ (X.calm = false ∧ HotC X) := by
  rcases h with h | h
  · exact .inl h
  · cases e : X.calm with
    | true => exact .inl rfl
    | false => exact .inr ⟨rfl, h⟩
theorem ps_forC {body : List Stmt} {g : TG} {tb : TS} {pos : Pos} (hp : PassesOwn (model X.prog X.w) X.A X.env X.xe) (hc : Cool X) (hi : PIC X tg iter wi) (hg : PG X tg g) (hb : PSs X body tb)
    (hs : ∀ x, foldedSetIterable iter X.env x = pure x := by intro _; rfl) : PS X (.For tg iter body [] pos) (tFor wi g tb) := by
  rcases HotC.uncalm hc with h | ⟨h, h'⟩
  · exact ps_for hp h hi.calm hg hb hs
  · exact ps_forH hp h' (hi.hot h) hg hb hs
/-- a comprehension's block that bears the pins of the code around it -/
abbrev Cx.blkC (X : Cx) (s : Shared) (H : Hp) (scope : Scope) (cenv : Env) (fp : List Addr) : Cx := { X.blk s H scope cenv fp with pn := X.pn }
theorem TurnH.of {P : Program} {w : World} {K : PySem.W.Frag} {J : It} {fp : List Addr} {it : Addr} {tn : Nat → Heap → Prop} (T : Turn P w K tg J fp it tn ∧ (X.calm = false → TurnH P w K tg J fp it tn)) (hc : Cool X) (Y : Cx) (hP : Y.prog = P) (hw : Y.w = w) (hK : Y.K = K) (hy : Y.calm = X.calm) (hA : Y.A = X.A) (hn : Y.pn = X.pn) {i : Nat} {pins : List (Addr × Obj)} {s : Shared} {σ : St} {H : Hp} {E : Value → Shared → Prop} (I : Inv Y pins σ H s) (hf : ∀ b ∈ fp, FpOk Y pins H b) (st : tn i s.heap) :
    (J.stop i H → wpAny (model P w) Y.A (pyNext (.ref it)) (fun r s1 => r = none ∧ Inv Y pins σ H s1) E s) ∧
    (J.go i H → wpAny (model P w) Y.A (pyNext (.ref it)) (fun r s1 => ∃ u, r = some u ∧
      wpAny (model P w) Y.A (letOwnedTupleGo tg (.ref it) u) (fun _ s2 => ∃ x H', Inv Y pins σ H' s2 ∧ RelV x u ∧ J.yld i H x H' ∧ tn (i + 1) s2.heap ∧ ∀ b ∈ fp, H' b = none) E s1) E s) := by
  rcases HotC.uncalm hc with h | ⟨h, h'⟩
  · exact ⟨T.1.done Y hP hw hK (hy.trans h) i pins s σ H E I hf st, T.1.item Y hP hw hK (hy.trans h) i pins s σ H E I hf st⟩
  · have hot : HotC Y := by
      obtain ⟨p, a, b⟩ := h'
      exact ⟨p, by rw [hA]; exact a, by rw [hn]; exact b⟩
    exact ⟨(T.2 h).done Y hP hw hK hot i pins s σ H E I hf st, (T.2 h).item Y hP hw hK hot i pins s σ H E I hf st⟩
theorem lc_coreC {pins : List (Addr × Obj)} {s : Shared} {σ : St} {H : Hp} {Q : VK} {elt : Expr} {ifs : List Expr} {scope : Scope} {own : List (Str × Nat)} {pos pos' : Pos} {g : TG} {tt : TT} {te : TE} {use : Option (Value → Sem Unit)} {Qf : Value → Shared → Prop}
    (hc : Cool X) (hN : X.N.Nodup) (I : Inv X pins σ H s) (hi : PIC X tg iter wi) (ok : BlkOk X.N X.env.scope scope own)
    (hg : ∀ (s : Shared) (H : Hp) (C : Addr) (cl : List (Str × Addr)) (fp : List Addr), PG (X.blkC s H scope (compEnvC scope cl C X.env) fp) tg g) (ht : ∀ (s : Shared) (H : Hp) (C : Addr) (cl : List (Str × Addr)) (fp : List Addr), PTs (X.blkC s H scope (compEnvC scope cl C X.env) fp) ifs tt)
    (he : ∀ (s : Shared) (H : Hp) (C : Addr) (cl : List (Str × Addr)) (fp : List Addr), PE (X.blkC s H scope (compEnvC scope cl C X.env) fp) elt te) (hs : ∀ x, foldedSetIterable iter X.env x = pure x)
    (h : tLc wi g tt te (own.map (·.2)) σ H Q)
    (hRR : ∀ D C s' m H', Inv X pins σ H' s' → Q (.ref D) H' → s'.heap.Ns C m → FpOk X pins H' C → compPost (model X.prog X.w) X.A X.xe use Qf (.ref D) C (.ok .next) s') :
    wpAny (model X.prog X.w) X.A (comprehension (.ListComp elt [⟨tg, iter, ifs, 0⟩] scope pos) scope X.env pos' (newList []) false (eval iter X.env) use) Qf X.xe s := by
  have hfree : ∀ y ∈ scope.names, y.2 = .free → ∃ c, X.env.cells.lookup y.1 = some c := fun y hy e => (ok.free y hy e).elim (fun k => I.ok.has _ (.inl k)) fun k => I.ok.has _ (.inr k)
  refine wpAny_comprehension_free (use := use) rfl hs (closure_ok hfree) ok.kind (fun y hy e => by rw [ok.uniq y hy, e]) (thn (hi.run pins s σ H _ I h) fun xv s1 hx => thn hx fun itv s2 h2 => ?_)
  obtain ⟨it, fp, tn, J, H2, e, I2, T, st2, f2, q⟩ := h2
  subst e
  refine wpAny_newObj_type (newEnv_comp ?_) (by show 0 ≤ sizeLine; decide)
  generalize hD : s2.heap.objs.size = D
  obtain ⟨W, ⟨m0, w0⟩, turn⟩ := q D (I2.hok.fresh (Nat.le_of_eq hD))
  -- the list that grows
  generalize hs3 : ({ s2 with heap := s2.heap.push { cls := .type "list", data := .seq ([] : List Value).toArray } } : Shared) = s3
  have I3 : Inv X pins σ (upd H2 D (.lst [])) s3 := by
    rw [← hs3]
    refine I2.laid (t' := s2.toks) (fun b o e => Heap.get?_push_of_some _ e) (Nat.le_of_eq hD) ⟨Nat.zero_le _, [], 0, .nil, ?_⟩
    rw [← hD]
    exact Heap.get?_push_size _ rfl
  have h3 : s3.heap = s2.heap.push { cls := .type "list", data := .seq ([] : List Value).toArray } := by rw [← hs3]
  have f3 : ∀ b ∈ fp, FpOk X pins (upd H2 D (.lst [])) b ∧ b < s3.heap.objs.size := fun b hb => by
    obtain ⟨o, e, _⟩ := T.1.obj _ _ st2 b hb
    have hlt := Heap.lt_size e
    exact ⟨⟨(upd_ne (by rw [← hD]; exact Nat.ne_of_lt hlt)).trans (f2 b hb).1, (f2 b hb).2⟩, by rw [h3, Heap.size_push]; exact Nat.lt_succ_of_lt hlt⟩
  have st3 : tn 0 s3.heap := T.1.keep _ _ _ st2 fun b _ o e => by rw [h3]; exact Heap.get?_push_of_some _ e
  have I4' := block_start I3 ok hN f3
  have pg := hg s3 (upd H2 D (.lst [])) s3.heap.objs.size (cellsFrom (s3.heap.objs.size + 1) scope.names (cloFrom X.env.cells scope.names [])) fp
  have pt := ht s3 (upd H2 D (.lst [])) s3.heap.objs.size (cellsFrom (s3.heap.objs.size + 1) scope.names (cloFrom X.env.cells scope.names [])) fp
  have pe := he s3 (upd H2 D (.lst [])) s3.heap.objs.size (cellsFrom (s3.heap.objs.size + 1) scope.names (cloFrom X.env.cells scope.names [])) fp
  show codeAny _ _ (.compStart (.ListComp elt [⟨tg, iter, ifs, 0⟩] scope pos) 0 (.ref it) (.ref D) (compEnvC scope (cellsFrom (s3.heap.objs.size + 1) scope.names (cloFrom X.env.cells scope.names [])) s3.heap.objs.size X.env)) (compPost (model X.prog X.w) X.A X.xe use Qf (.ref D) s3.heap.objs.size) { s3 with heap := pushCells (s3.heap.push { cls := .type "dict", data := .dict #[] }) scope.names }
  have nfp : ∀ b ∈ fp, (upd H2 D (.lst [])) b = none := fun b hb => (f3 b hb).1.1
  generalize hce : compEnvC scope (cellsFrom (s3.heap.objs.size + 1) scope.names (cloFrom X.env.cells scope.names [])) s3.heap.objs.size X.env = ce at I4' pg pt pe ⊢
  have cL : ce.locals = s3.heap.objs.size := by subst hce; rfl
  generalize hH3 : upd H2 D (.lst []) = H3 at I3 I4' pg pt pe w0 nfp f3
  have keep4 : ∀ b o, s3.heap.get? b = some o → (pushCells (s3.heap.push { cls := .type "dict", data := .dict #[] }) scope.names).get? b = some o := fun b o e => pushCells_keeps _ _ _ _ (Heap.get?_push_of_some _ e)
  generalize hs4 : ({ s3 with heap := pushCells (s3.heap.push { cls := .type "dict", data := .dict #[] }) scope.names } : Shared) = s4 at I4' ⊢
  have keep4' : ∀ b o, s3.heap.get? b = some o → s4.heap.get? b = some o := by rw [← hs4]; exact keep4
  have I4 : Inv (X.blkC s3 H3 scope ce fp) [] (wipe σ (own.map (·.2))) H3 s4 := by
    refine ⟨⟨I4'.ok.mod, I4'.ok.kind, I4'.ok.glob, I4'.ok.blt, I4'.ok.above, I4'.ok.inj, I4'.ok.has, I4'.ok.cab, I4'.ok.hd, I4'.ok.frames, I4'.ok.stk, I4'.ok.exf, I4'.ok.bs, I4'.ok.bsz, I4'.ok.noex, I4'.ok.exfs, I4'.ok.funs, I4'.ok.frf⟩, I4'.os, I4'.bare, I4'.base, I4'.loc, I4'.cell, I4'.free, I4'.freeC, fun p hp => ?_, I4'.hok, I4'.len⟩
    have hp' : p ∈ X.pn := by simpa using hp
    obtain ⟨e, n, l, f, c⟩ := I3.pin p (List.mem_append_left _ hp')
    exact ⟨keep4' _ _ e, n, fun z => Nat.ne_of_lt (Heap.lt_size e) (z.trans cL), fun hm => (List.mem_cons.mp (I3.stkSub p.1 hm)).elim l f, c⟩
  have st4 : tn 0 s4.heap := T.1.keep _ _ _ st3 fun b _ o e => keep4' b o e
  have stat : ∀ {σ' : St} {H' : Hp} {s' : Shared}, Inv (X.blkC s3 H3 scope ce fp) [] σ' H' s' → (∀ b ∈ fp, H' b = none) → ∀ b ∈ fp, FpOk (X.blkC s3 H3 scope ce fp) [] H' b := fun {σ' H' s'} I' hn b hb =>
    ⟨hn b hb, (I'.ok.exf b hb).1, I'.ok.exfs b hb, .inl hb, fun x c e => (I'.ok.exf b hb).2 x c e, fun p hp => (f3 b hb).1.2.2.2.2.2 p (List.mem_append_left _ (by simpa using hp))⟩
  have loop : codeAny (model X.prog X.w) X.A (.compLoop (.ListComp elt [⟨tg, iter, ifs, 0⟩] scope pos) 0 (.ref it) (.ref D) ce) (compPost (model X.prog X.w) X.A X.xe use Qf (.ref D) s3.heap.objs.size) s4 := by
    refine compLoop_any (fun n s' => ∃ i H', Inv (X.blkC s3 H3 scope ce fp) [] (wipe σ (own.map (·.2))) H' s' ∧ tn i s'.heap ∧ (∀ b ∈ fp, H' b = none) ∧ W i n H') ?_ m0 ⟨0, H3, I4, st4, nfp, w0⟩
    rintro n s5 ⟨i, H5, I5, st5, n5, w5⟩
    have both := TurnH.of (E := fun _ _ => False) T hc (X.blkC s3 H3 scope ce fp) rfl rfl rfl rfl rfl rfl I5 (stat I5 n5) st5
    rcases turn i n H5 w5 with ⟨stop, qq⟩ | ⟨go, Nx, hNx, step⟩
    · refine thnF (both.1 stop) fun r s6 ⟨hr, I6⟩ => ?_
      subst hr
      have nC : H5 s3.heap.objs.size = none := by
        have z : H5 ce.locals = none := I6.free
        rw [cL] at z
        exact z
      obtain ⟨m, hn, _⟩ := I6.loc
      have hn : s6.heap.Ns ce.locals m := hn
      rw [cL] at hn
      exact hRR D s3.heap.objs.size s6 m H5 (I3.call' (ch := fp) I6.os I6.base I6.hok I6.bare fun b hb => ⟨(f3 b hb).1.2.2.2.1, (f3 b hb).1.2.1, (f3 b hb).1.2.2.2.2.1, (f3 b hb).1.2.2.2.2.2⟩) qq hn (I3.fpOk (Nat.le_refl _) nC)
    · refine thnF (both.2 go) fun r s6 ⟨u, hr, h6⟩ => ?_
      subst hr
      refine thnF h6 fun _ s7 ⟨x, H7, I7, r7, y7, st7, n7⟩ => ?_
      refine thnF (pg.run _ s7 _ H7 x u _ (I7.pinned (stat I7 n7) (T.1.obj _ _ st7)) r7 (step x H7 y7)) fun _ s8 ⟨σ8, H8, I8, hw8, q8⟩ => ?_
      refine thnF (pt.run _ s8 σ8 H8 _ I8 q8) fun b s9 ⟨H9, I9, q9⟩ => ?_
      have fin : ∀ {s' : Shared} {H' : Hp}, Inv (X.blkC s3 H3 scope ce fp) ([] ++ pinsAt fp s7.heap) σ8 H' s' → Nx H' → ∃ m, m < n ∧ ∃ i H', Inv (X.blkC s3 H3 scope ce fp) [] (wipe σ (own.map (·.2))) H' s' ∧ tn i s'.heap ∧ (∀ b ∈ fp, H' b = none) ∧ W i m H' := fun {s' H'} I' nx => by
        obtain ⟨m', hm, w'⟩ := hNx H' nx
        have pin' : ∀ b ∈ fp, ∀ o, s7.heap.get? b = some o → s'.heap.get? b = some o ∧ H' b = none := fun b hb o e =>
          let z := I'.pin (b, o) (List.mem_append_right _ (List.mem_append_right _ (mem_pinsAt hb e)))
          ⟨z.1, z.2.1⟩
        refine ⟨m', hm, i + 1, H', (I'.unpinned (pins := [])).weak (by rw [← hw8, wipe_length]) (fun j v e => ?_), T.1.keep _ _ _ st7 fun b hb o e => (pin' b hb o e).1, fun b hb => ?_, w'⟩
        · rw [← hw8] at e
          exact (wipe_some e).1
        · obtain ⟨o, e, _⟩ := T.1.obj _ _ st7 b hb
          exact (pin' b hb o e).2
      cases b with
      | false =>
        simp only [Bool.false_eq_true, if_false] at q9 ⊢
        exact fin I9 q9
      | true =>
        simp only [if_true] at q9 ⊢
        exact thnF (pe.run _ s9 σ8 H9 _ I9 q9) fun z s10 ⟨yv, H10, I10, r10, acc, hD10, hz10, nx⟩ => app_ok (X := X.blkC s3 H3 scope ce fp) I10 hD10 hz10 r10 fun s11 I11 => fin I11 nx
  exact codeAny_compStart_list loop (T.1.self X.A 0 _ _ _ st4 loop)
theorem pe_lcC {elt : Expr} {ifs : List Expr} {scope : Scope} {own : List (Str × Nat)} {pos : Pos} {g : TG} {tt : TT} {te : TE} (hc : Cool X) (hN : X.N.Nodup) (hi : PIC X tg iter wi) (ok : BlkOk X.N X.env.scope scope own)
    (hg : ∀ (s : Shared) (H : Hp) (C : Addr) (cl : List (Str × Addr)) (fp : List Addr), PG (X.blkC s H scope (compEnvC scope cl C X.env) fp) tg g) (ht : ∀ (s : Shared) (H : Hp) (C : Addr) (cl : List (Str × Addr)) (fp : List Addr), PTs (X.blkC s H scope (compEnvC scope cl C X.env) fp) ifs tt)
    (he : ∀ (s : Shared) (H : Hp) (C : Addr) (cl : List (Str × Addr)) (fp : List Addr), PE (X.blkC s H scope (compEnvC scope cl C X.env) fp) elt te) (hs : ∀ x, foldedSetIterable iter X.env x = pure x := by intro _; rfl) :
    PE X (.ListComp elt [⟨tg, iter, ifs, 0⟩] scope pos) (tLc wi g tt te (own.map (·.2))) := by
  refine ⟨fun pins s σ H Q I h => ?_⟩
  rw [eval_ListComp]
  exact lc_coreC hc hN I hi ok hg ht he hs h fun D C s' m H' I' q hn f => ⟨m, hn, fun h'' sb => ⟨.ref D, H', I'.turned (t' := s'.toks) (fun b o hb e => (sb.2 b hb).trans e) f.1 f.2.1 f.2.2.2.1 f.2.2.2.2.1 f.2.2.2.2.2, rfl, q⟩⟩
theorem ps_setLcC {i : Nat} {y : Str} {py : Pos} {elt : Expr} {ifs : List Expr} {scope : Scope} {own : List (Str × Nat)} {pos spos : Pos} {g : TG} {tt : TT} {te : TE} (hc : Cool X) (hN : X.N.Nodup) (hy : X.N[i]? = some y) (hyl : X.env.scope.names.lookup y = some .local)
    (hsw : swapsWith (.ListComp elt [⟨tg, iter, ifs, 0⟩] scope pos) (some (.Name y py)) spos.line X.env = pure true) (hi : PIC X tg iter wi) (ok : BlkOk X.N X.env.scope scope own)
    (hg : ∀ (s : Shared) (H : Hp) (C : Addr) (cl : List (Str × Addr)) (fp : List Addr), PG (X.blkC s H scope (compEnvC scope cl C X.env) fp) tg g) (ht : ∀ (s : Shared) (H : Hp) (C : Addr) (cl : List (Str × Addr)) (fp : List Addr), PTs (X.blkC s H scope (compEnvC scope cl C X.env) fp) ifs tt)
    (he : ∀ (s : Shared) (H : Hp) (C : Addr) (cl : List (Str × Addr)) (fp : List Addr), PE (X.blkC s H scope (compEnvC scope cl C X.env) fp) elt te) (hs : ∀ x, foldedSetIterable iter X.env x = pure x := by intro _; rfl) :
    PS X (.Assign [.Name y py] (.ListComp elt [⟨tg, iter, ifs, 0⟩] scope pos) spos) (tAsg (tLc wi g tt te (own.map (·.2))) (gName i)) := by
  refine ⟨fun pins s σ H D I h => ?_⟩
  rw [exec_Assign_Name_used _ _ _ _ hsw]
  refine wpAny_bind (wpAny_standAt (wpAny_bind ?_))
  show wpAny _ X.A (do let _ ← comprehension (.ListComp elt [⟨tg, iter, ifs, 0⟩] scope pos) scope X.env (firstIterPos [⟨tg, iter, ifs, 0⟩] pos) (newList []) false (eval iter X.env) (some (assign (.Name y py) X.env))) _ _ s
  have h : tLc wi g tt te (own.map (·.2)) σ H (fun x H1 => gName i x σ H1 D.nx) := h
  refine wpAny_bind (thn (lc_coreC (Qf := fun _ s' => SP X pins D .next s') hc hN I hi ok hg ht he hs h fun L C s' m H' I' q hn f => ?_) fun _ s' hq => wpAny_pure (wpAny_pure hq))
  show wpAny _ _ (assign (.Name y py) X.env (.ref L)) _ _ _
  refine wpAny_assign_Name (store_ok2 (v := V.ref L) I' hN hy (.inl hyl) rfl (fun s2 I2 ⟨a, sb, ha⟩ => ?_) (.inr hyl))
  have haC : C ≠ a := ha.elim (fun z => by rw [z]; exact f.2.1) fun z e => f.2.2.2.2.1 y a z e.symm
  exact ⟨m, hn.sameBut sb haC, fun h3 sb3 => ⟨_, H', I2.turned (t' := s2.toks) (fun b o hb e => (sb3.2 b hb).trans e) f.1 f.2.1 f.2.2.2.1 f.2.2.2.2.1 f.2.2.2.2.2, q⟩⟩
end
/-! ### several except clauses, with names or without -/
def unE (i : Nat) (D : Ends) : Ends := ⟨fun σ H => D.nx (σ.set i none) H, D.rt, fun σ H => D.bk (σ.set i none) H, fun σ H => D.ct (σ.set i none) H⟩
def tsAs (i : Nat) (ts : Addr → Value → Option Addr → TS) : Addr → Value → Option Addr → TS := fun a cls d D σ H => ts a cls d (unE i D) (σ.set i (some (.ref a))) H
inductive HdsN (X : Cx) : List ExceptHandler → List (Value × (Addr → Value → Option Addr → TS)) → Prop
  | nil : HdsN X [] []
  | only {x : Str} {c : Value} {ts : Addr → Value → Option Addr → TS} {b₀ : Stmt} {suite : List Stmt} {np pos' : Pos} {hds : List ExceptHandler} {l : List (Value × (Addr → Value → Option Addr → TS))} (hc : Names X x c)
      (hsu : ∀ (a : Addr) (oe : Obj) (cls : Value) (d : Option Addr) (pn : List (Addr × Obj)), L2N.Zn cls d oe → (∃ vs, oe.data = .fields vs) → PSs (X.suite a ((a, oe) :: pn)) (b₀ :: suite) (ts a cls d)) (r : HdsN X hds l) :
      HdsN X (.ExceptHandler (some (.Name x np)) none (b₀ :: suite) pos' :: hds) ((c, ts) :: l)
  | as_ {x n : Str} {i : Nat} {c : Value} {ts : Addr → Value → Option Addr → TS} {b₀ : Stmt} {suite : List Stmt} {np pos' : Pos} {hds : List ExceptHandler} {l : List (Value × (Addr → Value → Option Addr → TS))} (hN : X.N.Nodup) (hi : X.N[i]? = some n) (hln : X.env.kindOf n = some .local) (hc : Names X x c)
      (hsu : ∀ (a : Addr) (oe : Obj) (cls : Value) (d : Option Addr) (pn : List (Addr × Obj)), L2N.Zn cls d oe → (∃ vs, oe.data = .fields vs) → PSs (X.suite a ((a, oe) :: pn)) (b₀ :: suite) (ts a cls d)) (r : HdsN X hds l) :
      HdsN X (.ExceptHandler (some (.Name x np)) (some n) (b₀ :: suite) pos' :: hds) ((c, tsAs i ts) :: l)
section
variable {X : Cx} {body : List Stmt} {h₀ : ExceptHandler} {hds : List ExceptHandler} {l : List (Value × (Addr → Value → Option Addr → TS))} {pos : Pos} {tb : WX → TS} {Wout : WX}
theorem ps_try_manyN (hs : X.stack = X.env :: X.outer) (hf : X.env.frame = some X.env.locals) (tk : L2N.Takes X Wout)
    (hb : ∀ (W : WX) (pn : List (Addr × Obj)) (xe : Value → Shared → Prop), L2N.Takes (X.tr pn xe) W → PassesOwn (model X.prog X.w) X.A X.env xe → PSs (X.tr pn xe) body (tb W))
    (hh : HdsN X (h₀ :: hds) l) : PS X (.Try body (h₀ :: hds) [] [] pos) (fun D σ H => tb (wMany X.K Wout D l) D σ H) := by
  refine ⟨fun pins s σ H D I h => ?_⟩
  have ok := I.ok
  have hfr : X.A.frames = some (X.env :: X.outer) := by rw [ok.frames, hs]
  refine wpAny_Try_except ?_
  refine wpAny_mono ((hb (wMany X.K Wout D l) (X.pn ++ pins) (fun e s₁ => wpAny (model X.prog X.w) X.A (noteFrame e X.env) (fun _ s₂ => wpAny (model X.prog X.w) X.A (setFlight e none) (fun _ s₃ =>
    wpAny (model X.prog X.w) X.A (handleBy e X.env (h₀ :: hds)) (SP X pins D) X.xe s₃) X.xe s₂) X.xe s₁) (fun u s' xx => ?_) PassesOwn.looking).run [] s σ H D (I.toTry _) h) (fun f s1 hsp => ?_) (fun e s1 he => he)
  · -- the catch
    obtain ⟨a, B, sI, pins', σ', H', cls, d, rfl, J', nb, up, sky, na, os, ag, w⟩ := xx
    have J : Inv X pins σ' H' sI := J'.ofTry ok
    have sky' : Sky B (X.env :: X.outer) a (L2N.Zn cls d) X.env.locals s'.heap := by rw [← hs]; exact sky
    show wpAny (model X.prog X.w) X.A (noteFrame (.ref a) X.env) _ _ _
    refine L2N.Sky.land L2N.Zn.steady hfr hf sky' fun h3 fl3 up3 => ?_
    have J3 : Inv X pins σ' H' { s' with heap := h3 } := J.landed nb fl3.1 (up.trans up3) os ag
    obtain ⟨oe3, vs3, he3, hz3, hd3⟩ := fl3.there
    have notFr : ∀ {h : Heap} {o : Obj} {vs : Array Value}, h.FunFrames B (X.env :: X.outer) → h.get? a = some o → o.data = .fields vs → a ∉ frs (X.env :: X.outer) := fun {h o vs} ff e dd hm => by
      obtain ⟨_, o', e', hnf⟩ := ff.mem hm
      rw [e] at e'; cases e'
      exact hnf _ dd
    have nfr := notFr fl3.2.2.1 he3 hd3
    have nL : a ≠ X.env.locals := fun z => nfr (List.mem_filterMap.mpr ⟨X.env, List.mem_cons_self, by rw [hf, z]⟩)
    have nF : a ∉ X.fs := fun hm => by
      obtain ⟨e, he, q⟩ := List.mem_filterMap.mp hm
      exact nfr (List.mem_filterMap.mpr ⟨e, List.mem_cons_of_mem _ he, q⟩)
    have S3 := J3.suite he3 hd3 na nL nF
    have go : ∀ {hds' : List ExceptHandler} {l' : List (Value × (Addr → Value → Option Addr → TS))}, HdsN X hds' l' → wMany X.K Wout D l' cls d σ' H' →
        wpAny (model X.prog X.w) X.A (handleBy (.ref a) X.env hds') (SP X pins D) X.xe { s' with heap := h3 } := by
      intro hds' l' hk
      have LT : PySem.W.Looks (model X.prog X.w) h3 (typeOf (.ref a)) cls := fun A Q E s k q => wpAny_typeOf_ref (k _ _ he3) (by rw [hz3.1]; exact q)
      have test : ∀ {x : Str} {c : Value} {np : Pos}, Names X x c → ∀ {Q : Value → Shared → Prop} {E : Value → Shared → Prop}, Q c { s' with heap := h3 } → wpAny (model X.prog X.w) (X.A.mark (some (.ref a))) (eval (.Name x np) X.env) Q E { s' with heap := h3 } := fun {x c np} hc {Q E} q => by
        obtain ⟨hg, hdbg, hm | ⟨hm, hv, hnn⟩⟩ := hc
        · exact ld_glob (X := X.suite a ((a, oe3) :: (X.pn ++ pins))) S3 hg hm q hdbg
        · exact ld_blt (X := X.suite a ((a, oe3) :: (X.pn ++ pins))) S3 hg hm hv q hnn hdbg
      induction hk with
      | nil =>
        intro w
        refine wpAny_handleBy_nil ?_
        obtain ⟨k1, k2, k3, oe, vs, T, oT, ts', he, hz, hd, h1, hr⟩ := id fl3
        unfold PySem.passOn
        refine wpAny_bind (wpAny_field he hd h1 ?_)
        rw [if_neg (show ¬ ((Value.ref T == Value.none) = true) from by simp)]
        have fin : wpAny (model X.prog X.w) X.A (setFlight (.ref a) X.env.frame) (fun _ s4 => wpAny (model X.prog X.w) X.A (throw (.ref a) : Sem Flow) (SP X pins D) X.xe s4) X.xe { s' with heap := h3 } := by
          rw [hf]
          refine HandSPX.setFlight_upZ fl3 fun h4 hh4 up4 => wpAny_throw (tk _ _ ?_)
          exact ⟨a, B, sI, pins, σ', H', cls, d, rfl, J, nb, (up.trans up3).trans up4, .inr (.inr (by rw [hs]; exact hh4)), na, os, ag, w⟩
        first
          | exact wpAny_bind (wpAny_pure (wpAny_bind fin))
          | exact wpAny_bind fin
      | @only x c ts b₀ suite np pos' hds2 l2 hc hsu r ih =>
        intro w
        obtain ⟨b, hb1, hyes, hno⟩ := w
        refine wpAny_handleBy_cons (codeAny_handlers_test ?_) (by intro q; cases q)
        have LM := PySem.W.exm_one (M := model X.prog X.w) (J3.kIn) LT hb1
        refine test hc (LM.here ?_)
        cases b with
        | true =>
          refine codeAny_handlers_suite ?_
          refine HandSPX.lands_againZ fl3 fun h4 fl4 up4 => ?_
          have J4 : Inv X pins σ' H' { s' with heap := h4 } := J.landed nb fl4.1 ((up.trans up3).trans up4) os ag
          obtain ⟨oe4, vs4, he4, hz4, hd4⟩ := fl4.there
          have S4 := J4.suite he4 hd4 na nL nF
          refine wpAny_mono ((hsu a oe4 cls d (X.pn ++ pins) hz4 ⟨_, hd4⟩).run [] _ _ H' _ S4 (hyes rfl a na)) (fun f s6 hsp => ?_) (fun _ _ z => False.elim z)
          cases f with
          | next =>
            obtain ⟨σ6, H6, S6, q6⟩ := hsp
            exact ⟨_, _, S6.unsuite ok, q6⟩
          | brk =>
            obtain ⟨σ6, H6, S6, q6⟩ := hsp
            exact ⟨_, _, S6.unsuite ok, q6⟩
          | cont =>
            obtain ⟨σ6, H6, S6, q6⟩ := hsp
            exact ⟨_, _, S6.unsuite ok, q6⟩
          | ret u =>
            obtain ⟨v6, σ6, H6, S6, r6, q6⟩ := hsp
            exact ⟨_, _, _, S6.unsuite ok, r6, q6⟩
        | false =>
          show wpAny _ X.A (handleBy (.ref a) X.env hds2) _ _ _
          exact ih (hno rfl)
      | @as_ x n i c ts b₀ suite np pos' hds2 l2 hN hi hln hc hsu r ih =>
        intro w
        obtain ⟨b, hb1, hyes, hno⟩ := w
        have hloc : Loc X.env.scope n := .inl hln
        refine wpAny_handleBy_cons (codeAny_handlers_test ?_) (by intro q; cases q)
        have LM := PySem.W.exm_one (M := model X.prog X.w) (J3.kIn) LT hb1
        refine test hc (LM.here ?_)
        cases b with
        | true =>
          refine codeAny_handlers_suite_as ?_
          refine HandSPX.lands_againZ fl3 fun h4 fl4 up4 => ?_
          have J4 : Inv X pins σ' H' { s' with heap := h4 } := J.landed nb fl4.1 ((up.trans up3).trans up4) os ag
          obtain ⟨oe4, vs4, he4, hz4, hd4⟩ := fl4.there
          have S4 := J4.suite he4 hd4 na nL nF
          refine store_ok (X := X.suite a ((a, oe4) :: (X.pn ++ pins))) (v := .ref a) S4 hN hi hloc rfl (fun s5 S5 => ?_) (.inr hln)
          refine wpAny_mono ((hsu a oe4 cls d (X.pn ++ pins) hz4 ⟨_, hd4⟩).run [] s5 _ H' _ S5 (hyes rfl a na)) (fun f s6 hsp => ?_) (fun _ _ z => False.elim z)
          have end_ : ∀ {σ6 : St} {H6 : Hp} {Q : Shared → Prop}, Inv (X.suite a ((a, oe4) :: (X.pn ++ pins))) [] σ6 H6 s6 → (∀ s7, Inv X pins (σ6.set i none) H6 s7 → Q s7) →
              wpAny (model X.prog X.w) X.A (do bindName X.env n .none; unbindBehindTheSuite X.env n pos') (fun _ s7 => Q s7) X.xe s6 := fun {σ6 H6 Q} S6 hq => gone_ok (S6.unsuite ok) hN hi hln hq
          cases f with
          | next =>
            obtain ⟨σ6, H6, S6, q6⟩ := hsp
            exact end_ S6 fun s7 J7 => ⟨_, _, J7, q6⟩
          | brk =>
            obtain ⟨σ6, H6, S6, q6⟩ := hsp
            exact end_ S6 fun s7 J7 => ⟨_, _, J7, q6⟩
          | cont =>
            obtain ⟨σ6, H6, S6, q6⟩ := hsp
            exact end_ S6 fun s7 J7 => ⟨_, _, J7, q6⟩
          | ret u =>
            obtain ⟨v6, σ6, H6, S6, r6, q6⟩ := hsp
            exact end_ S6 fun s7 J7 => ⟨_, _, _, J7, r6, q6⟩
        | false =>
          show wpAny _ X.A (handleBy (.ref a) X.env hds2) _ _ _
          exact ih (hno rfl)
    exact go hh w
  · cases f with
    | next =>
      obtain ⟨σ', H', J', q⟩ := hsp
      exact wpAny_execs_nil ⟨σ', H', J'.ofTry ok, q⟩
    | brk =>
      obtain ⟨σ', H', J', q⟩ := hsp
      exact ⟨σ', H', J'.ofTry ok, q⟩
    | cont =>
      obtain ⟨σ', H', J', q⟩ := hsp
      exact ⟨σ', H', J'.ofTry ok, q⟩
    | ret u =>
      obtain ⟨v, σ', H', J', r, q⟩ := hsp
      exact ⟨v, σ', H', J'.ofTry ok, r, q⟩
end
end L2

namespace L2.Tr
open PySem PySem.Spec PyProof.Rows

/-! ### wishes: what must hold ahead of a piece of code -/
@[irreducible] def wE (X : Cx) (e : Expr) : TE := fun σ H Q => ∀ (pins : List (Addr × Obj)) (s : Shared), Inv X pins σ H s → wpAny (model X.prog X.w) X.A (eval e X.env) (EP X pins σ Q) X.xe s
theorem wE.mk {X : Cx} {e : Expr} {σ : St} {H : Hp} {Q : VK} (h : ∀ (pins : List (Addr × Obj)) (s : Shared), Inv X pins σ H s → wpAny (model X.prog X.w) X.A (eval e X.env) (EP X pins σ Q) X.xe s) : wE X e σ H Q := by unfold wE; exact h
theorem wE.out {X : Cx} {e : Expr} {σ : St} {H : Hp} {Q : VK} (h : wE X e σ H Q) : ∀ (pins : List (Addr × Obj)) (s : Shared), Inv X pins σ H s → wpAny (model X.prog X.w) X.A (eval e X.env) (EP X pins σ Q) X.xe s := by unfold wE at h; exact h
@[irreducible] def wT (X : Cx) (e : Expr) : TT := fun σ H Q => ∀ (pins : List (Addr × Obj)) (s : Shared), Inv X pins σ H s → wpAny (model X.prog X.w) X.A (isTrue e X.env (eval e X.env)) (TP X pins σ Q) X.xe s
theorem wT.mk {X : Cx} {e : Expr} {σ : St} {H : Hp} {Q : Bool → Hp → Prop} (h : ∀ (pins : List (Addr × Obj)) (s : Shared), Inv X pins σ H s → wpAny (model X.prog X.w) X.A (isTrue e X.env (eval e X.env)) (TP X pins σ Q) X.xe s) : wT X e σ H Q := by unfold wT; exact h
theorem wT.out {X : Cx} {e : Expr} {σ : St} {H : Hp} {Q : Bool → Hp → Prop} (h : wT X e σ H Q) : ∀ (pins : List (Addr × Obj)) (s : Shared), Inv X pins σ H s → wpAny (model X.prog X.w) X.A (isTrue e X.env (eval e X.env)) (TP X pins σ Q) X.xe s := by unfold wT at h; exact h
@[irreducible] def wW (X : Cx) (e : Expr) : TT := fun σ H Q => ∀ (whole : Sem Value) (pins : List (Addr × Obj)) (s : Shared), Inv X pins σ H s → wpAny (model X.prog X.w) X.A (isTrue e X.env whole) (TP X pins σ Q) X.xe s
theorem wW.mk {X : Cx} {e : Expr} {σ : St} {H : Hp} {Q : Bool → Hp → Prop} (h : ∀ (whole : Sem Value) (pins : List (Addr × Obj)) (s : Shared), Inv X pins σ H s → wpAny (model X.prog X.w) X.A (isTrue e X.env whole) (TP X pins σ Q) X.xe s) : wW X e σ H Q := by unfold wW; exact h
theorem wW.out {X : Cx} {e : Expr} {σ : St} {H : Hp} {Q : Bool → Hp → Prop} (h : wW X e σ H Q) : ∀ (whole : Sem Value) (pins : List (Addr × Obj)) (s : Shared), Inv X pins σ H s → wpAny (model X.prog X.w) X.A (isTrue e X.env whole) (TP X pins σ Q) X.xe s := by unfold wW at h; exact h
@[irreducible] def wA (X : Cx) (es : List Expr) : TA := fun σ H Q => ∀ (pos : Pos) (pins : List (Addr × Obj)) (s : Shared), Inv X pins σ H s → wpAny (model X.prog X.w) X.A (spliced (backTo pos (starEach es X.env))) (AP X pins σ Q) X.xe s
theorem wA.mk {X : Cx} {es : List Expr} {σ : St} {H : Hp} {Q : List V → Hp → Prop} (h : ∀ (pos : Pos) (pins : List (Addr × Obj)) (s : Shared), Inv X pins σ H s → wpAny (model X.prog X.w) X.A (spliced (backTo pos (starEach es X.env))) (AP X pins σ Q) X.xe s) : wA X es σ H Q := by unfold wA; exact h
theorem wA.out {X : Cx} {es : List Expr} {σ : St} {H : Hp} {Q : List V → Hp → Prop} (h : wA X es σ H Q) : ∀ (pos : Pos) (pins : List (Addr × Obj)) (s : Shared), Inv X pins σ H s → wpAny (model X.prog X.w) X.A (spliced (backTo pos (starEach es X.env))) (AP X pins σ Q) X.xe s := by unfold wA at h; exact h
@[irreducible] def wS (X : Cx) (st : Stmt) : TS := fun D σ H => ∀ (pins : List (Addr × Obj)) (s : Shared), Inv X pins σ H s → wpAny (model X.prog X.w) X.A (exec st X.env) (SP X pins D) X.xe s
theorem wS.mk {X : Cx} {st : Stmt} {D : Ends} {σ : St} {H : Hp} (h : ∀ (pins : List (Addr × Obj)) (s : Shared), Inv X pins σ H s → wpAny (model X.prog X.w) X.A (exec st X.env) (SP X pins D) X.xe s) : wS X st D σ H := by unfold wS; exact h
theorem wS.out {X : Cx} {st : Stmt} {D : Ends} {σ : St} {H : Hp} (h : wS X st D σ H) : ∀ (pins : List (Addr × Obj)) (s : Shared), Inv X pins σ H s → wpAny (model X.prog X.w) X.A (exec st X.env) (SP X pins D) X.xe s := by unfold wS at h; exact h
@[irreducible] def wB (X : Cx) (st : List Stmt) : TS := fun D σ H => ∀ (pins : List (Addr × Obj)) (s : Shared), Inv X pins σ H s → wpAny (model X.prog X.w) X.A (execs st X.env) (SP X pins D) X.xe s
theorem wB.mk {X : Cx} {st : List Stmt} {D : Ends} {σ : St} {H : Hp} (h : ∀ (pins : List (Addr × Obj)) (s : Shared), Inv X pins σ H s → wpAny (model X.prog X.w) X.A (execs st X.env) (SP X pins D) X.xe s) : wB X st D σ H := by unfold wB; exact h
theorem wB.out {X : Cx} {st : List Stmt} {D : Ends} {σ : St} {H : Hp} (h : wB X st D σ H) : ∀ (pins : List (Addr × Obj)) (s : Shared), Inv X pins σ H s → wpAny (model X.prog X.w) X.A (execs st X.env) (SP X pins D) X.xe s := by unfold wB at h; exact h
def opW (X : Cx) (f : Value → Value → Sem Value) (σ : St) (x y : V) (H : Hp) (Q : VK) : Prop := ∀ (pins : List (Addr × Obj)) (s : Shared) (v u : Value), Inv X pins σ H s → RelV x v → RelV y u → wpAny (model X.prog X.w) X.A (f v u) (EP X pins σ Q) X.xe s
def unW (X : Cx) (f : Value → Sem Value) (σ : St) (x : V) (H : Hp) (Q : VK) : Prop := ∀ (pins : List (Addr × Obj)) (s : Shared) (v : Value), Inv X pins σ H s → RelV x v → wpAny (model X.prog X.w) X.A (f v) (EP X pins σ Q) X.xe s
def callW (X : Cx) (f : Value) (σ : St) (xs : List V) (H : Hp) (Q : VK) : Prop := ∀ (pins : List (Addr × Obj)) (s : Shared) (us : List Value), Inv X pins σ H s → Vals xs us → wpAny (model X.prog X.w) X.A (call f us) (EP X pins σ Q) X.xe s
def truW (X : Cx) (σ : St) (x : V) (H : Hp) (Q : Bool → Hp → Prop) : Prop := ∀ (pins : List (Addr × Obj)) (s : Shared) (v : Value), Inv X pins σ H s → RelV x v → wpAny (model X.prog X.w) X.A (truthy v) (TP X pins σ Q) X.xe s

instance {X : Cx} {e : Expr} {σ : St} {H : Hp} {Q : VK} : CoeFun (wE X e σ H Q) (fun _ => ∀ (pins : List (Addr × Obj)) (s : Shared), Inv X pins σ H s → wpAny (model X.prog X.w) X.A (eval e X.env) (EP X pins σ Q) X.xe s) := ⟨wE.out⟩
instance {X : Cx} {e : Expr} {σ : St} {H : Hp} {Q : Bool → Hp → Prop} : CoeFun (wT X e σ H Q) (fun _ => ∀ (pins : List (Addr × Obj)) (s : Shared), Inv X pins σ H s → wpAny (model X.prog X.w) X.A (isTrue e X.env (eval e X.env)) (TP X pins σ Q) X.xe s) := ⟨wT.out⟩
instance {X : Cx} {e : Expr} {σ : St} {H : Hp} {Q : Bool → Hp → Prop} : CoeFun (wW X e σ H Q) (fun _ => ∀ (whole : Sem Value) (pins : List (Addr × Obj)) (s : Shared), Inv X pins σ H s → wpAny (model X.prog X.w) X.A (isTrue e X.env whole) (TP X pins σ Q) X.xe s) := ⟨wW.out⟩
instance {X : Cx} {es : List Expr} {σ : St} {H : Hp} {Q : List V → Hp → Prop} : CoeFun (wA X es σ H Q) (fun _ => ∀ (pos : Pos) (pins : List (Addr × Obj)) (s : Shared), Inv X pins σ H s → wpAny (model X.prog X.w) X.A (spliced (backTo pos (starEach es X.env))) (AP X pins σ Q) X.xe s) := ⟨wA.out⟩
instance {X : Cx} {st : Stmt} {D : Ends} {σ : St} {H : Hp} : CoeFun (wS X st D σ H) (fun _ => ∀ (pins : List (Addr × Obj)) (s : Shared), Inv X pins σ H s → wpAny (model X.prog X.w) X.A (exec st X.env) (SP X pins D) X.xe s) := ⟨wS.out⟩
instance {X : Cx} {st : List Stmt} {D : Ends} {σ : St} {H : Hp} : CoeFun (wB X st D σ H) (fun _ => ∀ (pins : List (Addr × Obj)) (s : Shared), Inv X pins σ H s → wpAny (model X.prog X.w) X.A (execs st X.env) (SP X pins D) X.xe s) := ⟨wB.out⟩

section
variable {X : Cx} {e a b c o : Expr} {es : List Expr} {st : Stmt} {ss : List Stmt} {σ : St} {H : Hp} {Q : VK} {D : Ends} {x y v : V} {pos pos' : Pos} {n : Str}
theorem pe_W : PE X e (wE X e) := ⟨fun pins s _ _ _ I h => h.out pins s I⟩
theorem pt_W : PT X e (wT X e) := ⟨fun pins s _ _ _ I h => h.out pins s I⟩
theorem pw_W : PW X e (wW X e) := ⟨fun wh pins s _ _ _ I h => h.out wh pins s I⟩
theorem pa_W : PA X es (wA X es) := ⟨fun pos pins s _ _ _ I h => h.out pos pins s I⟩
theorem ps_W : PS X st (wS X st) := ⟨fun pins s _ _ _ I h => h.out pins s I⟩
theorem pss_W : PSs X ss (wB X ss) := ⟨fun pins s _ _ _ I h => h.out pins s I⟩
theorem PE.w {t : TE} (p : PE X e t) (h : t σ H Q) : wE X e σ H Q := wE.mk fun pins s I => p.run pins s σ H Q I h
theorem PT.w {t : TT} {Q : Bool → Hp → Prop} (p : PT X e t) (h : t σ H Q) : wT X e σ H Q := wT.mk fun pins s I => p.run pins s σ H Q I h
theorem PW.w {t : TT} {Q : Bool → Hp → Prop} (p : PW X e t) (h : t σ H Q) : wW X e σ H Q := wW.mk fun wh pins s I => p.run wh pins s σ H Q I h
theorem PA.w {t : TA} {Q : List V → Hp → Prop} (p : PA X es t) (h : t σ H Q) : wA X es σ H Q := wA.mk fun pos pins s I => p.run pos pins s σ H Q I h
theorem PS.w {t : TS} (p : PS X st t) (h : t D σ H) : wS X st D σ H := wS.mk fun pins s I => p.run pins s σ H D I h
theorem PSs.w {t : TS} (p : PSs X ss t) (h : t D σ H) : wB X ss D σ H := wB.mk fun pins s I => p.run pins s σ H D I h
theorem OpR.w {f : Value → Value → Sem Value} {r : R2} (o : OpR X f r) (h : r x y H Q) : opW X f σ x y H Q := fun pins s v u I rx ry => o pins s σ H x y v u Q I rx ry h
theorem UnR.w {f : Value → Sem Value} {r : V → Hp → VK → Prop} (o : UnR X f r) (h : r x H Q) : unW X f σ x H Q := fun pins s v I rx => o pins s σ H x v Q I rx h
theorem CallR.w {f : Value} {r : List V → Hp → VK → Prop} {xs : List V} (o : CallR X f r) (h : r xs H Q) : callW X f σ xs H Q := fun pins s us I rx => o pins s σ H xs us Q I rx h
theorem TruR.w {r : V → Hp → (Bool → Hp → Prop) → Prop} {Q : Bool → Hp → Prop} (o : TruR X r) (h : r x H Q) : truW X σ x H Q := fun pins s v I rx => o pins s σ H x v Q I rx h

/-! ### expressions -/
theorem w_var (i : Nat) (h : Q v H) (hs : σ[i]? = some (some v) := by rfl) (hN : X.N[i]? = some n := by rfl) (hv : Vis X.env.scope n := by first | exact Or.inl rfl | exact Or.inr (Or.inl rfl) | exact Or.inr (Or.inr rfl)) (hd : (n == ("__debug__" : Str)) = false := by decide)
    (hcd : (n == ("__classdict__" : Str)) = false := by decide) : wE X (.Name n pos) σ H Q := PE.w (pe_var hN hv hd hcd) ⟨v, hs, h⟩
theorem w_int {i : Int} {j} (h : Q (.int i) H) : wE X (.Constant (.int i) j pos) σ H Q := PE.w pe_int h
theorem w_bl {i : Bool} {j} (h : Q (.bl i) H) : wE X (.Constant (.bool i) j pos) σ H Q := PE.w pe_bl h
theorem w_str {i : Str} {j} (h : Q (.str i) H) : wE X (.Constant (.str i) j pos) σ H Q := PE.w pe_str h
theorem w_non {j} (h : Q .non H) : wE X (.Constant .none j pos) σ H Q := PE.w pe_non h
theorem w_bin {op : Operator} (h : wE X a σ H fun x H1 => wE X b σ H1 fun y H2 => opW X (binaryOp op) σ x y H2 Q) : wE X (.BinOp a op b pos) σ H Q := wE.mk fun pins s I =>
  wpAny_BinOp (thn (h.out pins s I) fun v s1 ⟨x, H1, I1, r1, q1⟩ => thn (q1.out pins s1 I1) fun u s2 ⟨y, H2, I2, r2, q2⟩ => q2 pins s2 v u I2 r1 r2)
theorem w_un {op : UnaryOp} (h : wE X a σ H fun x H1 => unW X (unaryOp op) σ x H1 Q) : wE X (.UnaryOp op a pos) σ H Q := wE.mk fun pins s I =>
  UnaryOp_ (thn (h.out pins s I) fun v s1 ⟨x, H1, I1, r1, q1⟩ => q1 pins s1 v I1 r1)
theorem w_cmp {op : CmpOp} (h : wE X a σ H fun x H1 => wE X b σ H1 fun y H2 => opW X (compareOp op) σ x y H2 Q) (hm : behindInMarks op b = false := by first | exact nomark _ | rfl) : wE X (.Compare a [op] [b] pos) σ H Q := wE.mk fun pins s I =>
  wpAny_Compare1 (thn (h.out pins s I) fun v s1 ⟨x, H1, I1, r1, q1⟩ => thn (q1.out pins s1 I1) fun u s2 ⟨y, H2, I2, r2, q2⟩ => q2 pins s2 v u I2 r1 r2) hm
/-- a test that is a comparison -/
theorem w_tcmp {op : CmpOp} {Q : Bool → Hp → Prop} (h : wE X a σ H fun x H1 => wE X b σ H1 fun y H2 => opW X (compareOp op) σ x y H2 fun z H3 => truW X σ z H3 Q) (hm : behindInMarks op b = false := by first | exact nomark _ | rfl) : wT X (.Compare a [op] [b] pos) σ H Q := wT.mk fun pins s I =>
  wpAny_isTrue_Compare1 (thn (h.out pins s I) fun v s1 ⟨x, H1, I1, r1, q1⟩ => thn (q1.out pins s1 I1) fun u s2 ⟨y, H2, I2, r2, q2⟩ => thn (q2 pins s2 v u I2 r1 r2) fun c s3 ⟨z, H3, I3, r3, q3⟩ => q3 pins s3 c I3 r3) hm
/-- a test of a plain form -/
theorem w_t {Q : Bool → Hp → Prop} (h : wE X e σ H fun x H1 => truW X σ x H1 Q) (he : ∀ whole, isTrue e X.env whole = (do let v ← whole; standAt e.pos; holding [v] (truthy v)) := by intro _; rfl) : wT X e σ H Q := wT.mk fun pins s I =>
  isTrue_plain (thn (h.out pins s I) fun v s1 ⟨x, H1, I1, r1, q1⟩ => q1 pins s1 v I1 r1) (he _)
theorem tru_bl {k : Bool} {Q : Bool → Hp → Prop} (h : Q k H) : truW X σ (.bl k) H Q := fun pins s v I r => by
  cases (show v = Value.bool k from r)
  exact wpAny_truthy_bool ⟨H, I, h⟩
theorem w_not {Q : Bool → Hp → Prop} (h : wT X a σ H fun k H1 => Q (!k) H1) : wT X (.UnaryOp .Not a pos) σ H Q := PT.w (pt_not pt_W) h
/-- not as a value -/
theorem w_notV (h : wE X a σ H fun x H1 => ∃ k, x = .bl k ∧ Q (.bl (!k)) H1) : wE X (.UnaryOp .Not a pos) σ H Q := PE.w (pe_not pe_W) h
/-! ### and, or as tests -/
theorem w_tbool {Q : Bool → Hp → Prop} {op} (h : wW X (.BoolOp op es pos) σ H Q) : wT X (.BoolOp op es pos) σ H Q := wT.mk fun pins s I => h.out _ pins s I
theorem w_and1 {Q : Bool → Hp → Prop} (h : wT X a σ H Q) : wW X (.BoolOp .And [a] pos) σ H Q := PW.w (pw_and1 pt_W) h
theorem w_or1 {Q : Bool → Hp → Prop} (h : wT X a σ H Q) : wW X (.BoolOp .Or [a] pos) σ H Q := PW.w (pw_or1 pt_W) h
theorem w_and {bs : List Expr} {Q : Bool → Hp → Prop} (h : wT X a σ H fun k H1 => if k = true then wW X (.BoolOp .And (b :: bs) pos) σ H1 Q else Q false H1) : wW X (.BoolOp .And (a :: b :: bs) pos) σ H Q := PW.w (pw_and pt_W pw_W) h
theorem w_or {bs : List Expr} {Q : Bool → Hp → Prop} (h : wT X a σ H fun k H1 => if k = true then Q true H1 else wW X (.BoolOp .Or (b :: bs) pos) σ H1 Q) : wW X (.BoolOp .Or (a :: b :: bs) pos) σ H Q := PW.w (pw_or pt_W pw_W) h
/-! ### and, or as values (bools) -/
theorem w_oneV {op} (h : wE X a σ H Q) : wE X (.BoolOp op [a] pos) σ H Q := PE.w (pe_one pe_W) h
theorem w_andV {bs : List Expr} (h : wE X a σ H fun x H1 => ∃ k, x = .bl k ∧ if k = true then wE X (.BoolOp .And (b :: bs) pos) σ H1 Q else Q (.bl false) H1) : wE X (.BoolOp .And (a :: b :: bs) pos) σ H Q := PE.w (pe_and pe_W pe_W) h
theorem w_orV {bs : List Expr} (h : wE X a σ H fun x H1 => ∃ k, x = .bl k ∧ if k = true then Q (.bl true) H1 else wE X (.BoolOp .Or (b :: bs) pos) σ H1 Q) : wE X (.BoolOp .Or (a :: b :: bs) pos) σ H Q := PE.w (pe_or pe_W pe_W) h
theorem w_ifx (h : wT X c σ H fun k H1 => if k = true then wE X a σ H1 Q else wE X b σ H1 Q) : wE X (.IfExp c a b pos) σ H Q := PE.w (pe_ifExp pt_W pe_W pe_W) h

/-! ### arguments, displays, calls -/
theorem w_nil {Q : List V → Hp → Prop} (h : Q [] H) : wA X [] σ H Q := PA.w pa_nil h
theorem w_cons {Q : List V → Hp → Prop} (h : wE X e σ H fun x H1 => wA X es σ H1 fun xs H2 => Q (x :: xs) H2) (hs : starEach (e :: es) X.env = (false, eval e X.env) :: starEach es X.env := by rfl) : wA X (e :: es) σ H Q := PA.w (pa_cons pe_W pa_W hs) h
theorem w_lst (h : wA X es σ H fun xs H1 => xs.length ≤ sizeLine ∧ ∀ p, H1 p = none → Q (.ref p) (upd H1 p (.lst xs))) : wE X (.List es pos) σ H Q := PE.w (pe_lst pa_W) h
theorem w_tup {x1} (h : wA X es σ H fun xs H1 => xs.length ≤ sizeLine ∧ ∀ p, H1 p = none → Q (.ref p) (upd H1 p (.tup xs))) : wE X (.Tuple es x1 pos) σ H Q := PE.w (pe_tup pa_W) h
theorem w_callB {id : String} (h : wA X (e :: es) σ H fun vs H1 => callW X (.builtin id) σ vs H1 Q) (hm : X.mg n = none) (hv : bootBuiltins n = some (.builtin id)) (hg : Gl X n := by rfl) (hn : n ≠ "__name__" := by decide) (hdb : (n == ("__debug__" : Str)) = false := by decide)
    (he : starEach (e :: es) X.env = (false, eval e X.env) :: starEach es X.env := by rfl) (hpl : (backTo pos (starEach es X.env)).any (·.1) = false := by rfl) : wE X (.Call (.Name n pos') (e :: es) [] pos) σ H Q := wE.mk fun pins s I =>
  wpAny_Call_Name_kw (ld_blt I hg hm hv (PyProof.Rows.callWith_builtin1 (thn (h.out pos pins s I) fun us s1 ⟨vs, H1, I1, r1, q1⟩ => q1 pins s1 us I1 r1) he hpl) hn hdb)
theorem w_callTy {T : String} (h : wA X (e :: es) σ H fun vs H1 => callW X (.type T) σ vs H1 Q) (hm : X.mg n = none) (hv : bootBuiltins n = some (.type T)) (hg : Gl X n := by rfl) (hn : n ≠ "__name__" := by decide) (hdb : (n == ("__debug__" : Str)) = false := by decide)
    (he : starEach (e :: es) X.env = (false, eval e X.env) :: starEach es X.env := by rfl) (hpl : (backTo pos (starEach es X.env)).any (·.1) = false := by rfl) : wE X (.Call (.Name n pos') (e :: es) [] pos) σ H Q := wE.mk fun pins s I =>
  wpAny_Call_Name_kw (ld_blt I hg hm hv (PyProof.Rows.callWith_type1 (thn (h.out pos pins s I) fun us s1 ⟨vs, H1, I1, r1, q1⟩ => q1 pins s1 us I1 r1) he hpl) hn hdb)
theorem w_bltn {u : Value} (h : Q v H) (hm : X.mg n = none) (hv : bootBuiltins n = some u) (r : RelV v u) (hg : Gl X n := by rfl) (hn : n ≠ "__name__" := by decide) (hd : (n == ("__debug__" : Str)) = false := by decide) : wE X (.Name n pos) σ H Q := PE.w (pe_bltn hg hm hv r hn hd) h
theorem w_glob {u : Value} (h : Q v H) (hm : X.mg n = some u) (r : RelV v u) (hg : Gl X n := by rfl) (hd : (n == ("__debug__" : Str)) = false := by decide) : wE X (.Name n pos) σ H Q := PE.w (pe_glob hg hm r hd) h

/-- the callee runs (a def, a class, a method with its self), the wish at these slots -/
theorem run_W {k : Nat} {f : Addr} {sp : Sp} {W : WX} {vs : List V} (F : FnR X.prog X.w X.K X.mg X.base (L2N.CX X.prog X.w) k f sp) (hr : Room k X.A) (tk : L2N.Takes X W) (h : sp vs H Q fun cls d H' => W cls d σ H') : callW X (.ref f) σ vs H Q := fun pins s us I r => by
  refine wpAny_call (codeAny_mono (F X.A X.stack s H us vs Q _ hr I.env0 r h) fun r s' hq => ?_)
  cases r with
  | error e => exact L2N.passAt tk σ pins H s e s' I hq
  | ok fl =>
    cases fl with
    | ret u => exact I.after hq
    | next => exact False.elim hq
    | brk => exact False.elim hq
    | cont => exact False.elim hq
/-- f(e, ..), C(e, ..) by a global name -/
theorem w_call {f : Addr} (h : wA X (e :: es) σ H fun vs H1 => callW X (.ref f) σ vs H1 Q) (hm : X.mg n = some (.ref f)) (hk : PySem.W.keepIn X.K (.ref f) = true) (hg : Gl X n := by rfl) (hdb : (n == ("__debug__" : Str)) = false := by decide)
    (he : starEach (e :: es) X.env = (false, eval e X.env) :: starEach es X.env := by rfl) (hpl : (backTo pos (starEach es X.env)).any (·.1) = false := by rfl) : wE X (.Call (.Name n pos') (e :: es) [] pos) σ H Q := wE.mk fun pins s I =>
  wpAny_Call_Name_kw (ld_glob I hg hm (PySem.W.callWith_K (h₀ := X.base) I.ok.mod.kin hk (thn (h.out pos pins s I) fun us s1 ⟨vs, H1, I1, r, q⟩ => ⟨I1.kIn, q pins s1 us I1 r⟩) he hpl) hdb)
/-- o.m(e, ..) -/
theorem w_meth {pl : Sem Bool} {m : Str} {C f : Addr} {apos : Pos} (h : wE X o σ H fun x H1 => ∃ a dx fs, x = .ref a ∧ H1 a = some (.ins C dx fs) ∧ fs.lookup m = none ∧ wA X (e :: es) σ H1 fun vs H2 => callW X (.ref f) σ (x :: vs) H2 Q) (c : Cls X.K C) (hm : Meth X.K C m f)
    (hst : starEach (e :: es) X.env = (false, eval e X.env) :: starEach es X.env := by rfl) (hpl : (backTo pos (starEach es X.env)).any (·.1) = false := by rfl)
    (ht : eval (.Call (.Attribute o m apos) (e :: es) [] pos) X.env = (do
      let ov ← eval o X.env
      standAt apos.atName
      let (f, first) ← holding [ov] (getMethod ov m pl)
      callWith pos f first (backTo pos (starEach (e :: es) X.env)) (backToKw pos (keywordEach [] X.env))) := by rfl) : wE X (.Call (.Attribute o m apos) (e :: es) [] pos) σ H Q := wE.mk fun pins s I => by
  refine PySem.W.methodCall_KW (pl := pl) (thn (h.out pins s I) fun u s1 ⟨x, H1, I1, rx, a, dx, fs, ex, ea, l, q⟩ => ?_) ht
  subst ex
  obtain rfl : u = Value.ref a := rx
  refine getmeth_ok I1 ea c hm l ?_
  exact PySem.W.callWith_K (first := [.ref a]) (h₀ := X.base) I.ok.mod.kin hm.kp (thn (q.out pos pins s1 I1) fun us s2 ⟨vs, H2, I2, r, q2⟩ => ⟨I2.kIn, q2 pins s2 (.ref a :: us) I2 (.cons rfl r)⟩) hst hpl
theorem w_meth0 {pl : Sem Bool} {m : Str} {C f : Addr} {apos : Pos} (h : wE X o σ H fun x H1 => ∃ a dx fs, x = .ref a ∧ H1 a = some (.ins C dx fs) ∧ fs.lookup m = none ∧ callW X (.ref f) σ [x] H1 Q) (c : Cls X.K C) (hm : Meth X.K C m f)
    (ht : eval (.Call (.Attribute o m apos) [] [] pos) X.env = (do
      let ov ← eval o X.env
      standAt apos.atName
      let (f, first) ← holding [ov] (getMethod ov m pl)
      callWith pos f first (backTo pos (starEach [] X.env)) (backToKw pos (keywordEach [] X.env))) := by rfl) : wE X (.Call (.Attribute o m apos) [] [] pos) σ H Q := wE.mk fun pins s I => by
  refine PySem.W.methodCall_KW (pl := pl) (thn (h.out pins s I) fun u s1 ⟨x, H1, I1, rx, a, dx, fs, ex, ea, l, q⟩ => ?_) ht
  subst ex
  obtain rfl : u = Value.ref a := rx
  refine getmeth_ok I1 ea c hm l ?_
  exact PySem.W.callWith_K0 (first := [.ref a]) I1.kIn hm.kp (q pins s1 [.ref a] I1 (.cons rfl .nil))
/-- o.f -/
theorem w_fld {f : Str} (h : wE X o σ H fun x H1 => ∃ a C dx fs v, x = .ref a ∧ H1 a = some (.ins C dx fs) ∧ Cls X.K C ∧ NoAttr X.K C f ∧ fs.lookup f = some v ∧ Q v H1) (hb : attributeBase o f X.env (eval o X.env) = eval o X.env := by rfl) : wE X (.Attribute o f pos) σ H Q := PE.w (pe_fld pe_W hb) h

/-! ### statements -/
theorem b_nil (h : D.nx σ H) : wB X [] D σ H := PSs.w pss_nil h
theorem b_cons (h : wS X st { D with nx := fun σ' H' => wB X ss D σ' H' } σ H) : wB X (st :: ss) D σ H := PSs.w (pss_cons ps_W pss_W) h
theorem s_ret (h : wE X e σ H D.rt) : wS X (.Return (some e) pos) D σ H := PS.w (ps_ret pe_W) h
theorem s_expr (h : wE X e σ H fun _ H1 => D.nx σ H1) (hs : swapsWith e none pos.line X.env = pure false := by rfl) : wS X (.Expr e pos) D σ H := PS.w (ps_expr pe_W hs) h
theorem s_if {s1 s2 : List Stmt} (h : wT X c σ H fun k H1 => if k = true then wB X s1 D σ H1 else wB X s2 D σ H1) : wS X (.If c s1 s2 pos) D σ H := PS.w (ps_if pt_W pss_W pss_W) h
theorem s_set (i : Nat) (h : wE X e σ H fun x H1 => D.nx (σ.set i (some x)) H1) (hN : X.N.Nodup) (hi : X.N[i]? = some n := by rfl) (hx : Loc X.env.scope n := by first | exact Or.inl rfl | exact Or.inr rfl) (hs : swapsWith e (some (.Name n pos')) pos.line X.env = pure false := by rfl) (hf : X.fn n = true ∨ X.env.scope.names.lookup n = some .local := by first | exact .inl rfl | exact .inr rfl | assumption) :
    wS X (.Assign [.Name n pos'] e pos) D σ H := PS.w (ps_set hN hi hx pe_W hs hf) h
/-- o.f = e -/
theorem s_fld {f : Str} (h : wE X e σ H fun y H1 => wE X o σ H1 fun x H2 => ∃ a C dx fs, x = .ref a ∧ H2 a = some (.ins C dx fs) ∧ Cls X.K C ∧ NoAttr X.K C f ∧ fs.length < 1000 ∧ D.nx σ (upd H2 a (.ins C dx (putF f y fs))))
    (hs : swapsWith e (some (.Attribute o f pos')) pos.line X.env = pure false := by rfl) : wS X (.Assign [.Attribute o f pos'] e pos) D σ H := PS.w (ps_fld pe_W pe_W hs) h
theorem s_raise {W : WX} {t : L2.St → Hp → XK → Prop} (hc : X.calm = true) (tk : L2N.Takes X W) (he : L2N.PMk X e t) (h : t σ H fun cls d H' => W cls d σ H') : wS X (.Raise (some e) none pos) D σ H := PS.w (L2N.ps_raise hc tk he) h
theorem b_mono {D' : Ends} (h : wB X ss D σ H) (h1 : ∀ σ' H', D.nx σ' H' → D'.nx σ' H') (h2 : ∀ v H', D.rt v H' → D'.rt v H') (h3 : ∀ σ' H', D.bk σ' H' → D'.bk σ' H') (h4 : ∀ σ' H', D.ct σ' H' → D'.ct σ' H') : wB X ss D' σ H := wB.mk fun pins s I =>
  thn (h.out pins s I) fun f s' q => by
    cases f with
    | next => obtain ⟨a, b, c, d⟩ := q; exact ⟨a, b, c, h1 _ _ d⟩
    | brk => obtain ⟨a, b, c, d⟩ := q; exact ⟨a, b, c, h3 _ _ d⟩
    | cont => obtain ⟨a, b, c, d⟩ := q; exact ⟨a, b, c, h4 _ _ d⟩
    | ret u => obtain ⟨v, a, b, c, r, d⟩ := q; exact ⟨v, a, b, c, r, h2 _ _ d⟩
end
end L2.Tr

/-! operators of own classes -/
namespace PySem.W
open PySem PySem.Calls PyProof.Rows
section
variable {prog : Program} {w : World} {A : Around} {E : Value → Shared → Prop} {s : Shared} {K : Frag} {x C dx L f : Addr} {h₀ : Heap} {m : Str → Option Value} {ox : Obj} {od : Option Obj} {nm : String}
/-- int's own slot declines an instance -/
theorem tr_decl {name : Str} {sl id : String} {g : Int → Int → Sem Fin} {i : Int} {t : Tok} {Q : Value → Shared → Prop} (slot : Slot "int" name id) (entry : entryFor table id = some (Builtin.Int.intBinary sl g)) (args : ∀ a b, argsOk id ⟨[a, b], []⟩)
    (I : s.heap.get? x = some (instObj C dx)) (h : Q .notImplemented s) : wpAny (model prog w) A (call (.builtin id) [.int i t, .ref x]) Q E s := by
  refine GQ.call_here slot (typeIs_int s i t) entry (args _ _) ?_
  unfold Builtin.Int.intBinary slotArgs Builtin.Int.intOfSelf
  simp only [List.isEmpty_nil, Bool.not_true, Bool.false_eq_true, if_false, List.length_cons, List.length_nil, bne_self_eq_false, pure_bind, asInt?, List.headD_cons]
  refine wpAny_bind (wpAny_bind (wpAny_load I (wpAny_pure ?_)))
  obtain ⟨hp, g, d, tk, os⟩ := s
  wp_walk
  exact h
/-- n op x, a comparison -/
theorem tr_cmpR {op : CmpOp} {sl id : String} {g : Int → Int → Sem Fin} {i : Int} {t : Tok} {Q : Value → Shared → Prop} (hu : A.units < cLine) (X : K.In s.heap) (I : InstAt s.heap x (instObj C dx) C od)
    (hr : findIn K (.ref C) (cmpInfo op).2.2 = some (some (.ref f))) (hf : isFn K (.ref f) = true) (hsub : subIn K (.ref C) (.type "int") = some false)
    (slot : Slot "int" (cmpInfo op).2.1 id) (entry : entryFor table id = some (Builtin.Int.intBinary sl g)) (args : ∀ a b, argsOk id ⟨[a, b], []⟩)
    (h : wpAny (model prog w) A (call (.ref f) [.ref x, .int i t]) (CmpBack Q) E s) : wpAny (model prog w) A (richCompare op (.int i t) (.ref x)) Q E s := by
  have two : wpAny (model prog w) A (tryCompare (.ref x) (cmpInfo op).2.2 (.int i t)) (fun r s' => ∃ v, r = some v ∧ Q v s') E s := by
    unfold tryCompare
    refine wpAny_bind (ifBound_K X I hr hf (wpAny_mono h (fun v s' hv => ?_) fun _ _ e => e))
    cases v <;> first | exact hv.elim | exact wpAny_pure ⟨_, rfl, hv⟩
  rcases hi : cmpInfo op with ⟨sym, f', r'⟩
  rw [hi] at two slot
  dsimp only at two slot
  have hne : (Value.type "int" != Value.ref C) = true := by
    have : (Value.type "int" == Value.ref C) = false := Bool.eq_false_iff.mpr fun q => by cases beq_iff_eq.mp q
    simp only [bne, this, Bool.not_false]
  simp only [richCompare, hi, (typeIs_int s i t).oneThing_none]
  refine wpAny_holding (wpAny_bind (wpAny_cRoomFor hu ?_))
  refine wpAny_bind (wpAny_typeOf (typeIs_int s i t) (wpAny_bind (I.type.here ?_)))
  simp only [hne, if_true]
  refine wpAny_bind ((looks_subIn X hsub).here ?_)
  simp only [Bool.false_eq_true, if_false, Bool.not_false, if_true]
  refine wpAny_bind (m := tryCompare (.int i t) _ (.ref x)) (wpAny_tryCompare_declines (typeIs_int s i t) slot (tr_decl slot entry args I.at_ ⟨rfl, ?_⟩))
  refine wpAny_bind (m := tryCompare (.ref x) _ (.int i t)) (wpAny_mono two (fun r s' z => ?_) fun _ _ e => e)
  obtain ⟨v, rfl, hq⟩ := z
  exact wpAny_pure hq
/-- object.__ne__ of an instance whose class has its own __eq__ -/
theorem tr_objNe {b : Value} {Q : Value → Shared → Prop} (hu : A.in1.units < cLine) (X : K.In s.heap) (I : InstAt s.heap x ox C od) (hm : mroIn K C (.type "object") = some true) (hr : findIn K (.ref C) "__eq__" = some (some (.ref f))) (hf : isFn K (.ref f) = true)
    (h : wpAny (model prog w) A.in1 (call (.ref f) [.ref x, b]) (fun v s' => ∃ k, v = .bool k ∧ Q (.bool (!k)) s') E s) : wpAny (model prog w) A (call (.builtin "object.__ne__") [.ref x, b]) Q E s := by
  refine wpAny_call (codeAny_call_builtin F.cmp_object.ne.plain F.cmpEntry_ne (check_slot (i := "object.__ne__") (owner := "object") (n := "__ne__") F.cmpKind_ne F.cmpSplit_ne (I.type.andThen (looks_mroIn X hm)) (F.cmpArgs_ne _ _) ?_))
  unfold Builtin.«object.__ne__»
  refine wpAny_bind (m := slotArgs "__ne__" 1 _) (wpAny_pure ?_)
  refine wpAny_bind (m := cRoomFor _ _) (wpAny_cRoomFor hu ?_)
  refine wpAny_bind (m := callSpecialIfBound? (.ref x) (Str.ofString "__eq__") _) (ifBound_K X I hr hf (wpAny_mono h (fun r s' hq => ?_) fun _ _ y => y))
  obtain ⟨k, rfl, hq⟩ := hq
  refine wpAny_bind (m := truthy (.bool k)) (wpAny_truthy_bool ?_)
  exact wpAny_pure hq
theorem tr_tryNe {b : Value} {Q : Option Value → Shared → Prop} (hu : A.in1.units < cLine) (X : K.In s.heap) (I : InstAt s.heap x ox C od) (hm : mroIn K C (.type "object") = some true) (hn : findIn K (.ref C) "__ne__" = some (some (.builtin "object.__ne__"))) (hr : findIn K (.ref C) "__eq__" = some (some (.ref f))) (hf : isFn K (.ref f) = true)
    (h : wpAny (model prog w) A.in1 (call (.ref f) [.ref x, b]) (fun v s' => ∃ k, v = .bool k ∧ Q (some (.bool (!k))) s') E s) : wpAny (model prog w) A (tryCompare (.ref x) "__ne__" b) Q E s := by
  unfold tryCompare
  simp only [callSpecialIfBound?, bindSpecialIfBound?]
  refine wpAny_bind (wpAny_holding (wpAny_bind (wpAny_bind (wpAny_bind (I.type.here ((looks_findIn X hn).here ?_))))))
  refine wpAny_bind (wpAny_askSetting (wpAny_ite ?_))
  have fin : wpAny (model prog w) A (call (.builtin "object.__ne__") ([.ref x] ++ [b]) >>= fun v => pure (some v)) (fun a s' => wpAny (model prog w) A (match a with | some .notImplemented => pure none | none => pure none | some v => pure (some v)) Q E s') E s :=
    wpAny_bind (tr_objNe hu X I hm hr hf (wpAny_mono h (fun v s' ⟨k, e, q⟩ => ⟨k, e, wpAny_pure (wpAny_pure q)⟩) fun _ _ h' => h'))
  simp only [F.cmp_object.ne.bind]
  split
  · exact wpAny_bind (wpAny_pure (wpAny_pure (by exact fin)))
  · exact wpAny_tryCatch (wpAny_bind (wpAny_pure (wpAny_pure (by exact fin))))
/-- x != b -/
theorem tr_ne {b tb : Value} {Q : Value → Shared → Prop} (hu : A.in1.units < cLine) (hu0 : A.units < cLine) (X : K.In s.heap) (I : InstAt s.heap x ox C od) (hb : Looks (model prog w) s.heap (typeOf b) tb) (hnf : notFirst K C tb = true) (hm : mroIn K C (.type "object") = some true)
    (hn : findIn K (.ref C) "__ne__" = some (some (.builtin "object.__ne__"))) (hr : findIn K (.ref C) "__eq__" = some (some (.ref f))) (hf : isFn K (.ref f) = true)
    (h : wpAny (model prog w) A.in1 (call (.ref f) [.ref x, b]) (fun v s' => ∃ k, v = .bool k ∧ Q (.bool (!k)) s') E s) : wpAny (model prog w) A (richCompare .NotEq (.ref x) b) Q E s := by
  have one : wpAny (model prog w) A (tryCompare (.ref x) "__ne__" b) (fun r s' => ∃ v, r = some v ∧ Q v s') E s := tr_tryNe hu X I hm hn hr hf (wpAny_mono h (fun v s' ⟨k, e, q⟩ => ⟨k, e, _, rfl, q⟩) fun _ _ h' => h')
  unfold richCompare
  simp only [oneThing_ref]
  refine wpAny_holding (wpAny_bind (wpAny_cRoomFor hu0 ?_))
  refine wpAny_bind (I.type.here (wpAny_bind (hb.here ?_)))
  split
  · rename_i q
    have e : subIn K tb (.ref C) = some false := by
      rcases Bool.or_eq_true_iff.mp hnf with e | e
      · rw [beq_iff_eq.mp e] at q; simp at q
      · exact beq_iff_eq.mp e
    refine wpAny_bind ((looks_subIn X e).here ?_)
    simp only [Bool.false_eq_true, if_false]
    refine wpAny_bind (m := tryCompare (.ref x) _ b) (wpAny_mono one (fun r s' z => ?_) fun _ _ e => e)
    obtain ⟨v, rfl, hq⟩ := z
    exact wpAny_pure hq
  · refine wpAny_bind (wpAny_pure ?_)
    simp only [Bool.false_eq_true, if_false]
    refine wpAny_bind (m := tryCompare (.ref x) _ b) (wpAny_mono one (fun r s' z => ?_) fun _ _ e => e)
    obtain ⟨v, rfl, hq⟩ := z
    exact wpAny_pure hq
end
end PySem.W

namespace L2.Tr
open PySem PySem.Spec PyProof.Rows

/-! ### results of mirrors -/
inductive Pay where
  | int (i : Int) | str (s : Str) | bl (b : Bool) | non | frac (q : Rat) | wts (f : Str) (xs : List Rat)
structure Exn where
  cls : Str
  pay : List (Str × Pay)
inductive Res (α : Type) where
  | ok (a : α) | err (e : Exn) | stuck
namespace Res
variable {α β γ : Type}
def bind (m : Res α) (f : α → Res β) : Res β := match m with
  | .ok a => f a
  | .err e => .err e
  | .stuck => .stuck
@[simp] theorem ok_bind (a : α) (f : α → Res β) : (ok a).bind f = f a := rfl
@[simp] theorem err_bind (e : Exn) (f : α → Res β) : (err e : Res α).bind f = err e := rfl
@[simp] theorem stuck_bind (f : α → Res β) : (stuck : Res α).bind f = stuck := rfl
theorem bind_assoc (m : Res α) (f : α → Res β) (g : β → Res γ) : (m.bind f).bind g = m.bind fun a => (f a).bind g := by cases m <;> rfl
theorem bind_ok (m : Res α) : (m.bind fun a => ok a) = m := by cases m <;> rfl
def guard (p : Prop) [Decidable p] (m : Res α) : Res α := if p then m else stuck
theorem guard_pos {p : Prop} [Decidable p] (h : p) (m : Res α) : guard p m = m := if_pos h
end Res

/-! ### representations -/
/-- by the frozen heap I and the heap H -/
abbrev Ra (α : Type) := Hp → Hp → V → α → Prop
/-- by the frozen heap alone -/
abbrev Rp (α : Type) := Hp → V → α → Prop
abbrev rp {α : Type} (r : Rp α) : Ra α := fun I _ v x => r I v x
class Mo {α : Type} (r : Rp α) : Prop where
  up : ∀ {I I' : Hp} {v : V} {x : α}, Same I I' → r I v x → r I' v x
class MoA {α : Type} (r : Ra α) : Prop where
  up : ∀ {I H I' H' : Hp} {v : V} {x : α}, Same I I' → Same H H' → r I H v x → r I' H' v x
instance {α : Type} {r : Rp α} [m : Mo r] : MoA (rp r) := ⟨fun a _ h => m.up a h⟩
instance {α : Type} {r : Ra α} {H0 : Hp} [m : MoA r] : Mo (fun I v x => r I H0 v x) := ⟨fun a h => m.up a (Same.refl _) h⟩

def rInt : Rp Int := fun _ v x => v = .int x
def rBl : Rp Bool := fun _ v x => v = .bl x
def rStr : Rp Str := fun _ v x => v = .str x
def rNon : Rp Unit := fun _ v _ => v = .non
instance : Mo rInt := ⟨fun _ h => h⟩
instance : Mo rBl := ⟨fun _ h => h⟩
instance : Mo rStr := ⟨fun _ h => h⟩
instance : Mo rNon := ⟨fun _ h => h⟩
/-- a Fraction -/
def frF (q : Rat) : List (Str × V) := [("top", .int q.num), ("bottom", .int (q.den : Int))]
def rFrac (K : PySem.W.Frag) : Rp Rat := fun I v q => ∃ a dx, v = .ref a ∧ I a = some (.ins (He.ga K "Fraction") dx (frF q))
instance {K : PySem.W.Frag} : Mo (rFrac K) := ⟨fun s ⟨a, dx, e, h⟩ => ⟨a, dx, e, s _ _ h⟩⟩
/-- an int or a Fraction -/
inductive Num where
  | i (n : Int) | q (r : Rat)
def Num.val : Num → Rat
  | .i n => (n : Rat)
  | .q r => r
def rNum (K : PySem.W.Frag) : Rp Num := fun I v x => match x with
  | .i n => v = .int n
  | .q r => rFrac K I v r
instance {K : PySem.W.Frag} : Mo (rNum K) := ⟨fun {I I' v x} s h => by
  cases x with
  | i n => exact h
  | q r => exact Mo.up (r := rFrac K) s h⟩
/-- a frozen list -/
def rL {α : Type} (r : Rp α) : Rp (List α) := fun I v xs => ∃ l vs, v = .ref l ∧ I l = some (.lst vs) ∧ Paired (r I) vs xs
instance {α : Type} {r : Rp α} [m : Mo r] : Mo (rL r) := ⟨fun s ⟨l, vs, e, h, p⟩ => ⟨l, vs, e, s _ _ h, Paired.mapP p fun _ _ q => m.up s q⟩⟩
/-- a frozen tuple (of one kind) -/
def rT {α : Type} (r : Rp α) : Rp (List α) := fun I v xs => ∃ l vs, v = .ref l ∧ I l = some (.tup vs) ∧ Paired (r I) vs xs
instance {α : Type} {r : Rp α} [m : Mo r] : Mo (rT r) := ⟨fun s ⟨l, vs, e, h, p⟩ => ⟨l, vs, e, s _ _ h, Paired.mapP p fun _ _ q => m.up s q⟩⟩
/-- a list that can be read (frozen or not), or the script -/
def rdL {α : Type} (K : PySem.W.Frag) (r : Ra α) : Ra (List α) := fun I H v xs => ∃ l vs, v = .ref l ∧ SqL K H l vs ∧ Paired (r I H) vs xs
instance {α : Type} {K : PySem.W.Frag} {r : Ra α} [m : MoA r] : MoA (rdL K r) := ⟨fun s t ⟨l, vs, e, h, p⟩ => ⟨l, vs, e, t.seq h, Paired.mapP p fun _ _ q => m.up s t q⟩⟩

/-! ### exceptions -/
def PayR (K : PySem.W.Frag) (I : Hp) (v : V) : Pay → Prop
  | .int i => v = .int i
  | .str s => v = .str s
  | .bl b => v = .bl b
  | .non => v = .non
  | .frac q => rFrac K I v q
  | .wts f xs => ∃ a dx b dy l vs, v = .ref a ∧ I a = some (.ins (He.ga K "Weights") dx [("form", .str f), ("root", .ref b)]) ∧ I b = some (.ins (He.ga K "Polynomial") dy [("kept", .ref l)]) ∧ I l = some (.lst vs) ∧ Paired (rFrac K I) vs xs
def ExR (K : PySem.W.Frag) (I H : Hp) (e : Exn) (cls : Value) (d : Option Addr) : Prop := cls = .ref (He.ga K e.cls) ∧ (match d with
  | none => e.pay = []
  | some a => e.pay ≠ [] ∧ ∃ fs : List (Str × V), H a = some (.xd fs) ∧ I a = none ∧ Paired (fun (p : Str × V) (q : Str × Pay) => p.1 = q.1 ∧ PayR K I p.2 q.2) fs e.pay)

/-! ### frames -/
/-- from (I, H) to (I', H') nothing that stood has changed -/
structure Fm (I H I' H' : Hp) : Prop where
  i : Same I I'
  h : Same H H'
  ih : Same I' H'
  mu : ∀ l, I l = none → H l ≠ none → I' l = none
theorem Fm.refl {I H : Hp} (h : Same I H) : Fm I H I H := ⟨Same.refl _, Same.refl _, h, fun _ e _ => e⟩
theorem Fm.trans {I H I1 H1 I2 H2 : Hp} (a : Fm I H I1 H1) (b : Fm I1 H1 I2 H2) : Fm I H I2 H2 :=
  ⟨a.i.trans b.i, a.h.trans b.h, b.ih, fun l e n => b.mu l (a.mu l e n) fun q => by
    cases z : H l with
    | none => exact n z
    | some o => rw [a.h l o z] at q; cases q⟩
/-- a new frozen object -/
theorem Fm.new {I H : Hp} {p : Addr} {o : HO} (s : Same I H) (h : H p = none) : Fm I H (upd I p o) (upd H p o) :=
  ⟨fun b u e => by rw [upd_ne (ne_of_none (s _ _ e) h)]; exact e, fun b u e => by rw [upd_ne (ne_of_none e h)]; exact e, fun b u e => by
    by_cases hb : b = p
    · subst hb; rw [upd_same] at e ⊢; exact e
    · rw [upd_ne hb] at e ⊢; exact s _ _ e, fun l e n => by
    have : l ≠ p := fun q => n (q ▸ h)
    rw [upd_ne this]; exact e⟩
/-- a new object that may still be changed -/
theorem Fm.newM {I H : Hp} {p : Addr} {o : HO} (s : Same I H) (h : H p = none) : Fm I H I (upd H p o) :=
  ⟨Same.refl _, fun b u e => by rw [upd_ne (ne_of_none e h)]; exact e, fun b u e => by rw [upd_ne (ne_of_none (s _ _ e) h)]; exact s _ _ e, fun l e n => e⟩

/-- the error's own dict is new -/
def Fr (H : Hp) (d : Option Addr) : Prop := ∀ a, d = some a → H a = none
theorem Fr.back {H H' : Hp} {d : Option Addr} (f : Fr H' d) (s : Same H H') : Fr H d := fun a e => s.free (f a e)
def PostE {α : Type} (K : PySem.W.Frag) (m : Res α) (r : Ra α) (I H : Hp) (E : XK) (Q : VK) : Prop := match m with
  | .ok a => ∀ I' H' v, Fm I H I' H' → r I' H' v a → Q v H'
  | .err e => ∀ I' H' cls d, Fm I H I' H' → Fr H d ∧ ExR K I' H' e cls d → E cls d H'
  | .stuck => False
theorem PostE.up {α : Type} {K : PySem.W.Frag} {m : Res α} {r : Ra α} {I H I1 H1 : Hp} {E : XK} {Q : VK} (h : PostE K m r I H E Q) (f : Fm I H I1 H1) : PostE K m r I1 H1 E Q := by
  cases m with
  | ok a => exact fun I' H' v g => h I' H' v (f.trans g)
  | err e => exact fun I' H' c d g x => h I' H' c d (f.trans g) ⟨x.1.back f.h, x.2⟩
  | stuck => exact h
theorem PostE.imp {α : Type} {K : PySem.W.Frag} {m : Res α} {r : Ra α} {I H : Hp} {E : XK} {Q Q' : VK} (h : PostE K m r I H E Q) (g : ∀ v H', Q v H' → Q' v H') : PostE K m r I H E Q' := by
  cases m with
  | ok a => exact fun I' H' v f r => g _ _ (h I' H' v f r)
  | err e => exact h
  | stuck => exact h

/-! ### environments -/
structure SF where
  {α : Type}
  r : Rp α
  [mo : Mo r]
  x : α
/-- a region of the call's own that may still be changed: its footprint is hidden -/
structure MF where
  Q : Hp → Hp → List Addr → Prop
  mo : ∀ {I I' H : Hp} {fp : List Addr}, Same I I' → Q I H fp → Q I' H fp
  lo : ∀ {I H H' : Hp} {fp : List Addr}, (∀ a, a ∈ fp → H' a = H a) → Q I H fp → Q I H' fp
/-- one object -/
def MF.one (l : Addr) (P : Hp → HO → Prop) (mo : ∀ {I I' : Hp} {o : HO}, Same I I' → P I o → P I' o) : MF := ⟨fun I H fp => fp = [l] ∧ ∃ o, H l = some o ∧ P I o, fun s ⟨e, o, h, p⟩ => ⟨e, o, h, mo s p⟩, fun k ⟨e, o, h, p⟩ => ⟨e, o, by rw [k l (by rw [e]; exact List.mem_singleton_self l)]; exact h, p⟩⟩
def MF.lst {α : Type} (l : Addr) (r : Rp α) [m : Mo r] (xs : List α) : MF := .one l (fun I o => ∃ vs, o = .lst vs ∧ Paired (r I) vs xs) (fun s ⟨vs, e, p⟩ => ⟨vs, e, Paired.mapP p fun _ _ q => m.up s q⟩)
def FldR (I : Hp) : List (Str × V) → List (Str × SF) → Prop
  | [], [] => True
  | p :: fs, q :: gs => p.1 = q.1 ∧ q.2.r I p.2 q.2.x ∧ FldR I fs gs
  | _, _ => False
theorem FldR.up {I I' : Hp} (s : Same I I') : ∀ {fs : List (Str × V)} {gs : List (Str × SF)}, FldR I fs gs → FldR I' fs gs
  | [], [], h => h
  | _ :: _, q :: _, ⟨a, b, c⟩ => ⟨a, q.2.mo.up s b, FldR.up s c⟩
  | [], _ :: _, h => h
  | _ :: _, [], h => h
def MF.ins (l C dx : Addr) (gs : List (Str × SF)) : MF := .one l (fun I o => ∃ fs, o = .ins C dx fs ∧ FldR I fs gs) (fun s ⟨fs, e, p⟩ => ⟨fs, e, FldR.up s p⟩)
/-- regions with their footprints -/
def Regs (I H : Hp) : List MF → List (List Addr) → Prop
  | [], [] => True
  | c :: mem, fp :: fps => c.Q I H fp ∧ Regs I H mem fps
  | _, _ => False
structure Stt (I0 H0 : Hp) (ctx : List (Option SF)) (mem : List MF) (I H : Hp) (σ : St) : Prop where
  fm : Fm I0 H0 I H
  len : σ.length = ctx.length
  sl : ∀ (i : Nat) (sf : SF), ctx[i]? = some (some sf) → ∃ v, σ[i]? = some (some v) ∧ sf.r I v sf.x
  me : ∃ fps, Regs I H mem fps ∧ fps.flatten.Nodup ∧ ∀ a, a ∈ fps.flatten → H0 a = none ∧ I a = none ∧ H a ≠ none
theorem Regs.up {I I' H H' : Hp} (s : Same I I') : ∀ {mem : List MF} {fps : List (List Addr)}, (∀ a, a ∈ fps.flatten → H' a = H a) → Regs I H mem fps → Regs I' H' mem fps
  | [], [], _, h => h
  | c :: _, fp :: fps, k, ⟨a, b⟩ => ⟨c.lo (fun x hx => k x (by rw [List.flatten_cons]; exact List.mem_append_left _ hx)) (c.mo s a), Regs.up s (fun x hx => k x (by rw [List.flatten_cons]; exact List.mem_append_right _ hx)) b⟩
  | [], _ :: _, _, h => h
  | _ :: _, [], _, h => h
theorem Regs.get {I H : Hp} : ∀ {mem : List MF} {fps : List (List Addr)} {j : Nat} {c : MF}, Regs I H mem fps → mem[j]? = some c → ∃ fp, fps[j]? = some fp ∧ c.Q I H fp
  | [], _, _, _, _, e => by simp at e
  | d :: _, fp :: _, 0, c, ⟨a, _⟩, e => ⟨fp, rfl, by
    have : d = c := by simpa using e
    rw [← this]; exact a⟩
  | _ :: mem, _ :: fps, j + 1, c, ⟨_, b⟩, e => by
    have e' : mem[j]? = some c := by simpa using e
    obtain ⟨fp, e1, q⟩ := Regs.get b e'
    exact ⟨fp, by simpa using e1, q⟩
  | _ :: _, [], _, _, h, _ => h.elim
section
variable {I0 H0 I H I' H' : Hp} {ctx : List (Option SF)} {mem : List MF} {σ : St}
theorem Stt.same (s : Stt I0 H0 ctx mem I H σ) : Same I H := s.fm.ih
theorem Stt.step (s : Stt I0 H0 ctx mem I H σ) (f : Fm I H I' H') : Stt I0 H0 ctx mem I' H' σ := by
  obtain ⟨fps, rg, nd, k⟩ := s.me
  have key : ∀ a, a ∈ fps.flatten → H' a = H a := fun a ha => by
    obtain ⟨_, _, h3⟩ := k a ha
    cases e : H a with
    | none => exact absurd e h3
    | some o => exact f.h _ _ e
  refine ⟨s.fm.trans f, s.len, fun i sf e => ?_, fps, rg.up f.i key, nd, fun a ha => ?_⟩
  · obtain ⟨v, e1, h⟩ := s.sl i sf e
    exact ⟨v, e1, sf.mo.up f.i h⟩
  · obtain ⟨h1, h2, h3⟩ := k a ha
    exact ⟨h1, f.mu _ h2 h3, by rw [key a ha]; exact h3⟩
/-- one object of the call's own -/
theorem Stt.me1 (s : Stt I0 H0 ctx mem I H σ) {j : Nat} {l : Addr} {P : Hp → HO → Prop} {c : MF} (hj : mem[j]? = some c) (hc : ∀ {I H : Hp} {fp : List Addr}, c.Q I H fp → fp = [l] ∧ ∃ o, H l = some o ∧ P I o) : H0 l = none ∧ I l = none ∧ ∃ o, H l = some o ∧ P I o := by
  obtain ⟨fps, rg, nd, k⟩ := s.me
  obtain ⟨fp, e, q⟩ := rg.get hj
  obtain ⟨e1, q⟩ := hc q
  obtain ⟨h1, h2, _⟩ := k l (List.mem_flatten.mpr ⟨fp, List.mem_of_getElem? e, by rw [e1]; exact List.mem_singleton_self l⟩)
  exact ⟨h1, h2, q⟩
theorem Stt.lstAt (s : Stt I0 H0 ctx mem I H σ) {α : Type} {j : Nat} {l : Addr} {r : Rp α} {mo : Mo r} {xs : List α} (hj : mem[j]? = some (MF.lst l r xs)) : H0 l = none ∧ I l = none ∧ ∃ o, H l = some o ∧ ∃ vs, o = .lst vs ∧ Paired (r I) vs xs :=
  s.me1 (P := fun I o => ∃ vs, o = .lst vs ∧ Paired (r I) vs xs) hj fun q => q
theorem Stt.insAt (s : Stt I0 H0 ctx mem I H σ) {j : Nat} {l C dx : Addr} {gs : List (Str × SF)} (hj : mem[j]? = some (MF.ins l C dx gs)) : H0 l = none ∧ I l = none ∧ ∃ o, H l = some o ∧ ∃ fs, o = .ins C dx fs ∧ FldR I fs gs :=
  s.me1 (P := fun I o => ∃ fs, o = .ins C dx fs ∧ FldR I fs gs) hj fun q => q
theorem Stt.set (s : Stt I0 H0 ctx mem I H σ) (i : Nat) {α : Type} {r : Rp α} [mo : Mo r] {x : α} {v : V} (h : r I v x) : Stt I0 H0 (ctx.set i (some ⟨r, x⟩)) mem I H (σ.set i (some v)) := by
  refine ⟨s.fm, by rw [List.length_set, List.length_set]; exact s.len, fun j sf e => ?_, s.me⟩
  by_cases hj : j = i
  · subst hj
    rw [List.getElem?_set] at e
    by_cases hl : j < ctx.length
    · simp only [hl, if_true] at e
      cases e
      exact ⟨v, by rw [List.getElem?_set]; simp [s.len, hl], h⟩
    · simp only [hl, if_true, if_false] at e
      cases e
  · rw [List.getElem?_set_ne (Ne.symm hj)] at e
    obtain ⟨w, e1, q⟩ := s.sl j sf e
    exact ⟨w, by rw [List.getElem?_set_ne (Ne.symm hj)]; exact e1, q⟩
end
/-! ### expressions -/
section
variable {α β γ δ : Type}
def JE (X : Cx) (I0 H0 : Hp) (W : WX) (ctx : List (Option SF)) (mem : List MF) (e : Expr) (m : Res α) (r : Ra α) : Prop :=
  ∀ (I H : Hp) (σ : St) (Q : VK), Stt I0 H0 ctx mem I H σ → PostE X.K m r I H (fun cls d H' => W cls d σ H') Q → wE X e σ H Q
def JT (X : Cx) (I0 H0 : Hp) (W : WX) (ctx : List (Option SF)) (mem : List MF) (e : Expr) (m : Res Bool) : Prop :=
  ∀ (I H : Hp) (σ : St) (Q : Bool → Hp → Prop), Stt I0 H0 ctx mem I H σ → PostE X.K m (rp rBl) I H (fun cls d H' => W cls d σ H') (fun v H' => ∀ b, v = .bl b → Q b H') → wT X e σ H Q
def OpJ (X : Cx) (W : WX) (f : Value → Value → Sem Value) (ra : Ra α) (rb : Ra β) (g : α → β → Res γ) (rc : Ra γ) : Prop :=
  ∀ (I H : Hp) (σ : St) (Q : VK) (u v : V) (x : α) (y : β), Same I H → ra I H u x → rb I H v y → PostE X.K (g x y) rc I H (fun cls d H' => W cls d σ H') Q → opW X f σ u v H Q
def UnJ (X : Cx) (W : WX) (f : Value → Sem Value) (ra : Ra α) (g : α → Res γ) (rc : Ra γ) : Prop :=
  ∀ (I H : Hp) (σ : St) (Q : VK) (u : V) (x : α), Same I H → ra I H u x → PostE X.K (g x) rc I H (fun cls d H' => W cls d σ H') Q → unW X f σ u H Q
def CallJ (X : Cx) (W : WX) (f : Value) (R : Hp → Hp → List V → δ → Prop) (g : δ → Res γ) (rc : Ra γ) : Prop :=
  ∀ (I H : Hp) (σ : St) (Q : VK) (vs : List V) (x : δ), Same I H → R I H vs x → PostE X.K (g x) rc I H (fun cls d H' => W cls d σ H') Q → callW X f σ vs H Q
/-- argument lists -/
def JA (X : Cx) (I0 H0 : Hp) (W : WX) (ctx : List (Option SF)) (mem : List MF) (es : List Expr) (m : Res δ) (R : Hp → Hp → List V → δ → Prop) : Prop :=
  ∀ (I H : Hp) (σ : St) (Q : List V → Hp → Prop), Stt I0 H0 ctx mem I H σ → (match m with
    | .ok a => ∀ I' H' vs, Fm I H I' H' → R I' H' vs a → Q vs H'
    | .err e => ∀ I' H' cls d, Fm I H I' H' → Fr H d ∧ ExR X.K I' H' e cls d → W cls d σ H'
    | .stuck => False) → wA X es σ H Q
def aNil : Hp → Hp → List V → Unit → Prop := fun _ _ vs _ => vs = []
def aCons (r : Ra α) (R : Hp → Hp → List V → δ → Prop) : Hp → Hp → List V → α × δ → Prop := fun I H vs x => ∃ v ws, vs = v :: ws ∧ r I H v x.1 ∧ R I H ws x.2

variable {X : Cx} {I0 H0 : Hp} {W : WX} {ctx : List (Option SF)} {mem : List MF} {e a b c o : Expr} {es : List Expr} {pos pos' : Pos} {n : Str} {ra : Ra α} {rb : Ra β} {rc : Ra γ} {ma : Res α} {mb : Res β}

theorem JE.co {m : Res α} {r : Ra α} {r' : Ra α} (j : JE X I0 H0 W ctx mem e m r) (c : ∀ I H v x, Same I H → r I H v x → r' I H v x) : JE X I0 H0 W ctx mem e m r' := fun I H σ Q st p => j I H σ Q st (by
  cases m with
  | ok a => exact fun I' H' v f q => p I' H' v f (c _ _ _ _ f.ih q)
  | err e => exact p
  | stuck => exact p)
theorem JE.map {m : Res α} {r : Ra α} {r' : Ra β} {g : α → β} (j : JE X I0 H0 W ctx mem e m r) (c : ∀ I H v x, Same I H → r I H v x → r' I H v (g x)) : JE X I0 H0 W ctx mem e (m.bind fun x => .ok (g x)) r' := fun I H σ Q st p => j I H σ Q st (by
  cases m with
  | ok a => exact fun I' H' v f q => p I' H' v f (c _ _ _ _ f.ih q)
  | err e => exact p
  | stuck => exact p)
theorem JE.num {m : Res Int} {K : PySem.W.Frag} (j : JE X I0 H0 W ctx mem e m (rp rInt)) : JE X I0 H0 W ctx mem e (m.bind fun x => .ok (Num.i x)) (rp (rNum K)) := j.map fun _ _ _ _ _ h => h
theorem JE.numq {m : Res Rat} {K : PySem.W.Frag} (j : JE X I0 H0 W ctx mem e m (rp (rFrac K))) : JE X I0 H0 W ctx mem e (m.bind fun x => .ok (Num.q x)) (rp (rNum K)) := j.map fun _ _ _ _ _ h => h
/-- a name in slot i -/
theorem JE.var (i : Nat) {r : Rp α} {mo : Mo r} {x : α} (hc : ctx[i]? = some (some (@SF.mk α r mo x)) := by rfl) (hN : X.N[i]? = some n := by rfl) (hv : Vis X.env.scope n := by first | exact Or.inl rfl | exact Or.inr (Or.inl rfl) | exact Or.inr (Or.inr rfl)) (hd : (n == ("__debug__" : Str)) = false := by decide)
    (hcd : (n == ("__classdict__" : Str)) = false := by decide) : JE X I0 H0 W ctx mem (.Name n pos) (.ok x) (rp r) := fun I H σ Q st p => by
  obtain ⟨v, e, h⟩ := st.sl i _ hc
  exact w_var i (p I H v (Fm.refl st.same) h) e hN hv hd hcd
/-- .. a parameter whose worth may lean on the heap at the entry -/
theorem JE.varP (i : Nat) {r : Ra α} {mo : Mo (fun I v x => r I H0 v x)} {x : α} [m : MoA r] (hc : ctx[i]? = some (some (@SF.mk α (fun I v x => r I H0 v x) mo x)) := by rfl) (hN : X.N[i]? = some n := by rfl) (hv : Vis X.env.scope n := by first | exact Or.inl rfl | exact Or.inr (Or.inl rfl) | exact Or.inr (Or.inr rfl)) (hd : (n == ("__debug__" : Str)) = false := by decide)
    (hcd : (n == ("__classdict__" : Str)) = false := by decide) : JE X I0 H0 W ctx mem (.Name n pos) (.ok x) r := fun I H σ Q st p => by
  obtain ⟨v, e, h⟩ := st.sl i _ hc
  exact w_var i (p I H v (Fm.refl st.same) (m.up (Same.refl _) st.fm.h h)) e hN hv hd hcd
theorem JE.int {i : Int} {j} : JE X I0 H0 W ctx mem (.Constant (.int i) j pos) (.ok i) (rp rInt) := fun I H σ Q st p => w_int (p I H _ (Fm.refl st.same) rfl)
theorem JE.bl {i : Bool} {j} : JE X I0 H0 W ctx mem (.Constant (.bool i) j pos) (.ok i) (rp rBl) := fun I H σ Q st p => w_bl (p I H _ (Fm.refl st.same) rfl)
theorem JE.str {i : Str} {j} : JE X I0 H0 W ctx mem (.Constant (.str i) j pos) (.ok i) (rp rStr) := fun I H σ Q st p => w_str (p I H _ (Fm.refl st.same) rfl)
theorem JE.non {j} : JE X I0 H0 W ctx mem (.Constant .none j pos) (.ok ()) (rp rNon) := fun I H σ Q st p => w_non (p I H _ (Fm.refl st.same) rfl)
theorem JE.bin {op : Operator} {g : α → β → Res γ} [MoA ra] (ja : JE X I0 H0 W ctx mem a ma ra) (jb : JE X I0 H0 W ctx mem b mb rb) (o : OpJ X W (binaryOp op) ra rb g rc) : JE X I0 H0 W ctx mem (.BinOp a op b pos) (ma.bind fun x => mb.bind fun y => g x y) rc := fun I H σ Q st p => by
  refine w_bin (ja I H σ _ st ?_)
  cases ma with
  | ok x =>
    intro I1 H1 u f1 r1
    refine jb I1 H1 σ _ (st.step f1) ?_
    have p1 := PostE.up p f1
    cases mb with
    | ok y => exact fun I2 H2 v f2 r2 => o I2 H2 σ Q u v x y f2.ih (MoA.up f2.i f2.h r1) r2 (PostE.up p1 f2)
    | err e => exact p1
    | stuck => exact p1
  | err e => exact p
  | stuck => exact p
theorem JE.cmp {op : CmpOp} {g : α → β → Res γ} [MoA ra] (ja : JE X I0 H0 W ctx mem a ma ra) (jb : JE X I0 H0 W ctx mem b mb rb) (o : OpJ X W (compareOp op) ra rb g rc) (hm : behindInMarks op b = false := by first | exact nomark _ | rfl) : JE X I0 H0 W ctx mem (.Compare a [op] [b] pos) (ma.bind fun x => mb.bind fun y => g x y) rc := fun I H σ Q st p => by
  refine w_cmp (ja I H σ _ st ?_) hm
  cases ma with
  | ok x =>
    intro I1 H1 u f1 r1
    refine jb I1 H1 σ _ (st.step f1) ?_
    have p1 := PostE.up p f1
    cases mb with
    | ok y => exact fun I2 H2 v f2 r2 => o I2 H2 σ Q u v x y f2.ih (MoA.up f2.i f2.h r1) r2 (PostE.up p1 f2)
    | err e => exact p1
    | stuck => exact p1
  | err e => exact p
  | stuck => exact p
theorem JT.cmp {op : CmpOp} {g : α → β → Res Bool} [MoA ra] (ja : JE X I0 H0 W ctx mem a ma ra) (jb : JE X I0 H0 W ctx mem b mb rb) (o : OpJ X W (compareOp op) ra rb g (rp rBl)) (hm : behindInMarks op b = false := by first | exact nomark _ | rfl) : JT X I0 H0 W ctx mem (.Compare a [op] [b] pos) (ma.bind fun x => mb.bind fun y => g x y) := fun I H σ Q st p => by
  refine w_tcmp (ja I H σ _ st ?_) hm
  cases ma with
  | ok x =>
    intro I1 H1 u f1 r1
    refine jb I1 H1 σ _ (st.step f1) ?_
    have p1 := PostE.up p f1
    cases mb with
    | ok y =>
      intro I2 H2 v f2 r2
      refine o I2 H2 σ _ u v x y f2.ih (MoA.up f2.i f2.h r1) r2 ?_
      have p2 := PostE.up p1 f2
      revert p2
      show PostE X.K (g x y) _ _ _ _ _ → _
      generalize g x y = z
      intro p2
      cases z with
      | ok k => intro I3 H3 v3 f3 r3; cases r3; exact tru_bl (p2 I3 H3 _ f3 rfl k rfl)
      | err e => exact p2
      | stuck => exact p2
    | err e => exact p1
    | stuck => exact p1
  | err e => exact p
  | stuck => exact p
theorem JE.un {op : UnaryOp} {g : α → Res γ} (ja : JE X I0 H0 W ctx mem a ma ra) (o : UnJ X W (unaryOp op) ra g rc) : JE X I0 H0 W ctx mem (.UnaryOp op a pos) (ma.bind fun x => g x) rc := fun I H σ Q st p => by
  refine w_un (ja I H σ _ st ?_)
  cases ma with
  | ok x => exact fun I1 H1 u f1 r1 => o I1 H1 σ Q u x f1.ih r1 (PostE.up p f1)
  | err e => exact p
  | stuck => exact p
/-- a test of a plain form whose value is a bool -/
theorem JT.of {m : Res Bool} (j : JE X I0 H0 W ctx mem e m (rp rBl)) (he : ∀ whole, isTrue e X.env whole = (do let v ← whole; standAt e.pos; holding [v] (truthy v)) := by intro _; rfl) : JT X I0 H0 W ctx mem e m := fun I H σ Q st p => by
  refine w_t (j I H σ _ st ?_) he
  cases m with
  | ok k => intro I1 H1 v f1 r1; cases r1; exact tru_bl (p I1 H1 _ f1 rfl k rfl)
  | err e => exact p
  | stuck => exact p
theorem JT.not {m : Res Bool} (j : JT X I0 H0 W ctx mem e m) : JT X I0 H0 W ctx mem (.UnaryOp .Not e pos) (m.bind fun b => .ok (!b)) := fun I H σ Q st p => by
  refine w_not (j I H σ _ st ?_)
  cases m with
  | ok k => exact fun I1 H1 v f1 r1 b hb => by cases r1; cases hb; exact p I1 H1 _ f1 rfl _ rfl
  | err e => exact p
  | stuck => exact p
theorem JE.not {m : Res Bool} (j : JE X I0 H0 W ctx mem e m (rp rBl)) : JE X I0 H0 W ctx mem (.UnaryOp .Not e pos) (m.bind fun b => .ok (!b)) (rp rBl) := fun I H σ Q st p => by
  refine w_notV (j I H σ _ st ?_)
  cases m with
  | ok k => exact fun I1 H1 v f1 r1 => ⟨k, r1, p I1 H1 _ f1 rfl⟩
  | err e => exact p
  | stuck => exact p
end
end L2.Tr

namespace L2.Tr
open PySem PySem.Spec PyProof.Rows
section
variable {α β γ δ S : Type}
def JW (X : Cx) (I0 H0 : Hp) (W : WX) (ctx : List (Option SF)) (mem : List MF) (e : Expr) (m : Res Bool) : Prop :=
  ∀ (I H : Hp) (σ : St) (Q : Bool → Hp → Prop), Stt I0 H0 ctx mem I H σ → PostE X.K m (rp rBl) I H (fun cls d H' => W cls d σ H') (fun v H' => ∀ b, v = .bl b → Q b H') → wW X e σ H Q
variable {X : Cx} {I0 H0 : Hp} {W : WX} {ctx : List (Option SF)} {mem : List MF} {e a b c o : Expr} {es bs : List Expr} {pos pos' : Pos} {n : Str} {ra : Ra α} {rb : Ra β} {rc : Ra γ} {ma : Res α} {mb : Res β} {m1 m2 mc : Res Bool}
theorem JT.bool {op} (j : JW X I0 H0 W ctx mem (.BoolOp op es pos) m1) : JT X I0 H0 W ctx mem (.BoolOp op es pos) m1 := fun I H σ Q st p => w_tbool (j I H σ Q st p)
theorem JW.and1 (j : JT X I0 H0 W ctx mem a m1) : JW X I0 H0 W ctx mem (.BoolOp .And [a] pos) m1 := fun I H σ Q st p => w_and1 (j I H σ Q st p)
theorem JW.or1 (j : JT X I0 H0 W ctx mem a m1) : JW X I0 H0 W ctx mem (.BoolOp .Or [a] pos) m1 := fun I H σ Q st p => w_or1 (j I H σ Q st p)
theorem JW.and (j : JT X I0 H0 W ctx mem a m1) (k : JW X I0 H0 W ctx mem (.BoolOp .And (b :: bs) pos) m2) : JW X I0 H0 W ctx mem (.BoolOp .And (a :: b :: bs) pos) (m1.bind fun x => if x = true then m2 else .ok false) := fun I H σ Q st p => by
  refine w_and (j I H σ _ st ?_)
  cases m1 with
  | ok x =>
    intro I1 H1 v f r y hy
    cases r; cases hy
    have p1 := PostE.up p f
    cases x with
    | true => exact iteT (k I1 H1 σ Q (st.step f) p1)
    | false => exact iteF (p1 I1 H1 _ (Fm.refl f.ih) rfl _ rfl)
  | err e => exact p
  | stuck => exact p
theorem JW.or (j : JT X I0 H0 W ctx mem a m1) (k : JW X I0 H0 W ctx mem (.BoolOp .Or (b :: bs) pos) m2) : JW X I0 H0 W ctx mem (.BoolOp .Or (a :: b :: bs) pos) (m1.bind fun x => if x = true then .ok true else m2) := fun I H σ Q st p => by
  refine w_or (j I H σ _ st ?_)
  cases m1 with
  | ok x =>
    intro I1 H1 v f r y hy
    cases r; cases hy
    have p1 := PostE.up p f
    cases x with
    | true => exact iteT (p1 I1 H1 _ (Fm.refl f.ih) rfl _ rfl)
    | false => exact iteF (k I1 H1 σ Q (st.step f) p1)
  | err e => exact p
  | stuck => exact p
theorem JE.one {op} {m : Res Bool} (j : JE X I0 H0 W ctx mem a m (rp rBl)) : JE X I0 H0 W ctx mem (.BoolOp op [a] pos) m (rp rBl) := fun I H σ Q st p => w_oneV (j I H σ Q st p)
theorem JE.and (j : JE X I0 H0 W ctx mem a m1 (rp rBl)) (k : JE X I0 H0 W ctx mem (.BoolOp .And (b :: bs) pos) m2 (rp rBl)) : JE X I0 H0 W ctx mem (.BoolOp .And (a :: b :: bs) pos) (m1.bind fun x => if x = true then m2 else .ok false) (rp rBl) := fun I H σ Q st p => by
  refine w_andV (j I H σ _ st ?_)
  cases m1 with
  | ok x =>
    intro I1 H1 v f r
    have p1 := PostE.up p f
    refine ⟨x, r, ?_⟩
    cases x with
    | true => exact iteT (k I1 H1 σ Q (st.step f) p1)
    | false => exact iteF (p1 I1 H1 _ (Fm.refl f.ih) rfl)
  | err e => exact p
  | stuck => exact p
theorem JE.or (j : JE X I0 H0 W ctx mem a m1 (rp rBl)) (k : JE X I0 H0 W ctx mem (.BoolOp .Or (b :: bs) pos) m2 (rp rBl)) : JE X I0 H0 W ctx mem (.BoolOp .Or (a :: b :: bs) pos) (m1.bind fun x => if x = true then .ok true else m2) (rp rBl) := fun I H σ Q st p => by
  refine w_orV (j I H σ _ st ?_)
  cases m1 with
  | ok x =>
    intro I1 H1 v f r
    have p1 := PostE.up p f
    refine ⟨x, r, ?_⟩
    cases x with
    | true => exact iteT (p1 I1 H1 _ (Fm.refl f.ih) rfl)
    | false => exact iteF (k I1 H1 σ Q (st.step f) p1)
  | err e => exact p
  | stuck => exact p
theorem JE.ifx {m m' : Res α} {r : Ra α} (j : JT X I0 H0 W ctx mem c mc) (k1 : JE X I0 H0 W ctx mem a m r) (k2 : JE X I0 H0 W ctx mem b m' r) : JE X I0 H0 W ctx mem (.IfExp c a b pos) (mc.bind fun x => if x = true then m else m') r := fun I H σ Q st p => by
  refine w_ifx (j I H σ _ st ?_)
  cases mc with
  | ok x =>
    intro I1 H1 v f r y hy
    cases r; cases hy
    have p1 := PostE.up p f
    cases x with
    | true => exact iteT (k1 I1 H1 σ Q (st.step f) p1)
    | false => exact iteF (k2 I1 H1 σ Q (st.step f) p1)
  | err e => exact p
  | stuck => exact p
/-! ### arguments and calls -/
theorem JA.nil : JA X I0 H0 W ctx mem [] (.ok ()) aNil := fun I H σ Q st p => w_nil (p I H [] (Fm.refl st.same) rfl)
theorem JA.cons {R : Hp → Hp → List V → δ → Prop} {m : Res δ} [MoA ra] (j : JE X I0 H0 W ctx mem e ma ra) (k : JA X I0 H0 W ctx mem es m R) (hs : starEach (e :: es) X.env = (false, eval e X.env) :: starEach es X.env := by rfl) :
    JA X I0 H0 W ctx mem (e :: es) (ma.bind fun x => m.bind fun y => .ok (x, y)) (aCons ra R) := fun I H σ Q st p => by
  refine Tr.w_cons (j I H σ _ st ?_) hs
  cases ma with
  | ok x =>
    intro I1 H1 v f1 r1
    refine k I1 H1 σ _ (st.step f1) ?_
    cases m with
    | ok y => exact fun I2 H2 vs f2 r2 => p I2 H2 _ (f1.trans f2) ⟨v, vs, rfl, MoA.up f2.i f2.h r1, r2⟩
    | err e => exact fun I2 H2 c d f2 x => p I2 H2 c d (f1.trans f2) ⟨x.1.back f1.h, x.2⟩
    | stuck => exact p
  | err e => exact p
  | stuck => exact p
variable {R : Hp → Hp → List V → δ → Prop} {md : Res δ} {g : δ → Res γ}
theorem JA.call (k : JA X I0 H0 W ctx mem es md R) {f : Value} (cj : CallJ X W f R g rc) {I H : Hp} {σ : St} {Q : VK} (st : Stt I0 H0 ctx mem I H σ) (p : PostE X.K (md.bind g) rc I H (fun cls d H' => W cls d σ H') Q) : wA X es σ H fun vs H1 => callW X f σ vs H1 Q := by
  refine k I H σ _ st ?_
  cases md with
  | ok x => exact fun I1 H1 vs f1 r1 => cj I1 H1 σ Q vs x f1.ih r1 (PostE.up p f1)
  | err e => exact p
  | stuck => exact p
/-- f(..), C(..) by a global name -/
theorem JE.call {f : Addr} (k : JA X I0 H0 W ctx mem (e :: es) md R) (cj : CallJ X W (.ref f) R g rc) (hm : X.mg n = some (.ref f)) (hk : PySem.W.keepIn X.K (.ref f) = true) (hg : Gl X n := by rfl) (hdb : (n == ("__debug__" : Str)) = false := by decide)
    (he : starEach (e :: es) X.env = (false, eval e X.env) :: starEach es X.env := by rfl) (hpl : (backTo pos (starEach es X.env)).any (·.1) = false := by rfl) : JE X I0 H0 W ctx mem (.Call (.Name n pos') (e :: es) [] pos) (md.bind g) rc := fun I H σ Q st p =>
  w_call (k.call cj st p) hm hk hg hdb he hpl
/-- a built-in by its name -/
theorem JE.callB {id : String} (k : JA X I0 H0 W ctx mem (e :: es) md R) (cj : CallJ X W (.builtin id) R g rc) (hm : X.mg n = none) (hv : bootBuiltins n = some (.builtin id)) (hg : Gl X n := by rfl) (hn : n ≠ "__name__" := by decide) (hdb : (n == ("__debug__" : Str)) = false := by decide)
    (he : starEach (e :: es) X.env = (false, eval e X.env) :: starEach es X.env := by rfl) (hpl : (backTo pos (starEach es X.env)).any (·.1) = false := by rfl) : JE X I0 H0 W ctx mem (.Call (.Name n pos') (e :: es) [] pos) (md.bind g) rc := fun I H σ Q st p =>
  w_callB (k.call cj st p) hm hv hg hn hdb he hpl
theorem JE.callTy {T : String} (k : JA X I0 H0 W ctx mem (e :: es) md R) (cj : CallJ X W (.type T) R g rc) (hm : X.mg n = none) (hv : bootBuiltins n = some (.type T)) (hg : Gl X n := by rfl) (hn : n ≠ "__name__" := by decide) (hdb : (n == ("__debug__" : Str)) = false := by decide)
    (he : starEach (e :: es) X.env = (false, eval e X.env) :: starEach es X.env := by rfl) (hpl : (backTo pos (starEach es X.env)).any (·.1) = false := by rfl) : JE X I0 H0 W ctx mem (.Call (.Name n pos') (e :: es) [] pos) (md.bind g) rc := fun I H σ Q st p =>
  w_callTy (k.call cj st p) hm hv hg hn hdb he hpl
/-- what an instance must be for its methods -/
def InsOf (C : Addr) (r : Ra α) (m : Str) : Prop := ∀ I H v x, Same I H → r I H v x → ∃ a dx fs, v = .ref a ∧ H a = some (.ins C dx fs) ∧ fs.lookup m = none
theorem JE.meth {pl : Sem Bool} {m : Str} {C f : Addr} {apos : Pos} {g : α × δ → Res γ} [MoA ra] (j : JE X I0 H0 W ctx mem o ma ra) (hi : InsOf C ra m) (k : JA X I0 H0 W ctx mem (e :: es) md R) (cj : CallJ X W (.ref f) (aCons ra R) g rc) (c : Cls X.K C) (hm : Meth X.K C m f)
    (hst : starEach (e :: es) X.env = (false, eval e X.env) :: starEach es X.env := by rfl) (hpl : (backTo pos (starEach es X.env)).any (·.1) = false := by rfl)
    (ht : eval (.Call (.Attribute o m apos) (e :: es) [] pos) X.env = (do
      let ov ← eval o X.env
      standAt apos.atName
      let (f, first) ← holding [ov] (getMethod ov m pl)
      callWith pos f first (backTo pos (starEach (e :: es) X.env)) (backToKw pos (keywordEach [] X.env))) := by rfl) : JE X I0 H0 W ctx mem (.Call (.Attribute o m apos) (e :: es) [] pos) (ma.bind fun x => md.bind fun y => g (x, y)) rc := fun I H σ Q st p => by
  refine w_meth (j I H σ _ st ?_) c hm hst hpl ht
  cases ma with
  | ok x =>
    intro I1 H1 v f1 r1
    obtain ⟨a, dx, fs, ev, ha, hl⟩ := hi I1 H1 v x f1.ih r1
    refine ⟨a, dx, fs, ev, ha, hl, k I1 H1 σ _ (st.step f1) ?_⟩
    have p1 := PostE.up p f1
    cases md with
    | ok y => exact fun I2 H2 vs f2 r2 => cj I2 H2 σ Q (v :: vs) (x, y) f2.ih ⟨v, vs, rfl, MoA.up f2.i f2.h r1, r2⟩ (PostE.up p1 f2)
    | err e => exact p1
    | stuck => exact p1
  | err e => exact p
  | stuck => exact p
theorem JE.meth0 {pl : Sem Bool} {m : Str} {C f : Addr} {apos : Pos} {g : α × Unit → Res γ} (j : JE X I0 H0 W ctx mem o ma ra) (hi : InsOf C ra m) (cj : CallJ X W (.ref f) (aCons ra aNil) g rc) (c : Cls X.K C) (hm : Meth X.K C m f)
    (ht : eval (.Call (.Attribute o m apos) [] [] pos) X.env = (do
      let ov ← eval o X.env
      standAt apos.atName
      let (f, first) ← holding [ov] (getMethod ov m pl)
      callWith pos f first (backTo pos (starEach [] X.env)) (backToKw pos (keywordEach [] X.env))) := by rfl) : JE X I0 H0 W ctx mem (.Call (.Attribute o m apos) [] [] pos) (ma.bind fun x => g (x, ())) rc := fun I H σ Q st p => by
  refine w_meth0 (j I H σ _ st ?_) c hm ht
  cases ma with
  | ok x =>
    intro I1 H1 v f1 r1
    obtain ⟨a, dx, fs, ev, ha, hl⟩ := hi I1 H1 v x f1.ih r1
    exact ⟨a, dx, fs, ev, ha, hl, cj I1 H1 σ Q [v] (x, ()) f1.ih ⟨v, [], rfl, r1, rfl⟩ (PostE.up p f1)⟩
  | err e => exact p
  | stuck => exact p
/-- what a field is worth -/
def FldOf (K : PySem.W.Frag) (C : Addr) (r : Ra α) (f : Str) (get : α → β) (rf : Ra β) : Prop := ∀ I H v x, Same I H → r I H v x → ∃ a dx fs w, v = .ref a ∧ H a = some (.ins C dx fs) ∧ fs.lookup f = some w ∧ rf I H w (get x)
theorem JE.fld {C : Addr} {f : Str} {get : α → β} (j : JE X I0 H0 W ctx mem o ma ra) (hf : FldOf X.K C ra f get rb) (c : Cls X.K C) (hn : NoAttr X.K C f) (hb : attributeBase o f X.env (eval o X.env) = eval o X.env := by rfl) :
    JE X I0 H0 W ctx mem (.Attribute o f pos) (ma.bind fun x => .ok (get x)) rb := fun I H σ Q st p => by
  refine w_fld (j I H σ _ st ?_) hb
  cases ma with
  | ok x =>
    intro I1 H1 v f1 r1
    obtain ⟨a, dx, fs, w, ev, ha, hl, hw⟩ := hf I1 H1 v x f1.ih r1
    exact ⟨a, C, dx, fs, w, ev, ha, c, hn, hl, p I1 H1 w f1 hw⟩
  | err e => exact p
  | stuck => exact p
end

/-! ### statements -/
section
variable {α β γ δ S : Type}
abbrev Knows := Hp → Hp → St → Prop
abbrev KnowsX := Hp → Hp → St → Option Addr → Prop
def PostB (X : Cx) (W : WX) (Kx : KnowsX) (I : Hp) (m : Res S) (G : S → Knows) (D : Ends) : Prop := match m with
  | .ok s => ∀ I' H' σ', Same I I' → G s I' H' σ' → D.nx σ' H'
  | .err e => ∀ I' H' σ' cls d, Kx I' H' σ' d → ExR X.K I' H' e cls d → W cls d σ' H'
  | .stuck => False
def PostR (X : Cx) (I0 H0 : Hp) (W : WX) (Kx : KnowsX) (m : Res γ) (r : Ra γ) (D : Ends) : Prop := match m with
  | .ok y => ∀ I' H' v, Fm I0 H0 I' H' → r I' H' v y → D.rt v H'
  | .err e => ∀ I' H' σ' cls d, Kx I' H' σ' d → ExR X.K I' H' e cls d → W cls d σ' H'
  | .stuck => False
theorem PostB.up {X : Cx} {W : WX} {Kx : KnowsX} {I I1 : Hp} {m : Res S} {G : S → Knows} {D : Ends} (p : PostB X W Kx I m G D) (s : Same I I1) : PostB X W Kx I1 m G D := by
  cases m with
  | ok a => exact fun I' H' σ' q => p I' H' σ' (s.trans q)
  | err e => exact p
  | stuck => exact p
/-- one statement that goes on -/
def J1 (X : Cx) (W : WX) (Kx : KnowsX) (G : Knows) (st : Stmt) (m : Res S) (G' : S → Knows) : Prop := ∀ (I H : Hp) (σ : St) (D : Ends), G I H σ → PostB X W Kx I m G' D → wS X st D σ H
/-- a block that goes on -/
def JN (X : Cx) (W : WX) (Kx : KnowsX) (G : Knows) (ss : List Stmt) (m : Res S) (G' : S → Knows) : Prop := ∀ (I H : Hp) (σ : St) (D : Ends), G I H σ → PostB X W Kx I m G' D → wB X ss D σ H
/-- a block that ends the def -/
def JR (X : Cx) (I0 H0 : Hp) (W : WX) (Kx : KnowsX) (G : Knows) (ss : List Stmt) (m : Res γ) (r : Ra γ) : Prop := ∀ (I H : Hp) (σ : St) (D : Ends), G I H σ → PostR X I0 H0 W Kx m r D → wB X ss D σ H
variable {X : Cx} {I0 H0 : Hp} {W : WX} {Kx : KnowsX} {G : Knows} {ctx : List (Option SF)} {mem : List MF} {e a b c o : Expr} {es bs : List Expr} {st : Stmt} {ss s1 s2 : List Stmt} {pos pos' : Pos} {n : Str} {ra : Ra α} {rr : Ra γ} {ma : Res α} {mc : Res Bool}
theorem JN.nil {s : S} {G' : S → Knows} (h : ∀ I H σ, G I H σ → G' s I H σ) : JN X W Kx G [] (.ok s) G' := fun I H σ D g p => b_nil (p I H σ (Same.refl _) (h _ _ _ g))
theorem JN.seq {T : Type} {m : Res S} {G1 : S → Knows} {f : S → Res T} {G2 : T → Knows} (j : J1 X W Kx G st m G1) (k : ∀ s, JN X W Kx (G1 s) ss (f s) G2) : JN X W Kx G (st :: ss) (m.bind f) G2 := fun I H σ D g p => by
  refine b_cons (j I H σ _ g ?_)
  cases m with
  | ok s => exact fun I' H' σ' si g' => k s I' H' σ' D g' (PostB.up p si)
  | err e => exact p
  | stuck => exact p
theorem JN.last {m : Res S} {G1 : S → Knows} (j : J1 X W Kx G st m G1) : JN X W Kx G [st] m G1 := fun I H σ D g p => by
  refine b_cons (j I H σ _ g ?_)
  cases m with
  | ok s => exact fun I' H' σ' si g' => b_nil (p I' H' σ' si g')
  | err e => exact p
  | stuck => exact p
theorem JR.seq {m : Res S} {G1 : S → Knows} {f : S → Res γ} (j : J1 X W Kx G st m G1) (k : ∀ s, JR X I0 H0 W Kx (G1 s) ss (f s) rr) : JR X I0 H0 W Kx G (st :: ss) (m.bind f) rr := fun I H σ D g p => by
  refine b_cons (j I H σ _ g ?_)
  cases m with
  | ok s => exact fun I' H' σ' _ g' => k s I' H' σ' D g' p
  | err e => exact p
  | stuck => exact p
theorem JR.ret {m : Res γ} (j : JE X I0 H0 W ctx mem e m rr) (hx : ∀ I H σ d, Stt I0 H0 ctx mem I H σ → Fr H0 d → Kx I H σ d) : JR X I0 H0 W Kx (Stt I0 H0 ctx mem) (.Return (some e) pos :: ss) m rr := fun I H σ D g p => by
  refine b_cons (s_ret (j I H σ _ g ?_))
  cases m with
  | ok y => exact fun I' H' v f r => p I' H' v (g.fm.trans f) r
  | err e => exact fun I' H' c d f x => p I' H' σ c d (hx _ _ _ _ (g.step f) (x.1.back g.fm.h)) x.2
  | stuck => exact p
theorem JR.ifR {m1 m2 : Res γ} (j : JT X I0 H0 W ctx mem c mc) (k1 : JR X I0 H0 W Kx (Stt I0 H0 ctx mem) s1 m1 rr) (k2 : JR X I0 H0 W Kx (Stt I0 H0 ctx mem) ss m2 rr) (hx : ∀ I H σ d, Stt I0 H0 ctx mem I H σ → Fr H0 d → Kx I H σ d) :
    JR X I0 H0 W Kx (Stt I0 H0 ctx mem) (.If c s1 [] pos :: ss) (mc.bind fun x => if x = true then m1 else m2) rr := fun I H σ D g p => by
  refine b_cons (s_if (j I H σ _ g ?_))
  cases mc with
  | ok x =>
    intro I1 H1 v f r y hy
    cases r; cases hy
    cases x with
    | true =>
      refine iteT (b_mono (k1 I1 H1 σ { D with nx := fun _ _ => False } (g.step f) ?_) (fun _ _ z => z.elim) (fun _ _ z => z) (fun _ _ z => z) (fun _ _ z => z))
      exact p
    | false => exact iteF (b_nil (k2 I1 H1 σ D (g.step f) p))
  | err e => exact fun I' H' c d f x => p I' H' σ c d (hx _ _ _ _ (g.step f) (x.1.back g.fm.h)) x.2
  | stuck => exact p
theorem J1.if {m1 m2 : Res S} {G' : S → Knows} (j : JT X I0 H0 W ctx mem c mc) (k1 : JN X W Kx (Stt I0 H0 ctx mem) s1 m1 G') (k2 : JN X W Kx (Stt I0 H0 ctx mem) s2 m2 G') (hx : ∀ I H σ d, Stt I0 H0 ctx mem I H σ → Fr H0 d → Kx I H σ d) :
    J1 X W Kx (Stt I0 H0 ctx mem) (.If c s1 s2 pos) (mc.bind fun x => if x = true then m1 else m2) G' := fun I H σ D g p => by
  refine s_if (j I H σ _ g ?_)
  cases mc with
  | ok x =>
    intro I1 H1 v f r y hy
    cases r; cases hy
    cases x with
    | true => exact iteT (k1 I1 H1 σ D (g.step f) (PostB.up p f.i))
    | false => exact iteF (k2 I1 H1 σ D (g.step f) (PostB.up p f.i))
  | err e => exact fun I' H' c d f x => p I' H' σ c d (hx _ _ _ _ (g.step f) (x.1.back g.fm.h)) x.2
  | stuck => exact p
theorem J1.set (i : Nat) {r : Rp α} [Mo r] {m : Res α} (j : JE X I0 H0 W ctx mem e m (rp r)) (hx : ∀ I H σ d, Stt I0 H0 ctx mem I H σ → Fr H0 d → Kx I H σ d) (hN : X.N.Nodup) (hi : X.N[i]? = some n := by rfl) (hl : Loc X.env.scope n := by first | exact Or.inl rfl | exact Or.inr rfl) (hs : swapsWith e (some (.Name n pos')) pos.line X.env = pure false := by rfl)
    (hf : X.fn n = true ∨ X.env.scope.names.lookup n = some .local := by first | exact .inl rfl | exact .inr rfl | assumption) : J1 X W Kx (Stt I0 H0 ctx mem) (.Assign [.Name n pos'] e pos) m (fun x => Stt I0 H0 (ctx.set i (some ⟨r, x⟩)) mem) := fun I H σ D g p => by
  refine s_set i (j I H σ _ g ?_) hN hi hl hs hf
  cases m with
  | ok x => exact fun I' H' v f h => p I' H' _ f.i ((g.step f).set i h)
  | err e => exact fun I' H' c d f x => p I' H' σ c d (hx _ _ _ _ (g.step f) (x.1.back g.fm.h)) x.2
  | stuck => exact p
theorem J1.expr {m : Res α} (j : JE X I0 H0 W ctx mem e m ra) (hx : ∀ I H σ d, Stt I0 H0 ctx mem I H σ → Fr H0 d → Kx I H σ d) (hs : swapsWith e none pos.line X.env = pure false := by rfl) : J1 X W Kx (Stt I0 H0 ctx mem) (.Expr e pos) m (fun _ => Stt I0 H0 ctx mem) := fun I H σ D g p => by
  refine s_expr (j I H σ _ g ?_) hs
  cases m with
  | ok x => exact fun I' H' v f h => p I' H' σ f.i (g.step f)
  | err e => exact fun I' H' c d f x => p I' H' σ c d (hx _ _ _ _ (g.step f) (x.1.back g.fm.h)) x.2
  | stuck => exact p
/-- a block that ends by itself: the def hands back None -/
theorem JR.end {m : Res S} {G' : S → Knows} {f : S → Res γ} (j : JN X W Kx G ss m G') : True := trivial
end
end L2.Tr

namespace L2.Tr
open PySem PySem.Spec PyProof.Rows
section
variable {α β γ δ S : Type} {X : Cx} {W : WX}
/-! ### ints -/
def mulI (x y : Int) : Res Int := Res.guard (x.natAbs.log2 + y.natAbs.log2 < 1000000) (.ok (x * y))
def modI (x y : Int) : Res Int := Res.guard (y ≠ 0) (.ok (x.fmod y))
def fdivI (x y : Int) : Res Int := Res.guard (y ≠ 0 ∧ y.natAbs.log2 < 9000) (.ok (x.fdiv y))
def powI (x y : Int) : Res Int := Res.guard (0 ≤ y ∧ (y ≤ 1000000 ∧ x.natAbs < 2 ^ 64 ∨ (x.natAbs.log2 + 1) * y.toNat ≤ 2 ^ 27)) (.ok (x ^ y.toNat))
theorem post_guard {p : Prop} [Decidable p] {m : Res α} {K : PySem.W.Frag} {r : Ra α} {I H : Hp} {E : XK} {Q : VK} (h : PostE K (Res.guard p m) r I H E Q) : p ∧ PostE K m r I H E Q := by
  unfold Res.guard at h
  by_cases q : p
  · rw [if_pos q] at h; exact ⟨q, h⟩
  · rw [if_neg q] at h; exact False.elim h
theorem op_fdivV : OpR X (binaryOp .FloorDiv) (rI (fun _ j => j ≠ 0 ∧ j.natAbs.log2 < 9000) fun i j => .int (i.fdiv j)) := opI fun i j _ _ _ _ _ hc q => floordiv_int hc.1 q (.inl (PyProof.noPylong_of_log2 hc.2))
theorem opj_add : OpJ X W (binaryOp .Add) (rp rInt) (rp rInt) (fun x y => .ok (x + y)) (rp rInt) := fun I H σ Q u v x y s a b p => OpR.w op_add ⟨x, y, a, b, p I H _ (Fm.refl s) rfl⟩
theorem opj_sub : OpJ X W (binaryOp .Sub) (rp rInt) (rp rInt) (fun x y => .ok (x - y)) (rp rInt) := fun I H σ Q u v x y s a b p => OpR.w op_sub ⟨x, y, a, b, p I H _ (Fm.refl s) rfl⟩
theorem opj_mul : OpJ X W (binaryOp .Mult) (rp rInt) (rp rInt) (fun x y => mulI x y) (rp rInt) := fun I H σ Q u v x y s a b p => OpR.w op_mulW ⟨x, y, a, b, (post_guard p).1, (post_guard p).2 I H _ (Fm.refl s) rfl⟩
theorem opj_mod : OpJ X W (binaryOp .Mod) (rp rInt) (rp rInt) (fun x y => modI x y) (rp rInt) := fun I H σ Q u v x y s a b p => OpR.w op_modN ⟨x, y, a, b, (post_guard p).1, (post_guard p).2 I H _ (Fm.refl s) rfl⟩
theorem opj_fdiv : OpJ X W (binaryOp .FloorDiv) (rp rInt) (rp rInt) (fun x y => fdivI x y) (rp rInt) := fun I H σ Q u v x y s a b p => OpR.w op_fdivV ⟨x, y, a, b, (post_guard p).1, (post_guard p).2 I H _ (Fm.refl s) rfl⟩
theorem op_powV : OpR X (binaryOp .Pow) (rI (fun x y => 0 ≤ y ∧ (y ≤ 1000000 ∧ x.natAbs < 2 ^ 64 ∨ (x.natAbs.log2 + 1) * y.toNat ≤ 2 ^ 27)) fun i j => .int (i ^ j.toNat)) := opI fun x y _ _ _ _ _ hc q => by
  rcases hc.2 with h | h
  · exact pow_int_small hc.1 h.1 h.2 q
  · refine pow_int hc.1 ?_ q
    have b : Builtin.Int.intBits x ≤ x.natAbs.log2 + 1 := by
      unfold Builtin.Int.intBits
      split <;> omega
    have e : y = (y.toNat : Int) := (Int.toNat_of_nonneg hc.1).symm
    rw [e]
    have := Nat.mul_le_mul_right y.toNat b
    have h2 : Builtin.Int.intBits x * y.toNat ≤ 2 ^ 27 := Nat.le_trans this h
    exact_mod_cast h2
theorem opj_pow : OpJ X W (binaryOp .Pow) (rp rInt) (rp rInt) (fun x y => powI x y) (rp rInt) := fun I H σ Q u v x y s a b p => OpR.w op_powV ⟨x, y, a, b, (post_guard p).1, (post_guard p).2 I H _ (Fm.refl s) rfl⟩
theorem opj_lt : OpJ X W (compareOp .Lt) (rp rInt) (rp rInt) (fun x y => .ok (decide (x < y))) (rp rBl) := fun I H σ Q u v x y s a b p => OpR.w op_lt ⟨x, y, a, b, p I H _ (Fm.refl s) rfl⟩
theorem opj_gt : OpJ X W (compareOp .Gt) (rp rInt) (rp rInt) (fun x y => .ok (decide (y < x))) (rp rBl) := fun I H σ Q u v x y s a b p => OpR.w op_gt ⟨x, y, a, b, p I H _ (Fm.refl s) rfl⟩
theorem opj_ge : OpJ X W (compareOp .GtE) (rp rInt) (rp rInt) (fun x y => .ok (decide (y ≤ x))) (rp rBl) := fun I H σ Q u v x y s a b p => OpR.w op_ge ⟨x, y, a, b, p I H _ (Fm.refl s) rfl⟩
theorem decV {a b : Int} : decide (V.int a = V.int b) = decide (a = b) := by by_cases h : a = b <;> simp [h]
theorem opj_eq : OpJ X W (compareOp .Eq) (rp rInt) (rp rInt) (fun x y => .ok (decide (x = y))) (rp rBl) := fun I H σ Q u v x y s a b p => by
  cases a; cases b
  exact OpR.w op_eq ⟨rfl, p I H _ (Fm.refl s) (by rw [decV]; rfl)⟩
theorem opj_ne : OpJ X W (compareOp .NotEq) (rp rInt) (rp rInt) (fun x y => .ok (!decide (x = y))) (rp rBl) := fun I H σ Q u v x y s a b p => by
  cases a; cases b
  exact OpR.w op_ne ⟨rfl, p I H _ (Fm.refl s) (by rw [decV]; rfl)⟩
theorem unj_neg : UnJ X W (unaryOp .USub) (rp rInt) (fun x => .ok (-x)) (rp rInt) := fun I H σ Q u x s a p => UnR.w un_neg ⟨x, a, p I H _ (Fm.refl s) rfl⟩
abbrev R1 (r : Ra α) := aCons r aNil
abbrev R2' (r : Ra α) (r' : Ra β) := aCons r (aCons r' aNil)
theorem cj_abs : CallJ X W (.builtin "abs") (R1 (rp rInt)) (fun d => .ok (if d.1 < 0 then -d.1 else d.1)) (rp rInt) := fun I H σ Q vs x s a p => by
  obtain ⟨v, ws, rfl, h, rfl⟩ := a
  exact CallR.w call_abs ⟨x.1, by rw [show v = _ from h], p I H _ (Fm.refl s) rfl⟩
theorem cj_int : CallJ X W (.type "int") (R1 (rp rInt)) (fun d => .ok d.1) (rp rInt) := fun I H σ Q vs x s a p => by
  obtain ⟨v, ws, rfl, h, rfl⟩ := a
  exact CallR.w call_int1 (.inl ⟨x.1, by rw [show v = _ from h], p I H _ (Fm.refl s) rfl⟩)
theorem cj_intB : CallJ X W (.type "int") (R1 (rp rBl)) (fun d => .ok (if d.1 = true then 1 else 0)) (rp rInt) := fun I H σ Q vs x s a p => by
  obtain ⟨v, ws, rfl, h, rfl⟩ := a
  exact CallR.w call_int1 (.inr ⟨x.1, by rw [show v = _ from h], p I H _ (Fm.refl s) rfl⟩)
theorem cj_max (hc : X.calm = true) : CallJ X W (.builtin "max") (R2' (rp rInt) (rp rInt)) (fun d => .ok (if d.2.1 > d.1 then d.2.1 else d.1)) (rp rInt) := fun I H σ Q vs x s a p => by
  obtain ⟨v, ws, rfl, h, v', ws', rfl, h', rfl⟩ := a
  exact CallR.w (call_max2 hc) ⟨x.1, x.2.1, by rw [show v = _ from h, show v' = _ from h'], p I H _ (Fm.refl s) rfl⟩
theorem cj_len {r : Ra α} : CallJ X W (.builtin "len") (R1 (rdL X.K r)) (fun d => .ok (d.1.length : Int)) (rp rInt) := fun I H σ Q vs x s a p => by
  obtain ⟨v, ws, rfl, ⟨l, vs, rfl, hl, pr⟩, rfl⟩ := a
  exact CallR.w call_len ⟨_, vs.length, rfl, .inl ⟨vs, hl, rfl⟩, by rw [Paired.length pr]; exact p I H _ (Fm.refl s) rfl⟩

/-! ### lists -/
/-- a frozen list, a parameter's list: readable -/
theorem rL_rd {r : Rp α} {K : PySem.W.Frag} {I H : Hp} {v : V} {xs : List α} (s : Same I H) (h : rL r I v xs) : rdL K (rp r) I H v xs := by
  obtain ⟨l, vs, rfl, e, p⟩ := h
  exact ⟨l, vs, rfl, SqL.of (s _ _ e), p⟩
/-- the index i of a list, any sign -/
def atM (xs : List α) (i : Int) : Res α := match atI xs i with
  | some x => .ok x
  | none => .stuck
theorem paired_get {F : α → β → Prop} : ∀ {xs : List α} {ys : List β} {i : Nat} {y : β}, Paired F xs ys → ys[i]? = some y → ∃ x, xs[i]? = some x ∧ F x y
  | _, _, _, _, .nil, e => by simp at e
  | _, _, 0, _, .cons r _, e => by simp at e; subst e; exact ⟨_, rfl, r⟩
  | _, _, i + 1, y, .cons _ t, e => by
    obtain ⟨u, h1, h2⟩ := paired_get (i := i) (y := y) t (by simpa using e)
    exact ⟨u, by simpa using h1, h2⟩
end
end L2.Tr

namespace L2.Tr
open PySem PySem.Spec PyProof.Rows
section
variable {α β γ δ S : Type} {X : Cx} {I0 H0 : Hp} {W : WX} {ctx : List (Option SF)} {mem : List MF} {e a b c o : Expr} {es bs : List Expr} {pos pos' : Pos} {n : Str} {ra : Ra α} {rb : Ra β} {rc : Ra γ} {ma : Res α} {mb : Res β}
/-! ### subscripts, displays -/
theorem atI_pair {F : α → β → Prop} {xs : List α} {ys : List β} {i : Int} {y : β} (p : Paired F xs ys) (h : atI ys i = some y) : ∃ x, atI xs i = some x ∧ F x y := by
  unfold atI at h ⊢
  rw [Paired.length p]
  cases e : ixN ys.length i with
  | none => rw [e] at h; cases h
  | some j => rw [e] at h; exact paired_get p h
theorem JE.ix {r : Ra α} {m : Res (List α)} {mi : Res Int} [MoA r] (ja : JE X I0 H0 W ctx mem a m (rdL X.K r)) (jb : JE X I0 H0 W ctx mem b mi (rp rInt)) (hs : PlainIx b := by exact fun _ _ => rfl) :
    JE X I0 H0 W ctx mem (.Subscript a b pos) (m.bind fun xs => mi.bind fun i => atM xs i) r := fun I H σ Q st p => by
  refine PE.w (pe_ix ix_list pe_W pe_W hs) (ja I H σ _ st ?_)
  cases m with
  | ok xs =>
    intro I1 H1 u f1 r1
    refine jb I1 H1 σ _ (st.step f1) ?_
    have p1 := PostE.up p f1
    cases mi with
    | ok i =>
      intro I2 H2 v f2 r2
      obtain ⟨l, vs, rfl, hl, pr⟩ := MoA.up (r := rdL X.K r) f2.i f2.h r1
      have p2 : PostE X.K (atM xs i) r I2 H2 _ Q := PostE.up p1 f2
      unfold atM at p2
      cases e : atI xs i with
      | none => rw [e] at p2; exact p2.elim
      | some x =>
        rw [e] at p2
        obtain ⟨w, ew, hw⟩ := atI_pair pr e
        exact ⟨l, vs, i, w, rfl, r2, hl, ew, p2 I2 H2 w (Fm.refl f2.ih) hw⟩
    | err e => exact p1
    | stuck => exact p1
  | err e => exact p
  | stuck => exact p
def lR (n : Nat) (r : Ra α) : Hp → Hp → List V → List α → Prop := fun I H vs xs => vs.length = n ∧ Paired (r I H) vs xs
theorem JA.nilL {r : Ra α} : JA X I0 H0 W ctx mem [] (.ok []) (lR 0 r) := fun I H σ Q st p => w_nil (p I H [] (Fm.refl st.same) ⟨rfl, .nil⟩)
theorem JA.consL {k : Nat} {r : Ra α} {m : Res (List α)} [MoA r] (j : JE X I0 H0 W ctx mem e ma r) (jk : JA X I0 H0 W ctx mem es m (lR k r)) (hs : starEach (e :: es) X.env = (false, eval e X.env) :: starEach es X.env := by rfl) :
    JA X I0 H0 W ctx mem (e :: es) (ma.bind fun x => m.bind fun y => .ok (x :: y)) (lR (k + 1) r) := fun I H σ Q st p => by
  refine Tr.w_cons (j I H σ _ st ?_) hs
  cases ma with
  | ok x =>
    intro I1 H1 v f1 r1
    refine jk I1 H1 σ _ (st.step f1) ?_
    cases m with
    | ok y => exact fun I2 H2 vs f2 r2 => p I2 H2 _ (f1.trans f2) ⟨by rw [List.length_cons, r2.1], .cons (MoA.up f2.i f2.h r1) r2.2⟩
    | err e => exact fun I2 H2 c d f2 x => p I2 H2 c d (f1.trans f2) ⟨x.1.back f1.h, x.2⟩
    | stuck => exact p
  | err e => exact p
  | stuck => exact p
/-- [..], frozen at once -/
theorem JE.lst {k : Nat} {r : Rp α} {m : Res (List α)} [mo : Mo r] (j : JA X I0 H0 W ctx mem es m (lR k (rp r))) (hk : k ≤ sizeLine := by decide) : JE X I0 H0 W ctx mem (.List es pos) m (rp (rL r)) := fun I H σ Q st p => by
  refine w_lst (j I H σ _ st ?_)
  cases m with
  | ok xs => exact fun I1 H1 vs f1 r1 => ⟨by rw [r1.1]; exact hk, fun q hq => p _ _ _ (f1.trans (Fm.new f1.ih hq)) ⟨q, vs, rfl, upd_same, Paired.mapP r1.2 fun _ _ z => mo.up (Fm.new (o := .lst vs) f1.ih hq).i z⟩⟩
  | err e => exact p
  | stuck => exact p
theorem JE.tup {k : Nat} {r : Rp α} {m : Res (List α)} {x1} [mo : Mo r] (j : JA X I0 H0 W ctx mem es m (lR k (rp r))) (hk : k ≤ sizeLine := by decide) : JE X I0 H0 W ctx mem (.Tuple es x1 pos) m (rp (rT r)) := fun I H σ Q st p => by
  refine w_tup (j I H σ _ st ?_)
  cases m with
  | ok xs => exact fun I1 H1 vs f1 r1 => ⟨by rw [r1.1]; exact hk, fun q hq => p _ _ _ (f1.trans (Fm.new f1.ih hq)) ⟨q, vs, rfl, upd_same, Paired.mapP r1.2 fun _ _ z => mo.up (Fm.new (o := .tup vs) f1.ih hq).i z⟩⟩
  | err e => exact p
  | stuck => exact p
/-- a frozen list as a readable one -/
theorem JE.rd {r : Rp α} {m : Res (List α)} (j : JE X I0 H0 W ctx mem e m (rp (rL r))) : JE X I0 H0 W ctx mem e m (rdL X.K (rp r)) := j.co fun _ _ _ _ s h => rL_rd s h
/-! ### lists of ints compared -/
theorem eqvAll_ints : ∀ xs ys : List Int, PyData.eqvAll (xs.map .int) (ys.map .int) = decide (xs = ys)
  | [], [] => rfl
  | [], _ :: _ => rfl
  | _ :: _, [] => rfl
  | x :: xs, y :: ys => by
    show (PyData.eqv (.int x) (.int y) && PyData.eqvAll (xs.map .int) (ys.map .int)) = _
    rw [eqvAll_ints xs ys]
    show ((x == y) && _) = _
    by_cases h : x = y <;> by_cases h' : xs = ys <;> simp [h, h']
theorem dpAll_ints {K : PySem.W.Frag} {I H : Hp} : ∀ {vs : List V} {xs : List Int}, Paired (rp rInt I H) vs xs → DpAll K H vs (xs.map .int)
  | _, _, .nil => .nil
  | _, _, .cons h t => .cons (by rw [show _ = V.int _ from h]; exact .int _) (dpAll_ints t)
theorem shaped_ints (xs : List Int) : SeqAt.shaped (.list (xs.map .int)) = true := by
  have h1 : ∀ xs : List Int, PyData.canLayAll0 (xs.map .int) = true := fun xs => by
    induction xs with
    | nil => rfl
    | cons x xs ih => show (true && _) = true; rw [ih]; rfl
  have h2 : PyData.depth (.list (xs.map .int)) ≤ 64 := by
    have : ∀ xs : List Int, PyData.depthAll (xs.map .int) ≤ 1 := fun xs => by
      induction xs with
      | nil => exact Nat.zero_le _
      | cons x xs ih =>
        show max _ _ ≤ 1
        exact Nat.max_le.mpr ⟨by first | exact Nat.le_refl _ | exact Nat.zero_le _ | (simp [PyData.depth]), ih⟩
    have := this xs
    first | (show _ + 1 ≤ 64; omega) | (simp [PyData.depth]; omega)
  unfold SeqAt.shaped
  rw [decide_eq_true h2]
  show (PyData.canLayAll0 _ && true) = true
  rw [h1]; rfl
end
end L2.Tr

namespace L2.Tr
open PySem PySem.Spec PyProof.Rows
section
variable {α β γ δ S : Type} {X : Cx} {I0 H0 : Hp} {W : WX} {ctx : List (Option SF)} {mem : List MF} {e a b c o : Expr} {es bs : List Expr} {pos pos' : Pos} {n : Str} {ra : Ra α} {rb : Ra β} {rc : Ra γ} {ma : Res α} {mb : Res β}
theorem opj_neL (hu : X.A.units + 64 < cLine) : OpJ X W (compareOp .NotEq) (rdL X.K (rp rInt)) (rdL X.K (rp rInt)) (fun x y => .ok (!decide (x = y))) (rp rBl) := fun I H σ Q u v x y s ⟨l, vs, e1, h1, p1⟩ ⟨l', vs', e2, h2, p2⟩ p => by
  subst e1; subst e2
  exact OpR.w (op_neD hu) ⟨.list (x.map .int), .list (y.map .int), .lst h1 (dpAll_ints p1), .lst h2 (dpAll_ints p2), shaped_ints _, shaped_ints _, p I H _ (Fm.refl s) (by show V.bl (!PyData.eqvAll _ _) = _; rw [eqvAll_ints])⟩

/-! ### own operators -/
/-- facts of an own class for its operators and isinstance -/
structure OCls (K : PySem.W.Frag) (C : Addr) : Prop where
  cl : Cls K C
  sf : PySem.W.selfFirst K C = true
  ca : PySem.W.findIn K (.ref C) "__class__" = some (some (.builtin "object.__class__"))
  cn : PySem.W.specialIn K (.builtin "object.__class__") "__get__" = some (some (.builtin "getset_descriptor.__get__"))
  ct : PySem.W.takesIn K (.builtin "object.__class__") = some true
  cm : PySem.W.mroIn K C (.type "object") = some true
  ni : PySem.W.subIn K (.ref C) (.type "int") = some false
  in_ : PySem.W.subIn K (.type "int") (.ref C) = some false
  ne : PySem.W.findIn K (.ref C) "__ne__" = some (some (.builtin "object.__ne__"))
structure OMet (K : PySem.W.Frag) (C : Addr) (m : Str) (f : Addr) : Prop where
  at_ : PySem.W.findIn K (.ref C) m = some (some (.ref f))
  fn : PySem.W.isFn K (.ref f) = true
def InsR (C : Addr) (r : Ra α) : Prop := ∀ I H v x, Same I H → r I H v x → ∃ a dx fs, v = .ref a ∧ H a = some (.ins C dx fs)
theorem insAt {pins : List (Addr × Obj)} {σ : St} {H : Hp} {s : Shared} {x C dx : Addr} {fs : List (Str × V)} (I : Inv X pins σ H s) (h : H x = some (.ins C dx fs)) : ∃ od, PySem.W.InstAt s.heap x (PySem.W.instObj C dx) C (some od) := by
  obtain ⟨mA, O, _⟩ := ins_get I.hok h
  obtain ⟨od, J, _⟩ := O.look
  exact ⟨od, J⟩
theorem cmpback' {v : V} {u : Value} {s : Shared} {Q : Value → Shared → Prop} (r : RelV v u) (h : Q u s) : PySem.W.CmpBack Q u s := by
  cases v with
  | non => cases (show u = Value.none from r); exact h
  | bl b => cases (show u = Value.bool b from r); exact h
  | int i => obtain ⟨t, e⟩ := (show ∃ t, u = Value.int i t from r); cases e; exact h
  | str x => obtain ⟨t, e⟩ := (show ∃ t, u = Value.str x t from r); cases e; exact h
  | byt b => obtain ⟨t, e⟩ := (show ∃ t, u = Value.bytes b t from r); cases e; exact h
  | flt b => obtain ⟨t, e⟩ := (show ∃ t, u = Value.float b t from r); cases e; exact h
  | ref a => cases (show u = Value.ref a from r); exact h
  | ty n => cases (show u = Value.type n from r); exact h
theorem back_W {f : Addr} {σ : St} {vs : List V} {H : Hp} {Q : VK} (h : callW X (.ref f) σ vs H Q) {pins : List (Addr × Obj)} {s : Shared} {us : List Value} (I : Inv X pins σ H s) (r : Vals vs us) :
    wpAny (model X.prog X.w) X.A (call (.ref f) us) (PySem.W.CmpBack (EP X pins σ Q)) X.xe s := thn (h pins s us I r) fun u s' ⟨v, H', I', rv, q⟩ => cmpback' rv ⟨v, H', I', rv, q⟩
/-- x op y, both of the class -/
theorem opj_own {op : Operator} {C f : Addr} {g : α × β × Unit → Res γ} (hc : OCls X.K C) (hm : OMet X.K C (PySem.dunder op.info.2) f) (ia : InsR C ra) (ib : InsR C rb) (cj : CallJ X W (.ref f) (R2' ra rb) g rc) :
    OpJ X W (binaryOp op) ra rb (fun x y => g (x, y, ())) rc := fun I H σ Q u v x y s a b p pins sh uu vv Iv ru rv => by
  obtain ⟨au, dx, fs, rfl, hu⟩ := ia I H u x s a
  obtain ⟨av, dy, gs, rfl, hv⟩ := ib I H v y s b
  cases (show uu = Value.ref au from ru)
  cases (show vv = Value.ref av from rv)
  obtain ⟨od, J⟩ := insAt Iv hu
  obtain ⟨od', J'⟩ := insAt Iv hv
  obtain ⟨m, hF⟩ := Iv.fr
  exact PySem.W.binop_K hF Iv.ok.mod.kin J J'.type hc.sf hm.at_ hm.fn (back_W (cj I H σ Q [.ref au, .ref av] (x, y, ()) s ⟨_, _, rfl, a, _, _, rfl, b, rfl⟩ p) Iv (.cons rfl (.cons rfl .nil)))
/-- x op n, n an int -/
theorem opj_ownI {op : Operator} {C f f' : Addr} {g : α × Int × Unit → Res γ} {fo ro : Option Value} (hc : OCls X.K C) (hm : OMet X.K C (PySem.dunder op.info.2) f) (hr : OMet X.K C (dunderR op.info.2) f') (h1 : PySem.W.findIn X.K (.type "int") (PySem.dunder op.info.2) = some fo) (h2 : PySem.W.findIn X.K (.type "int") (dunderR op.info.2) = some ro)
    (ia : InsR C ra) (cj : CallJ X W (.ref f) (R2' ra (rp rInt)) g rc) : OpJ X W (binaryOp op) ra (rp rInt) (fun x y => g (x, y, ())) rc := fun I H σ Q u v x y s a b p pins sh uu vv Iv ru rv => by
  obtain ⟨au, dx, fs, rfl, hu⟩ := ia I H u x s a
  cases (show uu = Value.ref au from ru)
  cases (show v = V.int y from b)
  obtain ⟨t, e⟩ := (show ∃ t, vv = Value.int y t from rv)
  cases e
  obtain ⟨od, J⟩ := insAt Iv hu
  obtain ⟨m, hF⟩ := Iv.fr
  exact PySem.W.ksp_binT (T := "int") hF Iv.ok.mod.kin J rfl hc.sf hm.at_ hm.fn hr.at_ (.inr ⟨_, rfl⟩) h1 h2 hc.in_ (back_W (cj I H σ Q [.ref au, .int y] (x, y, ()) s ⟨_, _, rfl, a, _, _, rfl, rfl, rfl⟩ p) Iv (.cons rfl (.cons ⟨_, rfl⟩ .nil)))
theorem opj_cmpI {op : CmpOp} {C f : Addr} {g : α × Int × Unit → Res γ} (hop : ∀ a b, compareOp op a b = richCompare op a b) (hc : OCls X.K C) (hm : OMet X.K C (cmpInfo op).2.1 f) (hu : X.A.units < cLine) (hn : PySem.W.notFirst X.K C (.type "int") = true) (ia : InsR C ra) (cj : CallJ X W (.ref f) (R2' ra (rp rInt)) g rc) :
    OpJ X W (compareOp op) ra (rp rInt) (fun x y => g (x, y, ())) rc := fun I H σ Q u v x y s a b p pins sh uu vv Iv ru rv => by
  obtain ⟨au, dx, fs, rfl, hu'⟩ := ia I H u x s a
  cases (show uu = Value.ref au from ru)
  cases (show v = V.int y from b)
  obtain ⟨t, e⟩ := (show ∃ t, vv = Value.int y t from rv)
  cases e
  obtain ⟨od, J⟩ := insAt Iv hu'
  obtain ⟨m, hF⟩ := Iv.fr
  rw [hop]
  exact PySem.W.cmp_K (tb := .type "int") hu hF Iv.ok.mod.kin J (PySem.W.Looks.of_pure rfl) hn hm.at_ hm.fn (back_W (cj I H σ Q [.ref au, .int y] (x, y, ()) s ⟨_, _, rfl, a, _, _, rfl, rfl, rfl⟩ p) Iv (.cons rfl (.cons ⟨_, rfl⟩ .nil)))
/-- the callee at one level below -/
theorem run_W1 {k : Nat} {f : Addr} {sp : Sp} {vs : List V} {H : Hp} {σ : St} {Q : VK} (F : FnR X.prog X.w X.K X.mg X.base (L2N.CX X.prog X.w) k f sp) (hr : Room (k + 1) X.A) (tk : L2N.Takes X W) (h : sp vs H Q fun cls d H' => W cls d σ H') {pins : List (Addr × Obj)} {s : Shared} {us : List Value} (I : Inv X pins σ H s) (r : Vals vs us) :
    wpAny (model X.prog X.w) X.A.in1 (call (.ref f) us) (EP X pins σ Q) X.xe s := by
  refine wpAny_call (codeAny_mono (F X.A.in1 X.stack s H us vs Q _ hr.in1 I.env0.in1 r h) fun r s' hq => ?_)
  cases r with
  | error e => exact L2N.passAt tk σ pins H s e s' I hq
  | ok fl =>
    cases fl with
    | ret u => exact I.after hq
    | next => exact False.elim hq
    | brk => exact False.elim hq
    | cont => exact False.elim hq
end
end L2.Tr

namespace L2.Tr
open PySem PySem.Spec PyProof.Rows
section
variable {α β γ δ S : Type} {X : Cx} {I0 H0 : Hp} {W : WX} {Kx : KnowsX} {G : Knows} {ctx : List (Option SF)} {mem : List MF} {e a b c o : Expr} {es bs : List Expr} {st : Stmt} {ss s1 s2 : List Stmt} {pos pos' : Pos} {n : Str} {ra : Ra α} {rb : Ra β} {rc : Ra γ} {ma : Res α} {mb : Res β}

/-! ### promises -/
def spF (K : PySem.W.Frag) (R : Hp → Hp → List V → δ → Prop) (m : δ → Res γ) (r : Ra γ) : Sp := fun vs H Q E => ∃ I d, Same I H ∧ R I H vs d ∧ PostE K (m d) r I H E Q
theorem cj_of {k : Nat} {f : Addr} {R : Hp → Hp → List V → δ → Prop} {m : δ → Res γ} (F : FnR X.prog X.w X.K X.mg X.base (L2N.CX X.prog X.w) k f (spF X.K R m rc)) (hr : Room k X.A) (tk : L2N.Takes X W) : CallJ X W (.ref f) R m rc := fun I H σ Q vs d s h p => run_W F hr tk ⟨I, d, s, h, p⟩
/-- arguments by another reading -/
theorem CallJ.co {δ' : Type} {f : Value} {R : Hp → Hp → List V → δ → Prop} {R' : Hp → Hp → List V → δ' → Prop} {m : δ → Res γ} {h : δ' → δ} (cj : CallJ X W f R m rc) (c : ∀ I H vs x, Same I H → R' I H vs x → R I H vs (h x)) : CallJ X W f R' (fun x => m (h x)) rc := fun I H σ Q vs x s r p => cj I H σ Q vs (h x) s (c I H vs x s r) p

theorem opj_neI {k : Nat} {C f : Addr} {g : α × Int × Unit → Res Bool} (hc : OCls X.K C) (hm : OMet X.K C "__eq__" f) (hr : Room (k + 1) X.A) (tk : L2N.Takes X W) (hn : PySem.W.notFirst X.K C (.type "int") = true) (ia : InsR C ra)
    (F : FnR X.prog X.w X.K X.mg X.base (L2N.CX X.prog X.w) k f (spF X.K (R2' ra (rp rInt)) g (rp rBl))) : OpJ X W (compareOp .NotEq) ra (rp rInt) (fun x y => (g (x, y, ())).bind fun z => .ok (!z)) (rp rBl) := fun I H σ Q u v x y s a b p pins sh uu vv Iv ru rv => by
  obtain ⟨au, dx, fs, rfl, hu'⟩ := ia I H u x s a
  cases (show uu = Value.ref au from ru)
  cases (show v = V.int y from b)
  obtain ⟨t, e⟩ := (show ∃ t, vv = Value.int y t from rv)
  cases e
  obtain ⟨od, J⟩ := insAt Iv hu'
  show wpAny _ _ (richCompare .NotEq _ _) _ _ _
  have hu1 : X.A.in1.units < cLine := by have := hr.un; show X.A.units + 1 < _; omega
  refine PySem.W.tr_ne (tb := .type "int") hu1 hr.units0 Iv.kIn J (PySem.W.Looks.of_pure rfl) hn hc.cm hc.ne hm.at_ hm.fn (thn (run_W1 (vs := [.ref au, .int y]) (Q := fun z H' => ∃ k, z = .bl k ∧ Q (.bl (!k)) H') F hr tk ⟨I, (x, y, ()), s, ⟨_, _, rfl, a, _, _, rfl, rfl, rfl⟩, ?_⟩ Iv (.cons rfl (.cons ⟨_, rfl⟩ .nil))) fun w s' ⟨z, H', I', rz, k, ez, q⟩ => ?_)
  · show PostE _ (g (x, y, ())) _ _ _ _ _
    revert p
    show PostE _ ((g (x, y, ())).bind _) _ _ _ _ _ → _
    generalize g (x, y, ()) = z
    intro p
    cases z with
    | ok k => exact fun I' H' v f r => ⟨k, r, p I' H' _ f rfl⟩
    | err e => exact p
    | stuck => exact p
  · subst ez
    cases (show w = Value.bool k from rz)
    exact ⟨k, rfl, .bl (!k), H', I', rfl, q⟩
/-- isinstance(x, T) -/
def TyR (K : PySem.W.Frag) (r : Ra α) (u : Value) (g : α → Bool) : Prop := ∀ I H v x, Same I H → r I H v x → ∃ t, TyX K H v t ∧ PySem.W.kitOne K t u = some (g x)
theorem JE.isi {u : Value} {cv : V} {g : α → Bool} [MoA ra] (j : JE X I0 H0 W ctx mem a ma ra) (jc : ∀ σ H Q, Q cv H → wE X b σ H Q) (hc : ClsV cv u) (ty : TyR X.K ra u g) (hm : X.mg "isinstance" = none) (hg : Gl X "isinstance" := by rfl)
    (hs : starEach [a, b] X.env = (false, eval a X.env) :: starEach [b] X.env := by rfl) (hs2 : starEach [b] X.env = (false, eval b X.env) :: starEach [] X.env := by rfl) (hpl : (backTo pos (starEach [b] X.env)).any (·.1) = false := by rfl) :
    JE X I0 H0 W ctx mem (.Call (.Name "isinstance" pos') [a, b] [] pos) (ma.bind fun x => .ok (g x)) (rp rBl) := fun I H σ Q st p => by
  refine w_callB (id := "isinstance") (Tr.w_cons (j I H σ _ st ?_) hs) hm (by decide +kernel) hg (by decide) (by decide) hs hpl
  cases ma with
  | ok x =>
    intro I1 H1 v f1 r1
    refine Tr.w_cons (jc σ H1 _ (w_nil ?_)) hs2
    obtain ⟨t, ty1, k⟩ := ty I1 H1 v x f1.ih r1
    exact CallR.w call_isi ⟨v, cv, t, u, g x, rfl, hc, ty1, k, p I1 H1 _ f1 rfl⟩
  | err e => exact p
  | stuck => exact p
/-- raise X('..'), an own class without __init__ over ValueError -/
structure ExcP (K : PySem.W.Frag) (mg : Str → Option Value) (x : Str) : Prop where
  ex : PySem.W.excIn K (He.ga K x) He.veBase "ValueError.__new__" = true
  kp : PySem.W.keepIn K (.ref (He.ga K x)) = true
  bs : PySem.W.subIn K (.ref (He.ga K x)) (.type "BaseException") = some true
  ty : PySem.W.typeIn K (.ref (He.ga K x)) = some (.type "type")
  gl : mg x = some (.ref (He.ga K x))
theorem JR.raiseP {x m : Str} {j : Nat} {p1 p2 p3 : Pos} (hc : X.calm = true) (tk : L2N.Takes X W) (ep : ExcP X.K X.mg x) (hx : ∀ I H σ d, Stt I0 H0 ctx mem I H σ → Fr H0 d → Kx I H σ d) (hg : Gl X x := by rfl) (hdb : (x == ("__debug__" : Str)) = false := by decide) :
    JR X I0 H0 W Kx (Stt I0 H0 ctx mem) (.Raise (some (.Call (.Name x p1) [.Constant (.str m) j p2] [] p3)) none pos :: ss) (.err ⟨x, []⟩ : Res γ) rc := fun I H σ D g p => by
  refine b_cons (s_raise hc tk (L2N.pmk_own PySem.F.excBase_ValueError ep.ex ep.gl ep.kp (raises_own ep.bs ep.ty) hg hdb) ?_)
  exact p I H σ _ none (hx _ _ _ _ g fun _ z => nomatch z) ⟨rfl, rfl⟩
/-! ### while -/
def whileM (c : S → Res Bool) (f : S → Res S) : Nat → S → Res S
  | 0, _ => .stuck
  | n + 1, s => (c s).bind fun b => if b = true then (f s).bind fun s' => whileM c f n s' else .ok s
theorem J1.while {fuel : Nat} {s0 : S} {cx : S → List (Option SF)} {me : S → List MF} {mc : S → Res Bool} {mf : S → Res S} (hp : PassesOwn (model X.prog X.w) X.A X.env X.xe) (jc : ∀ s, JT X I0 H0 W (cx s) (me s) c (mc s)) (jb : ∀ s, JN X W Kx (Stt I0 H0 (cx s) (me s)) ss (mf s) fun s' => Stt I0 H0 (cx s') (me s'))
    (hx : ∀ s I H σ d, Stt I0 H0 (cx s) (me s) I H σ → Fr H0 d → Kx I H σ d) : J1 X W Kx (Stt I0 H0 (cx s0) (me s0)) (.While c ss [] pos) (whileM mc mf fuel s0) (fun s => Stt I0 H0 (cx s) (me s)) := fun I H σ D g p => by
  refine PS.w (ps_while hp pt_W pss_W) ⟨fun k σ' H' => ∃ I' s, Stt I0 H0 (cx s) (me s) I' H' σ' ∧ PostB X W Kx I' (whileM mc mf k s) (fun s => Stt I0 H0 (cx s) (me s)) D, ⟨fuel, I, s0, g, p⟩, ?_⟩
  rintro k σ' H' ⟨I', s, g', p'⟩
  cases k with
  | zero => exact p'.elim
  | succ k =>
    refine jc s I' H' σ' _ g' ?_
    have p2 : PostB X W Kx I' ((mc s).bind fun b => if b = true then (mf s).bind fun s' => whileM mc mf k s' else .ok s) _ D := p'
    revert p2
    generalize mc s = z
    intro p2
    cases z with
    | ok x =>
      intro I1 H1 v f r y hy
      cases r; cases hy
      cases x with
      | true =>
        refine iteT ⟨fun σ2 H2 => ∃ I2 s', Stt I0 H0 (cx s') (me s') I2 H2 σ2 ∧ PostB X W Kx I2 (whileM mc mf k s') (fun s => Stt I0 H0 (cx s) (me s)) D, fun σ2 H2 h => ⟨k, Nat.lt_succ_self _, h⟩, ?_⟩
        refine jb s I1 H1 σ' _ (g'.step f) ?_
        have p3 : PostB X W Kx I1 ((mf s).bind fun s' => whileM mc mf k s') _ D := PostB.up p2 f.i
        revert p3
        generalize mf s = z
        intro p3
        cases z with
        | ok s' => exact fun I2 H2 σ2 si g2 => ⟨I2, s', g2, PostB.up p3 si⟩
        | err e => exact p3
        | stuck => exact p3
      | false => exact iteF (p2 I1 H1 σ' f.i (g'.step f))
    | err e => exact fun I' H' c d f x => p2 I' H' σ' c d (hx _ _ _ _ _ (g'.step f) (x.1.back g'.fm.h)) x.2
    | stuck => exact p2.elim
/-- a, b = e1, e2 -/
theorem J1.par (i j : Nat) {x y : Str} {r1 : Rp α} {r2 : Rp β} [Mo r1] [mo : Mo r2] {px py pt : Pos} {kt k2 pt2} (ja : JE X I0 H0 W ctx mem a ma (rp r1)) (jb : JE X I0 H0 W ctx mem b mb (rp r2)) (hx : ∀ I H σ d, Stt I0 H0 ctx mem I H σ → Fr H0 d → Kx I H σ d)
    (hN : X.N.Nodup) (hc : X.calm = true := by rfl) (hi : X.N[i]? = some x := by rfl) (hj : X.N[j]? = some y := by rfl) (hij : i ≠ j := by decide) (hlx : X.env.scope.names.lookup x = some .local := by rfl) (hly : X.env.scope.names.lookup y = some .local := by rfl)
    (hw : swappedStores [.Tuple [.Name x px, .Name y py] kt pt] (.Tuple [a, b] k2 pt2) X.env = pure (some [x, y]) := by rfl)
    (hs : swapsWithSole [.Tuple [.Name x px, .Name y py] kt pt] (.Tuple [a, b] k2 pt2) pos.line X.env = pure false := by rfl)
    (e1 : starEach [a, b] X.env = (false, eval a X.env) :: starEach [b] X.env := by rfl) (e2 : starEach [b] X.env = (false, eval b X.env) :: starEach [] X.env := by rfl) :
    J1 X W Kx (Stt I0 H0 ctx mem) (.Assign [.Tuple [.Name x px, .Name y py] kt pt] (.Tuple [a, b] k2 pt2) pos) (ma.bind fun u => mb.bind fun v => .ok (u, v)) (fun s => Stt I0 H0 ((ctx.set i (some ⟨r1, s.1⟩)).set j (some ⟨r2, s.2⟩)) mem) := fun I H σ D g p => by
  refine PS.w (ps_par hc hN hi hj hij hlx hly pa_W hw hs) (Tr.w_cons (ja I H σ _ g ?_) e1)
  cases ma with
  | ok u =>
    intro I1 H1 v1 f1 h1
    refine Tr.w_cons (jb I1 H1 σ _ (g.step f1) ?_) e2
    cases mb with
    | ok v => exact fun I2 H2 v2 f2 h2 => w_nil ⟨v1, v2, rfl, p I2 H2 _ (f1.i.trans f2.i) ((((g.step f1).step f2).set i (Mo.up f2.i h1)).set j h2)⟩
    | err e => exact fun I' H' c d f x => p I' H' σ c d (hx _ _ _ _ ((g.step f1).step f) (x.1.back (g.step f1).fm.h)) x.2
    | stuck => exact p.elim
  | err e => exact fun I' H' c d f x => p I' H' σ c d (hx _ _ _ _ (g.step f) (x.1.back g.fm.h)) x.2
  | stuck => exact p.elim
end
/-! ### defs -/
section
variable {γ δ : Type} {P : Program} {w : World} {K : PySem.W.Frag} {mg : Str → Option Value} {base : Heap} {x qual : Str} {params : Arguments} {body : List Stmt} {scope : Scope} {dvs : List V} {kws : List (Str × V)} {f : Addr} {fd : FuncData} {N ps : List Str} {k : Nat} {R : Hp → Hp → List V → δ → Prop} {m : δ → Res γ} {r : Ra γ}
abbrev bx (P : Program) (w : World) (K : PySem.W.Frag) (mg : Str → Option Value) (base : Heap) (N : List Str) (qual : Str) (scope : Scope) (f : Addr) (cdv : Value) (A : Around) (outer : List Env) (s : Shared) (H : Hp) (E : XK) : Cx := cxOf (L2N.CX P w) P w K mg base N qual scope f cdv A outer s H E
abbrev bW (E : XK) : WX := fun cls d _ H => E cls d H
abbrev bK (I0 H0 : Hp) : KnowsX := fun I H _ d => Fm I0 H0 I H ∧ Fr H0 d
theorem FunD.fn (F : FunD K x qual params body scope dvs kws f fd) (S : FnScope N ps scope) (len : ∀ I H vs d, R I H vs d → vs.length = ps.length)
    (hb : ∀ (cdv : Value) (A : Around) (outer : List Env) (s : Shared) (I0 H0 : Hp) (E : XK) (vs : List V) (d : δ), Room k (A.deeper (envOfC qual scope s.heap.objs.size f cdv)) → Same I0 H0 → R I0 H0 vs d →
      ∃ G : Knows, G I0 H0 (start N vs) ∧ JR (bx P w K mg base N qual scope f cdv A outer s H0 E) I0 H0 (bW E) (bK I0 H0) G body (m d) r) : FnOk P w K mg base (L2N.CX P w) (k + 1) f fd ps (spF K R m r) := by
  refine F.ok S (fun vs H Q E ⟨I, d, _, h, _⟩ => len I H vs d h) fun cdv A outer s H vs Q E hr ⟨I, d, sm, h, p⟩ => ⟨_, pss_W, ?_⟩
  obtain ⟨G, g, j⟩ := hb cdv A outer s I H E vs d hr sm h
  refine j I H _ _ g ?_
  revert p
  show PostE K (m d) r I H E Q → PostR _ _ _ _ _ (m d) _ _
  generalize m d = z
  intro p
  cases z with
  | ok y => exact p
  | err e => exact fun I' H' _ c d f x => p I' H' c d f.1 ⟨f.2, x⟩
  | stuck => exact p
end
end L2.Tr

namespace L2.Tr
open PySem PySem.Spec PyProof.Rows
section
variable {α β γ δ S : Type} {X : Cx} {I0 H0 : Hp} {W : WX} {Kx : KnowsX} {G : Knows} {ctx : List (Option SF)} {mem : List MF} {e a b c o : Expr} {es bs : List Expr} {st : Stmt} {ss s1 s2 : List Stmt} {pos pos' : Pos} {n : Str} {ra : Ra α} {rb : Ra β} {rc : Ra γ} {ma : Res α} {mb : Res β}
def rRef (x : Addr) : Rp Unit := fun _ v _ => v = .ref x
instance {x : Addr} : Mo (rRef x) := ⟨fun _ h => h⟩
def putG (f : Str) (s : SF) : List (Str × SF) → List (Str × SF)
  | [] => [(f, s)]
  | q :: gs => if q.1 = f then (f, s) :: gs else q :: putG f s gs
theorem FldR.put {I : Hp} {f : Str} {v : V} {s : SF} (h : s.r I v s.x) : ∀ {fs : List (Str × V)} {gs : List (Str × SF)}, FldR I fs gs → FldR I (putF f v fs) (putG f s gs)
  | [], [], _ => ⟨rfl, h, True.intro⟩
  | p :: fs, q :: gs, ⟨a, b, c⟩ => by
    show FldR I (if p.1 = f then _ else _) (if q.1 = f then _ else _)
    rw [← a]
    by_cases e : p.1 = f
    · rw [if_pos e, if_pos e]; exact ⟨e, h, c⟩
    · rw [if_neg e, if_neg e]; exact ⟨a, b, FldR.put h c⟩
  | [], _ :: _, h => h.elim
  | _ :: _, [], h => h.elim
theorem FldR.length {I : Hp} : ∀ {fs : List (Str × V)} {gs : List (Str × SF)}, FldR I fs gs → fs.length = gs.length
  | [], [], _ => rfl
  | _ :: _, _ :: _, ⟨_, _, c⟩ => congrArg Nat.succ (FldR.length c)
  | [], _ :: _, h => h.elim
  | _ :: _, [], h => h.elim
/-! ### regions -/
theorem Regs.split {I H : Hp} : ∀ {mem : List MF} {fps : List (List Addr)} {j : Nat} {c : MF}, Regs I H mem fps → mem[j]? = some c → ∃ M1 M2 A fp B, mem = M1 ++ c :: M2 ∧ fps = A ++ fp :: B ∧ M1.length = j ∧ Regs I H M1 A ∧ c.Q I H fp ∧ Regs I H M2 B
  | [], _, _, _, _, e => by simp at e
  | d :: mem, fp :: fps, 0, c, ⟨a, b⟩, e => by
    have : d = c := by simpa using e
    subst this
    exact ⟨[], mem, [], fp, fps, rfl, rfl, rfl, True.intro, a, b⟩
  | d :: mem, fp :: fps, j + 1, c, ⟨a, b⟩, e => by
    have e' : mem[j]? = some c := by simpa using e
    obtain ⟨M1, M2, A, fq, B, e1, e2, e3, h1, h2, h3⟩ := Regs.split b e'
    exact ⟨d :: M1, M2, fp :: A, fq, B, by rw [e1]; rfl, by rw [e2]; rfl, by rw [List.length_cons, e3], ⟨a, h1⟩, h2, h3⟩
  | _ :: _, [], _, _, h, _ => h.elim
theorem Regs.join {I H : Hp} : ∀ {M1 M2 : List MF} {A B : List (List Addr)}, Regs I H M1 A → Regs I H M2 B → Regs I H (M1 ++ M2) (A ++ B)
  | [], _, [], _, _, h => h
  | _ :: _, _, _ :: _, _, ⟨a, b⟩, h => ⟨a, Regs.join b h⟩
  | [], _, _ :: _, _, h, _ => h.elim
  | _ :: _, _, [], _, h, _ => h.elim
theorem set_mid {α : Type} {M1 M2 : List α} {c c' : α} {j : Nat} (h : M1.length = j) : (M1 ++ c :: M2).set j c' = M1 ++ c' :: M2 := by
  subst h; induction M1 with
  | nil => rfl
  | cons d M ih => rw [List.cons_append, List.length_cons, List.set_cons_succ, ih]; rfl
theorem erase_mid {α : Type} {M1 M2 : List α} {c : α} {j : Nat} (h : M1.length = j) : (M1 ++ c :: M2).eraseIdx j = M1 ++ M2 := by
  subst h; induction M1 with
  | nil => rfl
  | cons d M ih => rw [List.cons_append, List.length_cons, List.eraseIdx_cons_succ, ih]; rfl
theorem flat_mid {A B : List (List Addr)} {fp : List Addr} : (A ++ fp :: B).flatten = A.flatten ++ (fp ++ B.flatten) := by rw [List.flatten_append, List.flatten_cons]
/-- the heap without a region -/
def rm (H : Hp) (fp : List Addr) : Hp := fun a => if a ∈ fp then none else H a
theorem rm_in {H : Hp} {fp : List Addr} {a : Addr} (h : a ∈ fp) : rm H fp a = none := if_pos h
theorem rm_out {H : Hp} {fp : List Addr} {a : Addr} (h : a ∉ fp) : rm H fp a = H a := if_neg h
theorem Stt.change {I0 H0 I H : Hp} {c : MF} {σ : St} {j : Nat} (s : Stt I0 H0 ctx mem I H σ) (hj : mem[j]? = some c) : ∃ fp, c.Q I H fp ∧ fp.Nodup ∧ (∀ a, a ∈ fp → H0 a = none ∧ I a = none ∧ H a ≠ none) ∧
    ∀ (I' H' : Hp) (c' : MF) (fp' : List Addr), Fm I (rm H fp) I' H' → fp'.Nodup → (∀ a, a ∈ fp' → rm H fp a = none ∧ I' a = none ∧ H' a ≠ none) → c'.Q I' H' fp' → Stt I0 H0 ctx (mem.set j c') I' H' σ := by
  obtain ⟨fps, rg, nd, k⟩ := s.me
  obtain ⟨M1, M2, A, fp, B, e1, e2, e3, h1, h2, h3⟩ := rg.split hj
  subst e1; subst e2
  rw [flat_mid] at nd k
  have ndA := List.nodup_append.mp nd
  have ndB := List.nodup_append.mp ndA.2.1
  have kf : ∀ a, a ∈ fp → H0 a = none ∧ I a = none ∧ H a ≠ none := fun a ha => k a (List.mem_append_right _ (List.mem_append_left _ ha))
  refine ⟨fp, h2, ndB.1, kf, fun I' H' c' fp' f nd' k' q' => ?_⟩
  have oth : ∀ a, a ∈ A.flatten ∨ a ∈ B.flatten → a ∉ fp ∧ H0 a = none ∧ I a = none ∧ H a ≠ none := fun a ha => by
    rcases ha with ha | ha
    · exact ⟨fun z => ndA.2.2 a ha a (List.mem_append_left _ z) rfl, k a (List.mem_append_left _ ha)⟩
    · exact ⟨fun z => ndB.2.2 a z a ha rfl, k a (List.mem_append_right _ (List.mem_append_right _ ha))⟩
  have stay : ∀ a, a ∈ A.flatten ∨ a ∈ B.flatten → H' a = H a := fun a ha => by
    obtain ⟨n, _, _, z⟩ := oth a ha
    cases e : H a with
    | none => exact absurd e z
    | some o => exact f.h a o (by rw [rm_out n]; exact e)
  have out : ∀ a, a ∈ fp' → ¬ (a ∈ A.flatten ∨ a ∈ B.flatten) := fun a ha z => by
    obtain ⟨n, _, _, y⟩ := oth a z
    have := (k' a ha).1
    rw [rm_out n] at this
    exact y this
  have hm : ∀ a, H0 a ≠ none → a ∉ fp := fun a z y => z (kf a y).1
  refine ⟨⟨s.fm.i.trans f.i, fun b u e => f.h b u (by rw [rm_out (hm b (by rw [e]; intro z; cases z))]; exact s.fm.h b u e), f.ih, fun l e n => f.mu l (s.fm.mu l e n) ?_⟩, s.len, fun i sf e => ?_, A ++ fp' :: B, ?_, ?_, ?_⟩
  · rw [rm_out (hm l n)]
    cases z : H0 l with
    | none => exact absurd z n
    | some o => rw [s.fm.h l o z]; intro y; cases y
  · obtain ⟨v, e1, q⟩ := s.sl i sf e
    exact ⟨v, e1, sf.mo.up f.i q⟩
  · rw [set_mid e3]
    exact (h1.up f.i fun a ha => stay a (.inl ha)).join ⟨q', h3.up f.i fun a ha => stay a (.inr ha)⟩
  · rw [flat_mid]
    refine List.nodup_append.mpr ⟨ndA.1, List.nodup_append.mpr ⟨nd', ndB.2.1, fun a ha b hb e => out a ha (.inr (e ▸ hb))⟩, fun a ha b hb e => ?_⟩
    subst e
    rcases List.mem_append.mp hb with z | z
    · exact out a z (.inl ha)
    · exact ndA.2.2 a ha a (List.mem_append_right _ z) rfl
  · rw [flat_mid]
    have go : ∀ a, a ∈ A.flatten ∨ a ∈ B.flatten → H0 a = none ∧ I' a = none ∧ H' a ≠ none := fun a ha => by
      obtain ⟨n, x, y, z⟩ := oth a ha
      exact ⟨x, f.mu a y (by rw [rm_out n]; exact z), by rw [stay a ha]; exact z⟩
    intro a ha
    rcases List.mem_append.mp ha with z | z
    · exact go a (.inl z)
    · rcases List.mem_append.mp z with z | z
      · refine ⟨?_, (k' a z).2⟩
        cases e : H0 a with
        | none => rfl
        | some o =>
          have := (k' a z).1
          rw [rm_out (hm a (by rw [e]; intro y; cases y)), s.fm.h a o e] at this
          cases this
      · exact go a (.inr z)
theorem Fm.rmUpd {I H : Hp} {l : Addr} {o : HO} (s : Same I H) (hI : I l = none) : Fm I (rm H [l]) I (upd H l o) :=
  ⟨Same.refl _, fun b u e => by
    by_cases hb : b = l
    · subst hb; rw [rm_in (List.mem_singleton_self b)] at e; cases e
    · rw [rm_out (fun z => hb (List.mem_singleton.mp z))] at e; rw [upd_ne hb]; exact e, fun b u e => by
    have : b ≠ l := fun q => by rw [q, hI] at e; cases e
    rw [upd_ne this]; exact s b u e, fun _ e _ => e⟩
/-- the one object of cell j is changed -/
theorem Stt.cellAt {I0 H0 I H : Hp} {σ : St} {l : Addr} {c c' : MF} {o : HO} (s : Stt I0 H0 ctx mem I H σ) (j : Nat) (hj : mem[j]? = some c) (hc : ∀ {I H : Hp} {fp : List Addr}, c.Q I H fp → fp = [l]) (h : c'.Q I (upd H l o) [l]) :
    Stt I0 H0 ctx (mem.set j c') I (upd H l o) σ := by
  obtain ⟨fp, q, nd, k, go⟩ := s.change hj
  cases hc q
  obtain ⟨_, kI, _⟩ := k l (List.mem_singleton_self l)
  refine go I (upd H l o) _ [l] (Fm.rmUpd s.same kI) nd (fun a ha => ?_) h
  rw [List.mem_singleton.mp ha]
  exact ⟨rm_in (List.mem_singleton_self l), kI, by rw [upd_same]; intro z; cases z⟩
/-- a heap with a region added -/
def ice (I H : Hp) (fp : List Addr) : Hp := fun a => if a ∈ fp then H a else I a
theorem ice_in {I H : Hp} {fp : List Addr} {a : Addr} (h : a ∈ fp) : ice I H fp a = H a := if_pos h
theorem ice_out {I H : Hp} {fp : List Addr} {a : Addr} (h : a ∉ fp) : ice I H fp a = I a := if_neg h
theorem ice_same {I H : Hp} {fp : List Addr} (h : ∀ a, a ∈ fp → I a = none) : Same I (ice I H fp) := fun b u e => by
  rw [ice_out fun z => by rw [h b z] at e; cases e]; exact e
/-- a region is frozen -/
theorem Stt.freezeAt {I0 H0 I H : Hp} {c : MF} {σ : St} (s : Stt I0 H0 ctx mem I H σ) (j : Nat) (hj : mem[j]? = some c) : ∃ fp, c.Q I H fp ∧ (∀ a, a ∈ fp → I a = none) ∧ Same I (ice I H fp) ∧ Stt I0 H0 ctx (mem.eraseIdx j) (ice I H fp) H σ := by
  obtain ⟨fps, rg, nd, k⟩ := s.me
  obtain ⟨M1, M2, A, fp, B, e1, e2, e3, h1, h2, h3⟩ := rg.split hj
  subst e1; subst e2
  rw [flat_mid] at nd k
  have ndA := List.nodup_append.mp nd
  have ndB := List.nodup_append.mp ndA.2.1
  have kf : ∀ a, a ∈ fp → H0 a = none ∧ I a = none ∧ H a ≠ none := fun a ha => k a (List.mem_append_right _ (List.mem_append_left _ ha))
  have oth : ∀ a, a ∈ A.flatten ∨ a ∈ B.flatten → a ∉ fp ∧ H0 a = none ∧ I a = none ∧ H a ≠ none := fun a ha => by
    rcases ha with ha | ha
    · exact ⟨fun z => ndA.2.2 a ha a (List.mem_append_left _ z) rfl, k a (List.mem_append_left _ ha)⟩
    · exact ⟨fun z => ndB.2.2 a z a ha rfl, k a (List.mem_append_right _ (List.mem_append_right _ ha))⟩
  have sm : Same I (ice I H fp) := ice_same fun a ha => (kf a ha).2.1
  refine ⟨fp, h2, fun a ha => (kf a ha).2.1, sm, ⟨s.fm.i.trans sm, s.fm.h, fun b u e => ?_, fun l e n => ?_⟩, s.len, fun i sf e => ?_, A ++ B, ?_, ?_, fun a ha => ?_⟩
  · by_cases hb : b ∈ fp
    · rw [ice_in hb] at e; exact e
    · rw [ice_out hb] at e; exact s.fm.ih _ _ e
  · rw [ice_out fun z => n (kf l z).1]; exact s.fm.mu l e n
  · obtain ⟨v, e1, q⟩ := s.sl i sf e
    exact ⟨v, e1, sf.mo.up sm q⟩
  · rw [erase_mid e3]
    exact (h1.up sm fun _ _ => rfl).join (h3.up sm fun _ _ => rfl)
  · rw [List.flatten_append]
    exact List.nodup_append.mpr ⟨ndA.1, ndB.2.1, fun a ha b hb => ndA.2.2 a ha b (List.mem_append_right _ hb)⟩
  · rw [List.flatten_append] at ha
    obtain ⟨n, x, y, z⟩ := oth a (List.mem_append.mp ha)
    exact ⟨x, by rw [ice_out n]; exact y, z⟩
/-- a region that stands is taken up -/
theorem Stt.adoptR {I0 H0 I H I1 H1 : Hp} {c : MF} {σ : St} {fp : List Addr} (s : Stt I0 H0 ctx mem I H σ) (f : Fm I H I1 H1) (nd : fp.Nodup) (hk : ∀ a, a ∈ fp → H a = none ∧ I1 a = none ∧ H1 a ≠ none) (h : c.Q I1 H1 fp) : Stt I0 H0 ctx (c :: mem) I1 H1 σ := by
  have s2 := s.step f
  obtain ⟨fps, rg, nd0, k0⟩ := s.me
  obtain ⟨fm, len, sl, _⟩ := s2
  have key : ∀ a, a ∈ fps.flatten → H1 a = H a := fun a ha => by
    obtain ⟨_, _, h3⟩ := k0 a ha
    cases e : H a with
    | none => exact absurd e h3
    | some o => exact f.h _ _ e
  refine ⟨fm, len, sl, fp :: fps, ⟨h, rg.up f.i key⟩, ?_, fun a ha => ?_⟩
  · rw [List.flatten_cons]
    exact List.nodup_append.mpr ⟨nd, nd0, fun a ha b hb e => (k0 b hb).2.2 (e ▸ (hk a ha).1)⟩
  · rw [List.flatten_cons] at ha
    rcases List.mem_append.mp ha with z | z
    · exact ⟨s.fm.h.free (hk a z).1, (hk a z).2⟩
    · obtain ⟨h1, h2, h3⟩ := k0 a z
      exact ⟨h1, f.mu _ h2 h3, by rw [key a z]; exact h3⟩
theorem Stt.forgetAt {I0 H0 I H : Hp} {c : MF} {σ : St} (s : Stt I0 H0 ctx mem I H σ) (j : Nat) (hj : mem[j]? = some c) : Stt I0 H0 ctx (mem.eraseIdx j) I H σ := by
  obtain ⟨fps, rg, nd, k⟩ := s.me
  obtain ⟨M1, M2, A, fp, B, e1, e2, e3, h1, h2, h3⟩ := rg.split hj
  subst e1; subst e2
  rw [flat_mid] at nd k
  refine ⟨s.fm, s.len, s.sl, A ++ B, by rw [erase_mid e3]; exact h1.join h3, ?_, fun a ha => ?_⟩
  · have ndA := List.nodup_append.mp nd
    have ndB := List.nodup_append.mp ndA.2.1
    rw [List.flatten_append]
    exact List.nodup_append.mpr ⟨ndA.1, ndB.2.1, fun a ha b hb => ndA.2.2 a ha b (List.mem_append_right _ hb)⟩
  · rw [List.flatten_append] at ha
    rcases List.mem_append.mp ha with z | z
    · exact k a (List.mem_append_left _ z)
    · exact k a (List.mem_append_right _ (List.mem_append_right _ z))
/-- self.f = e within __init__ -/
theorem J1.sfld (i : Nat) {x C dx : Addr} {f sn : Str} {p1 : Pos} {gs : List (Str × SF)} {r : Rp α} [mo : Mo r] {m : Res α} (j : JE X I0 H0 W ctx (.ins x C dx gs :: mem) e m (rp r)) (cl : Cls X.K C) (hn : NoAttr X.K C f) (hg : gs.length < 1000) (hx : ∀ I H σ d, Stt I0 H0 ctx (.ins x C dx gs :: mem) I H σ → Fr H0 d → Kx I H σ d)
    (hc : ctx[i]? = some (some (SF.mk (rRef x) ())) := by rfl) (hN : X.N[i]? = some sn := by rfl) (hv : Vis X.env.scope sn := by first | exact Or.inl rfl | exact Or.inr (Or.inl rfl) | exact Or.inr (Or.inr rfl)) (hd : (sn == ("__debug__" : Str)) = false := by decide)
    (hcd : (sn == ("__classdict__" : Str)) = false := by decide) (hs : swapsWith e (some (.Attribute (.Name sn p1) f pos')) pos.line X.env = pure false := by rfl) :
    J1 X W Kx (Stt I0 H0 ctx (.ins x C dx gs :: mem)) (.Assign [.Attribute (.Name sn p1) f pos'] e pos) m (fun y => Stt I0 H0 ctx (.ins x C dx (putG f ⟨r, y⟩ gs) :: mem)) := fun I H σ D g p => by
  refine s_fld (j I H σ _ g ?_) hs
  cases m with
  | ok y =>
    intro I1 H1 v f1 h1
    have g1 := g.step f1
    obtain ⟨u, eu, hu⟩ := g1.sl i _ hc
    cases (show u = V.ref x from hu)
    obtain ⟨_, _, oo, zH, fs, eo, hf⟩ := g1.insAt (j := 0) (l := x) rfl
    subst eo
    refine w_var i ⟨x, C, dx, fs, rfl, zH, cl, hn, ?_, ?_⟩ eu hN hv hd hcd
    · rw [hf.length]; exact hg
    · exact p I1 _ σ f1.i (g1.cellAt (l := x) (c' := .ins x C dx (putG f ⟨r, y⟩ gs)) 0 rfl (fun q => q.1) ⟨rfl, _, upd_same, _, rfl, hf.put h1⟩)
  | err e => exact fun I' H' c d f x => p I' H' σ c d (hx _ _ _ _ (g.step f) (x.1.back g.fm.h)) x.2
  | stuck => exact p
/-- the object at the head of mem is frozen -/
theorem Stt.freeze {I0 H0 I H : Hp} {σ : St} {l C dx : Addr} {gs : List (Str × SF)} (s : Stt I0 H0 ctx (.ins l C dx gs :: mem) I H σ) : ∃ fs I', H l = some (.ins C dx fs) ∧ FldR I fs gs ∧ Stt I0 H0 ctx mem I' H σ ∧ Same I I' ∧ I' l = some (.ins C dx fs) := by
  obtain ⟨fp, ⟨e, o, h, fs, eo, p⟩, _, sm, s2⟩ := s.freezeAt 0 rfl
  subst e; subst eo
  exact ⟨fs, _, h, p, s2, sm, by rw [ice_in (List.mem_singleton_self l)]; exact h⟩

/-! ### C(..) -/
def spI (K : PySem.W.Frag) (C : Addr) (R : Hp → Hp → List V → δ → Prop) (m : δ → Res γ) (r : Ra γ) : Sp := fun vs H Q E => ∃ x dx ws H0 I d, vs = .ref x :: ws ∧ H0 x = none ∧ H0 dx = none ∧ dx ≠ x ∧ H = upd (upd H0 dx (.own x)) x (.ins C dx []) ∧ Same I H0 ∧ R I H0 ws d ∧
  PostE K (m d) r I H0 E (fun u H2 => u = .ref x → Q .non H2)
theorem cj_make {k : Nat} {C f : Addr} {fd : FuncData} {ps : List Str} {ds : List Value} {dvs : List V} {R R' : Hp → Hp → List V → δ → Prop} {m : δ → Res γ} (M : Mk X.K C f) (F : FnOk X.prog X.w X.K X.mg X.base (L2N.CX X.prog X.w) k f fd ps (spI X.K C R m rc)) (hr : Room (k + 1) X.A) (hb : Binds X.K fd ps ds) (hd : Vals dvs ds) (tk : L2N.Takes X W)
    (hR : ∀ I H vs d, R' I H vs d → R I H (vs ++ dvs) d) : CallJ X W (.ref C) R' m rc := fun I H σ Q vs d sm h p pins s us Iv r => by
  have n1 := Iv.hok.fresh (Nat.le_succ s.heap.objs.size)
  have n2 := Iv.hok.fresh (Nat.le_refl s.heap.objs.size)
  have n3 := Nat.ne_of_lt (Nat.lt_succ_self s.heap.objs.size)
  have hq : spI X.K C R m rc (.ref (s.heap.objs.size + 1) :: (vs ++ dvs)) (upd (upd H s.heap.objs.size (.own (s.heap.objs.size + 1))) (s.heap.objs.size + 1) (.ins C s.heap.objs.size [])) (fun v H2 => v = .non ∧ Q (.ref (s.heap.objs.size + 1)) H2) (fun cls d H' => W cls d σ H') :=
    ⟨s.heap.objs.size + 1, s.heap.objs.size, vs ++ dvs, H, I, d, rfl, n1, n2, n3, rfl, sm, hR _ _ _ _ h, p.imp fun v H' q e => ⟨rfl, e ▸ q⟩⟩
  have I2 := Inv.made (C := C) Iv
  have r2 : Vals (V.ref (s.heap.objs.size + 1) :: (vs ++ dvs)) (Value.ref (s.heap.objs.size + 1) :: (us ++ ds)) := .cons rfl (r.append hd)
  have hl : (Value.ref (s.heap.objs.size + 1) :: us ++ ds).length = ps.length := by
    have e := r2.length
    rw [F.len _ _ _ _ hq] at e
    exact e.symm
  refine wpAny_call (make_map (f := f) Iv.kIn M.makes M.init (beq_iff_eq.mp M.fn) (codeAny_mono (F.run _ X.stack _ _ ⟨Value.ref (s.heap.objs.size + 1) :: us, []⟩ (Value.ref (s.heap.objs.size + 1) :: (us ++ ds)) _ _ _ (hr.make C us [])
    (I2.env0.make C us []) (hb _ (Value.ref (s.heap.objs.size + 1) :: us) I2.kIn hl) r2 hq) fun r s' hq' => ?_))
  cases r with
  | error e => exact L2N.passAt tk σ pins _ _ e s' I2 hq'
  | ok fl =>
    cases fl with
    | ret u =>
      obtain ⟨v, H', I3, rv, ev, q3⟩ := I2.after hq'
      subst ev
      exact ⟨rv, ⟨V.ref (s.heap.objs.size + 1), H', I3, rfl, q3⟩⟩
    | next => exact False.elim hq'
    | brk => exact False.elim hq'
    | cont => exact False.elim hq'
end
section
variable {γ δ : Type} {P : Program} {w : World} {K : PySem.W.Frag} {mg : Str → Option Value} {base : Heap} {x qual : Str} {params : Arguments} {body : List Stmt} {scope : Scope} {dvs : List V} {kws : List (Str × V)} {f C : Addr} {fd : FuncData} {N ps : List Str} {k : Nat} {R : Hp → Hp → List V → δ → Prop} {m : δ → Res γ} {r : Ra γ}
/-- the cell of a new instance -/
theorem Stt.fresh {I0 H0 : Hp} {y dx : Addr} {σ : St} {ctx : List (Option SF)} (sm : Same I0 H0) (n1 : H0 y = none) (n2 : H0 dx = none) (n3 : dx ≠ y) (hl : σ.length = ctx.length) (hs : ∀ (i : Nat) (sf : SF), ctx[i]? = some (some sf) → ∃ v, σ[i]? = some (some v) ∧ sf.r I0 v sf.x) :
    Stt I0 H0 ctx [.ins y C dx []] I0 (upd (upd H0 dx (.own y)) y (.ins C dx [])) σ := by
  have e1 : Same H0 (upd (upd H0 dx (.own y)) y (.ins C dx [])) := fun b u e => by rw [upd_ne (ne_of_none e n1), upd_ne (ne_of_none e n2)]; exact e
  exact ⟨⟨Same.refl _, e1, sm.trans e1, fun _ e _ => e⟩, hl, hs, [[y]], ⟨⟨rfl, _, upd_same, [], rfl, True.intro⟩, True.intro⟩, by simp, fun a ha => by
    cases List.mem_singleton.mp (show a ∈ [y] by simpa using ha)
    exact ⟨n1, sm.free n1, by rw [upd_same]; intro z; cases z⟩⟩
/-- an __init__ that makes its object whole -/
theorem FunD.init {S : Type} (F : FunD K x qual params body scope dvs kws f fd) (Sc : FnScope N ps scope) (len : ∀ I H vs d, R I H vs d → vs.length + 1 = ps.length)
    (hb : ∀ (cdv : Value) (A : Around) (outer : List Env) (s : Shared) (I0 H0 H1 : Hp) (E : XK) (vs : List V) (d : δ) (y dx : Addr), Room k (A.deeper (envOfC qual scope s.heap.objs.size f cdv)) → Same I0 H0 → R I0 H0 vs d → H0 y = none → H0 dx = none → dx ≠ y → H1 = upd (upd H0 dx (.own y)) y (.ins C dx []) →
      ∃ (G : Knows) (S : Type) (mm : Res S) (G' : S → Knows), G I0 H1 (start N (.ref y :: vs)) ∧ JN (bx P w K mg base N qual scope f cdv A outer s H1 E) (bW E) (bK I0 H0) G body mm G' ∧
        (match mm with
         | .ok s => ∃ z, m d = .ok z ∧ ∀ I' H' σ', G' s I' H' σ' → ∃ I'', Fm I0 H0 I'' H' ∧ r I'' H' (.ref y) z
         | .err e => m d = .err e
         | .stuck => m d = .stuck)) : FnOk P w K mg base (L2N.CX P w) (k + 1) f fd ps (spI K C R m r) := by
  refine F.ok Sc (fun vs H Q E ⟨y, dx, ws, H0, I, d, e, _, _, _, _, _, h, _⟩ => by rw [e, List.length_cons]; exact len I H0 ws d h) fun cdv A outer s H vs Q E hr ⟨y, dx, ws, H0, I, d, e, n1, n2, n3, eH, sm, h, p⟩ => ⟨_, pss_W, ?_⟩
  subst e
  obtain ⟨G, S, mm, G', g, j, fin⟩ := hb cdv A outer s I H0 H E ws d y dx hr sm h n1 n2 n3 eH
  refine j I H _ _ g ?_
  cases mm with
  | ok z =>
    obtain ⟨y', e1, h1⟩ := fin
    intro I' H' σ' _ g'
    obtain ⟨I'', f1, r1⟩ := h1 I' H' σ' g'
    rw [e1] at p
    exact p I'' H' _ f1 r1 rfl
  | err e =>
    rw [show m d = _ from fin] at p
    exact fun I' H' _ c d f x => p I' H' c d f.1 ⟨f.2, x⟩
  | stuck =>
    rw [show m d = _ from fin] at p
    exact p
end
end L2.Tr

namespace L2.Tr
open PySem PySem.Spec PyProof.Rows He
/-! ### the head's facts -/
abbrev FB := PySem.W.Frag → Bool
abbrev AlX : Type := Bool × List FnW
def obsX (fs : List FB) (fn : List DefD) (K : PySem.W.Frag) : AlX := ((fs.all fun f => f K) && fn.all fun d => d.ok K, fn.map fun d => fnW K d.at_)
def valX (fn : List DefD) : AlX := (true, fn.map DefD.val)
def SaysX (fs : List FB) (fn : List DefD) (K : PySem.W.Frag) : Prop := obsX fs fn K = valX fn
section
variable {fs : List FB} {fn : List DefD} {K : PySem.W.Frag} {mg : Str → Option Value} {h : Heap}
theorem SaysX.fact (c : SaysX fs fn K) (i : Nat) {f : FB} (h : fs[i]? = some f := by rfl) : f K = true := by
  have c1 := (ba (show ((fs.all fun f => f K) && fn.all fun d => d.ok K) = true from congrArg (fun z : AlX => z.1) c)).1
  exact List.all_eq_true.mp c1 f (List.mem_of_getElem? h)
theorem SaysX.def_ (c : SaysX fs fn K) (i : Nat) {d : DefD} (h : fn[i]? = some d := by rfl) : ∃ fd, FunD K d.name d.qual d.params d.body d.scope (d.dvs K) (d.kws K) (fAd K d.at_) fd := by
  have c2 := (ba (show ((fs.all fun f => f K) && fn.all fun d => d.ok K) = true from congrArg (fun z : AlX => z.1) c)).2
  have e : fn.map (fun d => fnW K d.at_) = fn.map DefD.val := congrArg (fun z : AlX => z.2) c
  have e2 : (fn.map fun d => fnW K d.at_)[i]? = (fn.map DefD.val)[i]? := by rw [e]
  rw [List.getElem?_map, List.getElem?_map, h] at e2
  exact DefD.funD (Option.some.inj e2) (List.all_eq_true.mp c2 d (List.mem_of_getElem? h))
def fGlo (x : Str) : FB := fun K => (Fa.glo x).ok K
def fFree (x : Str) : FB := fun K => (Fa.free x).ok K
def fKeep (x : Str) : FB := fun K => PySem.W.keepIn K (.ref (ga K x))
def fNoat (x f : Str) : FB := fun K => (Fa.noat x f).ok K
def fMeth (x m : Str) : FB := fun K => (Fa.meth x m).ok K
def fMkr (x : Str) : FB := fun K => (Fa.mkr x).ok K
def fExc (x : Str) : FB := fun K => (Fa.exc x).ok K && (Fa.glo x).ok K
def fOcl (x : Str) : FB := fun K => (Fa.cls x).ok K && (PySem.W.selfFirst K (ga K x) && (eqO (PySem.W.findIn K (.ref (ga K x)) "__class__") (some (some (.builtin "object.__class__"))) && (eqO (PySem.W.specialIn K (.builtin "object.__class__") "__get__") (some (some (.builtin "getset_descriptor.__get__"))) &&
  (decide (PySem.W.takesIn K (.builtin "object.__class__") = some true) && (decide (PySem.W.mroIn K (ga K x) (.type "object") = some true) && (decide (PySem.W.subIn K (.ref (ga K x)) (.type "int") = some false) && (decide (PySem.W.subIn K (.type "int") (.ref (ga K x)) = some false) &&
  eqO (PySem.W.findIn K (.ref (ga K x)) "__ne__") (some (some (.builtin "object.__ne__"))))))))))
def fOMet (x m : Str) : FB := fun K => eqO (PySem.W.findIn K (.ref (ga K x)) m) (some (some (.ref (ma K (ga K x) m)))) && PySem.W.isFn K (.ref (ma K (ga K x) m))
def fNf (x : Str) : FB := fun K => PySem.W.notFirst K (ga K x) (.ref (ga K x)) && PySem.W.notFirst K (ga K x) (.type "int")
def fIntM (m : Str) : FB := fun K => (PySem.W.findIn K (.type "int") m).isSome
def fKit (x y : Str) (b : Bool) : FB := fun K => decide (PySem.W.kitOne K (.ref (ga K x)) (.ref (ga K y)) = some b)
def fKitT (x : Str) (t : String) (b : Bool) : FB := fun K => decide (PySem.W.kitOne K (.ref (ga K x)) (.type t) = some b)
def fKitI (t : String) (x : Str) (b : Bool) : FB := fun K => decide (PySem.W.kitOne K (.type t) (.ref (ga K x)) = some b)
theorem glo_of (X : K.In h) (G : h.Ns mainGlobals mg) {x : Str} (c : fGlo x K = true) : mg x = some (.ref (ga K x)) := glo_ok X G c
theorem free_of (X : K.In h) (G : h.Ns mainGlobals mg) {x : Str} (c : fFree x K = true) : mg x = none := free_ok X G c
theorem noat_of {x f : Str} (c : fNoat x f K = true) : NoAttr K (ga K x) f := noat_ok c
theorem meth_of {x m : Str} (c : fMeth x m K = true) : Meth K (ga K x) m (ma K (ga K x) m) := meth_ok c
theorem mkr_of {x : Str} (c : fMkr x K = true) : Mk K (ga K x) (ma K (ga K x) "__init__") := mkr_ok c
theorem exc_of (X : K.In h) (G : h.Ns mainGlobals mg) {x : Str} (c : fExc x K = true) : ExcP K mg x := by
  obtain ⟨c1, c2⟩ := ba c
  obtain ⟨a, b, d, e⟩ := exc_ok c1
  exact ⟨a, b, d, e, glo_ok X G c2⟩
theorem ocl_of {x : Str} (c : fOcl x K = true) : OCls K (ga K x) := by
  obtain ⟨c0, c⟩ := ba c
  obtain ⟨c1, c⟩ := ba c
  obtain ⟨c2, c⟩ := ba c
  obtain ⟨c3, c⟩ := ba c
  obtain ⟨c4, c⟩ := ba c
  obtain ⟨c5, c⟩ := ba c
  obtain ⟨c6, c⟩ := ba c
  obtain ⟨c7, c8⟩ := ba c
  exact ⟨cls_ok c0, c1, eqO_ok c2, eqO_ok c3, of_decide_eq_true c4, of_decide_eq_true c5, of_decide_eq_true c6, of_decide_eq_true c7, eqO_ok c8⟩
theorem omet_of {x m : Str} (c : fOMet x m K = true) : OMet K (ga K x) m (ma K (ga K x) m) := by
  obtain ⟨a, b⟩ := ba c
  exact ⟨eqO_ok a, b⟩
theorem nf_of {x : Str} (c : fNf x K = true) : PySem.W.notFirst K (ga K x) (.ref (ga K x)) = true ∧ PySem.W.notFirst K (ga K x) (.type "int") = true := ba c
theorem intM_of {m : Str} (c : fIntM m K = true) : ∃ fo, PySem.W.findIn K (.type "int") m = some fo := Option.isSome_iff_exists.mp c
theorem kit_of' {x y : Str} {b : Bool} (c : fKit x y b K = true) : PySem.W.kitOne K (.ref (ga K x)) (.ref (ga K y)) = some b := of_decide_eq_true c
theorem kitT_of {x : Str} {t : String} {b : Bool} (c : fKitT x t b K = true) : PySem.W.kitOne K (.ref (ga K x)) (.type t) = some b := of_decide_eq_true c
theorem kitI_of {x : Str} {t : String} {b : Bool} (c : fKitI t x b K = true) : PySem.W.kitOne K (.type t) (.ref (ga K x)) = some b := of_decide_eq_true c
end
end L2.Tr

namespace L2.Tr
open PySem PySem.Spec PyProof.Rows
section
variable {α β γ δ S : Type} {X : Cx} {I0 H0 : Hp} {W : WX} {Kx : KnowsX} {G : Knows} {ctx cw : List (Option SF)} {mem : List MF} {e a b c o : Expr} {es bs : List Expr} {st b₀ : Stmt} {ss s1 s2 body suite : List Stmt} {pos pos' np : Pos} {n x : Str} {ra : Ra α} {rb : Ra β} {rr : Ra γ} {ma : Res α} {mb : Res β}
/-- what is known of fewer slots -/
def weakC : List (Option SF) → List (Option SF) → Prop
  | [], [] => True
  | _ :: c, none :: d => weakC c d
  | a :: c, some b :: d => a = some b ∧ weakC c d
  | _, _ => False
theorem weakC.len : ∀ {c d : List (Option SF)}, weakC c d → c.length = d.length
  | [], [], _ => rfl
  | _ :: _, none :: _, h => congrArg Nat.succ (weakC.len (c := _) h)
  | _ :: _, some _ :: _, h => congrArg Nat.succ (weakC.len (c := _) h.2)
  | [], _ :: _, h => h.elim
  | _ :: _, [], h => h.elim
theorem weakC.get : ∀ {c d : List (Option SF)} {i : Nat} {sf : SF}, weakC c d → d[i]? = some (some sf) → c[i]? = some (some sf)
  | [], [], _, _, _, e => by simp at e
  | _ :: _, none :: _, 0, _, _, e => by simp at e
  | _ :: c, none :: d, i + 1, sf, h, e => by
    have e' : d[i]? = some (some sf) := by simpa using e
    have := weakC.get (c := c) h e'
    simpa using this
  | _ :: _, some _ :: _, 0, _, h, e => by
    have e' : some _ = some (some _) := e
    rw [h.1]; simpa using e
  | _ :: c, some _ :: d, i + 1, sf, h, e => by
    have e' : d[i]? = some (some sf) := by simpa using e
    have := weakC.get (c := c) h.2 e'
    simpa using this
  | [], _ :: _, _, _, h, _ => h.elim
  | _ :: _, [], _, _, h, _ => h.elim
theorem Stt.weak {I H : Hp} {σ : St} (s : Stt I0 H0 ctx mem I H σ) (h : weakC ctx cw) : Stt I0 H0 cw mem I H σ := ⟨s.fm, by rw [s.len, h.len], fun i sf e => s.sl i sf (h.get e), s.me⟩
theorem Stt.unset {I H : Hp} {σ : St} (s : Stt I0 H0 ctx mem I H σ) (i : Nat) {u : Option V} : Stt I0 H0 (ctx.set i none) mem I H (σ.set i u) := by
  refine ⟨s.fm, by rw [List.length_set, List.length_set]; exact s.len, fun j sf e => ?_, s.me⟩
  by_cases hj : j = i
  · subst hj
    rw [List.getElem?_set] at e
    by_cases hl : j < ctx.length
    · simp [hl] at e
    · simp [hl] at e
  · rw [List.getElem?_set_ne (Ne.symm hj)] at e
    obtain ⟨w, e1, q⟩ := s.sl j sf e
    exact ⟨w, by rw [List.getElem?_set_ne (Ne.symm hj)]; exact e1, q⟩

theorem lookup_mem {L : List (Str × Bool)} {x : Str} {b : Bool} (h : L.lookup x = some b) : (x, b) ∈ L := by
  induction L with
  | nil => cases h
  | cons p L ih =>
    obtain ⟨y, c⟩ := p
    have h' : (match x == y with | true => some c | false => L.lookup x) = some b := h
    cases q : (x == y) with
    | true =>
      rw [q] at h'
      cases h'
      rw [beq_iff_eq.mp q]; exact List.mem_cons_self
    | false => rw [q] at h'; exact List.mem_cons_of_mem _ (ih h')
def rExc (a : Addr) : Rp Unit := fun _ v _ => v = .ref a
instance {a : Addr} : Mo (rExc a) := ⟨fun _ h => h⟩
def MF.xd (K : PySem.W.Frag) (l : Addr) (ps : List (Str × Pay)) : MF := .one l (fun I o => ∃ fs, o = .xd fs ∧ Paired (fun (p : Str × V) (q : Str × Pay) => p.1 = q.1 ∧ PayR K I p.2 q.2) fs ps) (fun s ⟨fs, e, p⟩ => ⟨fs, e, Paired.mapP p fun _ q h => ⟨h.1, by
  obtain ⟨h1, h2⟩ := h
  cases hq : q.2 with
  | int i => rw [hq] at h2; exact h2
  | str i => rw [hq] at h2; exact h2
  | bl i => rw [hq] at h2; exact h2
  | non => rw [hq] at h2; exact h2
  | frac i => rw [hq] at h2; exact Mo.up (r := rFrac K) s h2
  | wts i j =>
    rw [hq] at h2
    obtain ⟨a, dx, b, dy, l, vs, e1, e2, e3, e4, e5⟩ := h2
    exact ⟨a, dx, b, dy, l, vs, e1, s _ _ e2, s _ _ e3, s _ _ e4, Paired.mapP e5 fun _ _ z => Mo.up (r := rFrac K) s z⟩⟩⟩)
def exm (K : PySem.W.Frag) (d : Option Addr) (e : Exn) : List MF := match d with
  | none => []
  | some a => [.xd K a e.pay]
/-- regions without an error's dict -/
def NoXd : List MF → Prop
  | [] => True
  | c :: m => (∀ (I H : Hp) (fp : List Addr) (a : Addr) (fs : List (Str × V)), c.Q I H fp → a ∈ fp → H a ≠ some (.xd fs)) ∧ NoXd m
theorem noxd_lst {α : Type} {l : Addr} {r : Rp α} {mo : Mo r} {xs : List α} : ∀ (I H : Hp) (fp : List Addr) (a : Addr) (fs : List (Str × V)), (MF.lst l r xs).Q I H fp → a ∈ fp → H a ≠ some (.xd fs) := fun I H fp a fs ⟨e, o, h, vs, eo, _⟩ ha z => by
  subst e; subst eo
  rw [List.mem_singleton.mp ha, h] at z; cases z
theorem noxd_ins {l C dx : Addr} {gs : List (Str × SF)} : ∀ (I H : Hp) (fp : List Addr) (a : Addr) (fs : List (Str × V)), (MF.ins l C dx gs).Q I H fp → a ∈ fp → H a ≠ some (.xd fs) := fun I H fp a fs ⟨e, o, h, vs, eo, _⟩ ha z => by
  subst e; subst eo
  rw [List.mem_singleton.mp ha, h] at z; cases z
theorem NoXd.at {I H : Hp} : ∀ {mem : List MF} {fps : List (List Addr)}, NoXd mem → Regs I H mem fps → ∀ (a : Addr) (fs : List (Str × V)), a ∈ fps.flatten → H a ≠ some (.xd fs)
  | [], [], _, _, a, fs, ha => by simp at ha
  | _ :: _, fp :: fps, ⟨n, m⟩, ⟨q, r⟩, a, fs, ha => by
    rw [List.flatten_cons] at ha
    rcases List.mem_append.mp ha with z | z
    · exact n I H fp a fs q z
    · exact NoXd.at m r a fs z
  | [], _ :: _, _, h, _, _, _ => h.elim
  | _ :: _, [], _, h, _, _, _ => h.elim
theorem Stt.exm {K : PySem.W.Frag} {I H : Hp} {σ : St} {ee : Exn} {cls : Value} {d : Option Addr} (s : Stt I0 H0 ctx mem I H σ) (f : Fr H0 d) (x : ExR K I H ee cls d) (hm : NoXd mem) : Stt I0 H0 ctx (Tr.exm K d ee ++ mem) I H σ := by
  cases d with
  | none => exact s
  | some a =>
    obtain ⟨_, _, fs, e1, e2, pr⟩ := x
    obtain ⟨fps, rg, nd, k⟩ := s.me
    have out : a ∉ fps.flatten := fun z => hm.at rg a fs z e1
    refine ⟨s.fm, s.len, s.sl, [a] :: fps, ⟨⟨rfl, _, e1, fs, rfl, pr⟩, rg⟩, ?_, fun b hb => ?_⟩
    · rw [List.flatten_cons]; exact List.nodup_cons.mpr ⟨out, nd⟩
    · rw [List.flatten_cons] at hb
      rcases List.mem_cons.mp hb with z | z
      · rw [z]; exact ⟨f a rfl, e2, by rw [e1]; intro y; cases y⟩
      · exact k b z
end
end L2.Tr

namespace L2.Tr
open PySem PySem.Spec PyProof.Rows
section
variable {α β γ δ S : Type} {X : Cx} {I0 H0 : Hp} {W : WX} {Kx : KnowsX} {G : Knows} {ctx cw : List (Option SF)} {mem : List MF} {e a b c o : Expr} {es bs : List Expr} {pos pos' np : Pos} {n x : Str} {ra : Ra α} {rb : Ra β} {rc : Ra γ} {ma : Res α} {mb : Res β}
/-! ### the start of a def -/
def IniR (I : Hp) : List V → List (Option SF) → Prop
  | [], c => ∀ (i : Nat) (sf : SF), c[i]? ≠ some (some sf)
  | v :: vs, some sf :: c => sf.r I v sf.x ∧ IniR I vs c
  | _ :: _, _ => False
theorem IniR.get {I : Hp} : ∀ {vs : List V} {c : List (Option SF)} {n : Nat}, IniR I vs c → ∀ (i : Nat) (sf : SF), c[i]? = some (some sf) → ∃ v, (vs.map some ++ List.replicate n none)[i]? = some (some v) ∧ sf.r I v sf.x
  | [], c, n, h, i, sf, e => (h i sf e).elim
  | v :: vs, some sf' :: c, n, ⟨a, b⟩, 0, sf, e => by
    have e' : sf' = sf := by simpa using e
    subst e'
    exact ⟨v, by simp, a⟩
  | v :: vs, some sf' :: c, n, ⟨a, b⟩, i + 1, sf, e => by
    have e' : c[i]? = some (some sf) := by simpa using e
    obtain ⟨u, h1, h2⟩ := IniR.get (n := n) b i sf e'
    exact ⟨u, by simpa using h1, h2⟩
  | _ :: _, none :: _, _, h, _, _, _ => h.elim
  | _ :: _, [], _, h, _, _, _ => h.elim
theorem Stt.start {N : List Str} {vs : List V} (sm : Same I0 H0) (h : IniR I0 vs ctx) (hl : ctx.length = N.length) (hv : vs.length ≤ N.length) : Stt I0 H0 ctx [] I0 H0 (L2.start N vs) := by
  refine ⟨Fm.refl sm, ?_, fun i sf e => IniR.get h i sf e, [], True.intro, by simp, fun a ha => by simp at ha⟩
  unfold L2.start
  rw [List.length_append, List.length_map, List.length_replicate, hl]
  omega
theorem ini_nil {I : Hp} {c : List (Option SF)} (h : c.all (·.isNone) = true) : IniR I [] c := fun i sf e => by
  have := List.all_eq_true.mp h _ (List.mem_of_getElem? e)
  cases this
/-! ### promises, once more -/
theorem FnR.nice {P : Program} {w : World} {K : PySem.W.Frag} {mg : Str → Option Value} {base : Heap} {k : Nat} {f : Addr} {R : Hp → Hp → List V → δ → Prop} {m m' : δ → Res γ} (F : FnR P w K mg base (L2N.CX P w) k f (spF K R m rc)) (h : ∀ d, m' d = .stuck ∨ m' d = m d) :
    FnR P w K mg base (L2N.CX P w) k f (spF K R m' rc) := F.imp fun vs H Q E ⟨I, d, s, r, p⟩ => ⟨I, d, s, r, by
  rcases h d with e | e
  · rw [show m' d = _ from e] at p; exact p.elim
  · rw [← e]; exact p⟩
theorem FnOk.fr {P : Program} {w : World} {K : PySem.W.Frag} {mg : Str → Option Value} {base : Heap} {k : Nat} {f : Addr} {fd : FuncData} {ps : List Str} {ds : List Value} {dvs : List V} {δ' : Type} {R : Hp → Hp → List V → δ → Prop} {R' : Hp → Hp → List V → δ' → Prop} {m : δ → Res γ} {h : δ' → δ} (F : FnOk P w K mg base (L2N.CX P w) k f fd ps (spF K R m rc)) (hb : Binds K fd ps ds) (hd : Vals dvs ds)
    (hR : ∀ I H vs d, R' I H vs d → R I H (vs ++ dvs) (h d)) : FnR P w K mg base (L2N.CX P w) k f (spF K R' (fun d => m (h d)) rc) := (FnOk.raw F hb hd).imp fun vs H Q E ⟨I, d, s, r, p⟩ => ⟨I, h d, s, hR _ _ _ _ r, p⟩
theorem FnOk.fr0 {P : Program} {w : World} {K : PySem.W.Frag} {mg : Str → Option Value} {base : Heap} {k : Nat} {f : Addr} {fd : FuncData} {ps : List Str} {R : Hp → Hp → List V → δ → Prop} {m : δ → Res γ} (F : FnOk P w K mg base (L2N.CX P w) k f fd ps (spF K R m rc)) (hb : Binds K fd ps []) :
    FnR P w K mg base (L2N.CX P w) k f (spF K R m rc) := (FnOk.raw F hb .nil).imp fun vs H Q E h => by rw [List.append_nil]; exact h
/-! ### the types of things -/
theorem tyr_int {K : PySem.W.Frag} {t : String} {g : Bool} (h : kitB "int" t = some g) : TyR K (rp rInt) (.type t) (fun _ => g) := fun I H v x _ e => ⟨.type "int", by rw [show v = _ from e]; exact .base (.int _), kit_ty h⟩
theorem tyr_intC {K : PySem.W.Frag} {C : Addr} {g : Bool} (h : PySem.W.kitOne K (.type "int") (.ref C) = some g) : TyR K (rp rInt) (.ref C) (fun _ => g) := fun I H v x _ e => ⟨.type "int", by rw [show v = _ from e]; exact .base (.int _), h⟩
theorem tyr_ins {K : PySem.W.Frag} {C : Addr} {u : Value} {g : Bool} (hc : OCls K C) (ia : InsR C ra) (h : PySem.W.kitOne K (.ref C) u = some g) : TyR K ra u (fun _ => g) := fun I H v x s e => by
  obtain ⟨a, dx, fs, rfl, ha⟩ := ia I H v x s e
  exact ⟨.ref C, .base (.ins ha hc.cl hc.ca hc.cn hc.ct hc.cm), h⟩
theorem insF {K : PySem.W.Frag} : InsR (He.ga K "Fraction") (rp (rFrac K)) := fun I H v x s ⟨a, dx, e, h⟩ => ⟨a, dx, _, e, s _ _ h⟩
theorem w_glob_at {C : Addr} (hm : X.mg n = some (.ref C)) (hg : Gl X n) (hd : (n == ("__debug__" : Str)) = false) (σ : St) (H : Hp) (Q : VK) (h : Q (.ref C) H) : wE X (.Name n pos) σ H Q := w_glob h hm rfl hg hd
theorem w_type_at {t : String} (hm : X.mg n = none) (hv : bootBuiltins n = some (.type t)) (hg : Gl X n) (hn : n ≠ "__name__") (hd : (n == ("__debug__" : Str)) = false) (σ : St) (H : Hp) (Q : VK) (h : Q (.ty t) H) : wE X (.Name n pos) σ H Q := w_bltn h hm hv rfl hg hn hd
/-! ### fields of a Fraction -/
theorem fld_top {K : PySem.W.Frag} : FldOf K (He.ga K "Fraction") (rp (rFrac K)) "top" (fun q => q.num) (rp rInt) := fun I H v x s ⟨a, dx, e, h⟩ => ⟨a, dx, _, .int x.num, e, s _ _ h, rfl, rfl⟩
theorem fld_bottom {K : PySem.W.Frag} : FldOf K (He.ga K "Fraction") (rp (rFrac K)) "bottom" (fun q => (q.den : Int)) (rp rInt) := fun I H v x s ⟨a, dx, e, h⟩ => ⟨a, dx, _, .int (x.den : Int), e, s _ _ h, rfl, rfl⟩
/-! ### operators of Fractions, ints and both -/
variable {f f' : Addr} {k k' : Nat} {g : Rat × Num × Unit → Res γ} {g' : Rat × Int × Unit → Res γ}
theorem opj_qq {op : Operator} (hc : OCls X.K (He.ga X.K "Fraction")) (hm : OMet X.K (He.ga X.K "Fraction") (PySem.dunder op.info.2) f) (F : FnR X.prog X.w X.K X.mg X.base (L2N.CX X.prog X.w) k f (spF X.K (R2' (rp (rFrac X.K)) (rp (rNum X.K))) g rc)) (hr : Room k X.A) (tk : L2N.Takes X W) :
    OpJ X W (binaryOp op) (rp (rFrac X.K)) (rp (rFrac X.K)) (fun x y => g (x, .q y, ())) rc := opj_own (g := fun d => g (d.1, .q d.2.1, ())) hc hm insF insF ((cj_of F hr tk).co fun I H vs d _ h => h)
theorem opj_qi {op : Operator} {fo ro : Option Value} (hc : OCls X.K (He.ga X.K "Fraction")) (hm : OMet X.K (He.ga X.K "Fraction") (PySem.dunder op.info.2) f) (hm' : OMet X.K (He.ga X.K "Fraction") (dunderR op.info.2) f') (h1 : PySem.W.findIn X.K (.type "int") (PySem.dunder op.info.2) = some fo) (h2 : PySem.W.findIn X.K (.type "int") (dunderR op.info.2) = some ro)
    (F : FnR X.prog X.w X.K X.mg X.base (L2N.CX X.prog X.w) k f (spF X.K (R2' (rp (rFrac X.K)) (rp (rNum X.K))) g rc)) (hr : Room k X.A) (tk : L2N.Takes X W) :
    OpJ X W (binaryOp op) (rp (rFrac X.K)) (rp rInt) (fun x y => g (x, .i y, ())) rc := opj_ownI (g := fun d => g (d.1, .i d.2.1, ())) hc hm hm' h1 h2 insF ((cj_of F hr tk).co fun I H vs d _ h => h)
theorem opj_qn {f : Value → Value → Sem Value} {g : Rat × Num × Unit → Res γ} (h1 : OpJ X W f (rp (rFrac X.K)) (rp (rFrac X.K)) (fun x y => g (x, .q y, ())) rc) (h2 : OpJ X W f (rp (rFrac X.K)) (rp rInt) (fun x y => g (x, .i y, ())) rc) :
    OpJ X W f (rp (rFrac X.K)) (rp (rNum X.K)) (fun x y => g (x, y, ())) rc := fun I H σ Q u v x y s a b p => by
  cases y with
  | i n => exact h2 I H σ Q u v x n s a b p
  | q r => exact h1 I H σ Q u v x r s a b p
theorem opj_cqi {op : CmpOp} (hop : ∀ a b, compareOp op a b = richCompare op a b) (hc : OCls X.K (He.ga X.K "Fraction")) (hm : OMet X.K (He.ga X.K "Fraction") (cmpInfo op).2.1 f) (hn : PySem.W.notFirst X.K (He.ga X.K "Fraction") (.type "int") = true) (F : FnR X.prog X.w X.K X.mg X.base (L2N.CX X.prog X.w) k f (spF X.K (R2' (rp (rFrac X.K)) (rp (rNum X.K))) g rc)) (hr : Room k X.A) (tk : L2N.Takes X W) :
    OpJ X W (compareOp op) (rp (rFrac X.K)) (rp rInt) (fun x y => g (x, .i y, ())) rc := opj_cmpI (g := fun d => g (d.1, .i d.2.1, ())) hop hc hm hr.units0 hn insF ((cj_of F hr tk).co fun I H vs d _ h => h)
variable {gb : Rat × Num × Unit → Res Bool}
theorem opj_neqi (hc : OCls X.K (He.ga X.K "Fraction")) (hm : OMet X.K (He.ga X.K "Fraction") "__eq__" f) (hn : PySem.W.notFirst X.K (He.ga X.K "Fraction") (.type "int") = true) (F : FnR X.prog X.w X.K X.mg X.base (L2N.CX X.prog X.w) k f (spF X.K (R2' (rp (rFrac X.K)) (rp (rNum X.K))) gb (rp rBl))) (hr : Room (k + 1) X.A) (tk : L2N.Takes X W) :
    OpJ X W (compareOp .NotEq) (rp (rFrac X.K)) (rp rInt) (fun x y => (gb (x, .i y, ())).bind fun z => .ok (!z)) (rp rBl) := opj_neI (g := fun d => gb (d.1, .i d.2.1, ())) hc hm hr tk hn insF (F.imp fun vs H Q E ⟨I, d, s, r, p⟩ => ⟨I, (d.1, .i d.2.1, ()), s, r, p⟩)
/-! ### isinstance of a caught error without fields, within the suite -/
theorem JE.isE {ad : Addr} {oe : Obj} {pn : List (Addr × Obj)} {D : Addr} {u : Value} {cv : V} {bb : Bool} (hz : L2N.Zn (.ref D) none oe) (hf : ∃ vs, oe.data = .fields vs) (C : ExcC X.K D) (hk : PySem.W.kitOne X.K (.ref D) u = some bb) (j : JE (X.suite ad ((ad, oe) :: pn)) I0 H0 W ctx mem a (.ok ()) (rp (rExc ad))) (jc : ∀ σ H Q, Q cv H → wE (X.suite ad ((ad, oe) :: pn)) b σ H Q) (hc : ClsV cv u) (hm : X.mg "isinstance" = none) (hg : Gl (X.suite ad ((ad, oe) :: pn)) "isinstance" := by rfl)
    (hs : starEach [a, b] X.env = (false, eval a X.env) :: starEach [b] X.env := by rfl) (hs2 : starEach [b] X.env = (false, eval b X.env) :: starEach [] X.env := by rfl) (hpl : (backTo pos (starEach [b] X.env)).any (·.1) = false := by rfl) :
    JE (X.suite ad ((ad, oe) :: pn)) I0 H0 W ctx mem (.Call (.Name "isinstance" pos') [a, b] [] pos) (.ok bb) (rp rBl) := fun I H σ Q st p => by
  refine w_callB (id := "isinstance") (Tr.w_cons (j I H σ _ st ?_) hs) hm (by decide +kernel) hg (by decide) (by decide) hs hpl
  intro I1 H1 v f1 r1
  cases (show v = V.ref ad from r1)
  refine Tr.w_cons (jc σ H1 _ (w_nil ?_)) hs2
  exact CallR.w (call_isE C hz.zc hf) ⟨cv, u, bb, rfl, fun w hw => hc.eq hw, hk, p I1 H1 _ f1 rfl⟩
end
/-! ### C(..) as a promise -/
def MkR {γ δ : Type} (P : Program) (w : World) (K : PySem.W.Frag) (mg : Str → Option Value) (base : Heap) (k : Nat) (C : Addr) (R : Hp → Hp → List V → δ → Prop) (m : δ → Res γ) (r : Ra γ) : Prop :=
  ∀ (X : Cx) (W : WX), X.prog = P → X.w = w → X.K = K → X.mg = mg → X.base = base → Room k X.A → L2N.Takes X W → CallJ X W (.ref C) R m r
theorem MkR.nice {γ δ : Type} {P : Program} {w : World} {K : PySem.W.Frag} {mg : Str → Option Value} {base : Heap} {k : Nat} {C : Addr} {R : Hp → Hp → List V → δ → Prop} {m m' : δ → Res γ} {r : Ra γ} (F : MkR P w K mg base k C R m r) (h : ∀ d, m' d = .stuck ∨ m' d = m d) : MkR P w K mg base k C R m' r := fun X W e1 e2 e3 e4 e5 hr tk I H σ Q vs d s a p => by
  refine F X W e1 e2 e3 e4 e5 hr tk I H σ Q vs d s a ?_
  rcases h d with e | e
  · rw [show m' d = _ from e] at p; exact p.elim
  · rw [← e]; exact p
theorem MkR.mono {γ δ : Type} {P : Program} {w : World} {K : PySem.W.Frag} {mg : Str → Option Value} {base : Heap} {j k : Nat} {C : Addr} {R : Hp → Hp → List V → δ → Prop} {m : δ → Res γ} {r : Ra γ} (F : MkR P w K mg base j C R m r) (h : j ≤ k) : MkR P w K mg base k C R m r := fun X W e1 e2 e3 e4 e5 hr tk => F X W e1 e2 e3 e4 e5 (hr.mono h) tk
theorem mkR_of {γ δ δ' : Type} {P : Program} {w : World} {K : PySem.W.Frag} {mg : Str → Option Value} {base : Heap} {k : Nat} {C f : Addr} {fd : FuncData} {ps : List Str} {ds : List Value} {dvs : List V} {R : Hp → Hp → List V → δ → Prop} {R' : Hp → Hp → List V → δ' → Prop} {m : δ → Res γ} {h : δ' → δ} {r : Ra γ} (M : Mk K C f) (F : FnOk P w K mg base (L2N.CX P w) k f fd ps (spI K C R m r)) (hb : Binds K fd ps ds) (hd : Vals dvs ds)
    (hR : ∀ I H vs d, R' I H vs d → R I H (vs ++ dvs) (h d)) : MkR P w K mg base (k + 1) C R' (fun d => m (h d)) r := fun X W e1 e2 e3 e4 e5 hr tk => by
  subst e1; subst e2; subst e3; subst e4; subst e5
  exact cj_make (R' := R') (m := fun d => m (h d)) (R := fun I H vs d => R I H vs (h d)) M (F.imp fun vs H Q E ⟨x, dx, ws, H0, I, d, a1, a2, a3, a4, a5, a6, a7, a8⟩ => ⟨x, dx, ws, H0, I, h d, a1, a2, a3, a4, a5, a6, a7, a8⟩) hr hb hd tk hR
def fExm (x y : Str) (b : Bool) : FB := fun K => (He.Fa.exm x y b).ok K
theorem exm_of {K : PySem.W.Frag} {x y : Str} {b : Bool} (c : fExm x y b K = true) : PySem.W.exmOne K (.ref (He.ga K x)) (.ref (He.ga K y)) = some b := He.exm_ok c
def fExcC (x : Str) : FB := fun K => He.eqO (PySem.W.findIn K (.ref (He.ga K x)) "__getattribute__") (some (some (.builtin "BaseException.__getattribute__"))) && (He.eqO (PySem.W.findIn K (.ref (He.ga K x)) "__getattr__") (some none) && (decide (PySem.W.subIn K (.ref (He.ga K x)) (.type "BaseException") = some true) && (PySem.W.hasDictIn K (He.ga K x) &&
  (He.eqO (PySem.W.findIn K (.ref (He.ga K x)) "__class__") (some (some (.builtin "object.__class__"))) && (He.eqO (PySem.W.specialIn K (.builtin "object.__class__") "__get__") (some (some (.builtin "getset_descriptor.__get__"))) && (decide (PySem.W.takesIn K (.builtin "object.__class__") = some true) && decide (PySem.W.mroIn K (He.ga K x) (.type "object") = some true)))))))
theorem excC_of {K : PySem.W.Frag} {x : Str} (c : fExcC x K = true) : ExcC K (He.ga K x) := by
  obtain ⟨c1, c⟩ := He.ba c
  obtain ⟨c2, c⟩ := He.ba c
  obtain ⟨c3, c⟩ := He.ba c
  obtain ⟨c4, c⟩ := He.ba c
  obtain ⟨c5, c⟩ := He.ba c
  obtain ⟨c6, c⟩ := He.ba c
  obtain ⟨c7, c8⟩ := He.ba c
  exact ⟨He.eqO_ok c1, He.eqO_ok c2, of_decide_eq_true c3, c4, He.eqO_ok c5, He.eqO_ok c6, of_decide_eq_true c7, of_decide_eq_true c8⟩
section
variable {S γ : Type} {X : Cx} {I0 H0 : Hp} {W : WX} {Kx : KnowsX} {ctx : List (Option SF)} {mem : List MF} {pos : Pos}
theorem J1.raiseP {x m : Str} {j : Nat} {p1 p2 p3 : Pos} {G' : S → Knows} (hc : X.calm = true) (tk : L2N.Takes X W) (ep : ExcP X.K X.mg x) (hx : ∀ I H σ d, Stt I0 H0 ctx mem I H σ → Fr H0 d → Kx I H σ d) (hg : Gl X x := by rfl) (hdb : (x == ("__debug__" : Str)) = false := by decide) :
    J1 X W Kx (Stt I0 H0 ctx mem) (.Raise (some (.Call (.Name x p1) [.Constant (.str m) j p2] [] p3)) none pos) (.err ⟨x, []⟩ : Res S) G' := fun I H σ D g p => by
  refine s_raise hc tk (L2N.pmk_own PySem.F.excBase_ValueError ep.ex ep.gl ep.kp (raises_own ep.bs ep.ty) hg hdb) ?_
  exact p I H σ _ none (hx _ _ _ _ g fun _ z => nomatch z) ⟨rfl, rfl⟩
end
end L2.Tr

namespace L2.Tr
open PySem PySem.Spec PyProof.Rows
section
variable {α β γ δ ε : Type} {X : Cx} {I0 H0 : Hp} {W : WX} {ctx : List (Option SF)} {mem : List MF} {e a b c o : Expr} {es bs : List Expr} {kws : List Keyword} {pos pos' kpos : Pos} {n x : Str} {nm : Option Str} {ra : Ra α} {rb : Ra β} {rc : Ra γ} {ma : Res α} {mb : Res β}
/-! ### keywords -/
def JK (X : Cx) (I0 H0 : Hp) (W : WX) (ctx : List (Option SF)) (mem : List MF) (kws : List Keyword) (m : Res δ) (R : Hp → Hp → List V → δ → Prop) : Prop :=
  ∀ (pos : Pos) (I H : Hp) (σ : St) (Q : List V → Hp → Prop), Stt I0 H0 ctx mem I H σ → (match m with
    | .ok a => ∀ I' H' vs, Fm I H I' H' → R I' H' vs a → Q vs H'
    | .err e => ∀ I' H' cls d, Fm I H I' H' → Fr H d ∧ ExR X.K I' H' e cls d → W cls d σ H'
    | .stuck => False) → ∀ (pins : List (Addr × Obj)) (s : Shared), Inv X pins σ H s → wpAny (model X.prog X.w) X.A (evalAll ((backToKw pos (keywordEach kws X.env)).map (·.2))) (AP X pins σ Q) X.xe s
theorem JK.nil : JK X I0 H0 W ctx mem [] (.ok ()) aNil := fun pos I H σ Q st p pins s Iv => wpAny_evalAll_nil ⟨[], H, Iv, .nil, p I H [] (Fm.refl st.same) rfl⟩
theorem JK.cons {R : Hp → Hp → List V → δ → Prop} {m : Res δ} [MoA ra] (j : JE X I0 H0 W ctx mem e ma ra) (k : JK X I0 H0 W ctx mem kws m R) : JK X I0 H0 W ctx mem (⟨nm, e, kpos⟩ :: kws) (ma.bind fun x => m.bind fun y => .ok (x, y)) (aCons ra R) := fun pos I H σ Q st p pins s Iv => by
  show wpAny _ _ (evalAll ((do let v ← eval e X.env; standAt pos; pure v) :: (backToKw pos (keywordEach kws X.env)).map (·.2))) _ _ s
  refine wpAny_evalAll_cons (wpAny_bind (thn (j I H σ (fun v H1 => ∀ pins s1 u, Inv X pins σ H1 s1 → RelV v u → wpAny (model X.prog X.w) X.A (evalAll ((backToKw pos (keywordEach kws X.env)).map (·.2))) (fun us s2 => AP X pins σ Q (u :: us) s2) X.xe s1) st ?_ pins s Iv) fun u s1 ⟨v, H1, I1, r1, q1⟩ => wpAny_bind (wpAny_standAt (wpAny_pure (q1 pins s1 u I1 r1)))))
  cases ma with
  | ok x =>
    intro I1 H1 v f1 r1 pins s1 u Iv1 ru
    refine thn (k pos I1 H1 σ (fun vs H2 => Q (v :: vs) H2) (st.step f1) ?_ pins s1 Iv1) fun us s2 ⟨vs, H2, I2, r2, q2⟩ => ⟨v :: vs, H2, I2, .cons ru r2, q2⟩
    cases m with
    | ok y => exact fun I2 H2 vs f2 r2 => p I2 H2 _ (f1.trans f2) ⟨v, vs, rfl, MoA.up f2.i f2.h r1, r2⟩
    | err e => exact fun I2 H2 c d f2 x => p I2 H2 c d (f1.trans f2) ⟨x.1.back f1.h, x.2⟩
    | stuck => exact p
  | err e => exact p
  | stuck => exact p
def callKW (X : Cx) (f : Value) (ks : List Str) (σ : St) (xs zs : List V) (H : Hp) (Q : VK) : Prop := ∀ (pins : List (Addr × Obj)) (s : Shared) (us ws : List Value), Inv X pins σ H s → Vals xs us → Vals zs ws → wpAny (model X.prog X.w) X.A (call f us (ks.zip ws)) (EP X pins σ Q) X.xe s
def CallKJ (X : Cx) (W : WX) (f : Value) (ks : List Str) (R : Hp → Hp → List V → δ → Prop) (R' : Hp → Hp → List V → ε → Prop) (g : δ → ε → Res γ) (rc : Ra γ) : Prop :=
  ∀ (I H : Hp) (σ : St) (Q : VK) (vs zs : List V) (x : δ) (y : ε), Same I H → R I H vs x → R' I H zs y → PostE X.K (g x y) rc I H (fun cls d H' => W cls d σ H') Q → callKW X f ks σ vs zs H Q
class MoR {δ : Type} (R : Hp → Hp → List V → δ → Prop) : Prop where
  up : ∀ {I H I' H' : Hp} {vs : List V} {x : δ}, Same I I' → Same H H' → R I H vs x → R I' H' vs x
instance : MoR aNil := ⟨fun _ _ h => h⟩
instance {r : Ra α} {R : Hp → Hp → List V → δ → Prop} [m : MoA r] [m' : MoR R] : MoR (aCons r R) := ⟨fun a b ⟨v, ws, e, h, h'⟩ => ⟨v, ws, e, m.up a b h, m'.up a b h'⟩⟩
variable {R : Hp → Hp → List V → δ → Prop} {R' : Hp → Hp → List V → ε → Prop} {md : Res δ} {me : Res ε} {g : δ → ε → Res γ} {ks : List Str}
theorem JE.callK0 {f : Addr} {g : Unit → ε → Res γ} (jk : JK X I0 H0 W ctx mem kws me R') (cj : CallKJ X W (.ref f) ks aNil R' g rc) (hm : X.mg n = some (.ref f)) (hk : PySem.W.keepIn X.K (.ref f) = true) (hg : Gl X n := by rfl) (hdb : (n == ("__debug__" : Str)) = false := by decide)
    (hall : (backToKw pos (keywordEach kws X.env)).all (·.1.isSome) = true := by rfl) (hks : (backToKw pos (keywordEach kws X.env)).filterMap (·.1) = ks := by rfl)
    (hpl : ((backTo pos (starEach [] X.env)).any (·.1) || (backToKw pos (keywordEach kws X.env)).any (·.1.isNone)) = false := by rfl) : JE X I0 H0 W ctx mem (.Call (.Name n pos') [] kws pos) (me.bind fun y => g () y) rc := fun I H σ Q st p => wE.mk fun pins s Iv => by
  refine wpAny_Call_Name_kw (ld_glob Iv hg hm ?_ hdb)
  refine PySem.W.callWith_KW0 (h₀ := X.base) Iv.ok.mod.kin hk hall ?_ hpl
  rw [hks]
  refine thn (jk pos I H σ (fun zs H2 => callKW X (.ref f) ks σ [] zs H2 Q) st ?_ pins s Iv) fun ws s2 ⟨zs, H2, I2, r2, q2⟩ => ⟨I2.kIn, q2 pins s2 [] ws I2 .nil r2⟩
  cases me with
  | ok y => exact fun I2 H2 zs f2 r2 => cj I2 H2 σ Q [] zs () y f2.ih rfl r2 (PostE.up p f2)
  | err e => exact p
  | stuck => exact p
theorem cx_false {P : Program} {w : World} {l : List Env} {H : Hp} {s : Shared} {e : Value} {s' : Shared} (h : L2N.CX P w l H s (fun _ _ _ => False) e s') : False := by
  obtain ⟨_, _, _, _, _, _, _, _, _, _, _, _, z⟩ := h
  exact z.elim
end
def MkK {γ δ ε : Type} (P : Program) (w : World) (K : PySem.W.Frag) (mg : Str → Option Value) (base : Heap) (k : Nat) (C : Addr) (ks : List Str) (R : Hp → Hp → List V → δ → Prop) (R' : Hp → Hp → List V → ε → Prop) (m : δ → ε → Res γ) (r : Ra γ) : Prop :=
  ∀ (X : Cx) (W : WX), X.prog = P → X.w = w → X.K = K → X.mg = mg → X.base = base → Room k X.A → L2N.Takes X W → CallKJ X W (.ref C) ks R R' m r
theorem MkK.nice {γ δ ε : Type} {P : Program} {w : World} {K : PySem.W.Frag} {mg : Str → Option Value} {base : Heap} {k : Nat} {C : Addr} {ks : List Str} {R : Hp → Hp → List V → δ → Prop} {R' : Hp → Hp → List V → ε → Prop} {m m' : δ → ε → Res γ} {r : Ra γ} (F : MkK P w K mg base k C ks R R' m r) (h : ∀ d e, m' d e = .stuck ∨ m' d e = m d e) : MkK P w K mg base k C ks R R' m' r := fun X W e1 e2 e3 e4 e5 hr tk I H σ Q vs zs d ee s a b p => by
  refine F X W e1 e2 e3 e4 e5 hr tk I H σ Q vs zs d ee s a b ?_
  rcases h d ee with e | e
  · rw [show m' d ee = _ from e] at p; exact p.elim
  · rw [← e]; exact p
end L2.Tr

namespace L2.Tr
open PySem PySem.Spec PyProof.Rows
/-! ### the greatest common divisor -/
abbrev absI (x : Int) : Int := if x < 0 then -x else x
theorem absI_eq (x : Int) : absI x = (x.natAbs : Int) := by unfold absI; split <;> omega
theorem modI_ok {x y : Int} (h : y ≠ 0) : modI x y = .ok (x.fmod y) := Res.guard_pos h _
theorem cd_loop {c : Int × Int → Res Bool} {f : Int × Int → Res (Int × Int)} (hc : ∀ s, c s = .ok (!decide (s.2 = 0))) (hf : ∀ s, s.2 ≠ 0 → f s = .ok (s.2, s.1.fmod s.2)) : ∀ (k : Nat) (a b : Nat), b < k → whileM c f k ((a : Int), (b : Int)) = .ok ((Nat.gcd b a : Int), 0)
  | 0, _, _, h => by omega
  | k + 1, a, b, h => by
    show (c _).bind _ = _
    rw [hc]
    by_cases hb : b = 0
    · subst hb
      simp
    · have hb' : ¬ ((b : Int) = 0) := by omega
      simp only [Res.ok_bind, decide_eq_false hb', Bool.not_false, if_true]
      rw [hf _ hb', Int.fmod_eq_emod_of_nonneg _ (by omega)]
      show whileM c f k (((b : Nat) : Int), (((a % b : Nat)) : Int)) = _
      rw [cd_loop hc hf k b (a % b) (by have := Nat.mod_lt a (Nat.pos_of_ne_zero hb); omega)]
      rw [Nat.gcd_rec b a]
/-! ### Fraction(t, b) -/
def eBF : Exn := ⟨"BadFraction", []⟩
def qRaw (t b : Int) : Res Rat := if b = 0 then .err eBF else Res.guard ((Int.gcd t b).log2 < 9000) (.ok (Rat.divInt t b))
def qMk (t b : Int) : Res Rat := if b = 0 then .err eBF else Res.guard (b.natAbs.log2 < 9000) (.ok (Rat.divInt t b))
theorem log2_mono {a b : Nat} (h : a ≤ b) : a.log2 ≤ b.log2 := by
  by_cases ha : a = 0
  · subst ha; simp
  · have hb : b ≠ 0 := by omega
    exact (Nat.le_log2 hb).mpr (Nat.le_trans (Nat.log2_self_le ha) h)
theorem qMk_raw (t b : Int) : qMk t b = .stuck ∨ qMk t b = qRaw t b := by
  unfold qMk qRaw
  by_cases hb : b = 0
  · simp [hb]
  · rw [if_neg hb, if_neg hb]
    by_cases h : b.natAbs.log2 < 9000
    · right
      have : (Int.gcd t b).log2 ≤ b.natAbs.log2 := log2_mono (Int.gcd_le_natAbs_right t hb)
      rw [Res.guard_pos h, Res.guard_pos (by omega)]
    · left; unfold Res.guard; rw [if_neg h]
theorem div_num {t b : Int} (hb : b ≠ 0) (dv : Int) (hd : dv = if b < 0 then -(Int.gcd t b : Int) else (Int.gcd t b : Int)) : t.fdiv dv = (Rat.divInt t b).num ∧ b.fdiv dv = ((Rat.divInt t b).den : Int) := by
  have hg : (Int.gcd t b : Int) ≠ 0 := by
    intro h
    have := Int.gcd_eq_zero_iff.mp (by exact_mod_cast h : Int.gcd t b = 0)
    exact hb this.2
  obtain ⟨x, hx⟩ : (Int.gcd t b : Int) ∣ t := Int.gcd_dvd_left t b
  obtain ⟨y, hy⟩ : (Int.gcd t b : Int) ∣ b := Int.gcd_dvd_right t b
  have hgp : (0 : Int) < (Int.gcd t b : Int) := by omega
  rw [Rat.num_divInt, Rat.den_divInt, if_neg hb, Int.gcd_comm b t]
  generalize hG : (Int.gcd t b) = G at *
  have e1 : ∀ z : Int, ((G : Int) * z).fdiv G = z := fun z => by rw [Int.mul_comm]; exact Int.mul_fdiv_cancel z hg
  have e2 : ∀ z : Int, ((G : Int) * z).fdiv (-G) = -z := fun z => by
    have : (G : Int) * z = (-z) * (-(G : Int)) := by rw [Int.neg_mul_neg, Int.mul_comm]
    rw [this]; exact Int.mul_fdiv_cancel _ (by omega)
  have e3 : ∀ z : Int, ((G : Int) * z) / G = z := fun z => Int.mul_ediv_cancel_left z hg
  by_cases h : b < 0
  · rw [if_pos h] at hd
    subst hd
    have sg : b.sign = -1 := Int.sign_eq_neg_one_of_neg h
    refine ⟨?_, ?_⟩
    · rw [sg, hx, e2, show (-1 : Int) * ((G : Int) * x) = (G : Int) * (-x) from by rw [Int.mul_neg, Int.neg_mul, Int.one_mul], e3]
    · have e4 : ((b.natAbs / G : Nat) : Int) = -y := by
        rw [Int.natCast_ediv, show (b.natAbs : Int) = (G : Int) * (-y) from by rw [Int.mul_neg, ← hy]; omega, e3]
      rw [e4]
      conv => lhs; rw [hy]
      exact e2 y
  · rw [if_neg h] at hd
    subst hd
    have sg : b.sign = 1 := Int.sign_eq_one_of_pos (by omega)
    refine ⟨?_, ?_⟩
    · rw [sg, Int.one_mul]
      conv => lhs; rw [hx]
      conv => rhs; rw [hx]
      rw [e1, e3]
    · have e4 : ((b.natAbs / G : Nat) : Int) = y := by
        rw [Int.natCast_ediv, show (b.natAbs : Int) = (G : Int) * y from by rw [← hy]; omega, e3]
      rw [e4]
      conv => lhs; rw [hy]
      exact e1 y
theorem frF_of {I : Hp} {fs : List (Str × V)} {q : Rat} {n d : Int} (hn : n = q.num) (hd : d = q.den) (h : FldR I fs [("top", ⟨rInt, n⟩), ("bottom", ⟨rInt, d⟩)]) : fs = frF q := by
  subst hn; subst hd
  match fs, h with
  | [(a, u), (b, v)], ⟨e1, e2, e3, e4, _⟩ =>
    cases (show a = _ from e1); cases (show u = _ from e2); cases (show b = _ from e3); cases (show v = _ from e4)
    rfl
/-! ### the defs of exact.py -/
def n_cd (a b : Int) : Res Int := .ok (Int.gcd a b : Int)
def qInt (n : Int) : Res Rat := .ok (n : Rat)
theorem qInt_raw (n : Int) : qInt n = .stuck ∨ qInt n = qRaw n 1 := by
  right
  unfold qInt qRaw
  rw [if_neg (by decide), Res.guard_pos (by rw [Int.gcd_one]; decide)]
  congr 1
  exact Rat.ext (by rw [Rat.num_divInt]; simp) (by rw [Rat.den_divInt]; simp)
theorem weak_nil : weakC [] [] := True.intro
theorem weak_some {a : SF} {c d : List (Option SF)} (h : weakC c d) : weakC (some a :: c) (some a :: d) := ⟨rfl, h⟩
theorem weak_none {a : Option SF} {c d : List (Option SF)} (h : weakC c d) : weakC (a :: c) (none :: d) := h
theorem Stt.recast {I0 H0 I H : Hp} {ctx : List (Option SF)} {mem : List MF} {σ : L2.St} (s : Stt I0 H0 ctx mem I H σ) (i : Nat) {a b : SF} (hc : ctx[i]? = some (some a)) (h : ∀ v, a.r I v a.x → b.r I v b.x) : Stt I0 H0 (ctx.set i (some b)) mem I H σ := by
  refine ⟨s.fm, by rw [List.length_set]; exact s.len, fun j sf e => ?_, s.me⟩
  by_cases hj : j = i
  · subst hj
    rw [List.getElem?_set] at e
    have hl : j < ctx.length := (List.getElem?_eq_some_iff.mp hc).1
    simp only [hl, if_true] at e
    cases e
    obtain ⟨v, e1, q⟩ := s.sl j a hc
    exact ⟨v, e1, h v q⟩
  · rw [List.getElem?_set_ne (Ne.symm hj)] at e
    exact s.sl j sf e
theorem JR.num {γ : Type} {X : Cx} {I0 H0 : Hp} {W : WX} {Kx : KnowsX} {ctx : List (Option SF)} {mem : List MF} {ss : List Stmt} {rr : Ra γ} {K : PySem.W.Frag} (i : Nat) {x : Num} {f1 : Int → Res γ} {f2 : Rat → Res γ} (k1 : ∀ n, JR X I0 H0 W Kx (Stt I0 H0 (ctx.set i (some ⟨rInt, n⟩)) mem) ss (f1 n) rr) (k2 : ∀ r, JR X I0 H0 W Kx (Stt I0 H0 (ctx.set i (some ⟨rFrac K, r⟩)) mem) ss (f2 r) rr)
    (hc : ctx[i]? = some (some ⟨rNum K, x⟩) := by rfl) : JR X I0 H0 W Kx (Stt I0 H0 ctx mem) ss (match x with | .i n => f1 n | .q r => f2 r) rr := fun I H σ D g p => by
  cases x with
  | i n => exact k1 n I H σ D (g.recast i (b := ⟨rInt, n⟩) hc fun v h => h) p
  | q r => exact k2 r I H σ D (g.recast i (b := ⟨rFrac K, r⟩) hc fun v h => h) p
theorem JR.dead {γ : Type} {X : Cx} {I0 H0 : Hp} {W : WX} {Kx : KnowsX} {G : Knows} {ss : List Stmt} {rr : Ra γ} : JR X I0 H0 W Kx G ss (.stuck : Res γ) rr := fun _ _ _ _ _ p => p.elim
theorem JN.dead {S : Type} {X : Cx} {W : WX} {Kx : KnowsX} {G : Knows} {ss : List Stmt} {G' : S → Knows} : JN X W Kx G ss (.stuck : Res S) G' := fun _ _ _ _ _ p => p.elim
theorem paired_ints (I H : Hp) : ∀ ns : List Int, Paired (rp rInt I H) (ns.map V.int) ns
  | [] => .nil
  | _ :: ns => .cons rfl (paired_ints I H ns)
/-! ### a law's cell -/
def cellAt (ns : List Int) (k : Nat) : Int := ns.getD k 0
theorem atM_nat {α : Type} {xs : List α} {k : Nat} {x : α} (h : xs[k]? = some x) : atM xs (k : Int) = .ok x := by unfold atM; rw [atI_nat h]
theorem mulI_ok {x y : Int} (h : x.natAbs.log2 + y.natAbs.log2 < 1000000) : mulI x y = .ok (x * y) := Res.guard_pos h _
theorem fdivI_ok {x y : Int} (h0 : y ≠ 0) (h : y.natAbs.log2 < 9000) : fdivI x y = .ok (x.fdiv y) := Res.guard_pos ⟨h0, h⟩ _
theorem FnOk.no {P : Program} {w : World} {K : PySem.W.Frag} {mg : Str → Option Value} {base : Heap} {k : Nat} {f : Addr} {fd : FuncData} {ps : List Str} {sp : Sp} (F : FnOk P w K mg base (L2N.CX P w) k f fd ps sp) : FnOk P w K mg base CX0 k f fd ps (fun vs H Q _ => sp vs H Q fun _ _ _ => False) :=
  ⟨fun vs H Q _ h => F.len vs H Q _ h, fun A outer s H args us vs Q E hr e0 hb hv h => codeAny_mono (F.run A outer s H args us vs Q _ hr e0 hb hv h) fun r s' hq => by
    cases r with
    | error e => exact cx_false hq
    | ok fl => cases fl <;> exact hq⟩
end L2.Tr

namespace L2.Tr
open PySem PySem.Spec PyProof.Rows
/-! ### what is walked -/
/-- J walks the values vs while ok holds of the heap -/
def ItR (J : It) (vs : List V) (ok : Hp → Prop) : Prop := ∀ (i : Nat) (H : Hp), ok H → (i < vs.length → J.go i H ∧ ∀ x H', J.yld i H x H' → H' = H ∧ vs[i]? = some x) ∧ (vs.length ≤ i → J.stop i H)
theorem itr_list {K : PySem.W.Frag} {l : Addr} {vs : List V} : ItR (Itl K l) vs (fun H => SqL K H l vs) := fun i H q => ⟨fun h => ⟨⟨vs, vs[i], q, by simp [h]⟩, fun x H' y => ⟨y.1, y.2 vs q⟩⟩, fun h => ⟨vs, q, h⟩⟩
theorem itr_tup {K : PySem.W.Frag} {l : Addr} {vs : List V} : ItR (Itt K l) vs (fun H => SqT K H l vs) := fun i H q => ⟨fun h => ⟨⟨vs, vs[i], q, by simp [h]⟩, fun x H' y => ⟨y.1, y.2 vs q⟩⟩, fun h => ⟨vs, q, h⟩⟩
def rngV (lo : Int) (n : Nat) : List V := (List.range n).map fun (i : Nat) => .int (lo + (i : Int))
def rngI (lo : Int) (n : Nat) : List Int := (List.range n).map fun (i : Nat) => lo + (i : Int)
theorem itr_rng {lo : Int} {n : Nat} : ItR (Itr lo n) (rngV lo n) (fun _ => True) := fun i H _ => by
  have e : (rngV lo n).length = n := by simp [rngV]
  rw [e]
  exact ⟨fun h => ⟨h, fun x H' y => ⟨y.1, by rw [y.2]; simp [rngV, h]⟩⟩, fun h => h⟩
theorem rng_pair {I : Hp} {lo : Int} {n : Nat} : Paired (rInt I) (rngV lo n) (rngI lo n) := by
  unfold rngV rngI
  generalize List.range n = l
  induction l with
  | nil => exact .nil
  | cons a l ih => exact .cons rfl ih
section
variable {α β γ δ S : Type} {X : Cx} {I0 H0 : Hp} {W : WX} {Kx : KnowsX} {G : Knows} {ctx cw : List (Option SF)} {mem : List MF} {e a b c o tg iter : Expr} {es bs : List Expr} {ss body : List Stmt} {pos pos' : Pos} {n : Str} {ra : Ra α} {rr : Ra γ} {ma : Res α}
def wI (X : Cx) (tg iter : Expr) : TI := fun σ H R => ∀ (pins : List (Addr × Obj)) (s : Shared), Inv X pins σ H s → wpAny (model X.prog X.w) X.A (eval iter X.env) (fun v s1 => wpAny (model X.prog X.w) X.A (pyIter v) (PIEC X pins σ tg R) X.xe s1) X.xe s
theorem pi_W : PIC X tg iter (wI X tg iter) := ⟨fun pins s _ _ _ I h => h pins s I⟩
theorem PI.w {t : TI} {σ : St} {H : Hp} {R : It → Hp → Prop} (p : PIC X tg iter t) (h : t σ H R) : wI X tg iter σ H R := fun pins s I => p.run pins s σ H R I h
/-- what an iterable is worth: its items -/
def JI (X : Cx) (I0 H0 : Hp) (W : WX) (ctx : List (Option SF)) (mem : List MF) (tg iter : Expr) (m : Res (List β)) (r : Rp β) : Prop :=
  ∀ (I H : Hp) (σ : St) (R : It → Hp → Prop), Stt I0 H0 ctx mem I H σ → (match m with
    | .ok xs => ∀ I' H' J vs (okp : Hp → Prop), Fm I H I' H' → ItR J vs okp → (∀ I'' H'', Same I' I'' → Same I'' H'' → Same H0 H'' → okp H'') → Paired (r I') vs xs → R J H'
    | .err e => ∀ I' H' cls d, Fm I H I' H' → Fr H d ∧ ExR X.K I' H' e cls d → W cls d σ H'
    | .stuck => False) → wI X tg iter σ H R
theorem JI.list {r : Rp β} {m : Res (List β)} (j : JE X I0 H0 W ctx mem iter m (rp (rL r))) : JI X I0 H0 W ctx mem tg iter m r := fun I H σ R st p => by
  refine PI.w (pi_listC pe_W) (j I H σ _ st ?_)
  cases m with
  | ok xs =>
    rintro I1 H1 v f1 ⟨l, vs, rfl, hl, pr⟩
    exact ⟨l, rfl, ⟨vs, SqL.of (f1.ih _ _ hl)⟩, p I1 H1 _ vs _ f1 itr_list (fun I2 H2 s1 s2 _ => SqL.of (s2 _ _ (s1 _ _ hl))) pr⟩
  | err e => exact p
  | stuck => exact p
theorem JI.tup {r : Rp β} {m : Res (List β)} (j : JE X I0 H0 W ctx mem iter m (rp (rT r))) : JI X I0 H0 W ctx mem tg iter m r := fun I H σ R st p => by
  refine PI.w (pi_tupC pe_W) (j I H σ _ st ?_)
  cases m with
  | ok xs =>
    rintro I1 H1 v f1 ⟨l, vs, rfl, hl, pr⟩
    exact ⟨l, rfl, ⟨vs, SqT.of (f1.ih _ _ hl)⟩, p I1 H1 _ vs _ f1 itr_tup (fun I2 H2 s1 s2 _ => SqT.of (s2 _ _ (s1 _ _ hl))) pr⟩
  | err e => exact p
  | stuck => exact p
/-- a parameter's list -/
theorem JI.par (i : Nat) {r : Rp β} {mo : Mo (fun I v x => rdL X.K (rp r) I H0 v x)} {x : List β} [m : Mo r] (hc : ctx[i]? = some (some (@SF.mk (List β) (fun I v x => rdL X.K (rp r) I H0 v x) mo x)) := by rfl) (hN : X.N[i]? = some n := by rfl) (hv : Vis X.env.scope n := by first | exact Or.inl rfl | exact Or.inr (Or.inl rfl) | exact Or.inr (Or.inr rfl)) (hd : (n == ("__debug__" : Str)) = false := by decide)
    (hcd : (n == ("__classdict__" : Str)) = false := by decide) : JI X I0 H0 W ctx mem tg (.Name n pos) (.ok x) r := fun I H σ R st p => by
  obtain ⟨v, e, l, vs, ev, hl, pr⟩ := st.sl i _ hc
  subst ev
  refine PI.w (pi_listC pe_W) (w_var i ⟨l, rfl, ⟨vs, st.fm.h.seq hl⟩, ?_⟩ e hN hv hd hcd)
  exact p I H _ vs _ (Fm.refl st.same) itr_list (fun I2 H2 s1 s2 s3 => s3.seq hl) pr
def rangeM (lo hi : Int) : Res (List Int) := Res.guard (-(2 ^ 62) ≤ lo ∧ lo < 2 ^ 62 ∧ -(2 ^ 62) ≤ hi ∧ hi < 2 ^ 62) (.ok (rngI lo (hi - lo).toNat))
def rangeM1 (hi : Int) : Res (List Int) := Res.guard (-(2 ^ 62) ≤ hi ∧ hi < 2 ^ 62) (.ok (rngI 0 hi.toNat))
theorem JI.range1 {m : Res Int} (j : JE X I0 H0 W ctx mem a m (rp rInt)) (hm : X.mg "range" = none) (hg : Gl X "range" := by rfl) (hs : starEach [a] X.env = (false, eval a X.env) :: starEach [] X.env := by rfl) : JI X I0 H0 W ctx mem tg (.Call (.Name "range" pos') [a] [] pos) (m.bind fun x => rangeM1 x) rInt := fun I H σ R st p => by
  refine PI.w (pi_range1C hg hm (pa_cons pe_W pa_nil hs) hs) (j I H σ _ st ?_)
  cases m with
  | ok x =>
    intro I1 H1 v f1 r1
    cases (show v = V.int x from r1)
    by_cases hh : -(2 ^ 62) ≤ x ∧ x < 2 ^ 62
    · have e : ((Res.ok x).bind fun x => rangeM1 x) = .ok (rngI 0 x.toNat) := Res.guard_pos hh _
      rw [e] at p
      exact ⟨x, rfl, hh.1, hh.2, p I1 H1 _ _ _ f1 itr_rng (fun _ _ _ _ _ => True.intro) rng_pair⟩
    · have e : ((Res.ok x).bind fun x => rangeM1 x) = .stuck := if_neg hh
      rw [e] at p
      exact p.elim
  | err e => exact p
  | stuck => exact p
theorem JI.range2 {m m' : Res Int} (j : JE X I0 H0 W ctx mem a m (rp rInt)) (j' : JE X I0 H0 W ctx mem b m' (rp rInt)) (hm : X.mg "range" = none) (hg : Gl X "range" := by rfl) (hs : starEach [a, b] X.env = (false, eval a X.env) :: starEach [b] X.env := by rfl) (hs2 : starEach [b] X.env = (false, eval b X.env) :: starEach [] X.env := by rfl) :
    JI X I0 H0 W ctx mem tg (.Call (.Name "range" pos') [a, b] [] pos) (m.bind fun x => m'.bind fun y => rangeM x y) rInt := fun I H σ R st p => by
  refine PI.w (pi_range2C hg hm (pa_cons pe_W (pa_cons pe_W pa_nil hs2) hs) (by rw [hs, hs2]; rfl) (by rw [hs2]; rfl)) (j I H σ _ st ?_)
  cases m with
  | ok x =>
    intro I1 H1 v f1 r1
    refine j' I1 H1 σ _ (st.step f1) ?_
    cases m' with
    | ok y =>
      intro I2 H2 v2 f2 r2
      cases (show v = V.int x from r1)
      cases (show v2 = V.int y from r2)
      by_cases hh : -(2 ^ 62) ≤ x ∧ x < 2 ^ 62 ∧ -(2 ^ 62) ≤ y ∧ y < 2 ^ 62
      · have e : ((Res.ok x).bind fun x => (Res.ok y).bind fun y => rangeM x y) = .ok (rngI x (y - x).toNat) := Res.guard_pos hh _
        rw [e] at p
        exact ⟨x, y, rfl, hh, p I2 H2 _ _ _ (f1.trans f2) itr_rng (fun _ _ _ _ _ => True.intro) rng_pair⟩
      · have e : ((Res.ok x).bind fun x => (Res.ok y).bind fun y => rangeM x y) = .stuck := if_neg hh
        rw [e] at p
        exact p.elim
    | err e => exact fun I2 H2 c d f2 x => p I2 H2 c d (f1.trans f2) ⟨x.1.back f1.h, x.2⟩
    | stuck => exact p
  | err e => exact p
  | stuck => exact p

/-! ### for: a body that goes on -/
def forS (f : β → S → Res S) : List β → S → Res S
  | [], s => .ok s
  | x :: xs, s => (f x s).bind fun s' => forS f xs s'
theorem paired_drop {F : α → β → Prop} {xs : List α} {ys : List β} (p : Paired F xs ys) (i : Nat) {x : α} (h : xs[i]? = some x) : ∃ y, ys[i]? = some y ∧ F x y := by
  have hl := Paired.length p
  have hi : i < ys.length := by rw [← hl]; exact (List.getElem?_eq_some_iff.mp h).1
  obtain ⟨x', e1, e2⟩ := paired_get p (List.getElem?_eq_getElem hi)
  rw [h] at e1
  cases e1
  exact ⟨_, List.getElem?_eq_getElem hi, e2⟩
theorem forS_drop {f : β → S → Res S} {xs : List β} {i : Nat} {x : β} (h : xs[i]? = some x) (s : S) : forS f (xs.drop i) s = (f x s).bind fun s' => forS f (xs.drop (i + 1)) s' := by
  have hi := (List.getElem?_eq_some_iff.mp h).1
  rw [List.drop_eq_getElem_cons hi]
  have : xs[i] = x := (List.getElem?_eq_some_iff.mp h).2
  rw [this]
  rfl
theorem J1.forS (j : Nat) {r : Rp β} [mo : Mo r] {m : Res (List β)} {cx : S → List (Option SF)} {me : S → List MF} {f : β → S → Res S} {s0 : S} (hp : PassesOwn (model X.prog X.w) X.A X.env X.xe) (ji : JI X I0 H0 W ctx (me s0) (.Name n pos') iter m r)
    (jb : ∀ x s, JN X W Kx (Stt I0 H0 ((cx s).set j (some ⟨r, x⟩)) (me s)) body (f x s) fun s' => Stt I0 H0 (cx s') (me s')) (hx : ∀ I H σ d, Stt I0 H0 ctx (me s0) I H σ → Fr H0 d → Kx I H σ d) (hw : weakC ctx (cx s0)) (hN : X.N.Nodup) (hc : Cool X := by first | exact .inl rfl | exact .inr ⟨_, by assumption, List.mem_cons_self⟩)
    (hj : X.N[j]? = some n := by rfl) (hl : Loc X.env.scope n := by first | exact Or.inl rfl | exact Or.inr rfl) (hf : X.fn n = true ∨ X.env.scope.names.lookup n = some .local := by first | exact .inl rfl | exact .inr rfl | assumption) (hs : ∀ x, foldedSetIterable iter X.env x = pure x := by intro _; rfl) :
    J1 X W Kx (Stt I0 H0 ctx (me s0)) (.For (.Name n pos') iter body [] pos) (m.bind fun xs => Tr.forS f xs s0) (fun s => Stt I0 H0 (cx s) (me s)) := fun I H σ D g p => by
  refine PS.w (ps_forC hp hc pi_W (pg_name (i := j) hN hj hl hf) pss_W hs) (ji I H σ _ g ?_)
  cases m with
  | ok xs =>
    intro I1 H1 J vs okp f1 itr stay pr
    have p0 : PostB X W Kx I1 (Tr.forS f xs s0) (fun s => Stt I0 H0 (cx s) (me s)) D := PostB.up p f1.i
    have hlen := Paired.length pr
    refine ⟨fun i k σ' H' => k + i = vs.length ∧ ∃ I' s, Same I1 I' ∧ Stt I0 H0 (cx s) (me s) I' H' σ' ∧ PostB X W Kx I' (Tr.forS f (xs.drop i) s) (fun s => Stt I0 H0 (cx s) (me s)) D, ⟨vs.length, rfl, I1, s0, Same.refl _, (g.step f1).weak hw, p0⟩, ?_⟩
    rintro i k σ' H' ⟨hk, I', s, si, g', p'⟩
    have hok := stay I' H' si g'.same g'.fm.h
    by_cases hi : i < vs.length
    · obtain ⟨go, yl⟩ := (itr i H' hok).1 hi
      refine .inr ⟨go, fun σ2 H2 => ∃ I2 s2, Same I1 I2 ∧ Stt I0 H0 (cx s2) (me s2) I2 H2 σ2 ∧ PostB X W Kx I2 (Tr.forS f (xs.drop (i + 1)) s2) (fun s => Stt I0 H0 (cx s) (me s)) D, fun σ2 H2 h => ⟨k - 1, by omega, by omega, h⟩, fun v H2 hy => ?_⟩
      obtain ⟨rfl, ev⟩ := yl v H2 hy
      obtain ⟨x, ex, hr⟩ := paired_drop pr i ev
      rw [forS_drop ex] at p'
      have key := jb x s I' H2 (σ'.set j (some v)) { D with nx := fun σ2 H2 => ∃ I2 s2, Same I' I2 ∧ Stt I0 H0 (cx s2) (me s2) I2 H2 σ2 ∧ PostB X W Kx I2 (Tr.forS f (xs.drop (i + 1)) s2) (fun s => Stt I0 H0 (cx s) (me s)) D, ct := fun _ _ => False, bk := fun _ _ => False } (g'.set j (mo.up si hr)) ?_
      · refine b_mono key (fun σ2 H2 ⟨I2, s2, q1, q2, q3⟩ => ⟨I2, s2, si.trans q1, q2, q3⟩) (fun _ _ z => z) (fun _ _ z => z.elim) (fun _ _ z => z.elim)
      · revert p'
        generalize f x s = z
        intro p'
        cases z with
        | ok s2 => exact fun I2 H2 σ2 q1 q2 => ⟨I2, s2, q1, q2, PostB.up p' q1⟩
        | err e => exact p'
        | stuck => exact p'.elim
    · refine .inl ⟨(itr i H' hok).2 (by omega), ?_⟩
      have : xs.drop i = [] := List.drop_eq_nil_of_le (by omega)
      rw [this] at p'
      exact p' I' H' σ' (Same.refl _) g'
  | err e => exact fun I' H' c d f x => p I' H' σ c d (hx _ _ _ _ (g.step f) (x.1.back g.fm.h)) x.2
  | stuck => exact p.elim
end
end L2.Tr

namespace L2.Tr
open PySem PySem.Spec PyProof.Rows
/-! ### general flow: a block may go on, return, break or continue -/
inductive Fl (S L γ : Type)
  | nx (s : S)
  | rt (y : γ)
  | bk (l : L)
  | ct (l : L)
section
variable {α β γ δ S T L L' : Type}
def Fl.then (f : S → Res (Fl T L γ)) : Fl S L γ → Res (Fl T L γ)
  | .nx s => f s
  | .rt y => .ok (.rt y)
  | .bk l => .ok (.bk l)
  | .ct l => .ok (.ct l)
def Fl.out (f : S → Res γ) : Fl S L γ → Res γ
  | .nx s => f s
  | .rt y => .ok y
  | .bk _ => .stuck
  | .ct _ => .stuck
@[simp] theorem Fl.then_nx (f : S → Res (Fl T L γ)) (s : S) : Fl.then f (.nx s) = f s := rfl
@[simp] theorem Fl.then_rt (f : S → Res (Fl T L γ)) (y : γ) : Fl.then f (.rt y) = .ok (.rt y) := rfl
@[simp] theorem Fl.then_bk (f : S → Res (Fl T L γ)) (y : L) : Fl.then f (.bk y) = .ok (.bk y) := rfl
@[simp] theorem Fl.then_ct (f : S → Res (Fl T L γ)) (y : L) : Fl.then f (.ct y) = .ok (.ct y) := rfl
@[simp] theorem Fl.out_nx (f : S → Res γ) (s : S) : Fl.out (L := L) f (.nx s) = f s := rfl
@[simp] theorem Fl.out_rt (f : S → Res γ) (y : γ) : Fl.out (L := L) f (.rt y) = .ok y := rfl
def forG (f : β → S → Res (Fl S S γ)) : List β → S → Res (Fl S L γ)
  | [], s => .ok (.nx s)
  | x :: xs, s => (f x s).bind fun
    | .nx s' => forG f xs s'
    | .ct s' => forG f xs s'
    | .bk s' => .ok (.nx s')
    | .rt y => .ok (.rt y)
def PostG (X : Cx) (I0 H0 : Hp) (W : WX) (Kx : KnowsX) (I : Hp) (m : Res (Fl S L γ)) (G : S → Knows) (GL : L → Knows) (r : Ra γ) (D : Ends) : Prop := match m with
  | .ok (.nx s) => ∀ I' H' σ', Same I I' → G s I' H' σ' → D.nx σ' H'
  | .ok (.bk s) => ∀ I' H' σ', Same I I' → GL s I' H' σ' → D.bk σ' H'
  | .ok (.ct s) => ∀ I' H' σ', Same I I' → GL s I' H' σ' → D.ct σ' H'
  | .ok (.rt y) => ∀ I' H' v, Fm I0 H0 I' H' → r I' H' v y → D.rt v H'
  | .err e => ∀ I' H' σ' cls d, Kx I' H' σ' d → ExR X.K I' H' e cls d → W cls d σ' H'
  | .stuck => False
theorem PostG.up {X : Cx} {I0 H0 : Hp} {W : WX} {Kx : KnowsX} {I I1 : Hp} {m : Res (Fl S L γ)} {G : S → Knows} {GL : L → Knows} {r : Ra γ} {D : Ends} (p : PostG X I0 H0 W Kx I m G GL r D) (s : Same I I1) : PostG X I0 H0 W Kx I1 m G GL r D := by
  cases m with
  | ok a => cases a with
    | nx s => exact fun I' H' σ' q => p I' H' σ' (Same.trans ‹Same I I1› q)
    | bk s => exact fun I' H' σ' q => p I' H' σ' (Same.trans ‹Same I I1› q)
    | ct s => exact fun I' H' σ' q => p I' H' σ' (Same.trans ‹Same I I1› q)
    | rt y => exact p
  | err e => exact p
  | stuck => exact p
def J1G (X : Cx) (I0 H0 : Hp) (W : WX) (Kx : KnowsX) (G : Knows) (st : Stmt) (m : Res (Fl S L γ)) (G' : S → Knows) (GL : L → Knows) (r : Ra γ) : Prop := ∀ (I H : Hp) (σ : St) (D : Ends), G I H σ → PostG X I0 H0 W Kx I m G' GL r D → wS X st D σ H
def JG (X : Cx) (I0 H0 : Hp) (W : WX) (Kx : KnowsX) (G : Knows) (ss : List Stmt) (m : Res (Fl S L γ)) (G' : S → Knows) (GL : L → Knows) (r : Ra γ) : Prop := ∀ (I H : Hp) (σ : St) (D : Ends), G I H σ → PostG X I0 H0 W Kx I m G' GL r D → wB X ss D σ H
variable {X : Cx} {I0 H0 : Hp} {W : WX} {Kx : KnowsX} {G : Knows} {ctx : List (Option SF)} {mem : List MF} {e a b c o iter : Expr} {es bs : List Expr} {st : Stmt} {ss s1 s2 body : List Stmt} {pos pos' : Pos} {n : Str} {ra : Ra α} {rr : Ra γ} {ma : Res α} {mc : Res Bool} {GL : L → Knows}
theorem JG.nil {s : S} {G' : S → Knows} (h : ∀ I H σ, G I H σ → G' s I H σ) : JG X I0 H0 W Kx G [] (.ok (.nx s)) G' GL rr := fun I H σ D g p => b_nil (p I H σ (Same.refl _) (h _ _ _ g))
theorem JG.seq {m : Res S} {G1 : S → Knows} {f : S → Res (Fl T L γ)} {G2 : T → Knows} (j : J1 X W Kx G st m G1) (k : ∀ s, JG X I0 H0 W Kx (G1 s) ss (f s) G2 GL rr) : JG X I0 H0 W Kx G (st :: ss) (m.bind f) G2 GL rr := fun I H σ D g p => by
  refine b_cons (j I H σ _ g ?_)
  cases m with
  | ok s => exact fun I' H' σ' si g' => k s I' H' σ' D g' (PostG.up p si)
  | err e => exact p
  | stuck => exact p
theorem JG.seqG {m : Res (Fl S L γ)} {G1 : S → Knows} {f : S → Res (Fl T L γ)} {G2 : T → Knows} (j : J1G X I0 H0 W Kx G st m G1 GL rr) (k : ∀ s, JG X I0 H0 W Kx (G1 s) ss (f s) G2 GL rr) : JG X I0 H0 W Kx G (st :: ss) (m.bind (Fl.then f)) G2 GL rr := fun I H σ D g p => by
  refine b_cons (j I H σ _ g ?_)
  cases m with
  | ok a => cases a with
    | nx s => exact fun I' H' σ' si g' => k s I' H' σ' D g' (PostG.up p si)
    | bk s => exact p
    | ct s => exact p
    | rt s => exact p
  | err e => exact p
  | stuck => exact p
theorem JR.seqG {m : Res (Fl S L γ)} {G1 : S → Knows} {f : S → Res γ} (j : J1G X I0 H0 W Kx G st m G1 GL rr) (k : ∀ s, JR X I0 H0 W Kx (G1 s) ss (f s) rr) : JR X I0 H0 W Kx G (st :: ss) (m.bind (Fl.out f)) rr := fun I H σ D g p => by
  refine b_cons (j I H σ _ g ?_)
  cases m with
  | ok a => cases a with
    | nx s => exact fun I' H' σ' si g' => k s I' H' σ' D g' p
    | bk s => exact p.elim
    | ct s => exact p.elim
    | rt s => exact p
  | err e => exact p
  | stuck => exact p
theorem JG.rt {m : Res γ} {G' : S → Knows} (j : JR X I0 H0 W Kx G ss m rr) : JG X I0 H0 W Kx G ss (m.bind fun y => .ok (.rt y)) G' GL rr := fun I H σ D g p => by
  refine j I H σ D g ?_
  cases m with
  | ok y => exact p
  | err e => exact p
  | stuck => exact p
theorem J1G.of {m : Res S} {G' : S → Knows} (j : J1 X W Kx G st m G') : J1G X I0 H0 W Kx G st (m.bind fun s => .ok (.nx s)) G' GL rr := fun I H σ D g p => by
  refine j I H σ D g ?_
  cases m with
  | ok y => exact p
  | err e => exact p
  | stuck => exact p
theorem JG.ifT {m1 m2 : Res (Fl S L γ)} {G' : S → Knows} (j : JT X I0 H0 W ctx mem c mc) (k1 : JG X I0 H0 W Kx (Stt I0 H0 ctx mem) s1 m1 (fun _ _ _ _ => False) GL rr) (k2 : JG X I0 H0 W Kx (Stt I0 H0 ctx mem) ss m2 G' GL rr) (hx : ∀ I H σ d, Stt I0 H0 ctx mem I H σ → Fr H0 d → Kx I H σ d) :
    JG X I0 H0 W Kx (Stt I0 H0 ctx mem) (.If c s1 [] pos :: ss) (mc.bind fun x => if x = true then m1 else m2) G' GL rr := fun I H σ D g p => by
  refine b_cons (s_if (j I H σ _ g ?_))
  cases mc with
  | ok x =>
    intro I1 H1 v f r y hy
    cases r; cases hy
    cases x with
    | true =>
      refine iteT (b_mono (k1 I1 H1 σ { D with nx := fun _ _ => False } (g.step f) ?_) (fun _ _ z => z.elim) (fun _ _ z => z) (fun _ _ z => z) (fun _ _ z => z))
      have p1 : PostG X I0 H0 W Kx I1 m1 _ _ _ _ := PostG.up p f.i
      cases m1 with
      | ok a => cases a with
        | nx s => exact fun _ _ _ _ z => z
        | bk s => exact p1
        | ct s => exact p1
        | rt s => exact p1
      | err e => exact p1
      | stuck => exact p1
    | false => exact iteF (b_nil (k2 I1 H1 σ D (g.step f) (PostG.up p f.i)))
  | err e => exact fun I' H' c d f x => p I' H' σ c d (hx _ _ _ _ (g.step f) (x.1.back g.fm.h)) x.2
  | stuck => exact p
theorem J1G.if {m1 m2 : Res (Fl S L γ)} {G' : S → Knows} (j : JT X I0 H0 W ctx mem c mc) (k1 : JG X I0 H0 W Kx (Stt I0 H0 ctx mem) s1 m1 G' GL rr) (k2 : JG X I0 H0 W Kx (Stt I0 H0 ctx mem) s2 m2 G' GL rr) (hx : ∀ I H σ d, Stt I0 H0 ctx mem I H σ → Fr H0 d → Kx I H σ d) :
    J1G X I0 H0 W Kx (Stt I0 H0 ctx mem) (.If c s1 s2 pos) (mc.bind fun x => if x = true then m1 else m2) G' GL rr := fun I H σ D g p => by
  refine s_if (j I H σ _ g ?_)
  cases mc with
  | ok x =>
    intro I1 H1 v f r y hy
    cases r; cases hy
    cases x with
    | true => exact iteT (k1 I1 H1 σ D (g.step f) (PostG.up p f.i))
    | false => exact iteF (k2 I1 H1 σ D (g.step f) (PostG.up p f.i))
  | err e => exact fun I' H' c d f x => p I' H' σ c d (hx _ _ _ _ (g.step f) (x.1.back g.fm.h)) x.2
  | stuck => exact p
theorem JG.bk {l : L} {G' : S → Knows} (h : ∀ I H σ, G I H σ → GL l I H σ) : JG X I0 H0 W Kx G (.Break pos :: ss) (.ok (.bk l)) G' GL rr := fun I H σ D g p => b_cons (PS.w ps_break (p I H σ (Same.refl _) (h _ _ _ g)))
theorem JG.ct {l : L} {G' : S → Knows} (h : ∀ I H σ, G I H σ → GL l I H σ) : JG X I0 H0 W Kx G (.Continue pos :: ss) (.ok (.ct l)) G' GL rr := fun I H σ D g p => b_cons (PS.w ps_continue (p I H σ (Same.refl _) (h _ _ _ g)))
theorem forG_drop {f : β → S → Res (Fl S S γ)} {xs : List β} {i : Nat} {x : β} (h : xs[i]? = some x) (s : S) : (forG f (xs.drop i) s : Res (Fl S L γ)) = (f x s).bind fun
    | .nx s' => forG f (xs.drop (i + 1)) s'
    | .ct s' => forG f (xs.drop (i + 1)) s'
    | .bk s' => .ok (.nx s')
    | .rt y => .ok (.rt y) := by
  have hi := (List.getElem?_eq_some_iff.mp h).1
  rw [List.drop_eq_getElem_cons hi]
  have : xs[i] = x := (List.getElem?_eq_some_iff.mp h).2
  rw [this]
  rfl
theorem J1G.forG (j : Nat) {r : Rp β} [mo : Mo r] {m : Res (List β)} {cx : S → List (Option SF)} {me : S → List MF} {f : β → S → Res (Fl S S γ)} {s0 : S} (hp : PassesOwn (model X.prog X.w) X.A X.env X.xe) (ji : JI X I0 H0 W ctx (me s0) (.Name n pos') iter m r)
    (jb : ∀ x s, JG X I0 H0 W Kx (Stt I0 H0 ((cx s).set j (some ⟨r, x⟩)) (me s)) body (f x s) (fun s' => Stt I0 H0 (cx s') (me s')) (fun s' => Stt I0 H0 (cx s') (me s')) rr) (hx : ∀ I H σ d, Stt I0 H0 ctx (me s0) I H σ → Fr H0 d → Kx I H σ d) (hw : weakC ctx (cx s0)) (hN : X.N.Nodup) (hc : Cool X := by first | exact .inl rfl | exact .inr ⟨_, by assumption, List.mem_cons_self⟩)
    (hj : X.N[j]? = some n := by rfl) (hl : Loc X.env.scope n := by first | exact Or.inl rfl | exact Or.inr rfl) (hf : X.fn n = true ∨ X.env.scope.names.lookup n = some .local := by first | exact .inl rfl | exact .inr rfl | assumption) (hs : ∀ x, foldedSetIterable iter X.env x = pure x := by intro _; rfl) :
    J1G X I0 H0 W Kx (Stt I0 H0 ctx (me s0)) (.For (.Name n pos') iter body [] pos) (m.bind fun xs => (Tr.forG f xs s0 : Res (Fl S L γ))) (fun s => Stt I0 H0 (cx s) (me s)) GL rr := fun I H σ D g p => by
  refine PS.w (ps_forC hp hc pi_W (pg_name (i := j) hN hj hl hf) pss_W hs) (ji I H σ _ g ?_)
  cases m with
  | ok xs =>
    intro I1 H1 J vs okp f1 itr stay pr
    have p0 : PostG X I0 H0 W Kx I1 (Tr.forG f xs s0) (fun s => Stt I0 H0 (cx s) (me s)) GL rr D := PostG.up p f1.i
    have hlen := Paired.length pr
    refine ⟨fun i k σ' H' => k + i = vs.length ∧ ∃ I' s, Same I1 I' ∧ Stt I0 H0 (cx s) (me s) I' H' σ' ∧ PostG X I0 H0 W Kx I' (Tr.forG f (xs.drop i) s) (fun s => Stt I0 H0 (cx s) (me s)) GL rr D, ⟨vs.length, rfl, I1, s0, Same.refl _, (g.step f1).weak hw, p0⟩, ?_⟩
    rintro i k σ' H' ⟨hk, I', s, si, g', p'⟩
    have hok := stay I' H' si g'.same g'.fm.h
    by_cases hi : i < vs.length
    · obtain ⟨go, yl⟩ := (itr i H' hok).1 hi
      refine .inr ⟨go, fun σ2 H2 => ∃ I2 s2, Same I1 I2 ∧ Stt I0 H0 (cx s2) (me s2) I2 H2 σ2 ∧ PostG X I0 H0 W Kx I2 (Tr.forG f (xs.drop (i + 1)) s2) (fun s => Stt I0 H0 (cx s) (me s)) GL rr D, fun σ2 H2 h => ⟨k - 1, by omega, by omega, h⟩, fun v H2 hy => ?_⟩
      obtain ⟨rfl, ev⟩ := yl v H2 hy
      obtain ⟨x, ex, hr⟩ := paired_drop pr i ev
      rw [forG_drop ex] at p'
      refine jb x s I' H2 (σ'.set j (some v)) _ (g'.set j (mo.up si hr)) ?_
      revert p'
      generalize f x s = z
      intro p'
      cases z with
      | ok a => cases a with
        | nx s2 => exact fun I2 H2 σ2 q1 q2 => ⟨I2, s2, si.trans q1, q2, PostG.up p' q1⟩
        | ct s2 => exact fun I2 H2 σ2 q1 q2 => ⟨I2, s2, si.trans q1, q2, PostG.up p' q1⟩
        | bk s2 => exact p'
        | rt y => exact p'
      | err e => exact p'
      | stuck => exact p'.elim
    · refine .inl ⟨(itr i H' hok).2 (by omega), ?_⟩
      have : xs.drop i = [] := List.drop_eq_nil_of_le (by omega)
      rw [this] at p'
      exact p' I' H' σ' (Same.refl _) g'
  | err e => exact fun I' H' c d f x => p I' H' σ c d (hx _ _ _ _ (g.step f) (x.1.back g.fm.h)) x.2
  | stuck => exact p.elim
end
end L2.Tr
namespace L2.Tr
open PySem PySem.Spec PyProof.Rows
def Fl.get {S L γ : Type} : Fl S L γ → Res S
  | .nx s => .ok s
  | _ => .stuck
end L2.Tr

namespace L2.Tr
open PySem PySem.Spec PyProof.Rows
/-! ### fractions in plain Lean -/
abbrev big : Nat := 2 ^ 4000
def fitI (n : Int) : Prop := n.natAbs ≤ big
def fits (q : Rat) : Prop := q.num.natAbs ≤ big ∧ q.den ≤ big
instance (n : Int) : Decidable (fitI n) := inferInstanceAs (Decidable (_ ≤ _))
instance (q : Rat) : Decidable (fits q) := inferInstanceAs (Decidable (_ ∧ _))
theorem log_big {n : Nat} (h : n ≤ big) : n.log2 ≤ 4000 := by
  have := log2_mono h
  have e : big.log2 = 4000 := Nat.log2_two_pow
  omega
theorem big_mul {a b : Nat} (ha : a ≤ big) (hb : b ≤ big) : (a * b).log2 < 9000 := by
  have h1 : a * b ≤ 2 ^ 8000 := by
    have := Nat.mul_le_mul ha hb
    rwa [show big * big = 2 ^ 8000 from by rw [← Nat.pow_add]] at this
  have := log2_mono h1
  rw [Nat.log2_two_pow] at this
  omega
theorem mul_fit {a b : Int} (ha : a.natAbs ≤ big) (hb : b.natAbs ≤ big) : mulI a b = .ok (a * b) := mulI_ok (by have := log_big ha; have := log_big hb; omega)
theorem fits_int {n : Int} : fits (n : Rat) ↔ fitI n := by
  unfold fits fitI
  rw [Rat.num_intCast, Rat.den_intCast]
  exact ⟨fun h => h.1, fun h => ⟨h, Nat.one_le_two_pow⟩⟩
theorem den_nz (x : Rat) : (x.den : Int) ≠ 0 := by have := x.den_nz; omega
theorem qMk_ok {t b : Int} (hb : b ≠ 0) (hl : b.natAbs.log2 < 9000) : qMk t b = .ok (Rat.divInt t b) := by unfold qMk; rw [if_neg hb, Res.guard_pos hl]
def gQ (x : Rat) (y : Num) (r : Rat) : Res Rat := Res.guard (fits x ∧ fits y.val) (.ok r)
def gB (x : Rat) (y : Num) (r : Bool) : Res Bool := Res.guard (fits x ∧ fits y.val) (.ok r)
def qAdd (x : Rat) (y : Num) : Res Rat := gQ x y (x + y.val)
def qMul (x : Rat) (y : Num) : Res Rat := gQ x y (x * y.val)
def qEq (x : Rat) (y : Num) : Res Bool := .ok (decide (x = y.val))
def qLt (x : Rat) (y : Num) : Res Bool := gB x y (decide (x < y.val))
def qGt (x : Rat) (y : Num) : Res Bool := gB x y (decide (y.val < x))
def qAs (y : Num) : Res Rat := .ok y.val
theorem stuck_or {α : Type} {p : Prop} [Decidable p] {m r : Res α} (h : p → m = r) : Res.guard p m = .stuck ∨ Res.guard p m = r := by
  by_cases hp : p
  · exact .inr (by rw [Res.guard_pos hp, h hp])
  · exact .inl (if_neg hp)
theorem fd {x : Rat} (h : fits x) : ((x.den : Int)).natAbs ≤ big := by rw [Int.natAbs_natCast]; exact h.2
theorem qMk_dd {x y : Rat} (hx : fits x) (hy : fits y) (t : Int) : qMk t ((x.den : Int) * (y.den : Int)) = .ok (Rat.divInt t ((x.den : Int) * (y.den : Int))) :=
  qMk_ok (Int.mul_ne_zero (den_nz x) (den_nz y)) (by rw [Int.natAbs_mul, Int.natAbs_natCast, Int.natAbs_natCast]; exact big_mul hx.2 hy.2)
theorem qMk_d {x : Rat} (hx : fits x) (t : Int) : qMk t (x.den : Int) = .ok (Rat.divInt t (x.den : Int)) :=
  qMk_ok (den_nz x) (by rw [Int.natAbs_natCast]; have := log_big hx.2; omega)
theorem add_divs (x y : Rat) : Rat.divInt (x.num * (y.den : Int) + y.num * (x.den : Int)) ((x.den : Int) * (y.den : Int)) = x + y := by
  conv => rhs; rw [← Rat.num_divInt_den x, ← Rat.num_divInt_den y, Rat.divInt_add_divInt _ _ (den_nz x) (den_nz y)]
theorem mul_divs (x y : Rat) : Rat.divInt (x.num * y.num) ((x.den : Int) * (y.den : Int)) = x * y := by
  conv => rhs; rw [← Rat.num_divInt_den x, ← Rat.num_divInt_den y, Rat.divInt_mul_divInt _ _]
theorem add_div1 (x : Rat) (n : Int) : Rat.divInt (x.num + n * (x.den : Int)) (x.den : Int) = x + (n : Rat) := by
  have := add_divs x (n : Rat)
  rw [Rat.num_intCast, Rat.den_intCast] at this
  simpa using this
theorem mul_div1 (x : Rat) (n : Int) : Rat.divInt (x.num * n) (x.den : Int) = x * (n : Rat) := by
  have := mul_divs x (n : Rat)
  rw [Rat.num_intCast, Rat.den_intCast] at this
  simpa using this
theorem eq_dec (x y : Rat) : (if decide (x.num = y.num) = true then Res.ok (decide ((x.den : Int) = (y.den : Int))) else .ok false) = .ok (decide (x = y)) := by
  by_cases h : x = y
  · subst h; simp
  · rw [decide_eq_false h]
    by_cases h1 : x.num = y.num
    · rw [decide_eq_true h1, if_pos rfl, decide_eq_false]
      intro h2
      exact h (Rat.ext h1 (by exact_mod_cast h2))
    · rw [decide_eq_false h1, if_neg (by decide)]
theorem eq_dec1 (x : Rat) (n : Int) : (if decide ((x.den : Int) = 1) = true then Res.ok (decide (x.num = n)) else .ok false) = .ok (decide (x = (n : Rat))) := by
  have h := eq_dec x (n : Rat)
  rw [Rat.num_intCast, Rat.den_intCast] at h
  rw [← h]
  by_cases h1 : (x.den : Int) = 1 <;> by_cases h2 : x.num = n <;> simp [h1, h2]
theorem lt_int (x : Rat) (n : Int) : x < (n : Rat) ↔ x.num < n * (x.den : Int) := by
  rw [Rat.lt_iff, Rat.num_intCast, Rat.den_intCast]; simp
theorem gt_int (x : Rat) (n : Int) : (n : Rat) < x ↔ n * (x.den : Int) < x.num := by
  rw [Rat.lt_iff, Rat.num_intCast, Rat.den_intCast]; simp
/-! ### sizes -/
def Sz (s : Nat) (q : Rat) : Prop := q.num.natAbs ≤ 2 ^ s ∧ q.den ≤ 2 ^ s
theorem Sz.fits {s : Nat} {q : Rat} (h : Sz s q) (hs : s ≤ 4000 := by decide) : fits q := ⟨Nat.le_trans h.1 (Nat.pow_le_pow_right (by decide) hs), Nat.le_trans h.2 (Nat.pow_le_pow_right (by decide) hs)⟩
theorem Sz.mono {s t : Nat} {q : Rat} (h : Sz s q) (hs : s ≤ t) : Sz t q := ⟨Nat.le_trans h.1 (Nat.pow_le_pow_right (by decide) hs), Nat.le_trans h.2 (Nat.pow_le_pow_right (by decide) hs)⟩
theorem sz_divInt {t b : Int} {s : Nat} (h1 : t.natAbs ≤ 2 ^ s) (h2 : b.natAbs ≤ 2 ^ s) : Sz s (Rat.divInt t b) := by
  by_cases hb : b = 0
  · subst hb
    rw [Rat.divInt_zero]
    exact ⟨by simp, Nat.one_le_two_pow⟩
  · refine ⟨?_, ?_⟩
    · obtain ⟨m, m0, e1, _⟩ := Rat.divInt_num_den hb (show Rat.divInt t b = ⟨(Rat.divInt t b).num, (Rat.divInt t b).den, (Rat.divInt t b).den_nz, (Rat.divInt t b).reduced⟩ from rfl)
      have h3 : t.natAbs = (Rat.divInt t b).num.natAbs * m.natAbs := by rw [← Int.natAbs_mul, ← e1]
      refine Nat.le_trans ?_ h1
      rw [h3]
      exact Nat.le_mul_of_pos_right _ (by omega)
    · rw [Rat.den_divInt, if_neg hb]
      exact Nat.le_trans (Nat.div_le_self _ _) h2
theorem sz_int {n : Int} {s : Nat} (h : n.natAbs ≤ 2 ^ s) : Sz s (n : Rat) := by
  unfold Sz
  rw [Rat.num_intCast, Rat.den_intCast]
  exact ⟨h, Nat.one_le_two_pow⟩
theorem pow2_mul {a b s t : Nat} (ha : a ≤ 2 ^ s) (hb : b ≤ 2 ^ t) : a * b ≤ 2 ^ (s + t) := by
  rw [Nat.pow_add]; exact Nat.mul_le_mul ha hb
theorem Sz.mul {s t : Nat} {x y : Rat} (hx : Sz s x) (hy : Sz t y) : Sz (s + t) (x * y) := by
  rw [← mul_divs]
  refine sz_divInt ?_ ?_
  · rw [Int.natAbs_mul]; exact pow2_mul hx.1 hy.1
  · rw [Int.natAbs_mul, Int.natAbs_natCast, Int.natAbs_natCast]; exact pow2_mul hx.2 hy.2
theorem Sz.add {s t : Nat} {x y : Rat} (hx : Sz s x) (hy : Sz t y) : Sz (s + t + 1) (x + y) := by
  rw [← add_divs]
  have a1 := pow2_mul hx.1 hy.2
  have a2 := pow2_mul hx.2 hy.1
  have a3 := pow2_mul hx.2 hy.2
  have e : 2 ^ (s + t + 1) = 2 ^ (s + t) + 2 ^ (s + t) := by rw [Nat.pow_succ]; omega
  refine sz_divInt ?_ ?_
  · refine Nat.le_trans (Int.natAbs_add_le _ _) ?_
    rw [Int.natAbs_mul, Int.natAbs_mul, Int.natAbs_natCast, Int.natAbs_natCast, Nat.mul_comm y.num.natAbs]
    omega
  · rw [Int.natAbs_mul, Int.natAbs_natCast, Int.natAbs_natCast]; omega
theorem Sz.neg {s : Nat} {x : Rat} (hx : Sz s x) : Sz s (-x) := by
  refine ⟨?_, ?_⟩
  · show (-x.num).natAbs ≤ _; rw [Int.natAbs_neg]; exact hx.1
  · exact hx.2
theorem Sz.sub {s t : Nat} {x y : Rat} (hx : Sz s x) (hy : Sz t y) : Sz (s + t + 1) (x - y) := by
  rw [Rat.sub_eq_add_neg]; exact hx.add hy.neg
theorem Sz.inv {s : Nat} {x : Rat} (hx : Sz s x) : Sz s x⁻¹ := by
  rw [Rat.inv_def]
  exact sz_divInt (by rw [Int.natAbs_natCast]; exact hx.2) hx.1
theorem Sz.div {s t : Nat} {x y : Rat} (hx : Sz s x) (hy : Sz t y) : Sz (s + t) (x / y) := by
  rw [Rat.div_def]; exact hx.mul hy.inv
/-! ### the guards, passed -/
theorem qAdd_ok {x : Rat} {y : Num} (hx : fits x) (hy : fits y.val) : qAdd x y = .ok (x + y.val) := Res.guard_pos ⟨hx, hy⟩ _
theorem qMul_ok {x : Rat} {y : Num} (hx : fits x) (hy : fits y.val) : qMul x y = .ok (x * y.val) := Res.guard_pos ⟨hx, hy⟩ _
theorem qLt_ok {x : Rat} {y : Num} (hx : fits x) (hy : fits y.val) : qLt x y = .ok (decide (x < y.val)) := Res.guard_pos ⟨hx, hy⟩ _
theorem qGt_ok {x : Rat} {y : Num} (hx : fits x) (hy : fits y.val) : qGt x y = .ok (decide (y.val < x)) := Res.guard_pos ⟨hx, hy⟩ _
end L2.Tr

/-! in-place operators of an own class without in-place methods; abs and bool of an own class -/
namespace PySem.W
open PySem PySem.Calls PyProof.Rows
section
variable {prog : Program} {w : World} {A : Around} {E : Value → Shared → Prop} {s : Shared} {K : Frag} {x C dx L f : Addr} {h₀ : Heap} {m : Str → Option Value} {ox : Obj} {od : Option Obj} {nm : String}
end
end PySem.W
namespace L2.Tr
open PySem PySem.Spec PyProof.Rows He
section
variable {α β γ δ S : Type} {X : Cx} {I0 H0 : Hp} {W : WX} {Kx : KnowsX} {ctx : List (Option SF)} {mem : List MF} {e a b c o : Expr} {es bs : List Expr} {pos pos' : Pos} {n : Str} {ra : Ra α} {rb : Ra β} {rc : Ra γ} {ma : Res α} {mb : Res β}
variable {f f' : Addr} {k k' : Nat} {g : Rat × Num × Unit → Res γ} {g' : Rat × Int × Unit → Res γ}
end
end L2.Tr

namespace L2.Tr
open PySem PySem.Spec PyProof.Rows
section
variable {K : PySem.W.Frag} {x qual : Str} {params : Arguments} {body : List Stmt} {scope : Scope} {kws : List (Str × V)} {f : Addr} {fd : FuncData} {ps : List Str}
/-- keywords at a def without defaults -/
theorem kbindsN (F : FunD K x qual params body scope [] kws f fd) (n : Nat) (ks : List Str) (g : {α : Type} → List α → List α → List α) (hrel : ∀ {vs zs : List V} {us ws : List Value}, Vals vs us → Vals zs ws → Vals (g vs zs) (g us ws))
    (h : ∀ (kV doc pm : Value) (an : Option Addr) (cdv ct : Value) (us ws : List Value), us.length = n → ws.length = ks.length → bindArgs (PySem.W.fnOf x qual params body scope .none kV doc pm an cdv ct) ⟨us, ks.zip ws⟩ = pure (ps.zip (g us ws))) : KBn K fd ps n ks g g := by
  obtain ⟨oc, od, dV, kV, doc, pm, an, cdv, ct, osl, rfl, lk, hcd, hD, hK⟩ := F.ex
  rcases hD with ⟨_, rfl⟩ | ⟨e, _⟩
  · exact ⟨fun s us ws _ l1 l2 => .of_eq (h kV doc pm an cdv ct us ws l1 l2), hrel⟩
  · exact absurd rfl e
end
section
variable {α β γ δ ε : Type} {X : Cx} {I0 H0 : Hp} {W : WX} {ctx : List (Option SF)} {mem : List MF} {e a b c o : Expr} {es bs : List Expr} {kws : List Keyword} {pos pos' kpos : Pos} {n x : Str} {nm : Option Str} {ra : Ra α} {rb : Ra β} {rc : Ra γ} {ma : Res α} {mb : Res β}
variable {R : Hp → Hp → List V → δ → Prop} {R' : Hp → Hp → List V → ε → Prop} {md : Res δ} {me : Res ε} {g : δ → ε → Res γ} {ks : List Str}
theorem cjk_fn {k n : Nat} {f : Addr} {fd : FuncData} {ps : List Str} {gg : List Value → List Value → List Value} {gV : List V → List V → List V} {η : Type} {Ri : Hp → Hp → List V → η → Prop} {m : η → Res γ} {h : δ → ε → η} (F : FnOk X.prog X.w X.K X.mg X.base (L2N.CX X.prog X.w) k f fd ps (spF X.K Ri m rc)) (hr : Room k X.A)
    (hb : KBn X.K fd ps n ks gg gV) (tk : L2N.Takes X W) (hR : ∀ I H vs zs x y, R I H vs x → R' I H zs y → vs.length = n ∧ zs.length = ks.length ∧ Ri I H (gV vs zs) (h x y)) : CallKJ X W (.ref f) ks R R' (fun x y => m (h x y)) rc := fun I H σ Q vs zs x y sm r r' p pins s us ws Iv rv rz => by
  obtain ⟨l1, l2, hRi⟩ := hR I H vs zs x y r r'
  refine wpAny_call (codeAny_mono (F.run X.A X.stack s H ⟨us, ks.zip ws⟩ (gg us ws) (gV vs zs) Q _ hr Iv.env0 (hb.to s us ws Iv.kIn (rv.length.symm.trans l1) (rz.length.symm.trans l2)) (hb.rel rv rz) ⟨I, h x y, sm, hRi, p⟩) fun r s' hq => ?_)
  cases r with
  | error e => exact L2N.passAt tk σ pins H s e s' Iv hq
  | ok fl =>
    cases fl with
    | ret u => exact Iv.after hq
    | next => exact False.elim hq
    | brk => exact False.elim hq
    | cont => exact False.elim hq
end
end L2.Tr
namespace L2.Tr
open PySem PySem.Spec PyProof.Rows
/-! ### contexts written out -/
section
variable {γ S L : Type} {X : Cx} {I0 H0 : Hp} {W : WX} {Kx : KnowsX} {G : Knows} {st : Stmt} {ss : List Stmt} {mem : List MF} {rr : Ra γ}
theorem J1.cx {m : Res S} {c c' : S → List (Option SF)} {me : S → List MF} (j : J1 X W Kx G st m (fun s => Stt I0 H0 (c s) (me s))) (h : ∀ s, c s = c' s := by intro _; rfl) : J1 X W Kx G st m (fun s => Stt I0 H0 (c' s) (me s)) := by
  have e : c = c' := funext h
  rw [← e]; exact j
theorem JN.at {m : Res S} {G' : S → Knows} {c c' : List (Option SF)} (j : JN X W Kx (Stt I0 H0 c' mem) ss m G') (h : c = c' := by rfl) : JN X W Kx (Stt I0 H0 c mem) ss m G' := by
  rw [h]; exact j
theorem JG.at {m : Res (Fl S L γ)} {G' : S → Knows} {GL : L → Knows} {c c' : List (Option SF)} (j : JG X I0 H0 W Kx (Stt I0 H0 c' mem) ss m G' GL rr) (h : c = c' := by rfl) : JG X I0 H0 W Kx (Stt I0 H0 c mem) ss m G' GL rr := by
  rw [h]; exact j
theorem JR.at {m : Res γ} {c c' : List (Option SF)} (j : JR X I0 H0 W Kx (Stt I0 H0 c' mem) ss m rr) (h : c = c' := by rfl) : JR X I0 H0 W Kx (Stt I0 H0 c mem) ss m rr := by
  rw [h]; exact j
end
end L2.Tr

namespace L2.Tr
open PySem PySem.Spec PyProof.Rows
/-! ### sizes by instances -/
class Bd (x : Int) (s : outParam Nat) : Prop where
  le : x.natAbs ≤ 2 ^ s
class NZ (x : Int) : Prop where
  ne : x ≠ 0
class SzC (q : Rat) (s : outParam Nat) : Prop where
  sz : Sz s q
instance {x y : Int} {s t : Nat} [h : Bd x s] [k : Bd y t] : Bd (x * y) (s + t) := ⟨by rw [Int.natAbs_mul]; exact pow2_mul h.le k.le⟩
theorem pow_add1 (s t : Nat) : 2 ^ s + 2 ^ t ≤ 2 ^ (s + t + 1) := by
  have a := Nat.pow_le_pow_right (show 0 < 2 by decide) (show s ≤ s + t by omega)
  have b := Nat.pow_le_pow_right (show 0 < 2 by decide) (show t ≤ s + t by omega)
  rw [Nat.pow_succ]; omega
instance {x y : Int} {s t : Nat} [h : Bd x s] [k : Bd y t] : Bd (x + y) (s + t + 1) := ⟨by
  have := Int.natAbs_add_le x y; have := h.le; have := k.le; have := pow_add1 s t; omega⟩
instance {x y : Int} {s t : Nat} [h : Bd x s] [k : Bd y t] : Bd (x - y) (s + t + 1) := ⟨by
  have := Int.natAbs_sub_le x y; have := h.le; have := k.le; have := pow_add1 s t; omega⟩
instance {x : Int} {s : Nat} [h : Bd x s] : Bd (-x) s := ⟨by rw [Int.natAbs_neg]; exact h.le⟩
instance {x : Int} {s : Nat} [h : Bd x s] : Bd (x.natAbs : Int) s := ⟨by rw [Int.natAbs_natCast]; exact h.le⟩
instance : Bd 0 0 := ⟨by decide⟩
instance : Bd 1 0 := ⟨by decide⟩
instance {x y : Int} [h : NZ x] [k : NZ y] : NZ (x * y) := ⟨Int.mul_ne_zero h.ne k.ne⟩
instance {x : Int} [h : NZ x] : NZ (-x) := ⟨Int.neg_ne_zero.mpr h.ne⟩
instance {x y : Rat} {s t : Nat} [h : SzC x s] [k : SzC y t] : SzC (x + y) (s + t + 1) := ⟨h.sz.add k.sz⟩
instance {x y : Rat} {s t : Nat} [h : SzC x s] [k : SzC y t] : SzC (x - y) (s + t + 1) := ⟨h.sz.sub k.sz⟩
instance {x y : Rat} {s t : Nat} [h : SzC x s] [k : SzC y t] : SzC (x * y) (s + t) := ⟨h.sz.mul k.sz⟩
instance {x y : Rat} {s t : Nat} [h : SzC x s] [k : SzC y t] : SzC (x / y) (s + t) := ⟨h.sz.div k.sz⟩
instance {x : Rat} {s : Nat} [h : SzC x s] : SzC (-x) s := ⟨h.sz.neg⟩
instance {n : Int} {s : Nat} [h : Bd n s] : SzC (n : Rat) s := ⟨sz_int h.le⟩
instance {n : Int} {m : Int} {s t : Nat} [h : Bd n s] [k : Bd m t] : SzC (Rat.divInt n m) (s + t) := ⟨sz_divInt (Nat.le_trans h.le (Nat.pow_le_pow_right (by decide) (by omega))) (Nat.le_trans k.le (Nat.pow_le_pow_right (by decide) (by omega)))⟩
instance : SzC 0 0 := ⟨⟨by decide, by decide⟩⟩
instance : SzC 1 0 := ⟨⟨by decide, by decide⟩⟩
theorem Bd.big {x : Int} {s : Nat} (b : Bd x s) (h : s ≤ 4000) : x.natAbs ≤ big := Nat.le_trans b.le (Nat.pow_le_pow_right (by decide) h)
section
variable {x y : Rat} {n : Int} {s t : Nat} [h : SzC x s]
end
end L2.Tr

namespace L2.Tr
open PySem PySem.Spec PyProof.Rows
section
variable {α β γ δ S L : Type} {X : Cx} {I0 H0 I H : Hp} {W : WX} {Kx : KnowsX} {G : Knows} {ctx : List (Option SF)} {mem : List MF} {e a b c o : Expr} {es bs : List Expr} {st : Stmt} {ss s1 s2 : List Stmt} {pos pos' : Pos} {n : Str} {ra : Ra α} {rb : Ra β} {rr : Ra γ} {ma : Res α} {mb : Res β} {σ : St}
/-- a cell that stands is taken up -/
theorem Stt.adopt {I1 H1 : Hp} {l : Addr} {r : Rp α} {mo : Mo r} {xs : List α} {vs : List V} (s : Stt I0 H0 ctx mem I H σ) (f : Fm I H I1 H1) (hl : H l = none) (hI : I1 l = none) (h1 : H1 l = some (.lst vs)) (h : Paired (r I1) vs xs) : Stt I0 H0 ctx (MF.lst l r xs :: mem) I1 H1 σ :=
  s.adoptR (fp := [l]) f (by simp) (fun a ha => by rw [List.mem_singleton.mp ha]; exact ⟨hl, hI, by rw [h1]; intro z; cases z⟩) ⟨rfl, _, h1, vs, rfl, h⟩
/-- a new cell -/
theorem Stt.push {l : Addr} {r : Rp α} {mo : Mo r} {xs : List α} {vs : List V} (s : Stt I0 H0 ctx mem I H σ) (hl : H l = none) (h : Paired (r I) vs xs) : Stt I0 H0 ctx (MF.lst l r xs :: mem) I (upd H l (.lst vs)) σ :=
  s.adopt (Fm.newM s.same hl) hl (s.same.free hl) upd_same h
/-- the list of cell j is changed -/
theorem Stt.relst {l : Addr} {r : Rp α} {mo : Mo r} {xs zs : List α} {vs : List V} (s : Stt I0 H0 ctx mem I H σ) (j : Nat) (hj : mem[j]? = some (MF.lst l r xs)) (h : Paired (r I) vs zs) : Stt I0 H0 ctx (mem.set j (MF.lst l r zs)) I (upd H l (.lst vs)) σ :=
  s.cellAt (c' := MF.lst l r zs) j hj (fun q => q.1) ⟨rfl, _, upd_same, vs, rfl, h⟩
/-! ### expressions that make a new list -/
def JM (X : Cx) (I0 H0 : Hp) (W : WX) (ctx : List (Option SF)) (mem : List MF) (e : Expr) (m : Res (List α)) (r : Rp α) : Prop :=
  ∀ (I H : Hp) (σ : St) (Q : VK), Stt I0 H0 ctx mem I H σ → (match m with
    | .ok xs => ∀ I1 H1 l vs, Fm I H I1 H1 → H l = none → I1 l = none → H1 l = some (.lst vs) → Paired (r I1) vs xs → Q (.ref l) H1
    | .err e => ∀ I' H' cls d, Fm I H I' H' → Fr H d ∧ ExR X.K I' H' e cls d → W cls d σ H'
    | .stuck => False) → wE X e σ H Q
/-- the list is laid now -/
theorem mpost {Q : VK} {I H I1 H1 : Hp} {r : Rp α} {xs : List α} (p : ∀ I1 H1 l vs, Fm I H I1 H1 → H l = none → I1 l = none → H1 l = some (.lst vs) → Paired (r I1) vs xs → Q (.ref l) H1) {l : Addr} {vs : List V} (f : Fm I H I1 H1) (hl : H1 l = none) (pr : Paired (r I1) vs xs) : Q (.ref l) (upd H1 l (.lst vs)) :=
  p I1 (upd H1 l (.lst vs)) l vs (f.trans (Fm.newM f.ih hl)) (f.h.free hl) (f.ih.free hl) upd_same pr
/-- a cell that stands unfrozen is frozen -/
theorem Fm.ice {I H I1 H1 : Hp} {l : Addr} {o : HO} (f : Fm I H I1 H1) (hl : H l = none) (hI : I1 l = none) (h : H1 l = some o) : Fm I H (upd I1 l o) H1 ∧ Same I1 (upd I1 l o) := by
  have sm : Same I1 (upd I1 l o) := fun b u e => by
    have : b ≠ l := fun q => by rw [q, hI] at e; cases e
    rw [upd_ne this]; exact e
  refine ⟨⟨f.i.trans sm, f.h, fun b u e => ?_, fun b e nn => ?_⟩, sm⟩
  · by_cases hb : b = l
    · subst hb; rw [upd_same] at e; cases e; exact h
    · rw [upd_ne hb] at e; exact f.ih _ _ e
  · have : b ≠ l := fun q => nn (q ▸ hl)
    rw [upd_ne this]; exact f.mu b e nn
theorem JE.ofM {r : Rp α} [mo : Mo r] {m : Res (List α)} (j : JM X I0 H0 W ctx mem e m r) : JE X I0 H0 W ctx mem e m (rp (rL r)) := fun I H σ Q st p => by
  refine j I H σ Q st ?_
  cases m with
  | ok xs =>
    intro I1 H1 l vs f hl hI h1 pr
    obtain ⟨f2, sm⟩ := f.ice hl hI h1
    exact p _ H1 _ f2 ⟨l, vs, rfl, upd_same, Paired.mapP pr fun _ _ z => mo.up sm z⟩
  | err e => exact p
  | stuck => exact p
theorem JM.lst {k : Nat} {r : Rp α} {m : Res (List α)} (j : JA X I0 H0 W ctx mem es m (lR k (rp r))) (hk : k ≤ sizeLine := by decide) : JM X I0 H0 W ctx mem (.List es pos) m r := fun I H σ Q st p => by
  refine w_lst (j I H σ _ st ?_)
  cases m with
  | ok xs => exact fun I1 H1 vs f1 r1 => ⟨by rw [r1.1]; exact hk, fun q hq => mpost p f1 hq r1.2⟩
  | err e => exact p
  | stuck => exact p
/-- x = [..], the list may still be changed -/
theorem J1.setM (i : Nat) {r : Rp α} [Mo r] {m : Res (List α)} (j : JM X I0 H0 W ctx mem e m r) (hx : ∀ I H σ d, Stt I0 H0 ctx mem I H σ → Fr H0 d → Kx I H σ d) (hN : X.N.Nodup) (hi : X.N[i]? = some n := by rfl) (hl : Loc X.env.scope n := by first | exact Or.inl rfl | exact Or.inr rfl) (hs : swapsWith e (some (.Name n pos')) pos.line X.env = pure false := by rfl)
    (hf : X.fn n = true ∨ X.env.scope.names.lookup n = some .local := by first | exact .inl rfl | exact .inr rfl | assumption) : J1 X W Kx (Stt I0 H0 ctx mem) (.Assign [.Name n pos'] e pos) m (fun xs I H σ => ∃ l, Stt I0 H0 (ctx.set i (some ⟨rRef l, ()⟩)) (MF.lst l r xs :: mem) I H σ) := fun I H σ D g p => by
  refine s_set i (j I H σ _ g ?_) hN hi hl hs hf
  cases m with
  | ok xs => exact fun I1 H1 l vs f hl hI h1 pr => p I1 _ _ f.i ⟨l, (g.adopt f hl hI h1 pr).set i rfl⟩
  | err e => exact fun I' H' c d f x => p I' H' σ c d (hx _ _ _ _ (g.step f) (x.1.back g.fm.h)) x.2
  | stuck => exact p
theorem JN.ex {ι : Type} {Gi : ι → Knows} {m : Res S} {G' : S → Knows} (j : ∀ l, JN X W Kx (Gi l) ss m G') : JN X W Kx (fun I H σ => ∃ l, Gi l I H σ) ss m G' := fun I H σ D ⟨l, g⟩ p => j l I H σ D g p
theorem JR.ex {ι : Type} {Gi : ι → Knows} {m : Res γ} (j : ∀ l, JR X I0 H0 W Kx (Gi l) ss m rr) : JR X I0 H0 W Kx (fun I H σ => ∃ l, Gi l I H σ) ss m rr := fun I H σ D ⟨l, g⟩ p => j l I H σ D g p
theorem JG.ex {ι : Type} {Gi : ι → Knows} {m : Res (Fl S L γ)} {G' : S → Knows} {GL : L → Knows} (j : ∀ l, JG X I0 H0 W Kx (Gi l) ss m G' GL rr) : JG X I0 H0 W Kx (fun I H σ => ∃ l, Gi l I H σ) ss m G' GL rr := fun I H σ D ⟨l, g⟩ p => j l I H σ D g p
/-- a list of the call's own is frozen: a ghost step -/
theorem Stt.frz {r : Rp α} [mo : Mo r] {l : Addr} {xs : List α} (s : Stt I0 H0 ctx mem I H σ) (i j : Nat) (hj : mem[j]? = some (MF.lst l r xs)) (hc : ctx[i]? = some (some (SF.mk (rRef l) ()))) : ∃ I', Same I I' ∧ Stt I0 H0 (ctx.set i (some ⟨rL r, xs⟩)) (mem.eraseIdx j) I' H σ := by
  obtain ⟨fp, ⟨e, o, hH, vs, eo, pr⟩, _, sm, s2⟩ := s.freezeAt j hj
  subst e; subst eo
  refine ⟨_, sm, s2.recast i (b := ⟨rL r, xs⟩) hc fun v h => ?_⟩
  exact ⟨l, vs, h, by rw [ice_in (List.mem_singleton_self l)]; exact hH, Paired.mapP pr fun _ _ z => mo.up sm z⟩
theorem JN.frz (i j : Nat) {r : Rp α} [mo : Mo r] {l : Addr} {xs : List α} {m : Res S} {G' : S → Knows} (k : JN X W Kx (Stt I0 H0 (ctx.set i (some ⟨rL r, xs⟩)) (mem.eraseIdx j)) ss m G') (hj : mem[j]? = some (MF.lst l r xs) := by rfl) (hc : ctx[i]? = some (some (SF.mk (rRef l) ())) := by rfl) : JN X W Kx (Stt I0 H0 ctx mem) ss m G' := fun I H σ D g p => by
  obtain ⟨I', sm, g'⟩ := g.frz i j hj hc
  exact k I' H σ D g' (PostB.up p sm)
theorem JR.frz (i j : Nat) {r : Rp α} [mo : Mo r] {l : Addr} {xs : List α} {m : Res γ} (k : JR X I0 H0 W Kx (Stt I0 H0 (ctx.set i (some ⟨rL r, xs⟩)) (mem.eraseIdx j)) ss m rr) (hj : mem[j]? = some (MF.lst l r xs) := by rfl) (hc : ctx[i]? = some (some (SF.mk (rRef l) ())) := by rfl) : JR X I0 H0 W Kx (Stt I0 H0 ctx mem) ss m rr := fun I H σ D g p => by
  obtain ⟨I', sm, g'⟩ := g.frz i j hj hc
  exact k I' H σ D g' p
theorem JG.frz (i j : Nat) {r : Rp α} [mo : Mo r] {l : Addr} {xs : List α} {m : Res (Fl S L γ)} {G' : S → Knows} {GL : L → Knows} (k : JG X I0 H0 W Kx (Stt I0 H0 (ctx.set i (some ⟨rL r, xs⟩)) (mem.eraseIdx j)) ss m G' GL rr) (hj : mem[j]? = some (MF.lst l r xs) := by rfl) (hc : ctx[i]? = some (some (SF.mk (rRef l) ())) := by rfl) : JG X I0 H0 W Kx (Stt I0 H0 ctx mem) ss m G' GL rr := fun I H σ D g p => by
  obtain ⟨I', sm, g'⟩ := g.frz i j hj hc
  exact k I' H σ D g' (PostG.up p sm)
/-- the name of such a list, to be read -/
theorem JE.rdM (i j : Nat) {r : Rp α} [mo : Mo r] {l : Addr} {xs : List α} (hj : mem[j]? = some (MF.lst l r xs) := by rfl) (hc : ctx[i]? = some (some (SF.mk (rRef l) ())) := by rfl) (hN : X.N[i]? = some n := by rfl) (hv : Vis X.env.scope n := by first | exact Or.inl rfl | exact Or.inr (Or.inl rfl) | exact Or.inr (Or.inr rfl)) (hd : (n == ("__debug__" : Str)) = false := by decide)
    (hcd : (n == ("__classdict__" : Str)) = false := by decide) : JE X I0 H0 W ctx mem (.Name n pos) (.ok xs) (rdL X.K (rp r)) := fun I H σ Q st p => by
  obtain ⟨u, eu, hu⟩ := st.sl i _ hc
  cases (show u = V.ref l from hu)
  obtain ⟨_, _, o, zH, vs, eo, pr⟩ := st.lstAt hj
  subst eo
  exact w_var i (p I H _ (Fm.refl st.same) ⟨l, vs, rfl, SqL.of zH, pr⟩) eu hN hv hd hcd
def appM (xs : List α) (y : α) : Res (List α) := Res.guard (xs.length < sizeLine) (.ok (xs ++ [y]))
theorem paired_app {F : α → β → Prop} : ∀ {xs xs' : List α} {ys ys' : List β}, Paired F xs ys → Paired F xs' ys' → Paired F (xs ++ xs') (ys ++ ys')
  | _, _, _, _, .nil, q => q
  | _, _, _, _, .cons h t, q => .cons h (paired_app t q)
/-- x.append(e) -/
theorem J1.app (i j : Nat) {r : Rp α} [mo : Mo r] {l : Addr} {xs : List α} {m : Res α} {p1 apos cpos : Pos} (je : JE X I0 H0 W ctx mem e m (rp r)) (hx : ∀ I H σ d, Stt I0 H0 ctx mem I H σ → Fr H0 d → Kx I H σ d)
    (hj : mem[j]? = some (MF.lst l r xs) := by rfl) (hc : ctx[i]? = some (some (SF.mk (rRef l) ())) := by rfl) (hN : X.N[i]? = some n := by rfl) (hv : Vis X.env.scope n := by first | exact Or.inl rfl | exact Or.inr (Or.inl rfl) | exact Or.inr (Or.inr rfl)) (hd : (n == ("__debug__" : Str)) = false := by decide)
    (hcd : (n == ("__classdict__" : Str)) = false := by decide) (hbase : attributeBase (.Name n p1) "append" X.env (eval (.Name n p1) X.env) = eval (.Name n p1) X.env := by rfl)
    (hfew : ((backTo cpos (starEach [e] X.env)).all (fun x => !x.1) && (backToKw cpos (keywordEach [] X.env)).all (fun x => x.1.isSome) && decide ([e].length + ([] : List Keyword).length + (if ([] : List Keyword).isEmpty then 0 else 1) < 30)) = true := by rfl)
    (hline : (apos.endLine == cpos.line) = true := by rfl) (hst : starEach [e] X.env = (false, eval e X.env) :: starEach [] X.env := by rfl) (hplain : (backTo cpos (starEach [] X.env)).any (·.1) = false := by rfl) (hs : swapsWith (.Call (.Attribute (.Name n p1) "append" apos) [e] [] cpos) none pos.line X.env = pure false := by rfl) :
    J1 X W Kx (Stt I0 H0 ctx mem) (.Expr (.Call (.Attribute (.Name n p1) "append" apos) [e] [] cpos) pos) (m.bind fun y => appM xs y) (fun zs => Stt I0 H0 ctx (mem.set j (MF.lst l r zs))) := fun I H σ D g p => by
  obtain ⟨u, eu, hu⟩ := g.sl i _ hc
  cases (show u = V.ref l from hu)
  obtain ⟨_, _, o, zH, vs, eo, pr⟩ := g.lstAt hj
  subst eo
  refine s_expr (PE.w (pe_bm PySem.F.plainAttrs_list PySem.F.slot_list_append PySem.F.type_list_append mt_append pe_W pa_W hbase hfew hline hst hplain) (w_var i ?_ eu hN hv hd hcd)) hs
  refine ⟨.inl ⟨rfl, vs, SqL.of zH⟩, ?_⟩
  refine Tr.w_cons (je I H σ _ g ?_) hst
  cases m with
  | ok y =>
    intro I1 H1 v f1 h1
    have g1 := g.step f1
    obtain ⟨_, _, o, zH1, vs1, eo, pr1⟩ := g1.lstAt hj
    subst eo
    by_cases hz : xs.length < sizeLine
    · refine w_nil ⟨l, vs1, v, rfl, rfl, zH1, by rw [Paired.length pr1]; exact hz, ?_⟩
      have e1 : ((Res.ok y).bind fun y => appM xs y) = .ok (xs ++ [y]) := Res.guard_pos hz _
      rw [e1] at p
      exact p I1 _ σ f1.i (g1.relst j hj (paired_app pr1 (.cons h1 .nil)))
    · have e1 : ((Res.ok y).bind fun y => appM xs y) = .stuck := if_neg hz
      rw [e1] at p
      exact p.elim
  | err e => exact fun I' H' c d f x => p I' H' σ c d (hx _ _ _ _ (g.step f) (x.1.back g.fm.h)) x.2
  | stuck => exact p.elim
end
end L2.Tr

namespace L2.Tr
open PySem PySem.Spec PyProof.Rows
section
variable {α β γ δ S L : Type} {X : Cx} {I0 H0 I H : Hp} {W : WX} {Kx : KnowsX} {G : Knows} {ctx : List (Option SF)} {mem : List MF} {e a b c o : Expr} {es bs : List Expr} {st : Stmt} {ss s1 s2 : List Stmt} {pos pos' p2 : Pos} {n : Str} {ra : Ra α} {rb : Ra β} {rr : Ra γ} {ma : Res α} {mb : Res β} {σ : St} {r : Rp α}
/-! ### lists of the heap, frozen or not -/
def rH (r : Rp α) : Ra (List α) := fun I H v xs => ∃ l vs, v = .ref l ∧ H l = some (.lst vs) ∧ Paired (r I) vs xs
instance [m : Mo r] : MoA (rH r) := ⟨fun s t ⟨l, vs, e, h, p⟩ => ⟨l, vs, e, t _ _ h, Paired.mapP p fun _ _ q => m.up s q⟩⟩
theorem JE.hp {m : Res (List α)} (j : JE X I0 H0 W ctx mem e m (rp (rL r))) : JE X I0 H0 W ctx mem e m (rH r) := j.co fun _ _ _ _ s ⟨l, vs, e, h, p⟩ => ⟨l, vs, e, s _ _ h, p⟩
theorem JE.hM (i j : Nat) [mo : Mo r] {l : Addr} {xs : List α} (hj : mem[j]? = some (MF.lst l r xs) := by rfl) (hc : ctx[i]? = some (some (SF.mk (rRef l) ())) := by rfl) (hN : X.N[i]? = some n := by rfl) (hv : Vis X.env.scope n := by first | exact Or.inl rfl | exact Or.inr (Or.inl rfl) | exact Or.inr (Or.inr rfl)) (hd : (n == ("__debug__" : Str)) = false := by decide)
    (hcd : (n == ("__classdict__" : Str)) = false := by decide) : JE X I0 H0 W ctx mem (.Name n pos) (.ok xs) (rH r) := fun I H σ Q st p => by
  obtain ⟨u, eu, hu⟩ := st.sl i _ hc
  cases (show u = V.ref l from hu)
  obtain ⟨_, _, o, zH, vs, eo, pr⟩ := st.lstAt hj
  subst eo
  exact w_var i (p I H _ (Fm.refl st.same) ⟨l, vs, rfl, zH, pr⟩) eu hN hv hd hcd
def catM (xs ys : List α) : Res (List α) := Res.guard (xs.length + ys.length ≤ sizeLine) (.ok (xs ++ ys))
def repM (xs : List α) (k : Int) : Res (List α) := Res.guard (-(2 ^ 63) ≤ k ∧ k < 2 ^ 63 ∧ xs.length * k.toNat ≤ sizeLine) (.ok (List.replicate k.toNat xs).flatten)
theorem paired_rep {F : α → β → Prop} {xs : List α} {ys : List β} (p : Paired F xs ys) : ∀ k : Nat, Paired F (List.replicate k xs).flatten (List.replicate k ys).flatten
  | 0 => .nil
  | k + 1 => by
    rw [List.replicate_succ, List.replicate_succ, List.flatten_cons, List.flatten_cons]
    exact paired_app p (paired_rep p k)
theorem JM.cat [mo : Mo r] {m m' : Res (List α)} (ja : JE X I0 H0 W ctx mem a m (rH r)) (jb : JE X I0 H0 W ctx mem b m' (rH r)) : JM X I0 H0 W ctx mem (.BinOp a .Add b pos) (m.bind fun xs => m'.bind fun ys => catM xs ys) r := fun I H σ Q st p => by
  refine w_bin (ja I H σ _ st ?_)
  cases m with
  | ok xs =>
    intro I1 H1 u f1 r1
    refine jb I1 H1 σ _ (st.step f1) ?_
    cases m' with
    | ok ys =>
      intro I2 H2 v f2 r2
      obtain ⟨l, vs, rfl, hl, pr⟩ := MoA.up (r := rH r) f2.i f2.h r1
      obtain ⟨l', vs', rfl, hl', pr'⟩ := r2
      by_cases hz : xs.length + ys.length ≤ sizeLine
      · have e1 : ((Res.ok xs).bind fun xs => (Res.ok ys).bind fun ys => catM xs ys) = .ok (xs ++ ys) := Res.guard_pos hz _
        rw [e1] at p
        exact OpR.w op_cat ⟨l, l', vs, vs', rfl, rfl, hl, hl', by rw [Paired.length pr, Paired.length pr']; exact hz, fun q hq => mpost p (f1.trans f2) hq (paired_app pr pr')⟩
      · have e1 : ((Res.ok xs).bind fun xs => (Res.ok ys).bind fun ys => catM xs ys) = .stuck := if_neg hz
        rw [e1] at p
        exact p.elim
    | err e => exact fun I2 H2 c d f2 x => p I2 H2 c d (f1.trans f2) ⟨x.1.back f1.h, x.2⟩
    | stuck => exact p
  | err e => exact p
  | stuck => exact p
theorem JM.rep [mo : Mo r] {m : Res (List α)} {mi : Res Int} (ja : JE X I0 H0 W ctx mem a m (rH r)) (jb : JE X I0 H0 W ctx mem b mi (rp rInt)) : JM X I0 H0 W ctx mem (.BinOp a .Mult b pos) (m.bind fun xs => mi.bind fun k => repM xs k) r := fun I H σ Q st p => by
  refine w_bin (ja I H σ _ st ?_)
  cases m with
  | ok xs =>
    intro I1 H1 u f1 r1
    refine jb I1 H1 σ _ (st.step f1) ?_
    cases mi with
    | ok k =>
      intro I2 H2 v f2 r2
      obtain ⟨l, vs, rfl, hl, pr⟩ := MoA.up (r := rH r) f2.i f2.h r1
      by_cases hz : -(2 ^ 63) ≤ k ∧ k < 2 ^ 63 ∧ xs.length * k.toNat ≤ sizeLine
      · have e1 : ((Res.ok xs).bind fun xs => (Res.ok k).bind fun k => repM xs k) = .ok (List.replicate k.toNat xs).flatten := Res.guard_pos hz _
        rw [e1] at p
        exact OpR.w op_rep ⟨l, k, vs, rfl, r2, hl, hz.1, hz.2.1, by rw [Paired.length pr]; exact hz.2.2, fun q hq => mpost p (f1.trans f2) hq (paired_rep pr _)⟩
      · have e1 : ((Res.ok xs).bind fun xs => (Res.ok k).bind fun k => repM xs k) = .stuck := if_neg hz
        rw [e1] at p
        exact p.elim
    | err e => exact fun I2 H2 c d f2 x => p I2 H2 c d (f1.trans f2) ⟨x.1.back f1.h, x.2⟩
    | stuck => exact p
  | err e => exact p
  | stuck => exact p
/-! ### slices -/
def cutL (xs : List α) (lo hi : Option Int) : List α := (xs.drop (HT.sIx xs.length 0 lo)).take (HT.sIx xs.length xs.length hi - HT.sIx xs.length 0 lo)
theorem paired_dropN {F : α → β → Prop} : ∀ {xs : List α} {ys : List β} (k : Nat), Paired F xs ys → Paired F (xs.drop k) (ys.drop k)
  | _, _, 0, p => p
  | _, _, _ + 1, .nil => .nil
  | _, _, k + 1, .cons _ t => paired_dropN k t
theorem paired_takeN {F : α → β → Prop} : ∀ {xs : List α} {ys : List β} (k : Nat), Paired F xs ys → Paired F (xs.take k) (ys.take k)
  | _, _, 0, _ => .nil
  | _, _, _ + 1, .nil => .nil
  | _, _, k + 1, .cons h t => .cons h (paired_takeN k t)
theorem paired_cut {F : V → β → Prop} {xs : List V} {ys : List β} (p : Paired F xs ys) (lo hi : Option Int) : Paired F (cutV xs lo hi) (cutL ys lo hi) := by
  unfold cutV cutL
  rw [Paired.length p]
  exact paired_takeN _ (paired_dropN _ p)
/-- a part of a slice -/
def JO (X : Cx) (I0 H0 : Hp) (W : WX) (ctx : List (Option SF)) (mem : List MF) (e : Option Expr) (m : Res (Option Int)) : Prop := match e with
  | none => m = .ok none
  | some e => ∃ mi : Res Int, m = mi.bind (fun i => .ok (some i)) ∧ JE X I0 H0 W ctx mem e mi (rp rInt)
theorem JO.no : JO X I0 H0 W ctx mem none (.ok none) := rfl
theorem JO.at {m : Res Int} (j : JE X I0 H0 W ctx mem e m (rp rInt)) : JO X I0 H0 W ctx mem (some e) (m.bind fun i => .ok (some i)) := ⟨m, rfl, j⟩
def PostO (X : Cx) (W : WX) (σ : St) (I H : Hp) (m : Res (Option Int)) (Q : Option Int → Hp → Prop) : Prop := match m with
  | .ok o => ∀ I' H', Fm I H I' H' → Q o H'
  | .err e => ∀ I' H' cls d, Fm I H I' H' → Fr H d ∧ ExR X.K I' H' e cls d → W cls d σ H'
  | .stuck => False
theorem JO.po {e : Option Expr} {m : Res (Option Int)} (j : JO X I0 H0 W ctx mem e m) : ∃ t, PO X e t ∧ ∀ (I H : Hp) (σ : St) (Q : Option Int → Hp → Prop), Stt I0 H0 ctx mem I H σ → PostO X W σ I H m Q → t σ H Q := by
  cases e with
  | none =>
    obtain rfl : m = .ok none := j
    exact ⟨_, po_none, fun I H σ Q st p => p I H (Fm.refl st.same)⟩
  | some e =>
    obtain ⟨mi, rfl, ji⟩ := j
    refine ⟨_, po_some pe_W, fun I H σ Q st p => ji I H σ _ st ?_⟩
    cases mi with
    | ok i => exact fun I1 H1 v f r => ⟨i, r, p I1 H1 f⟩
    | err e => exact p
    | stuck => exact p
theorem JM.sl [mo : Mo r] {lo hi : Option Expr} {m : Res (List α)} {ml mh : Res (Option Int)} (ja : JE X I0 H0 W ctx mem a m (rdL X.K (rp r))) (jl : JO X I0 H0 W ctx mem lo ml) (jh : JO X I0 H0 W ctx mem hi mh) :
    JM X I0 H0 W ctx mem (.Subscript a (.Slice lo hi none p2) pos) (m.bind fun xs => ml.bind fun x => mh.bind fun y => .ok (cutL xs x y)) r := fun I H σ Q st p => by
  obtain ⟨tl, pl, hl⟩ := jl.po
  obtain ⟨th, ph, hh⟩ := jh.po
  refine PE.w (pe_slice sl_list pe_W pl ph) (ja I H σ _ st ?_)
  cases m with
  | ok xs =>
    intro I1 H1 u f1 r1
    refine hl I1 H1 σ _ (st.step f1) ?_
    cases ml with
    | ok x =>
      intro I2 H2 f2
      refine hh I2 H2 σ _ ((st.step f1).step f2) ?_
      cases mh with
      | ok y =>
        intro I3 H3 f3
        obtain ⟨l, vs, rfl, hs, pr⟩ := MoA.up (r := rdL X.K (rp r)) (f2.trans f3).i (f2.trans f3).h r1
        exact ⟨l, vs, rfl, hs, fun q hq => mpost p (f1.trans (f2.trans f3)) hq (paired_cut pr x y)⟩
      | err e => exact fun I' H' c d f z => p I' H' c d (f1.trans (f2.trans f)) ⟨(z.1.back f2.h).back f1.h, z.2⟩
      | stuck => exact p
    | err e => exact fun I' H' c d f z => p I' H' c d (f1.trans f) ⟨z.1.back f1.h, z.2⟩
    | stuck => exact p
  | err e => exact p
  | stuck => exact p
/-- list(x) of a list -/
theorem JM.list [mo : Mo r] {m : Res (List α)} (ja : JE X I0 H0 W ctx mem a m (rdL X.K (rp r))) (hm : X.mg "list" = none) (hg : Gl X "list" := by rfl) (hs : starEach [a] X.env = (false, eval a X.env) :: starEach [] X.env := by rfl) (hpl : (backTo pos (starEach [] X.env)).any (·.1) = false := by rfl) :
    JM X I0 H0 W ctx mem (.Call (.Name "list" pos') [a] [] pos) (m.bind fun xs => .ok xs) r := fun I H σ Q st p => by
  refine w_callTy (T := "list") (Tr.w_cons (ja I H σ _ st ?_) hs) hm (by decide +kernel) hg (by decide) (by decide) hs hpl
  cases m with
  | ok xs =>
    rintro I1 H1 u f1 ⟨l, vs, rfl, hs, pr⟩
    exact w_nil (CallR.w call_list_of ⟨l, vs, rfl, .inl hs, fun q hq => mpost p f1 hq pr⟩)
  | err e => exact p
  | stuck => exact p
end
end L2.Tr

namespace L2.Tr
open PySem PySem.Spec PyProof.Rows
section
variable {α β γ δ S L : Type} {X : Cx} {I0 H0 I H : Hp} {W : WX} {Kx : KnowsX} {G : Knows} {ctx : List (Option SF)} {mem : List MF} {e a b c o ix : Expr} {es bs : List Expr} {st : Stmt} {ss s1 s2 : List Stmt} {pos pos' p2 : Pos} {n : Str} {ra : Ra α} {rb : Ra β} {rr : Ra γ} {ma : Res α} {mb : Res β} {σ : St} {r : Rp α}
def putM (xs : List α) (k : Int) (y : α) : Res (List α) := match ixN xs.length k with
  | some j => .ok (xs.set j y)
  | none => .stuck
theorem paired_set {F : α → β → Prop} {x : α} {y : β} (h : F x y) : ∀ {xs : List α} {ys : List β} (k : Nat), Paired F xs ys → Paired F (xs.set k x) (ys.set k y)
  | _, _, _, .nil => .nil
  | _, _, 0, .cons _ t => .cons h t
  | _, _, k + 1, .cons h' t => .cons h' (paired_set h k t)
/-- x[k] = e -/
theorem J1.put (i j : Nat) [mo : Mo r] {l : Addr} {xs : List α} {m : Res α} {mi : Res Int} {p1 : Pos} (je : JE X I0 H0 W ctx mem e m (rp r)) (ji : JE X I0 H0 W ctx mem ix mi (rp rInt)) (hx : ∀ I H σ d, Stt I0 H0 ctx mem I H σ → Fr H0 d → Kx I H σ d)
    (hj : mem[j]? = some (MF.lst l r xs) := by rfl) (hc : ctx[i]? = some (some (SF.mk (rRef l) ())) := by rfl) (hN : X.N[i]? = some n := by rfl) (hv : Vis X.env.scope n := by first | exact Or.inl rfl | exact Or.inr (Or.inl rfl) | exact Or.inr (Or.inr rfl)) (hd : (n == ("__debug__" : Str)) = false := by decide)
    (hcd : (n == ("__classdict__" : Str)) = false := by decide) (ha : ∀ v, assign (.Subscript (.Name n p1) ix pos') X.env v = (do
      let ov ← holding [v] (eval (.Name n p1) X.env)
      let iv ← holding [v, ov] (eval ix X.env)
      standAt pos'
      holding [v, ov, iv] (setItem ov iv v)
      release [v, ov, iv] []) := by intro _; rfl)
    (hs : swapsWithSole [.Subscript (.Name n p1) ix pos'] e pos.line X.env = pure false := by rfl) (hw : swappedStores [.Subscript (.Name n p1) ix pos'] e X.env = pure none := by rfl)
    (h1 : (assignEach [.Subscript (.Name n p1) ix pos'] X.env).map (·.2) = [assign (.Subscript (.Name n p1) ix pos') X.env] := by rfl) :
    J1 X W Kx (Stt I0 H0 ctx mem) (.Assign [.Subscript (.Name n p1) ix pos'] e pos) (m.bind fun y => mi.bind fun k => putM xs k y) (fun zs => Stt I0 H0 ctx (mem.set j (MF.lst l r zs))) := fun I H σ D g p => by
  refine PS.w (ps_asg pe_W (pg_sub pe_W pe_W set_list ha) hs hw h1) (je I H σ _ g ?_)
  cases m with
  | ok y =>
    intro I1 H1 v f1 r1
    have g1 := g.step f1
    obtain ⟨u, eu, hu⟩ := g1.sl i _ hc
    cases (show u = V.ref l from hu)
    refine w_var i (ji I1 H1 σ _ g1 ?_) eu hN hv hd hcd
    cases mi with
    | ok k =>
      intro I2 H2 vk f2 r2
      cases (show vk = V.int k from r2)
      have g2 := g1.step f2
      obtain ⟨_, _, o, zH, vs, eo, pr⟩ := g2.lstAt hj
      subst eo
      have p' : PostB X W Kx I (putM xs k y) _ D := p
      unfold putM at p'
      cases ek : ixN xs.length k with
      | none => rw [ek] at p'; exact p'.elim
      | some q =>
        rw [ek] at p'
        refine ⟨l, vs, k, q, rfl, rfl, zH, by rw [Paired.length pr]; exact ek, ?_⟩
        exact p' I2 _ σ (f1.i.trans f2.i) (g2.relst j hj (paired_set (mo.up f2.i r1) q pr))
    | err e => exact fun I' H' c d f x => p I' H' σ c d (hx _ _ _ _ (g1.step f) (x.1.back g1.fm.h)) x.2
    | stuck => exact p.elim
  | err e => exact fun I' H' c d f x => p I' H' σ c d (hx _ _ _ _ (g.step f) (x.1.back g.fm.h)) x.2
  | stuck => exact p.elim
end
end L2.Tr

namespace L2.Tr
open PySem PySem.Spec PyProof.Rows
/-! ### list comprehensions -/
def lcM {α β : Type} (f : β → Res α) : List β → Res (List α)
  | [] => .ok []
  | x :: xs => match f x with
    | .ok y => (lcM f xs).bind fun ys => .ok (y :: ys)
    | _ => .stuck
abbrev W0 : WX := fun _ _ _ _ => False
theorem takes0 {X : Cx} : L2N.Takes X W0 := fun u s' ⟨_, _, _, _, _, _, _, _, _, _, _, _, _, _, _, _, w⟩ => w.elim
section
variable {α β γ δ S L : Type} {X : Cx} {I0 H0 I H : Hp} {W : WX} {Kx : KnowsX} {ctx : List (Option SF)} {mem : List MF} {e a b c o elt iter : Expr} {pos pos' p2 : Pos} {n : Str} {σ : St} {r : Rp α} {rb : Rp β}
theorem Stt.wipe1 (s : Stt I0 H0 ctx mem I H σ) (j : Nat) : Stt I0 H0 (ctx.set j none) mem I H (σ.set j none) := by
  refine ⟨s.fm, by rw [List.length_set, List.length_set]; exact s.len, fun k sf e => ?_, s.me⟩
  by_cases hk : k = j
  · subst hk
    rw [List.getElem?_set] at e
    by_cases hl : k < ctx.length
    · simp only [hl, if_true] at e; cases e
    · simp only [hl, if_true, if_false] at e; cases e
  · rw [List.getElem?_set_ne (Ne.symm hk)] at e
    obtain ⟨w, e1, q⟩ := s.sl k sf e
    exact ⟨w, by rw [List.getElem?_set_ne (Ne.symm hk)]; exact e1, q⟩
def wEb (X : Cx) (scope : Scope) (elt : Expr) : TE := fun σ H Q => ∀ (s : Shared) (H' : Hp) (C : Addr) (cl : List (Str × Addr)) (fp : List Addr), wE (X.blkC s H' scope (compEnvC scope cl C X.env) fp) elt σ H Q
theorem pe_Wb (s : Shared) (H' : Hp) (C : Addr) (cl : List (Str × Addr)) (fp : List Addr) {scope : Scope} : PE (X.blkC s H' scope (compEnvC scope cl C X.env) fp) elt (wEb X scope elt) := ⟨fun pins s1 _ _ _ I h => h s H' C cl fp pins s1 I⟩
theorem Fm.updNew {I1 H1 : Hp} {D : Addr} {o : HO} (f : Fm I H I1 H1) (hD : H D = none) (hI : I1 D = none) : Fm I H I1 (upd H1 D o) :=
  ⟨f.i, fun b u e => by rw [upd_ne (ne_of_none e hD)]; exact f.h _ _ e, fun b u e => by rw [upd_ne (ne_of_none e hI)]; exact f.ih _ _ e, f.mu⟩
def lcR (f : β → Res α) (xs : List β) : Res (List α) := Res.guard (xs.length ≤ sizeLine) (lcM f xs)
theorem lcM_drop {f : β → Res α} {xs : List β} {i : Nat} {x : β} (h : xs[i]? = some x) : lcM f (xs.drop i) = (match f x with
    | .ok y => (lcM f (xs.drop (i + 1))).bind fun ys => .ok (y :: ys)
    | _ => .stuck) := by
  have hi := (List.getElem?_eq_some_iff.mp h).1
  rw [List.drop_eq_getElem_cons hi]
  have : xs[i] = x := (List.getElem?_eq_some_iff.mp h).2
  rw [this]
  rfl
def PostM (X : Cx) (W : WX) (σ : St) (I H : Hp) (m : Res (List α)) (r : Rp α) (Q : VK) : Prop := match m with
  | .ok xs => ∀ I1 H1 l vs, Fm I H I1 H1 → H l = none → I1 l = none → H1 l = some (.lst vs) → Paired (r I1) vs xs → Q (.ref l) H1
  | .err e => ∀ I' H' cls d, Fm I H I' H' → Fr H d ∧ ExR X.K I' H' e cls d → W cls d σ H'
  | .stuck => False
theorem lc_post (j : Nat) [mo : Mo r] [mb : Mo rb] {m : Res (List β)} {f : β → Res α} {scope : Scope} (ji : JI X I0 H0 W ctx mem (.Name n pos') iter m rb)
    (je : ∀ (s : Shared) (H : Hp) (C : Addr) (cl : List (Str × Addr)) (fp : List Addr) (D : Addr) (acc : List α) (x : β), JE (X.blkC s H scope (compEnvC scope cl C X.env) fp) I0 H0 W0 (ctx.set j (some ⟨rb, x⟩)) (MF.lst D r acc :: mem) elt (f x) (rp r))
    (I H : Hp) (σ : St) (Q : VK) (st : Stt I0 H0 ctx mem I H σ) (p : PostM X W σ I H (m.bind fun xs => lcR f xs) r Q) : tLc (wI X (.Name n pos') iter) (gName j) tYes (wEb X scope elt) [j] σ H Q := by
  refine ji I H σ _ st ?_
  cases m with
  | ok xs =>
    intro I1 H1 J vs okp f1 itr stay pr D hD
    have hlen := Paired.length pr
    by_cases hz : xs.length ≤ sizeLine
    · have e0 : ((Res.ok xs).bind fun xs => lcR f xs) = lcM f xs := Res.guard_pos hz _
      rw [e0] at p
      have hD0 : H D = none := f1.h.free hD
      cases et : lcM f xs with
      | ok tot =>
        rw [et] at p
        refine ⟨fun i k H' => k + i = vs.length ∧ ∃ I' acc ys, Same I1 I' ∧ Fm I H I' H' ∧ Stt I0 H0 ctx (MF.lst D r acc :: mem) I' H' σ ∧ acc.length ≤ i ∧ lcM f (xs.drop i) = .ok ys ∧ tot = acc ++ ys, ⟨vs.length, rfl, I1, [], tot, Same.refl _, f1.trans (Fm.newM f1.ih hD), (st.step f1).push hD .nil, Nat.le_refl _, et, rfl⟩, ?_⟩
        rintro i k H' ⟨hk, I', acc, ys, si, fm, g', ha, el, eq⟩
        have hok := stay I' H' si g'.same g'.fm.h
        by_cases hi : i < vs.length
        · obtain ⟨go, yl⟩ := (itr i H' hok).1 hi
          refine .inr ⟨go, fun H2 => ∃ I2 acc2 ys2, Same I1 I2 ∧ Fm I H I2 H2 ∧ Stt I0 H0 ctx (MF.lst D r acc2 :: mem) I2 H2 σ ∧ acc2.length ≤ i + 1 ∧ lcM f (xs.drop (i + 1)) = .ok ys2 ∧ tot = acc2 ++ ys2, fun H2 h => ⟨k - 1, by omega, by omega, h⟩, fun v H2 hy => ?_⟩
          obtain ⟨rfl, ev⟩ := yl v H2 hy
          obtain ⟨x, ex, hr⟩ := paired_drop pr i ev
          rw [lcM_drop ex] at el
          show (fun σ2 H2 => wipe σ2 [j] = wipe σ [j] ∧ _) (((σ.set j none)).set j (some v)) H2
          refine ⟨?_, ?_⟩
          · show ((σ.set j none).set j (some v)).set j none = σ.set j none
            rw [List.set_set, List.set_set]
          · show wEb X scope elt ((σ.set j none).set j (some v)) H2 _
            rw [List.set_set]
            intro s3 H3 C cl fp
            refine je s3 H3 C cl fp D acc x I' H2 (σ.set j (some v)) _ (g'.set j (mb.up si hr)) ?_
            revert el
            generalize f x = z
            intro el
            cases z with
            | ok y =>
              cases el2 : lcM f (xs.drop (i + 1)) with
              | ok ys2 =>
                dsimp only at el
                rw [el2] at el
                cases el
                intro I4 H4 vy f4 r4
                have g4 := g'.step f4
                obtain ⟨z0, zI, oo, zH, vacc, eo, pacc⟩ := g4.lstAt (j := 0) rfl
                subst eo
                have hla := Paired.length pacc
                have hlt := (List.getElem?_eq_some_iff.mp ex).1
                refine ⟨vacc, zH, by omega, I4, acc ++ [y], ys2, si.trans f4.i, (fm.trans f4).updNew hD0 zI, g4.relst 0 rfl (paired_app pacc (.cons r4 .nil)), by rw [List.length_append, List.length_singleton]; omega, rfl, by rw [eq, List.append_assoc]; rfl⟩
              | err e => dsimp only at el; rw [el2] at el; cases el
              | stuck => dsimp only at el; rw [el2] at el; cases el
            | err e => cases el
            | stuck => cases el
        · refine .inl ⟨(itr i H' hok).2 (by omega), ?_⟩
          have e1 : xs.drop i = [] := List.drop_eq_nil_of_le (by omega)
          rw [e1] at el
          cases el
          rw [List.append_nil] at eq
          subst eq
          obtain ⟨z0, zI, oo, zH, vacc, eo, pacc⟩ := g'.lstAt (j := 0) rfl
          subst eo
          exact p I' H' D vacc fm hD0 zI zH pacc
      | err e =>
        exfalso
        have : ∀ l : List β, lcM f l ≠ .err e := fun l => by
          induction l with
          | nil => intro h; cases h
          | cons x l ih =>
            intro h
            unfold lcM at h
            cases q : f x with
            | ok y =>
              rw [q] at h
              dsimp only at h
              cases q2 : lcM f l with
              | ok ys => rw [q2] at h; cases h
              | err e2 => rw [q2] at h ih; cases h; exact ih rfl
              | stuck => rw [q2] at h; cases h
            | err e2 => rw [q] at h; cases h
            | stuck => rw [q] at h; cases h
        exact this xs et
      | stuck => rw [et] at p; exact p.elim
    · have e0 : ((Res.ok xs).bind fun xs => lcR f xs) = .stuck := if_neg hz
      rw [e0] at p
      exact p.elim
  | err e => exact p
  | stuck => exact p
theorem JM.lc (j : Nat) [mo : Mo r] [mb : Mo rb] {m : Res (List β)} {f : β → Res α} {scope : Scope} (ji : JI X I0 H0 W ctx mem (.Name n pos') iter m rb)
    (je : ∀ (s : Shared) (H : Hp) (C : Addr) (cl : List (Str × Addr)) (fp : List Addr) (D : Addr) (acc : List α) (x : β), JE (X.blkC s H scope (compEnvC scope cl C X.env) fp) I0 H0 W0 (ctx.set j (some ⟨rb, x⟩)) (MF.lst D r acc :: mem) elt (f x) (rp r))
    (hN : X.N.Nodup) (ok : BlkOk X.N X.env.scope scope [(n, j)]) (hj : X.N[j]? = some n := by rfl) (hc : Cool X := by first | exact .inl rfl | exact .inr ⟨_, by assumption, List.mem_cons_self⟩) (hsc : Loc (relabel scope X.env) n := by first | exact Or.inl rfl | exact Or.inr rfl) (hfn : (scope.names.lookup n == some .cell) = true ∨ (relabel scope X.env).names.lookup n = some .local := by first | exact .inr rfl | exact .inl rfl) (hs : ∀ x, foldedSetIterable iter X.env x = pure x := by intro _; rfl) :
    JM X I0 H0 W ctx mem (.ListComp elt [⟨.Name n pos', iter, [], 0⟩] scope pos) (m.bind fun xs => lcR f xs) r := fun I H σ Q st p =>
  PE.w (pe_lcC (own := [(n, j)]) hc hN pi_W ok (fun s H C cl fp => pg_name (i := j) hN hj hsc hfn) (fun s H C cl fp => pts_nil) (fun s H C cl fp => pe_Wb s H C cl fp) hs) (lc_post j ji je I H σ Q st p)
/-- y = [.. for ..] on one line -/
theorem J1.setLc (i j : Nat) {y : Str} {py spos : Pos} [mo : Mo r] [mb : Mo rb] {m : Res (List β)} {f : β → Res α} {scope : Scope} (ji : JI X I0 H0 W ctx mem (.Name n pos') iter m rb)
    (je : ∀ (s : Shared) (H : Hp) (C : Addr) (cl : List (Str × Addr)) (fp : List Addr) (D : Addr) (acc : List α) (x : β), JE (X.blkC s H scope (compEnvC scope cl C X.env) fp) I0 H0 W0 (ctx.set j (some ⟨rb, x⟩)) (MF.lst D r acc :: mem) elt (f x) (rp r))
    (hx : ∀ I H σ d, Stt I0 H0 ctx mem I H σ → Fr H0 d → Kx I H σ d) (hN : X.N.Nodup) (ok : BlkOk X.N X.env.scope scope [(n, j)]) (hi : X.N[i]? = some y := by rfl) (hyl : X.env.scope.names.lookup y = some .local := by rfl)
    (hsw : swapsWith (.ListComp elt [⟨.Name n pos', iter, [], 0⟩] scope pos) (some (.Name y py)) spos.line X.env = pure true := by rfl) (hj : X.N[j]? = some n := by rfl) (hc : Cool X := by first | exact .inl rfl | exact .inr ⟨_, by assumption, List.mem_cons_self⟩) (hsc : Loc (relabel scope X.env) n := by first | exact Or.inl rfl | exact Or.inr rfl) (hfn : (scope.names.lookup n == some .cell) = true ∨ (relabel scope X.env).names.lookup n = some .local := by first | exact .inr rfl | exact .inl rfl) (hs : ∀ x, foldedSetIterable iter X.env x = pure x := by intro _; rfl) :
    J1 X W Kx (Stt I0 H0 ctx mem) (.Assign [.Name y py] (.ListComp elt [⟨.Name n pos', iter, [], 0⟩] scope pos) spos) (m.bind fun xs => lcR f xs) (fun xs I H σ => ∃ l, Stt I0 H0 (ctx.set i (some ⟨rRef l, ()⟩)) (MF.lst l r xs :: mem) I H σ) := fun I H σ D g p => by
  refine PS.w (ps_setLcC (own := [(n, j)]) hc hN hi hyl hsw pi_W ok (fun s H C cl fp => pg_name (i := j) hN hj hsc hfn) (fun s H C cl fp => pts_nil) (fun s H C cl fp => pe_Wb s H C cl fp) hs) (lc_post j ji je I H σ (fun x H1 => gName i x σ H1 D.nx) g ?_)
  revert p
  generalize (m.bind fun xs => lcR f xs) = z
  intro p
  cases z with
  | ok xs => exact fun I1 H1 l vs f hl hI h1 pr => p I1 _ _ f.i ⟨l, (g.adopt f hl hI h1 pr).set i rfl⟩
  | err e => exact fun I' H' c d f x => p I' H' σ c d (hx _ _ _ _ (g.step f) (x.1.back g.fm.h)) x.2
  | stuck => exact p
end
end L2.Tr

namespace L2.Tr
open PySem PySem.Spec PyProof.Rows
/-! ### contexts and cells written out -/
section
variable {α γ S L : Type} {X : Cx} {I0 H0 I H : Hp} {W : WX} {Kx : KnowsX} {G : Knows} {st : Stmt} {ss : List Stmt} {ctx ctx' : List (Option SF)} {mem mem' : List MF} {rr : Ra γ} {σ : St}
theorem J1.cm {m : Res S} {c c' : S → List (Option SF)} {me me' : S → List MF} (j : J1 X W Kx G st m (fun s => Stt I0 H0 (c s) (me s))) (h : ∀ s, c s = c' s := by intro _; rfl) (h2 : ∀ s, me s = me' s := by intro _; rfl) : J1 X W Kx G st m (fun s => Stt I0 H0 (c' s) (me' s)) := by
  have e : c = c' := funext h
  have e2 : me = me' := funext h2
  rw [← e, ← e2]; exact j
/-- a new cell: its address is named -/
theorem J1.cn {ι : Type} {m : Res S} {c c' : S → ι → List (Option SF)} {me me' : S → ι → List MF} (j : J1 X W Kx G st m (fun s I H σ => ∃ l, Stt I0 H0 (c s l) (me s l) I H σ)) (h : ∀ s l, c s l = c' s l := by intro _ _; rfl) (h2 : ∀ s l, me s l = me' s l := by intro _ _; rfl) : J1 X W Kx G st m (fun s I H σ => ∃ l, Stt I0 H0 (c' s l) (me' s l) I H σ) := by
  have e : c = c' := funext fun s => funext fun l => h s l
  have e2 : me = me' := funext fun s => funext fun l => h2 s l
  rw [← e, ← e2]; exact j
variable (i j : Nat) {r : Rp α} [mo : Mo r] {l : Addr} {xs : List α}
theorem JN.fz {m : Res S} {G' : S → Knows} (k : JN X W Kx (Stt I0 H0 ctx' mem') ss m G') (hj : mem[j]? = some (MF.lst l r xs) := by rfl) (hc : ctx[i]? = some (some (SF.mk (rRef l) ())) := by rfl) (h1 : ctx.set i (some ⟨rL r, xs⟩) = ctx' := by rfl) (h2 : mem.eraseIdx j = mem' := by rfl) : JN X W Kx (Stt I0 H0 ctx mem) ss m G' :=
  JN.frz i j (by rw [h1, h2]; exact k) hj hc
theorem JR.fz {m : Res γ} (k : JR X I0 H0 W Kx (Stt I0 H0 ctx' mem') ss m rr) (hj : mem[j]? = some (MF.lst l r xs) := by rfl) (hc : ctx[i]? = some (some (SF.mk (rRef l) ())) := by rfl) (h1 : ctx.set i (some ⟨rL r, xs⟩) = ctx' := by rfl) (h2 : mem.eraseIdx j = mem' := by rfl) : JR X I0 H0 W Kx (Stt I0 H0 ctx mem) ss m rr :=
  JR.frz i j (by rw [h1, h2]; exact k) hj hc
theorem JG.fz {m : Res (Fl S L γ)} {G' : S → Knows} {GL : L → Knows} (k : JG X I0 H0 W Kx (Stt I0 H0 ctx' mem') ss m G' GL rr) (hj : mem[j]? = some (MF.lst l r xs) := by rfl) (hc : ctx[i]? = some (some (SF.mk (rRef l) ())) := by rfl) (h1 : ctx.set i (some ⟨rL r, xs⟩) = ctx' := by rfl) (h2 : mem.eraseIdx j = mem' := by rfl) : JG X I0 H0 W Kx (Stt I0 H0 ctx mem) ss m G' GL rr :=
  JG.frz i j (by rw [h1, h2]; exact k) hj hc
end
end L2.Tr

namespace L2.Tr
open PySem PySem.Spec PyProof.Rows
section
variable {α β γ δ S L : Type} {X : Cx} {I0 H0 I H : Hp} {W : WX} {Kx : KnowsX} {ctx : List (Option SF)} {mem : List MF} {e a b c o : Expr} {pos pos' p2 : Pos} {n : Str} {σ : St} {r : Rp α} {ra : Ra α}
theorem JE.at {m : Res α} {c c' : List (Option SF)} (j : JE X I0 H0 W c' mem e m ra) (h : c = c' := by rfl) : JE X I0 H0 W c mem e m ra := by rw [h]; exact j
end
end L2.Tr

namespace PySem.W
open PySem PySem.Spec PySem.Calls PyProof.Rows
section
variable {prog : Program} {w : World} {A : Around} {E : Value → Shared → Prop} {s : Shared} {K : Frag} {x C f : Addr} {ox : Obj} {od : Option Obj}
end
end PySem.W
namespace L2.Tr
open PySem PySem.Spec PyProof.Rows He
/-! ### objects of own classes, frozen -/
section
variable {α β γ δ S L : Type} {X : Cx} {I0 H0 I H : Hp} {W : WX} {Kx : KnowsX} {ctx : List (Option SF)} {mem : List MF} {e a b c o : Expr} {es : List Expr} {pos pos' p2 : Pos} {n : Str} {σ : St} {Q : VK} {r : Rp α} {ra : Ra α} {rb : Ra β} {rc : Ra γ} {ma : Res α} {mb : Res β} {md : Res δ}
def rIns (C : Addr) (gs : α → List (Str × SF)) : Rp α := fun I v x => ∃ a dx fs, v = .ref a ∧ I a = some (.ins C dx fs) ∧ FldR I fs (gs x)
instance {C : Addr} {gs : α → List (Str × SF)} : Mo (rIns C gs) := ⟨fun s ⟨a, dx, fs, e, h, f⟩ => ⟨a, dx, fs, e, s _ _ h, FldR.up s f⟩⟩
theorem insI {C : Addr} {gs : α → List (Str × SF)} : InsR C (rp (rIns C gs)) := fun I H v x s ⟨a, dx, fs, e, h, _⟩ => ⟨a, dx, fs, e, s _ _ h⟩
theorem FldR.look {I : Hp} {f : Str} : ∀ {fs : List (Str × V)} {gs : List (Str × SF)} {sf : SF}, FldR I fs gs → gs.lookup f = some sf → ∃ v, fs.lookup f = some v ∧ sf.r I v sf.x
  | [], [], _, _, e => by simp at e
  | (k, v) :: fs, (k', q) :: gs, sf, ⟨h1, h2, h3⟩, e => by
    cases (show k = k' from h1)
    rw [List.lookup_cons] at e ⊢
    by_cases hk : (f == k) = true
    · rw [hk] at e ⊢
      cases e
      exact ⟨v, rfl, h2⟩
    · rw [Bool.not_eq_true] at hk
      rw [hk] at e ⊢
      exact FldR.look h3 e
  | [], _ :: _, _, h, _ => h.elim
  | _ :: _, [], _, h, _ => h.elim
theorem FldR.none {I : Hp} {f : Str} : ∀ {fs : List (Str × V)} {gs : List (Str × SF)}, FldR I fs gs → gs.lookup f = none → fs.lookup f = none
  | [], [], _, _ => rfl
  | (k, v) :: fs, (k', q) :: gs, ⟨h1, h2, h3⟩, e => by
    cases (show k = k' from h1)
    rw [List.lookup_cons] at e ⊢
    by_cases hk : (f == k) = true
    · rw [hk] at e; cases e
    · rw [Bool.not_eq_true] at hk
      rw [hk] at e ⊢
      exact FldR.none h3 e
  | [], _ :: _, h, _ => h.elim
  | _ :: _, [], h, _ => h.elim
theorem insOfI {C : Addr} {gs : α → List (Str × SF)} {m : Str} (h : ∀ x, (gs x).lookup m = none) : InsOf C (rp (rIns C gs)) m := fun I H v x s ⟨a, dx, fs, e, hi, f⟩ => ⟨a, dx, fs, e, s _ _ hi, f.none (h x)⟩
theorem fldI {K : PySem.W.Frag} {C : Addr} {gs : α → List (Str × SF)} {f : Str} {r : Rp β} {mo : Mo r} {get : α → β} (h : ∀ x, (gs x).lookup f = some (SF.mk r (get x))) : FldOf K C (rp (rIns C gs)) f get (rp r) := fun I H v x s ⟨a, dx, fs, e, hi, q⟩ => by
  obtain ⟨w, h1, h2⟩ := q.look (h x)
  exact ⟨a, dx, fs, w, e, s _ _ hi, h1, h2⟩
/-! ### properties -/
structure PropP (K : PySem.W.Frag) (C : Addr) (f : Str) (p g : Addr) : Prop where
  po : PropOf K C f p g
/-! ### C.m(..), a staticmethod -/
structure SMet (K : PySem.W.Frag) (C : Addr) (mc : Value) (m : Str) (p g : Addr) : Prop where
  rd : PySem.W.readsIn K C mc = true
  ga : PySem.W.specialIn K (.ref C) "__getattribute__" = some (some (.builtin "type.__getattribute__"))
  at_ : PySem.W.findCls K (.ref C) mc m = some (.get (.builtin "staticmethod.__get__") (.ref p) .none (.ref C))
  rc : ∃ rest, PySem.W.recIn K p "staticmethod" = some (.ref g :: rest)
  kp : PySem.W.keepIn K (.ref g) = true
/-! ### sequences: a list or a tuple -/
def rSq (K : PySem.W.Frag) (r : Ra α) : Ra (List α) := fun I H v xs => ∃ l vs, v = .ref l ∧ (SqL K H l vs ∨ SqT K H l vs) ∧ Paired (r I H) vs xs
theorem Same.seqT {K : PySem.W.Frag} {H H' : Hp} {a : Addr} {xs : List V} (s : Same H H') (h : SqT K H a xs) : SqT K H' a xs := by
  rcases h with h | h
  · rcases h with h | ⟨h1, h2⟩
    · exact .inl (.inl (s _ _ h))
    · exact .inl (.inr ⟨h1, s _ _ h2⟩)
  · exact .inr h
instance {K : PySem.W.Frag} {r : Ra α} [m : MoA r] : MoA (rSq K r) := ⟨fun s t ⟨l, vs, e, h, p⟩ => ⟨l, vs, e, h.imp (fun h => t.seq h) (fun h => Same.seqT t h), Paired.mapP p fun _ _ q => m.up s t q⟩⟩
/-! ### coercions of items -/
theorem paired_map {F : β → α → Prop} {G : β → γ → Prop} {f : α → γ} (h : ∀ v x, F v x → G v (f x)) : ∀ {vs : List β} {xs : List α}, Paired F vs xs → Paired G vs (xs.map f)
  | _, _, .nil => .nil
  | _, _, .cons a t => .cons (h _ _ a) (paired_map h t)
theorem co_qN {K : PySem.W.Frag} : ∀ (I H : Hp) (v : V) (x : Rat), rp (rFrac K) I H v x → rp (rNum K) I H v (Num.q x) := fun _ _ _ _ h => h
theorem JM.map {m : Res (List α)} {rb : Rp β} {f : α → β} (j : JM X I0 H0 W ctx mem e m r) (h : ∀ I H v x, rp r I H v x → rp rb I H v (f x)) : JM X I0 H0 W ctx mem e (m.bind fun xs => .ok (xs.map f)) rb := fun I H σ Q st p => j I H σ Q st (by
  cases m with
  | ok xs => exact fun I1 H1 l vs f1 a b c pr => p I1 H1 l vs f1 a b c (paired_map (h I1 H1) pr)
  | err e => exact p
  | stuck => exact p)
/-! ### all, any, sum -/
theorem paired_bl {I H : Hp} : ∀ {vs : List V} {xs : List Bool}, Paired (rp rBl I H) vs xs → vs = xs.map V.bl
  | _, _, .nil => rfl
  | _, _, .cons h t => by rw [List.map_cons, ← paired_bl t, show _ = _ from h]
theorem paired_in {I H : Hp} : ∀ {vs : List V} {xs : List Int}, Paired (rp rInt I H) vs xs → vs = xs.map V.int
  | _, _, .nil => rfl
  | _, _, .cons h t => by rw [List.map_cons, ← paired_in t, show _ = _ from h]
theorem cj_any (hc : X.calm = true) : CallJ X W (.builtin "any") (R1 (rdL X.K (rp rBl))) (fun d => .ok (d.1.any id)) (rp rBl) := fun I H σ Q vs x s a p => by
  obtain ⟨v, ws, rfl, ⟨l, vs, rfl, hl, pr⟩, rfl⟩ := a
  exact CallR.w (cr_any hc) ⟨l, x.1, rfl, by rw [← paired_bl pr]; exact hl, p I H _ (Fm.refl s) rfl⟩
theorem cj_sum (hc : X.calm = true) : CallJ X W (.builtin "sum") (R1 (rdL X.K (rp rInt))) (fun d => .ok d.1.sum) (rp rInt) := fun I H σ Q vs x s a p => by
  obtain ⟨v, ws, rfl, ⟨l, vs, rfl, hl, pr⟩, rfl⟩ := a
  exact CallR.w (cr_sum hc) ⟨l, x.1, rfl, by rw [← paired_in pr]; exact hl, p I H _ (Fm.refl s) rfl⟩
end
end L2.Tr

namespace L2.Tr
open PySem PySem.Spec PyProof.Rows He
section
variable {α β γ δ S L : Type} {X : Cx} {I0 H0 I H : Hp} {W : WX} {Kx : KnowsX} {G : Knows} {ctx : List (Option SF)} {mem : List MF} {e a b c o : Expr} {es : List Expr} {ss : List Stmt} {pos pos' p2 : Pos} {n : Str} {σ : St} {Q : VK} {r : Rp α} {ra : Ra α} {rb : Ra β} {rc : Ra γ} {ma : Res α} {mb : Res β} {md : Res δ} {R : Hp → Hp → List V → δ → Prop}
/-! ### defs that hand back a new list -/
def rNew (H0 : Hp) (r : Rp α) : Ra (List α) := fun I H v xs => ∃ l vs, v = .ref l ∧ H0 l = none ∧ I l = none ∧ H l = some (.lst vs) ∧ Paired (r I) vs xs
def spN (K : PySem.W.Frag) (R : Hp → Hp → List V → δ → Prop) (m : δ → Res (List α)) (r : Rp α) : Sp := fun vs H Q E => ∃ I d, Same I H ∧ R I H vs d ∧ PostE K (m d) (rNew H r) I H E Q
def CallN (X : Cx) (W : WX) (f : Value) (R : Hp → Hp → List V → δ → Prop) (g : δ → Res (List α)) (r : Rp α) : Prop :=
  ∀ (I H : Hp) (σ : St) (Q : VK) (vs : List V) (x : δ), Same I H → R I H vs x → PostM X W σ I H (g x) r Q → callW X f σ vs H Q
theorem post_new {m : Res (List α)} (p : PostM X W σ I H m r Q) : PostE X.K m (rNew H r) I H (fun cls d H' => W cls d σ H') Q := by
  cases m with
  | ok xs => exact fun I' H' v f ⟨l, vs, e, h1, h2, h3, pr⟩ => by subst e; exact p I' H' l vs f h1 h2 h3 pr
  | err e => exact p
  | stuck => exact p
theorem PostM.up {m : Res (List α)} {I1 H1 : Hp} (p : PostM X W σ I H m r Q) (f : Fm I H I1 H1) : PostM X W σ I1 H1 m r Q := by
  cases m with
  | ok xs => exact fun I' H' l vs f2 h1 h2 h3 pr => p I' H' l vs (f.trans f2) (f.h.free h1) h2 h3 pr
  | err e => exact fun I' H' c d g x => p I' H' c d (f.trans g) ⟨x.1.back f.h, x.2⟩
  | stuck => exact p
theorem cn_of {k : Nat} {f : Addr} {m : δ → Res (List α)} (F : FnR X.prog X.w X.K X.mg X.base (L2N.CX X.prog X.w) k f (spN X.K R m r)) (hr : Room k X.A) (tk : L2N.Takes X W) : CallN X W (.ref f) R m r := fun I H σ Q vs d s h p => run_W F hr tk ⟨I, d, s, h, post_new p⟩
theorem FnN.nice {P : Program} {w : World} {K : PySem.W.Frag} {mg : Str → Option Value} {base : Heap} {k : Nat} {f : Addr} {m m' : δ → Res (List α)} (F : FnR P w K mg base (L2N.CX P w) k f (spN K R m r)) (h : ∀ d, m' d = .stuck ∨ m' d = m d) : FnR P w K mg base (L2N.CX P w) k f (spN K R m' r) := F.imp fun vs H Q E ⟨I, d, s, r, p⟩ => ⟨I, d, s, r, by
  rcases h d with e | e
  · rw [show m' d = _ from e] at p; exact p.elim
  · rw [← e]; exact p⟩
theorem FnOk.frN0 {P : Program} {w : World} {K : PySem.W.Frag} {mg : Str → Option Value} {base : Heap} {k : Nat} {f : Addr} {fd : FuncData} {ps : List Str} {m : δ → Res (List α)} (F : FnOk P w K mg base (L2N.CX P w) k f fd ps (spN K R m r)) (hb : Binds K fd ps []) :
    FnR P w K mg base (L2N.CX P w) k f (spN K R m r) := (FnOk.raw F hb .nil).imp fun vs H Q E h => by rw [List.append_nil]; exact h
theorem JA.callM {g : δ → Res (List α)} (k : JA X I0 H0 W ctx mem es md R) {f : Value} (cn : CallN X W f R g r) (st : Stt I0 H0 ctx mem I H σ) (p : PostM X W σ I H (md.bind g) r Q) : wA X es σ H fun vs H1 => callW X f σ vs H1 Q := by
  refine k I H σ _ st ?_
  cases md with
  | ok x => exact fun I1 H1 vs f1 r1 => cn I1 H1 σ Q vs x f1.ih r1 (PostM.up (m := g x) p f1)
  | err e => exact p
  | stuck => exact p
theorem JM.call {f : Addr} {g : δ → Res (List α)} (k : JA X I0 H0 W ctx mem (e :: es) md R) (cn : CallN X W (.ref f) R g r) (hm : X.mg n = some (.ref f)) (hk : PySem.W.keepIn X.K (.ref f) = true) (hg : Gl X n := by rfl) (hdb : (n == ("__debug__" : Str)) = false := by decide)
    (he : starEach (e :: es) X.env = (false, eval e X.env) :: starEach es X.env := by rfl) (hpl : (backTo pos (starEach es X.env)).any (·.1) = false := by rfl) : JM X I0 H0 W ctx mem (.Call (.Name n pos') (e :: es) [] pos) (md.bind g) r := fun I H σ Q st p =>
  w_call (k.callM cn st p) hm hk hg hdb he hpl
theorem JM.meth {pl : Sem Bool} {m : Str} {C f : Addr} {apos : Pos} {g : β × δ → Res (List α)} [MoA rb] (j : JE X I0 H0 W ctx mem o mb rb) (hi : InsOf C rb m) (k : JA X I0 H0 W ctx mem (e :: es) md R) (cn : CallN X W (.ref f) (aCons rb R) g r) (c : Cls X.K C) (hm : Meth X.K C m f)
    (hst : starEach (e :: es) X.env = (false, eval e X.env) :: starEach es X.env := by rfl) (hpl : (backTo pos (starEach es X.env)).any (·.1) = false := by rfl)
    (ht : eval (.Call (.Attribute o m apos) (e :: es) [] pos) X.env = (do
      let ov ← eval o X.env
      standAt apos.atName
      let (f, first) ← holding [ov] (getMethod ov m pl)
      callWith pos f first (backTo pos (starEach (e :: es) X.env)) (backToKw pos (keywordEach [] X.env))) := by rfl) : JM X I0 H0 W ctx mem (.Call (.Attribute o m apos) (e :: es) [] pos) (mb.bind fun x => md.bind fun y => g (x, y)) r := fun I H σ Q st p => by
  refine w_meth (j I H σ _ st ?_) c hm hst hpl ht
  cases mb with
  | ok x =>
    intro I1 H1 v f1 r1
    obtain ⟨a, dx, fs, ev, ha, hl⟩ := hi I1 H1 v x f1.ih r1
    refine ⟨a, dx, fs, ev, ha, hl, k I1 H1 σ _ (st.step f1) ?_⟩
    cases md with
    | ok y => exact fun I2 H2 vs f2 r2 => cn I2 H2 σ Q (v :: vs) (x, y) f2.ih ⟨v, vs, rfl, MoA.up f2.i f2.h r1, r2⟩ (PostM.up (m := g (x, y)) p (f1.trans f2))
    | err e => exact fun I' H' c d f x => p I' H' c d (f1.trans f) ⟨x.1.back f1.h, x.2⟩
    | stuck => exact p
  | err e => exact p
  | stuck => exact p
theorem JM.meth0 {pl : Sem Bool} {m : Str} {C f : Addr} {apos : Pos} {g : β × Unit → Res (List α)} (j : JE X I0 H0 W ctx mem o mb rb) (hi : InsOf C rb m) (cn : CallN X W (.ref f) (aCons rb aNil) g r) (c : Cls X.K C) (hm : Meth X.K C m f)
    (ht : eval (.Call (.Attribute o m apos) [] [] pos) X.env = (do
      let ov ← eval o X.env
      standAt apos.atName
      let (f, first) ← holding [ov] (getMethod ov m pl)
      callWith pos f first (backTo pos (starEach [] X.env)) (backToKw pos (keywordEach [] X.env))) := by rfl) : JM X I0 H0 W ctx mem (.Call (.Attribute o m apos) [] [] pos) (mb.bind fun x => g (x, ())) r := fun I H σ Q st p => by
  refine w_meth0 (j I H σ _ st ?_) c hm ht
  cases mb with
  | ok x =>
    intro I1 H1 v f1 r1
    obtain ⟨a, dx, fs, ev, ha, hl⟩ := hi I1 H1 v x f1.ih r1
    exact ⟨a, dx, fs, ev, ha, hl, cn I1 H1 σ Q [v] (x, ()) f1.ih ⟨v, [], rfl, r1, rfl⟩ (PostM.up (m := g (x, ())) p f1)⟩
  | err e => exact p
  | stuck => exact p
/-- return e, a new list -/
theorem JR.retM {m : Res (List α)} (j : JM X I0 H0 W ctx mem e m r) (hx : ∀ I H σ d, Stt I0 H0 ctx mem I H σ → Fr H0 d → Kx I H σ d) : JR X I0 H0 W Kx (Stt I0 H0 ctx mem) (.Return (some e) pos :: ss) m (rNew H0 r) := fun I H σ D g p => by
  refine b_cons (s_ret (j I H σ _ g ?_))
  cases m with
  | ok xs => exact fun I1 H1 l vs f h1 h2 h3 pr => p I1 H1 _ (g.fm.trans f) ⟨l, vs, rfl, g.fm.h.free h1, h2, h3, pr⟩
  | err e => exact fun I' H' c d f x => p I' H' σ c d (hx _ _ _ _ (g.step f) (x.1.back g.fm.h)) x.2
  | stuck => exact p
/-- return x, x a list of the call's own -/
theorem JR.retC (i j : Nat) [mo : Mo r] {l : Addr} {xs : List α} (hj : mem[j]? = some (MF.lst l r xs) := by rfl) (hc : ctx[i]? = some (some (SF.mk (rRef l) ())) := by rfl) (hN : X.N[i]? = some n := by rfl) (hv : Vis X.env.scope n := by first | exact Or.inl rfl | exact Or.inr (Or.inl rfl) | exact Or.inr (Or.inr rfl)) (hd : (n == ("__debug__" : Str)) = false := by decide)
    (hcd : (n == ("__classdict__" : Str)) = false := by decide) : JR X I0 H0 W Kx (Stt I0 H0 ctx mem) (.Return (some (.Name n pos')) pos :: ss) (.ok xs) (rNew H0 r) := fun I H σ D g p => by
  obtain ⟨u, eu, hu⟩ := g.sl i _ hc
  cases (show u = V.ref l from hu)
  obtain ⟨z1, z2, oo, zH, vs, eo, pr⟩ := g.lstAt hj
  subst eo
  exact b_cons (s_ret (w_var i (p I H _ g.fm ⟨l, vs, rfl, z1, z2, zH, pr⟩) eu hN hv hd hcd))
theorem FunD.fnN {P : Program} {w : World} {K : PySem.W.Frag} {mg : Str → Option Value} {base : Heap} {x qual : Str} {params : Arguments} {body : List Stmt} {scope : Scope} {dvs : List V} {kws : List (Str × V)} {f : Addr} {fd : FuncData} {N ps : List Str} {k : Nat} {m : δ → Res (List α)} (F : FunD K x qual params body scope dvs kws f fd) (Sc : FnScope N ps scope) (len : ∀ I H vs d, R I H vs d → vs.length = ps.length)
    (hb : ∀ (cdv : Value) (A : Around) (outer : List Env) (s : Shared) (I0 H0 : Hp) (E : XK) (vs : List V) (d : δ), Room k (A.deeper (envOfC qual scope s.heap.objs.size f cdv)) → Same I0 H0 → R I0 H0 vs d →
      ∃ G : Knows, G I0 H0 (start N vs) ∧ JR (bx P w K mg base N qual scope f cdv A outer s H0 E) I0 H0 (bW E) (bK I0 H0) G body (m d) (rNew H0 r)) : FnOk P w K mg base (L2N.CX P w) (k + 1) f fd ps (spN K R m r) := by
  refine F.ok Sc (fun vs H Q E ⟨I, d, _, h, _⟩ => len I H vs d h) fun cdv A outer s H vs Q E hr ⟨I, d, sm, h, p⟩ => ⟨_, pss_W, ?_⟩
  obtain ⟨G, g, j⟩ := hb cdv A outer s I H E vs d hr sm h
  refine j I H _ _ g ?_
  revert p
  show PostE K (m d) (rNew H r) I H E Q → PostR _ _ _ _ _ (m d) _ _
  generalize m d = z
  intro p
  cases z with
  | ok y => exact p
  | err e => exact fun I' H' _ c d f x => p I' H' c d f.1 ⟨f.2, x⟩
  | stuck => exact p
/-- self.f = e within __init__ -/
theorem J1.sfldJ (i j : Nat) {x C dx : Addr} {f sn : Str} {p1 : Pos} {gs : List (Str × SF)} [mo : Mo r] {m : Res α} (je : JE X I0 H0 W ctx mem e m (rp r)) (cl : Cls X.K C) (hn : NoAttr X.K C f) (hg : gs.length < 1000) (hx : ∀ I H σ d, Stt I0 H0 ctx mem I H σ → Fr H0 d → Kx I H σ d) (hj : mem[j]? = some (MF.ins x C dx gs) := by rfl)
    (hc : ctx[i]? = some (some (SF.mk (rRef x) ())) := by rfl) (hN : X.N[i]? = some sn := by rfl) (hv : Vis X.env.scope sn := by first | exact Or.inl rfl | exact Or.inr (Or.inl rfl) | exact Or.inr (Or.inr rfl)) (hd : (sn == ("__debug__" : Str)) = false := by decide)
    (hcd : (sn == ("__classdict__" : Str)) = false := by decide) (hs : swapsWith e (some (.Attribute (.Name sn p1) f pos')) pos.line X.env = pure false := by rfl) :
    J1 X W Kx (Stt I0 H0 ctx mem) (.Assign [.Attribute (.Name sn p1) f pos'] e pos) m (fun y => Stt I0 H0 ctx (mem.set j (.ins x C dx (putG f ⟨r, y⟩ gs)))) := fun I H σ D g p => by
  refine s_fld (je I H σ _ g ?_) hs
  cases m with
  | ok y =>
    intro I1 H1 v f1 h1
    have g1 := g.step f1
    obtain ⟨u, eu, hu⟩ := g1.sl i _ hc
    cases (show u = V.ref x from hu)
    obtain ⟨_, _, oo, zH, fs, eo, hf⟩ := g1.insAt (l := x) hj
    subst eo
    refine w_var i ⟨x, C, dx, fs, rfl, zH, cl, hn, ?_, ?_⟩ eu hN hv hd hcd
    · rw [hf.length]; exact hg
    · exact p I1 _ σ f1.i (g1.cellAt (l := x) (c' := .ins x C dx (putG f ⟨r, y⟩ gs)) j hj (fun q => q.1) ⟨rfl, _, upd_same, _, rfl, hf.put h1⟩)
  | err e => exact fun I' H' c d f x => p I' H' σ c d (hx _ _ _ _ (g.step f) (x.1.back g.fm.h)) x.2
  | stuck => exact p
/-- an __init__ that makes its object whole, with the fields gs -/
theorem FunD.initI {P : Program} {w : World} {K : PySem.W.Frag} {mg : Str → Option Value} {base : Heap} {x qual : Str} {params : Arguments} {body : List Stmt} {scope : Scope} {dvs : List V} {kws : List (Str × V)} {f C : Addr} {fd : FuncData} {N ps : List Str} {k : Nat} {m : δ → Res α} {gs : α → List (Str × SF)} (F : FunD K x qual params body scope dvs kws f fd) (Sc : FnScope N ps scope) (len : ∀ I H vs d, R I H vs d → vs.length + 1 = ps.length)
    (hb : ∀ (cdv : Value) (A : Around) (outer : List Env) (s : Shared) (I0 H0 H1 : Hp) (E : XK) (vs : List V) (d : δ) (y dx : Addr), Room k (A.deeper (envOfC qual scope s.heap.objs.size f cdv)) → Same I0 H0 → R I0 H0 vs d → H1 = upd (upd H0 dx (.own y)) y (.ins C dx []) →
      ∃ ctx : List (Option SF), ctx.length = N.length ∧ vs.length + 1 ≤ N.length ∧ IniR I0 (.ref y :: vs) ctx ∧ JN (bx P w K mg base N qual scope f cdv A outer s H1 E) (bW E) (bK I0 H0) (Stt I0 H0 ctx [.ins y C dx []]) body (m d) (fun s I H σ => ∃ ctx, Stt I0 H0 ctx [.ins y C dx (gs s)] I H σ)) : FnOk P w K mg base (L2N.CX P w) (k + 1) f fd ps (spI K C R m (rp (rIns C gs))) := by
  refine FunD.init (S := α) F Sc len fun cdv A outer s I0 H0 H1 E vs d y dx hr sm h n1 n2 n3 eH => ?_
  obtain ⟨ctx, l1, l2, ini, j⟩ := hb cdv A outer s I0 H0 H1 E vs d y dx hr sm h eH
  refine ⟨_, α, m d, _, ?_, j, ?_⟩
  · subst eH
    have hl : (L2.start N (.ref y :: vs)).length = ctx.length := by
      rw [l1]; show (List.map some (V.ref y :: vs) ++ List.replicate (N.length - (V.ref y :: vs).length) none).length = _
      rw [List.length_append, List.length_map, List.length_replicate, List.length_cons]; omega
    exact Stt.fresh sm n1 n2 n3 hl fun i sf e => ini.get i sf e
  · generalize m d = z
    cases z with
    | err e => rfl
    | stuck => rfl
    | ok q =>
      refine ⟨q, rfl, fun I' H' σ' ⟨ctx, g⟩ => ?_⟩
      obtain ⟨fs, I2, e1, hf, g2, sm2, e2⟩ := g.freeze
      exact ⟨I2, g2.fm, y, dx, fs, rfl, e2, FldR.up sm2 hf⟩
/-! ### tuples of kinds -/
def rTu (R : Hp → Hp → List V → δ → Prop) : Rp δ := fun I v x => ∃ l vs, v = .ref l ∧ I l = some (.tup vs) ∧ R I I vs x
instance [m : MoR R] : Mo (rTu R) := ⟨fun s ⟨l, vs, e, h, p⟩ => ⟨l, vs, e, s _ _ h, m.up s s p⟩⟩
/-- arguments that lean on the frozen heap alone -/
class Ice (R : Hp → Hp → List V → δ → Prop) : Prop where
  ice : ∀ {I H H' : Hp} {vs : List V} {x : δ}, R I H vs x → R I H' vs x
instance : Ice aNil := ⟨fun h => h⟩
instance [m : Ice R] : Ice (aCons (rp r) R) := ⟨fun ⟨v, ws, e, h, h'⟩ => ⟨v, ws, e, h, m.ice h'⟩⟩
theorem JE.tupD {k : Nat} {x1} [m : MoR R] [ic : Ice R] (j : JA X I0 H0 W ctx mem es md R) (hk : ∀ I H vs x, R I H vs x → vs.length = k) (hz : k ≤ sizeLine := by decide) : JE X I0 H0 W ctx mem (.Tuple es x1 pos) md (rp (rTu R)) := fun I H σ Q st p => by
  refine w_tup (j I H σ _ st ?_)
  cases md with
  | ok x =>
    intro I1 H1 vs f1 r1
    refine ⟨by rw [hk _ _ _ _ r1]; exact hz, fun q hq => ?_⟩
    have fn := Fm.new (o := .tup vs) f1.ih hq
    exact p _ _ _ (f1.trans fn) ⟨q, vs, rfl, upd_same, m.up fn.i fn.i (ic.ice r1)⟩
  | err e => exact p
  | stuck => exact p
/-- the k-th item -/
def AtR (R : Hp → Hp → List V → δ → Prop) (k : Nat) (r : Rp α) (get : δ → α) : Prop := ∀ I vs x, R I I vs x → ∃ w, vs[k]? = some w ∧ r I w (get x)
theorem AtR.zero : AtR (aCons (rp r) R) 0 r (fun x => x.1) := fun I vs x ⟨v, ws, e, h, _⟩ => ⟨v, by rw [e]; rfl, h⟩
theorem AtR.succ {k : Nat} {get : δ → α} (h : AtR R k r get) : AtR (aCons rb R) (k + 1) r (fun x => get x.2) := fun I vs x ⟨v, ws, e, _, h'⟩ => by
  obtain ⟨w, h1, h2⟩ := h I ws x.2 h'
  exact ⟨w, by rw [e]; exact h1, h2⟩
theorem atI_nat {xs : List V} {k : Nat} {w : V} (h : xs[k]? = some w) : atI xs (k : Int) = some w := by
  have hl := (List.getElem?_eq_some_iff.mp h).1
  unfold atI ixN
  rw [if_pos (by omega), if_pos (by omega), Option.bind_some, Int.toNat_natCast]
  exact h
theorem JE.ixD (k : Nat) {j : Nat} {i : Int} {get : δ → α} [mo : Mo r] (ja : JE X I0 H0 W ctx mem a md (rp (rTu R))) (hat : AtR R k r get) (hi : i = (k : Int) := by rfl) (hs : PlainIx (.Constant (.int i) j p2) := by exact fun _ _ => rfl) :
    JE X I0 H0 W ctx mem (.Subscript a (.Constant (.int i) j p2) pos) (md.bind fun x => .ok (get x)) (rp r) := fun I H σ Q st p => by
  refine PE.w (pe_ix ix_tup pe_W pe_W hs) (ja I H σ _ st ?_)
  cases md with
  | ok x =>
    rintro I1 H1 u f1 ⟨l, vs, rfl, hl, pr⟩
    obtain ⟨w, h1, h2⟩ := hat I1 vs x pr
    exact w_int ⟨l, vs, i, w, rfl, rfl, SqT.of (f1.ih _ _ hl), by rw [hi]; exact atI_nat h1, p I1 H1 w f1 h2⟩
  | err e => exact p
  | stuck => exact p
end
def fnX (K : PySem.W.Frag) (a : Addr) : FnW := match K.lookup a with
  | some ⟨_, _, .func fd, _⟩ => some (fd.name, fd.qualname, fd.params, fd.body, fd.scope, fd.globals, fd.closure, fd.builtins)
  | _ => none
structure DX where
  at_ : PySem.W.Frag → Addr
  name : Str
  qual : Str
  params : Arguments
  body : List Stmt
  scope : Scope
  dfl : List Dv
  kwd : List (Str × Dv)
def DX.val (d : DX) : FnW := some (d.name, d.qual, d.params, .stmts d.body, d.scope, mainGlobals, [], builtinsNs)
def DX.ok (d : DX) (K : PySem.W.Frag) : Bool := PySem.W.keepIn K (.ref (d.at_ K)) && (match K.lookup (d.at_ K) with
  | some ⟨_, _, .func fd, _⟩ => PySem.W.codeIn K fd.code d.qual && (dflB K fd.defaults (d.dfl.map (Dv.v K)) && kwdB K fd.kwdefaults (d.kwd.map fun q => (q.1, q.2.v K)))
  | _ => false)
theorem DX.funD {K : PySem.W.Frag} {d : DX} (e : fnX K (d.at_ K) = d.val) (c : d.ok K = true) : ∃ fd, FunD K d.name d.qual d.params d.body d.scope (d.dfl.map (Dv.v K)) (d.kwd.map fun q => (q.1, q.2.v K)) (d.at_ K) fd := by
  obtain ⟨kp, c2⟩ := ba c
  unfold fnX at e
  generalize ha : d.at_ K = ad at *
  cases q : K.lookup ad with
  | none => rw [q] at c2; cases c2
  | some ob =>
    obtain ⟨oc, od, dt, osl⟩ := ob
    rw [q] at c2 e
    cases dt with
    | func fd =>
      obtain ⟨n1, n2, n3, n4, n5, n6, n7, n8, n9, n10, n11, n12, n13, n14, n15⟩ := fd
      have e2 : (some (n1, n2, n3, n4, n5, n6, n7, n15) : FnW) = some (d.name, d.qual, d.params, .stmts d.body, d.scope, mainGlobals, [], builtinsNs) := e
      simp only [Option.some.injEq, Prod.mk.injEq] at e2
      obtain ⟨h1, h2, h3, h4, h5, h6, h7, h8⟩ := e2
      subst h1 h2 h3 h4 h5 h6 h7 h8
      have c3 : (PySem.W.codeIn K n13 d.qual && (dflB K n8 (d.dfl.map (Dv.v K)) && kwdB K n9 (d.kwd.map fun q => (q.1, q.2.v K)))) = true := c2
      obtain ⟨k1, k2⟩ := ba c3
      obtain ⟨k3, k4⟩ := ba k2
      exact ⟨_, ⟨oc, od, n8, n9, n10, n11, n12, n13, n14, osl, rfl, q, k1, dflB_ok k3, kwdB_ok k4⟩, kp⟩
    | _ => cases c2
def obsY (fs : List FB) (fn : List DX) (K : PySem.W.Frag) : AlX := ((fs.all fun f => f K) && fn.all fun d => d.ok K, fn.map fun d => fnX K (d.at_ K))
def valY (fn : List DX) : AlX := (true, fn.map DX.val)
def SaysY (fs : List FB) (fn : List DX) (K : PySem.W.Frag) : Prop := obsY fs fn K = valY fn
theorem SaysY.fact {fs : List FB} {fn : List DX} {K : PySem.W.Frag} (c : SaysY fs fn K) (i : Nat) {f : FB} (h : fs[i]? = some f := by rfl) : f K = true := by
  have c1 := (ba (show ((fs.all fun f => f K) && fn.all fun d => d.ok K) = true from congrArg (fun z : AlX => z.1) c)).1
  exact List.all_eq_true.mp c1 f (List.mem_of_getElem? h)
theorem SaysY.def_ {fs : List FB} {fn : List DX} {K : PySem.W.Frag} (c : SaysY fs fn K) (i : Nat) {d : DX} (h : fn[i]? = some d := by rfl) : ∃ fd, FunD K d.name d.qual d.params d.body d.scope (d.dfl.map (Dv.v K)) (d.kwd.map fun q => (q.1, q.2.v K)) (d.at_ K) fd := by
  have c2 := (ba (show ((fs.all fun f => f K) && fn.all fun d => d.ok K) = true from congrArg (fun z : AlX => z.1) c)).2
  have e : fn.map (fun d => fnX K (d.at_ K)) = fn.map DX.val := congrArg (fun z : AlX => z.2) c
  have e2 : (fn.map fun d => fnX K (d.at_ K))[i]? = (fn.map DX.val)[i]? := by rw [e]
  rw [List.getElem?_map, List.getElem?_map, h] at e2
  exact DX.funD (Option.some.inj e2) (List.all_eq_true.mp c2 d (List.mem_of_getElem? h))
end L2.Tr

namespace L2.Tr
open PySem PySem.Spec PyProof.Rows He
section
variable {α β γ δ S L : Type} {X : Cx} {I0 H0 I H : Hp} {W : WX} {Kx : KnowsX} {G : Knows} {ctx : List (Option SF)} {mem : List MF} {e a b c o : Expr} {es : List Expr} {st : Stmt} {ss s1 : List Stmt} {pos pos' p2 : Pos} {n : Str} {σ : St} {Q : VK} {r : Rp α} {ra : Ra α} {rb : Ra β} {rc : Ra γ} {rr : Ra γ} {ma : Res α} {mb : Res β} {mc : Res Bool} {md : Res δ} {R : Hp → Hp → List V → δ → Prop} {K : PySem.W.Frag}
theorem JE.hMap {m : Res (List α)} {rb : Rp β} {f : α → β} (j : JE X I0 H0 W ctx mem e m (rH r)) (h : ∀ I H v x, rp r I H v x → rp rb I H v (f x)) : JE X I0 H0 W ctx mem e (m.bind fun xs => .ok (xs.map f)) (rH rb) := j.map fun I H _ _ _ ⟨l, vs, e, hl, p⟩ => ⟨l, vs, e, hl, paired_map (h I H) p⟩
theorem tyr_list {t : String} {g : Bool} (h : kitB "list" t = some g) : TyR K (rp (rL r)) (.type t) (fun _ => g) := fun I H v x s ⟨l, vs, e, hl, _⟩ => ⟨.type "list", by rw [e]; exact .base (.lst (s _ _ hl)), kit_ty h⟩
theorem JN.raiseP {x m : Str} {j : Nat} {p1 p2 p3 : Pos} {G' : S → Knows} (hc : X.calm = true) (tk : L2N.Takes X W) (ep : ExcP X.K X.mg x) (hx : ∀ I H σ d, Stt I0 H0 ctx mem I H σ → Fr H0 d → Kx I H σ d) (hg : Gl X x := by rfl) (hdb : (x == ("__debug__" : Str)) = false := by decide) :
    JN X W Kx (Stt I0 H0 ctx mem) (.Raise (some (.Call (.Name x p1) [.Constant (.str m) j p2] [] p3)) none pos :: ss) (.err ⟨x, []⟩ : Res S) G' := fun I H σ D g p =>
  b_cons (J1.raiseP (S := S) (G' := G') hc tk ep hx hg hdb I H σ _ g p)
theorem JN.ifT {m1 m2 : Res S} {G' : S → Knows} (j : JT X I0 H0 W ctx mem c mc) (k1 : JN X W Kx (Stt I0 H0 ctx mem) s1 m1 (fun _ _ _ _ => False)) (k2 : JN X W Kx (Stt I0 H0 ctx mem) ss m2 G') (hx : ∀ I H σ d, Stt I0 H0 ctx mem I H σ → Fr H0 d → Kx I H σ d) :
    JN X W Kx (Stt I0 H0 ctx mem) (.If c s1 [] pos :: ss) (mc.bind fun x => if x = true then m1 else m2) G' := fun I H σ D g p => by
  refine b_cons (s_if (j I H σ _ g ?_))
  cases mc with
  | ok x =>
    intro I1 H1 v f r y hy
    cases r; cases hy
    cases x with
    | true =>
      refine iteT (b_mono (k1 I1 H1 σ { D with nx := fun _ _ => False } (g.step f) ?_) (fun _ _ z => z.elim) (fun _ _ z => z) (fun _ _ z => z) (fun _ _ z => z))
      have p1 : PostB X W Kx I1 m1 _ _ := PostB.up p f.i
      cases m1 with
      | ok a => exact fun _ _ _ _ z => z
      | err e => exact p1
      | stuck => exact p1
    | false => exact iteF (b_nil (k2 I1 H1 σ D (g.step f) (PostB.up p f.i)))
  | err e => exact fun I' H' c d f x => p I' H' σ c d (hx _ _ _ _ (g.step f) (x.1.back g.fm.h)) x.2
  | stuck => exact p
/-! ### comprehensions: what may be raised within is handed on -/
theorem JM.lcT {iter elt : Expr} {rb : Rp β} (j : Nat) [mo : Mo r] [mb : Mo rb] {m : Res (List β)} {f : β → Res α} {scope : Scope} (ji : JI X I0 H0 W ctx mem (.Name n pos') iter m rb)
    (je : ∀ (s : Shared) (H : Hp) (C : Addr) (cl : List (Str × Addr)) (fp : List Addr) (D : Addr) (acc : List α) (x : β), L2N.Takes (X.blkC s H scope (compEnvC scope cl C X.env) fp) W0 → JE (X.blkC s H scope (compEnvC scope cl C X.env) fp) I0 H0 W0 (ctx.set j (some ⟨rb, x⟩)) (MF.lst D r acc :: mem) elt (f x) (rp r))
    (hN : X.N.Nodup) (ok : BlkOk X.N X.env.scope scope [(n, j)]) (hj : X.N[j]? = some n := by rfl) (hc : Cool X := by first | exact .inl rfl | exact .inr ⟨_, by assumption, List.mem_cons_self⟩) (hsc : Loc (relabel scope X.env) n := by first | exact Or.inl rfl | exact Or.inr rfl) (hfn : (scope.names.lookup n == some .cell) = true ∨ (relabel scope X.env).names.lookup n = some .local := by first | exact .inr rfl | exact .inl rfl) (hs : ∀ x, foldedSetIterable iter X.env x = pure x := by intro _; rfl) :
    JM X I0 H0 W ctx mem (.ListComp elt [⟨.Name n pos', iter, [], 0⟩] scope pos) (m.bind fun xs => lcR f xs) r := JM.lc j ji (fun s H C cl fp D acc x => je s H C cl fp D acc x takes0) hN ok hj hc hsc hfn hs
theorem J1.setLcT {iter elt : Expr} {rb : Rp β} (i j : Nat) {y : Str} {py spos : Pos} [mo : Mo r] [mb : Mo rb] {m : Res (List β)} {f : β → Res α} {scope : Scope} (ji : JI X I0 H0 W ctx mem (.Name n pos') iter m rb)
    (je : ∀ (s : Shared) (H : Hp) (C : Addr) (cl : List (Str × Addr)) (fp : List Addr) (D : Addr) (acc : List α) (x : β), L2N.Takes (X.blkC s H scope (compEnvC scope cl C X.env) fp) W0 → JE (X.blkC s H scope (compEnvC scope cl C X.env) fp) I0 H0 W0 (ctx.set j (some ⟨rb, x⟩)) (MF.lst D r acc :: mem) elt (f x) (rp r))
    (hx : ∀ I H σ d, Stt I0 H0 ctx mem I H σ → Fr H0 d → Kx I H σ d) (hN : X.N.Nodup) (ok : BlkOk X.N X.env.scope scope [(n, j)]) (hi : X.N[i]? = some y := by rfl) (hyl : X.env.scope.names.lookup y = some .local := by rfl)
    (hsw : swapsWith (.ListComp elt [⟨.Name n pos', iter, [], 0⟩] scope pos) (some (.Name y py)) spos.line X.env = pure true := by rfl) (hj : X.N[j]? = some n := by rfl) (hc : Cool X := by first | exact .inl rfl | exact .inr ⟨_, by assumption, List.mem_cons_self⟩) (hsc : Loc (relabel scope X.env) n := by first | exact Or.inl rfl | exact Or.inr rfl) (hfn : (scope.names.lookup n == some .cell) = true ∨ (relabel scope X.env).names.lookup n = some .local := by first | exact .inr rfl | exact .inl rfl) (hs : ∀ x, foldedSetIterable iter X.env x = pure x := by intro _; rfl) :
    J1 X W Kx (Stt I0 H0 ctx mem) (.Assign [.Name y py] (.ListComp elt [⟨.Name n pos', iter, [], 0⟩] scope pos) spos) (m.bind fun xs => lcR f xs) (fun xs I H σ => ∃ l, Stt I0 H0 (ctx.set i (some ⟨rRef l, ()⟩)) (MF.lst l r xs :: mem) I H σ) :=
  J1.setLc i j ji (fun s H C cl fp D acc x => je s H C cl fp D acc x takes0) hx hN ok hi hyl hsw hj hc hsc hfn hs
end
/-! ### a comprehension's names -/
def blkB (N : List Str) (sc scope : Scope) (own : List (Str × Nat)) : Bool := decide (scope.kind = .function) && ((scope.names.all fun y => decide (scope.names.lookup y.1 = some y.2)) && ((own.all fun p => decide (N[p.2]? = some p.1)) &&
  ((scope.names.all fun y => !decide (y.2 = .free) || (decide (sc.names.lookup y.1 = some .cell) || decide (sc.names.lookup y.1 = some .free))) && (scope.names.all fun y => !(decide (y.2 = .local) || decide (y.2 = .cell)) || ((own.map (·.1)).contains y.1 || !N.contains y.1)))))
theorem blkok_of {N : List Str} {sc scope : Scope} {own : List (Str × Nat)} (h : blkB N sc scope own = true) : BlkOk N sc scope own := by
  obtain ⟨h1, h⟩ := ba h
  obtain ⟨h2, h⟩ := ba h
  obtain ⟨h3, h⟩ := ba h
  obtain ⟨h4, h5⟩ := ba h
  refine ⟨of_decide_eq_true h1, fun y hy => of_decide_eq_true (List.all_eq_true.mp h2 y hy), fun p hp => of_decide_eq_true (List.all_eq_true.mp h3 p hp), fun y hy e => ?_, fun y hy e => ?_⟩
  · have z := List.all_eq_true.mp h4 y hy
    rw [decide_eq_true e, Bool.not_true, Bool.false_or, Bool.or_eq_true] at z
    exact z.imp of_decide_eq_true of_decide_eq_true
  · have z := List.all_eq_true.mp h5 y hy
    have e2 : (decide (y.2 = .local) || decide (y.2 = .cell)) = true := by
      rcases e with e | e
      · rw [decide_eq_true e, Bool.true_or]
      · rw [decide_eq_true e, Bool.or_true]
    rw [e2, Bool.not_true, Bool.false_or, Bool.or_eq_true] at z
    rcases z with z | z
    · exact .inl (by simpa using z)
    · exact .inr (by simpa using z)
end L2.Tr

namespace L2.Tr
open PySem PySem.Spec PyProof.Rows
/-! ### plain Lean: mirrors that end well -/
theorem Res.okb {α β : Type} (a : α) (f : α → Res β) : (Res.ok a).bind f = f a := by
  have h : ∀ m : Res α, m = .ok a → m.bind f = f a := fun m e => by subst e; rfl
  exact h _ rfl
theorem Fl.okb_nx {S T L γ : Type} (f : S → Res (Fl T L γ)) (s : S) : Fl.then f (.nx s) = f s := by
  have h : ∀ m : Fl S L γ, m = .nx s → Fl.then f m = f s := fun m e => by subst e; rfl
  exact h _ rfl
theorem Fl.okb_out {S L γ : Type} (f : S → Res γ) (s : S) : Fl.out (L := L) f (.nx s) = f s := by
  have h : ∀ m : Fl S L γ, m = .nx s → Fl.out f m = f s := fun m e => by subst e; rfl
  exact h _ rfl
section
variable {α β γ S L : Type} {m : Res α} {P P' : α → Prop} {f : α → Res β} {Q : β → Prop}
def Ok (m : Res α) (P : α → Prop) : Prop := ∃ a, m = .ok a ∧ P a
theorem Ok.ok {a : α} (h : P a) : Ok (.ok a) P := ⟨a, rfl, h⟩
theorem Ok.bind (h : Ok m P) (k : ∀ a, P a → Ok (f a) Q) : Ok (m.bind f) Q := by
  obtain ⟨a, e, p⟩ := h
  rw [e]; exact k a p
theorem Ok.mono (h : Ok m P) (k : ∀ a, P a → P' a) : Ok m P' := by
  obtain ⟨a, e, p⟩ := h
  exact ⟨a, e, k a p⟩
theorem Ok.of {a : α} (e : m = .ok a) (h : P a) : Ok m P := ⟨a, e, h⟩
theorem Ok.eq {a : α} (h : Ok m (fun x => x = a)) : m = .ok a := by
  obtain ⟨b, e, p⟩ := h
  rw [e, p]
theorem Ok.guard {p : Prop} [Decidable p] (hp : p) (h : Ok m P) : Ok (Res.guard p m) P := by rw [Res.guard_pos hp]; exact h
/-- a loop -/
theorem forS_ok {f : β → S → Res S} (Inv : Nat → S → Prop) : ∀ {xs : List β} {k : Nat} {s : S}, Inv k s → (∀ i x s, xs[i]? = some x → Inv (k + i) s → Ok (f x s) (Inv (k + i + 1))) → Ok (forS f xs s) (Inv (k + xs.length))
  | [], k, s, h, _ => .ok h
  | x :: xs, k, s, h, hf => by
    refine Ok.bind (hf 0 x s rfl h) fun s' h' => ?_
    have := forS_ok (f := f) Inv (xs := xs) (k := k + 1) (s := s') h' fun i y t e ht => by
      have := hf (i + 1) y t (by simpa using e) (by rw [show k + (i + 1) = k + 1 + i by omega]; exact ht)
      rw [show k + 1 + i + 1 = k + (i + 1) + 1 by omega]; exact this
    rw [List.length_cons, show k + (xs.length + 1) = k + 1 + xs.length by omega]
    exact this
theorem Ok.forS {f : β → S → Res S} {xs : List β} {s : S} (Inv : Nat → S → Prop) (h0 : Inv 0 s) (hf : ∀ i x s, xs[i]? = some x → Inv i s → Ok (f x s) (Inv (i + 1))) : Ok (Tr.forS f xs s) (Inv xs.length) := by
  have := forS_ok (f := f) Inv (xs := xs) (k := 0) h0 fun i x t e ht => by rw [Nat.zero_add] at ht ⊢; exact hf i x t e ht
  rwa [Nat.zero_add] at this
/-- what a turn of a loop with early ends hands on -/
def FlP (N : S → Prop) (B : S → Prop) (R : γ → Prop) : Fl S S γ → Prop
  | .nx s => N s
  | .ct s => N s
  | .bk s => B s
  | .rt y => R y
def FlQ (N : S → Prop) (R : γ → Prop) : Fl S L γ → Prop
  | .nx s => N s
  | .rt y => R y
  | _ => False
theorem forG_ok {L : Type} {f : β → S → Res (Fl S S γ)} (Inv : Nat → S → Prop) (B : S → Prop) (R : γ → Prop) : ∀ {xs : List β} {k : Nat} {s : S}, Inv k s → (∀ i x s, xs[i]? = some x → Inv (k + i) s → Ok (f x s) (FlP (Inv (k + i + 1)) B R)) → Ok (forG f xs s : Res (Fl S L γ)) (FlQ (fun s => Inv (k + xs.length) s ∨ B s) R)
  | [], k, s, h, _ => .ok (.inl h)
  | x :: xs, k, s, h, hf => by
    refine Ok.bind (hf 0 x s rfl h) fun r hr => ?_
    have next : ∀ s', Inv (k + 1) s' → Ok (forG f xs s' : Res (Fl S L γ)) (FlQ (fun s => Inv (k + (x :: xs).length) s ∨ B s) R) := fun s' h' => by
      have : Ok (forG f xs s' : Res (Fl S L γ)) _ := forG_ok (f := f) Inv B R (xs := xs) (k := k + 1) (s := s') h' fun i y t e ht => by
        have := hf (i + 1) y t (by simpa using e) (by rw [show k + (i + 1) = k + 1 + i by omega]; exact ht)
        rw [show k + 1 + i + 1 = k + (i + 1) + 1 by omega]; exact this
      rw [List.length_cons, show k + (xs.length + 1) = k + 1 + xs.length by omega]
      exact this
    cases r with
    | nx s' => exact next s' hr
    | ct s' => exact next s' hr
    | bk s' => exact .ok (.inr hr)
    | rt y => exact .ok hr
theorem Ok.forG {f : β → S → Res (Fl S S γ)} {xs : List β} {s : S} (Inv : Nat → S → Prop) (B : S → Prop) (R : γ → Prop) (h0 : Inv 0 s) (hf : ∀ i x s, xs[i]? = some x → Inv i s → Ok (f x s) (FlP (Inv (i + 1)) B R)) : Ok (Tr.forG f xs s : Res (Fl S L γ)) (FlQ (fun s => Inv xs.length s ∨ B s) R) := by
  have := forG_ok (L := L) (f := f) Inv B R (xs := xs) (k := 0) h0 fun i x t e ht => by rw [Nat.zero_add] at ht ⊢; exact hf i x t e ht
  rwa [Nat.zero_add] at this
/-- a loop that only tests: no early end -/
theorem forG_all {f : β → Unit → Res (Fl Unit Unit γ)} {xs : List β} (hf : ∀ x, x ∈ xs → f x () = .ok (.nx ())) : (Tr.forG f xs () : Res (Fl Unit L γ)) = .ok (.nx ()) := by
  induction xs with
  | nil => rfl
  | cons x xs ih =>
    show (f x ()).bind _ = _
    rw [hf x (List.mem_cons_self)]
    exact ih fun y hy => hf y (List.mem_cons_of_mem _ hy)
theorem Ok.whileM {c : S → Res Bool} {f : S → Res S} (Inv : S → Prop) (E : S → Prop) (μ : S → Nat) (hc : ∀ s, Inv s → Ok (c s) fun b => (b = true → Ok (f s) fun s' => Inv s' ∧ μ s' < μ s) ∧ (b = false → E s)) : ∀ {n : Nat} {s : S}, Inv s → μ s < n → Ok (Tr.whileM c f n s) E
  | 0, _, _, h => absurd h (Nat.not_lt_zero _)
  | n + 1, s, hi, hm => by
    refine Ok.bind (hc s hi) fun b hb => ?_
    cases b with
    | true =>
      rw [if_pos rfl]
      exact Ok.bind (hb.1 rfl) fun s' h' => Ok.whileM Inv E μ hc h'.1 (by omega)
    | false => rw [if_neg (by decide)]; exact .ok (hb.2 rfl)
/-! comprehensions -/
theorem lcM_eq {f : β → Res α} {g : β → α} : ∀ {xs : List β}, (∀ x, x ∈ xs → f x = .ok (g x)) → lcM f xs = .ok (xs.map g)
  | [], _ => rfl
  | x :: xs, h => by
    unfold lcM
    rw [h x (List.mem_cons_self), lcM_eq (xs := xs) fun y hy => h y (List.mem_cons_of_mem _ hy)]
    rfl
theorem lcR_eq {f : β → Res α} {g : β → α} {xs : List β} (hl : xs.length ≤ sizeLine) (h : ∀ x, x ∈ xs → f x = .ok (g x)) : lcR f xs = .ok (xs.map g) := by
  unfold lcR
  rw [Res.guard_pos hl, lcM_eq h]
theorem lcM_ok {f : β → Res α} {P : β → α → Prop} : ∀ {xs : List β}, (∀ x, x ∈ xs → Ok (f x) (P x)) → Ok (lcM f xs) fun ys => ys.length = xs.length ∧ ∀ (i : Nat) x y, xs[i]? = some x → ys[i]? = some y → P x y
  | [], _ => .ok ⟨rfl, fun i x y e => by simp at e⟩
  | x :: xs, h => by
    unfold lcM
    obtain ⟨y, e, p⟩ := h x (List.mem_cons_self)
    rw [e]
    refine Ok.bind (lcM_ok (xs := xs) fun z hz => h z (List.mem_cons_of_mem _ hz)) fun ys ⟨h1, h2⟩ => .ok ⟨by rw [List.length_cons, List.length_cons, h1], fun i a b ea eb => ?_⟩
    cases i with
    | zero => simp at ea eb; rw [← ea, ← eb]; exact p
    | succ i => exact h2 i a b (by simpa using ea) (by simpa using eb)
theorem Ok.lcR {f : β → Res α} {P : β → α → Prop} {xs : List β} (hl : xs.length ≤ sizeLine) (h : ∀ x, x ∈ xs → Ok (f x) (P x)) : Ok (Tr.lcR f xs) fun ys => ys.length = xs.length ∧ ∀ (i : Nat) x y, xs[i]? = some x → ys[i]? = some y → P x y := .guard hl (lcM_ok h)
/-! ranges, indices -/
theorem rngI_len (lo : Int) (n : Nat) : (rngI lo n).length = n := by simp [rngI]
theorem rngI_get {lo : Int} {n i : Nat} {x : Int} (h : (rngI lo n)[i]? = some x) : x = lo + (i : Int) ∧ i < n := by
  have hl := (List.getElem?_eq_some_iff.mp h).1
  rw [rngI_len] at hl
  refine ⟨?_, hl⟩
  unfold rngI at h
  rw [List.getElem?_map, List.getElem?_range hl] at h
  simpa using h.symm
theorem rngI_mem {lo : Int} {n : Nat} {x : Int} (h : x ∈ rngI lo n) : lo ≤ x ∧ x < lo + (n : Int) := by
  obtain ⟨i, e⟩ := List.getElem?_of_mem h
  obtain ⟨e1, e2⟩ := rngI_get e
  omega
theorem rangeM1_ok {hi : Int} (h : -(2 ^ 62) ≤ hi ∧ hi < 2 ^ 62) : rangeM1 hi = .ok (rngI 0 hi.toNat) := Res.guard_pos h _
theorem rangeM_ok {lo hi : Int} (h : -(2 ^ 62) ≤ lo ∧ lo < 2 ^ 62 ∧ -(2 ^ 62) ≤ hi ∧ hi < 2 ^ 62) : rangeM lo hi = .ok (rngI lo (hi - lo).toNat) := Res.guard_pos h _
theorem rngI_eq (n : Nat) : rngI 0 n = (List.range n).map fun (i : Nat) => (i : Int) := by simp [rngI]
theorem atM_get {xs : List α} {i : Int} {x : α} (h0 : 0 ≤ i) (h : xs[i.toNat]? = some x) : atM xs i = .ok x := by
  have e := atM_nat h
  rwa [Int.toNat_of_nonneg h0] at e
theorem atM_lt {xs : List α} {i : Int} (h0 : 0 ≤ i) (h : i.toNat < xs.length) : atM xs i = .ok xs[i.toNat] := atM_get h0 (List.getElem?_eq_getElem h)
end
/-! ### whole numbers by sizes -/
theorem mulI_le {a b : Int} {s t : Nat} (ha : a.natAbs ≤ 2 ^ s) (hb : b.natAbs ≤ 2 ^ t) (hs : s + t < 1000000) : mulI a b = .ok (a * b) := mulI_ok (by
  have h1 := log2_mono ha
  have h2 := log2_mono hb
  rw [Nat.log2_two_pow] at h1 h2
  omega)
theorem powI_le {x : Int} {y s : Nat} (h : x.natAbs ≤ 2 ^ s) (hs : (s + 1) * y ≤ 2 ^ 27) : powI x (y : Int) = .ok (x ^ y) := by
  have h1 := log2_mono h
  rw [Nat.log2_two_pow] at h1
  unfold powI
  rw [Res.guard_pos ⟨by omega, .inr (by rw [Int.toNat_natCast]; exact Nat.le_trans (Nat.mul_le_mul_right y (by omega)) hs)⟩]
  rfl
theorem fdivI_pos {x y : Int} (h : 0 < y) (hl : y < 2 ^ 4000) : fdivI x y = .ok (x / y) := by
  have e : y.natAbs ≤ 2 ^ 4000 := by omega
  have h1 := log2_mono e
  rw [Nat.log2_two_pow] at h1
  rw [fdivI_ok (by omega) (by omega), Int.fdiv_eq_ediv_of_nonneg _ (by omega)]
theorem modI_pos {x y : Int} (h : 0 < y) : modI x y = .ok (x % y) := by
  rw [modI_ok (by omega), Int.fmod_eq_emod_of_nonneg _ (by omega)]
/-! ### fractions z / D with a whole z of at most B -/
def DB (D B : Nat) (q : Rat) : Prop := 0 < D ∧ ∃ z : Int, q = Rat.divInt z (D : Int) ∧ z.natAbs ≤ B
theorem DB.fits {D B : Nat} {q : Rat} (h : DB D B q) (hD : D ≤ 2 ^ 4000) (hB : B ≤ 2 ^ 4000) : fits q := by
  obtain ⟨h0, z, e, hz⟩ := h
  rw [e]
  exact Sz.fits (sz_divInt (s := 4000) (by omega) (by rw [Int.natAbs_natCast]; exact hD))
theorem DB.mono {D B C : Nat} {q : Rat} (h : DB D B q) (hB : B ≤ C) : DB D C q := let ⟨h0, z, e, hz⟩ := h; ⟨h0, z, e, Nat.le_trans hz hB⟩
theorem DB.up {D B k : Nat} {q : Rat} (h : DB D B q) (hk : 0 < k) : DB (D * k) (B * k) q := by
  obtain ⟨h0, z, e, hz⟩ := h
  refine ⟨Nat.mul_pos h0 hk, z * (k : Int), ?_, ?_⟩
  · rw [e, Int.natCast_mul, Rat.divInt_mul_right (by omega)]
  · rw [Int.natAbs_mul, Int.natAbs_natCast]; exact Nat.mul_le_mul_right k hz
theorem DB.dvd {D E B : Nat} {q : Rat} (h : DB D B q) (hd : D ∣ E) (hE : 0 < E) : DB E (B * (E / D)) q := by
  obtain ⟨k, e⟩ := hd
  have h0 := h.1
  have hk : 0 < k := by
    rcases Nat.eq_zero_or_pos k with z | z
    · subst z; omega
    · exact z
  rw [e, Nat.mul_div_cancel_left k h0]
  exact h.up hk
theorem DB.add {D B C : Nat} {x y : Rat} (h : DB D B x) (k : DB D C y) : DB D (B + C) (x + y) := by
  obtain ⟨h0, z, e, hz⟩ := h
  obtain ⟨_, u, e', hu⟩ := k
  refine ⟨h0, z + u, ?_, ?_⟩
  · rw [e, e', Rat.divInt_add_divInt _ _ (by omega) (by omega), ← Int.add_mul, Rat.divInt_mul_right (by omega)]
  · have := Int.natAbs_add_le z u; omega
theorem DB.neg {D B : Nat} {x : Rat} (h : DB D B x) : DB D B (-x) := by
  obtain ⟨h0, z, e, hz⟩ := h
  exact ⟨h0, -z, by rw [e, Rat.neg_divInt], by rw [Int.natAbs_neg]; exact hz⟩
theorem DB.sub {D B C : Nat} {x y : Rat} (h : DB D B x) (k : DB D C y) : DB D (B + C) (x - y) := by rw [Rat.sub_eq_add_neg]; exact h.add k.neg
theorem DB.mul {D E B C : Nat} {x y : Rat} (h : DB D B x) (k : DB E C y) : DB (D * E) (B * C) (x * y) := by
  obtain ⟨h0, z, e, hz⟩ := h
  obtain ⟨h1, u, e', hu⟩ := k
  refine ⟨Nat.mul_pos h0 h1, z * u, ?_, ?_⟩
  · rw [e, e', Rat.divInt_mul_divInt, Int.natCast_mul]
  · rw [Int.natAbs_mul]; exact Nat.mul_le_mul hz hu
theorem DB.int (n : Int) : DB 1 n.natAbs (n : Rat) := ⟨by decide, n, (Rat.num_divInt_den (n : Rat)).symm, Nat.le_refl _⟩
theorem DB.zero {D : Nat} (h : 0 < D) (B : Nat) : DB D B 0 := ⟨h, 0, by rw [Rat.zero_divInt], by simp⟩
theorem DB.one : DB 1 1 1 := DB.int 1
theorem DB.mk {t b : Int} (h : 0 < b) : DB b.toNat t.natAbs (Rat.divInt t b) := ⟨by omega, t, by rw [Int.toNat_of_nonneg (by omega)], Nat.le_refl _⟩
theorem DB.self (q : Rat) : DB q.den q.num.natAbs q := ⟨q.den_pos, q.num, (Rat.num_divInt_den q).symm, Nat.le_refl _⟩
end L2.Tr
namespace L2.Tr
open PySem PySem.Spec PyProof.Rows
theorem size_le {n : Nat} (h : n ≤ 1000000) : n ≤ sizeLine := by rw [sizeLine_eq]; omega
theorem appM_ok {α : Type} {xs : List α} {y : α} (h : xs.length < 1000000) : appM xs y = .ok (xs ++ [y]) := Res.guard_pos (by rw [sizeLine_eq]; omega) _
theorem catM_ok {α : Type} {xs ys : List α} (h : xs.length + ys.length ≤ 1000000) : catM xs ys = .ok (xs ++ ys) := Res.guard_pos (size_le h) _
theorem repM_one {α : Type} {x : α} {k : Int} (h0 : 0 ≤ k) (h : k ≤ 1000000) : repM [x] k = .ok (List.replicate k.toNat x) := by
  unfold repM
  rw [Res.guard_pos ⟨by omega, by omega, by rw [sizeLine_eq]; simp; omega⟩]
  congr 1
  generalize k.toNat = n
  induction n with
  | zero => rfl
  | succ n ih => rw [List.replicate_succ, List.flatten_cons, ih]; rfl
theorem putM_ok {α : Type} {xs : List α} {k : Int} {y : α} (h0 : 0 ≤ k) (h : k.toNat < xs.length) : putM xs k y = .ok (xs.set k.toNat y) := by
  unfold putM ixN
  rw [if_pos h0, if_pos (by omega)]
/-- a fraction handed over as two whole numbers -/
abbrev Pr := Int × Int × Unit
def pv (p : Pr) : Rat := Rat.divInt p.1 p.2.1
/-- of at most 2 ^ s -/
def PB (s : Nat) (p : Pr) : Prop := p.1.natAbs ≤ 2 ^ s ∧ 0 < p.2.1 ∧ p.2.1.natAbs ≤ 2 ^ s
theorem PB.sz {s : Nat} {p : Pr} (h : PB s p) : Sz s (pv p) := sz_divInt h.1 h.2.2
theorem PB.mono {s t : Nat} {p : Pr} (h : PB s p) (k : s ≤ t) : PB t p := ⟨Nat.le_trans h.1 (Nat.pow_le_pow_right (by decide) k), h.2.1, Nat.le_trans h.2.2 (Nat.pow_le_pow_right (by decide) k)⟩
end L2.Tr

namespace L2.Tr
open PySem PySem.Spec PyProof.Rows He
section
variable {α β γ δ ζ S L : Type} {X : Cx} {I0 H0 I H : Hp} {W : WX} {Kx : KnowsX} {G : Knows} {ctx : List (Option SF)} {mem : List MF} {e a b c o ix : Expr} {es : List Expr} {st : Stmt} {ss s1 : List Stmt} {pos pos' p2 : Pos} {n : Str} {σ : St} {Q : VK} {r : Rp α} {ra : Ra α} {rb : Ra β} {rc : Ra γ} {rr : Ra γ} {ma : Res α} {mb : Res β} {mc : Res Bool} {md : Res δ} {R : Hp → Hp → List V → δ → Prop} {K : PySem.W.Frag}
/-! ### [.. for x in xs for y in ..] -/
def lcM2 (g : β → Res (List ζ)) (f : β → ζ → Res α) : List β → Res (List α)
  | [] => .ok []
  | x :: xs => match g x with
    | .ok zs => (match lcM (f x) zs with
      | .ok a => (match lcM2 g f xs with
        | .ok b => .ok (a ++ b)
        | _ => .stuck)
      | _ => .stuck)
    | _ => .stuck
def lcR2 (g : β → Res (List ζ)) (f : β → ζ → Res α) (xs : List β) : Res (List α) := match lcM2 g f xs with
  | .ok r => Res.guard (r.length ≤ sizeLine) (.ok r)
  | _ => .stuck
theorem lcM2_drop {g : β → Res (List ζ)} {f : β → ζ → Res α} {xs : List β} {i : Nat} {x : β} (h : xs[i]? = some x) : lcM2 g f (xs.drop i) = (match g x with
    | .ok zs => (match lcM (f x) zs with
      | .ok a => (match lcM2 g f (xs.drop (i + 1)) with
        | .ok b => .ok (a ++ b)
        | _ => .stuck)
      | _ => .stuck)
    | _ => .stuck) := by
  have hi := (List.getElem?_eq_some_iff.mp h).1
  rw [List.drop_eq_getElem_cons hi]
  have : xs[i] = x := (List.getElem?_eq_some_iff.mp h).2
  rw [this]
  rfl
def wIb (X : Cx) (scope : Scope) (tg iter : Expr) : TI := fun σ H R => ∀ (s : Shared) (H' : Hp) (C : Addr) (cl : List (Str × Addr)) (fp : List Addr), wI (X.blk s H' scope (compEnvC scope cl C X.env) fp) tg iter σ H R
theorem pi_Wb {tg iter : Expr} (s : Shared) (H' : Hp) (C : Addr) (cl : List (Str × Addr)) (fp : List Addr) {scope : Scope} : PI (X.blk s H' scope (compEnvC scope cl C X.env) fp) tg iter (wIb X scope tg iter) := PIC.calm ⟨fun pins s1 _ _ _ I h => h s H' C cl fp pins s1 I⟩
def wEb0 (X : Cx) (scope : Scope) (elt : Expr) : TE := fun σ H Q => ∀ (s : Shared) (H' : Hp) (C : Addr) (cl : List (Str × Addr)) (fp : List Addr), wE (X.blk s H' scope (compEnvC scope cl C X.env) fp) elt σ H Q
theorem pe_Wb0 {elt : Expr} (s : Shared) (H' : Hp) (C : Addr) (cl : List (Str × Addr)) (fp : List Addr) {scope : Scope} : PE (X.blk s H' scope (compEnvC scope cl C X.env) fp) elt (wEb0 X scope elt) := ⟨fun pins s1 _ _ _ I h => h s H' C cl fp pins s1 I⟩
theorem JM.lc2T {iter iter1 elt : Expr} {n1 : Str} {q1 : Pos} {rb : Rp β} {rz : Rp ζ} (j j1 : Nat) [mo : Mo r] [mb : Mo rb] [mz : Mo rz] {m : Res (List β)} {g : β → Res (List ζ)} {f : β → ζ → Res α} {scope : Scope} (ji : JI X I0 H0 W ctx mem (.Name n pos') iter m rb)
    (ji1 : ∀ (s : Shared) (H : Hp) (C : Addr) (cl : List (Str × Addr)) (fp : List Addr) (D : Addr) (acc : List α) (x : β), L2N.Takes (X.blk s H scope (compEnvC scope cl C X.env) fp) W0 → JI (X.blk s H scope (compEnvC scope cl C X.env) fp) I0 H0 W0 ((ctx.set j (some ⟨rb, x⟩)).set j1 none) (MF.lst D r acc :: mem) (.Name n1 q1) iter1 (g x) rz)
    (je : ∀ (s : Shared) (H : Hp) (C : Addr) (cl : List (Str × Addr)) (fp : List Addr) (D : Addr) (acc : List α) (x : β) (z : ζ), L2N.Takes (X.blk s H scope (compEnvC scope cl C X.env) fp) W0 → JE (X.blk s H scope (compEnvC scope cl C X.env) fp) I0 H0 W0 ((ctx.set j (some ⟨rb, x⟩)).set j1 (some ⟨rz, z⟩)) (MF.lst D r acc :: mem) elt (f x z) (rp r))
    (hN : X.N.Nodup) (ok : BlkOk X.N X.env.scope scope [(n, j), (n1, j1)]) (hne : j ≠ j1 := by decide) (hj : X.N[j]? = some n := by rfl) (hj1 : X.N[j1]? = some n1 := by rfl) (hc : X.calm = true := by rfl) (hsc : Loc (relabel scope X.env) n := by first | exact Or.inl rfl | exact Or.inr rfl) (hfn : (scope.names.lookup n == some .cell) = true ∨ (relabel scope X.env).names.lookup n = some .local := by first | exact .inr rfl | exact .inl rfl) (hsc1 : Loc (relabel scope X.env) n1 := by first | exact Or.inl rfl | exact Or.inr rfl) (hfn1 : (scope.names.lookup n1 == some .cell) = true ∨ (relabel scope X.env).names.lookup n1 = some .local := by first | exact .inr rfl | exact .inl rfl)
    (hs : ∀ x, foldedSetIterable iter X.env x = pure x := by intro _; rfl) (hs1 : ∀ env x, foldedSetIterable iter1 env x = pure x := by intro _ _; rfl) :
    JM X I0 H0 W ctx mem (.ListComp elt [⟨.Name n pos', iter, [], 0⟩, ⟨.Name n1 q1, iter1, [], 0⟩] scope pos) (m.bind fun xs => lcR2 g f xs) r := fun I H σ Q st p => by
  refine PE.w (pe_lc2 (own := [(n, j), (n1, j1)]) (vs1 := [j1]) hc hN pi_W.calm ok (by simp) (fun s H C cl fp => pg_name (i := j) hN hj hsc hfn) (fun s H C cl fp => pts_nil) (fun s H C cl fp => pi_Wb s H C cl fp) (fun s H C cl fp => pg_name (i := j1) hN hj1 hsc1 hfn1) (fun s H C cl fp => pts_nil) (fun s H C cl fp => pe_Wb0 s H C cl fp) hs hs1) ?_
  refine ji I H σ _ st ?_
  cases m with
  | ok xs =>
    intro I1 H1 J vs okp f1 itr stay pr D hD
    have hlen := Paired.length pr
    have hD0 : H D = none := f1.h.free hD
    have p0 : PostM X W σ I H (lcR2 g f xs) r Q := p
    unfold lcR2 at p0
    cases et : lcM2 g f xs with
    | err e => rw [et] at p0; exact p0.elim
    | stuck => rw [et] at p0; exact p0.elim
    | ok tot =>
      rw [et] at p0
      by_cases hz : tot.length ≤ sizeLine
      · have e0 : Res.guard (tot.length ≤ sizeLine) (Res.ok tot) = .ok tot := Res.guard_pos hz _
        have p1 : PostM X W σ I H (.ok tot) r Q := by rw [← e0]; exact p0
        refine ⟨fun i k H' => k + i = vs.length ∧ ∃ I' acc ys, Same I1 I' ∧ Fm I H I' H' ∧ Stt I0 H0 ctx (MF.lst D r acc :: mem) I' H' σ ∧ lcM2 g f (xs.drop i) = .ok ys ∧ tot = acc ++ ys, ⟨vs.length, rfl, I1, [], tot, Same.refl _, f1.trans (Fm.newM f1.ih hD), (st.step f1).push hD .nil, et, rfl⟩, ?_⟩
        rintro i k H' ⟨hk, I', acc, ys, si, fm, g', el, eq⟩
        have hok := stay I' H' si g'.same g'.fm.h
        by_cases hi : i < vs.length
        · obtain ⟨go, yl⟩ := (itr i H' hok).1 hi
          refine .inr ⟨go, fun H2 => ∃ I2 acc2 ys2, Same I1 I2 ∧ Fm I H I2 H2 ∧ Stt I0 H0 ctx (MF.lst D r acc2 :: mem) I2 H2 σ ∧ lcM2 g f (xs.drop (i + 1)) = .ok ys2 ∧ tot = acc2 ++ ys2, fun H2 h => ⟨k - 1, by omega, by omega, h⟩, fun v H2 hy => ?_⟩
          obtain ⟨rfl, ev⟩ := yl v H2 hy
          obtain ⟨x, ex, hr⟩ := paired_drop pr i ev
          rw [lcM2_drop ex] at el
          have wp : wipe σ [j, j1] = (σ.set j1 none).set j none := rfl
          show (fun σ2 H2 => wipe σ2 [j, j1] = wipe σ [j, j1] ∧ _) ((wipe σ [j, j1]).set j (some v)) H2
          refine ⟨?_, ?_⟩
          · show ((((σ.set j1 none).set j none).set j (some v)).set j1 none).set j none = (σ.set j1 none).set j none
            rw [List.set_set, List.set_comm _ _ hne, List.set_set, List.set_set]
          show tYes ((wipe σ [j, j1]).set j (some v)) H2 _
          have hτ : (wipe σ [j, j1]).set j (some v) = (σ.set j (some v)).set j1 none := by rw [wp, List.set_set, List.set_comm _ _ (Ne.symm hne)]
          show (fun (τ : St) => tYes τ H2 fun b H3 => if b = true then wIb X scope (.Name n1 q1) iter1 τ H3 fun J1 H4 => ∃ W1 : Nat → Nat → Hp → Prop, (∃ m, W1 0 m H4) ∧ ∀ jj kk H, W1 jj kk H → (J1.stop jj H ∧ (fun H2 => ∃ I2 acc2 ys2, Same I1 I2 ∧ Fm I _ I2 H2 ∧ Stt I0 H0 ctx (MF.lst D r acc2 :: mem) I2 H2 σ ∧ lcM2 g f (xs.drop (i + 1)) = .ok ys2 ∧ tot = acc2 ++ ys2) H) ∨ (J1.go jj H ∧ ∃ Nx1 : Hp → Prop, (∀ H', Nx1 H' → ∃ k', k' < kk ∧ W1 (jj + 1) k' H') ∧ ∀ x H', J1.yld jj H x H' → gName j1 x (wipe τ [j1]) H' fun σ3 H5 => wipe σ3 [j1] = wipe τ [j1] ∧ tYes σ3 H5 fun b H6 => if b = true then wEb0 X scope elt σ3 H6 fun y H7 => ∃ acc, H7 D = some (.lst acc) ∧ acc.length < sizeLine ∧ Nx1 (upd H7 D (.lst (acc ++ [y]))) else Nx1 H6) else _) ((wipe σ [j, j1]).set j (some v))
          rw [hτ]
          show wIb X scope (.Name n1 q1) iter1 ((σ.set j (some v)).set j1 none) H2 _
          intro s3 H3 C cl fp
          have gx : Stt I0 H0 ((ctx.set j (some ⟨rb, x⟩)).set j1 none) (MF.lst D r acc :: mem) I' H2 ((σ.set j (some v)).set j1 none) := (g'.set j (mb.up si hr)).wipe1 j1
          refine ji1 s3 H3 C cl fp D acc x takes0 I' H2 _ _ gx ?_
          cases eg : g x with
          | err e => rw [eg] at el; cases el
          | stuck => rw [eg] at el; cases el
          | ok zs =>
            rw [eg] at el
            cases ef : lcM (f x) zs with
            | err e => dsimp only at el; rw [ef] at el; cases el
            | stuck => dsimp only at el; rw [ef] at el; cases el
            | ok as_ =>
              cases er : lcM2 g f (xs.drop (i + 1)) with
              | err e => dsimp only at el; rw [ef, er] at el; cases el
              | stuck => dsimp only at el; rw [ef, er] at el; cases el
              | ok rest =>
                dsimp only at el
                rw [ef, er] at el
                cases el
                intro I4 H4 J1 ws okp1 f4 itr1 stay1 pr1
                have hlen1 := Paired.length pr1
                have g4 := g'.step f4
                refine ⟨fun jj kk H5 => kk + jj = ws.length ∧ ∃ I5 acc5 ys5, Same I1 I5 ∧ Same I4 I5 ∧ Fm I H I5 H5 ∧ Stt I0 H0 ctx (MF.lst D r acc5 :: mem) I5 H5 σ ∧ lcM (f x) (zs.drop jj) = .ok ys5 ∧ tot = acc5 ++ (ys5 ++ rest), ⟨ws.length, rfl, I4, acc, as_, si.trans f4.i, Same.refl _, fm.trans f4, g4, ef, eq⟩, ?_⟩
                rintro jj kk H5 ⟨hkk, I5, acc5, ys5, s15, s45, fm5, g5, el5, eq5⟩
                have hok1 := stay1 I5 H5 s45 g5.same g5.fm.h
                by_cases hjj : jj < ws.length
                · obtain ⟨go1, yl1⟩ := (itr1 jj H5 hok1).1 hjj
                  refine .inr ⟨go1, fun H6 => ∃ I6 acc6 ys6, Same I1 I6 ∧ Same I4 I6 ∧ Fm I H I6 H6 ∧ Stt I0 H0 ctx (MF.lst D r acc6 :: mem) I6 H6 σ ∧ lcM (f x) (zs.drop (jj + 1)) = .ok ys6 ∧ tot = acc6 ++ (ys6 ++ rest), fun H6 h => ⟨kk - 1, by omega, by omega, h⟩, fun vz H6 hyz => ?_⟩
                  obtain ⟨rfl, evz⟩ := yl1 vz H6 hyz
                  obtain ⟨z, ez, hrz⟩ := paired_drop pr1 jj evz
                  rw [lcM_drop ez] at el5
                  have w1 : wipe ((σ.set j (some v)).set j1 none) [j1] = (σ.set j (some v)).set j1 none := by show ((σ.set j (some v)).set j1 none).set j1 none = _; rw [List.set_set]
                  show (fun σ3 H5 => wipe σ3 [j1] = wipe ((σ.set j (some v)).set j1 none) [j1] ∧ _) ((wipe ((σ.set j (some v)).set j1 none) [j1]).set j1 (some vz)) H6
                  refine ⟨by rw [w1]; show ((((σ.set j (some v)).set j1 none).set j1 (some vz)).set j1 none) = _; rw [List.set_set, List.set_set], ?_⟩
                  show wEb0 X scope elt ((wipe ((σ.set j (some v)).set j1 none) [j1]).set j1 (some vz)) H6 _
                  rw [w1, List.set_set]
                  intro s7 H7 C7 cl7 fp7
                  refine je s7 H7 C7 cl7 fp7 D acc5 x z takes0 I5 H6 _ _ ((g5.set j (mb.up s15 hr)).set j1 (mz.up s45 hrz)) ?_
                  revert el5
                  generalize f x z = zz
                  intro el5
                  cases zz with
                  | err e => cases el5
                  | stuck => cases el5
                  | ok y =>
                    cases el6 : lcM (f x) (zs.drop (jj + 1)) with
                    | err e => dsimp only at el5; rw [el6] at el5; cases el5
                    | stuck => dsimp only at el5; rw [el6] at el5; cases el5
                    | ok ys6 =>
                      dsimp only at el5
                      rw [el6] at el5
                      cases el5
                      intro I8 H8 vy f8 r8
                      have g8 := g5.step f8
                      obtain ⟨z0, zI, oo, zH, vacc, eo, pacc⟩ := g8.lstAt (j := 0) rfl
                      subst eo
                      have hla := Paired.length pacc
                      have hll : tot.length = acc5.length + ((y :: ys6).length + rest.length) := by rw [eq5, List.length_append, List.length_append]
                      rw [List.length_cons] at hll
                      exact ⟨vacc, zH, by omega, I8, acc5 ++ [y], ys6, s15.trans f8.i, s45.trans f8.i, (fm5.trans f8).updNew hD0 zI, g8.relst 0 rfl (paired_app pacc (.cons r8 .nil)), rfl, by rw [eq5, List.append_assoc]; rfl⟩
                · have e5 : zs.drop jj = [] := List.drop_eq_nil_of_le (by omega)
                  rw [e5] at el5
                  cases el5
                  exact .inl ⟨(itr1 jj H5 hok1).2 (by omega), I5, acc5, rest, s15, fm5, g5, rfl, eq5⟩
        · refine .inl ⟨(itr i H' hok).2 (by omega), ?_⟩
          have e1 : xs.drop i = [] := List.drop_eq_nil_of_le (by omega)
          rw [e1] at el
          cases el
          rw [List.append_nil] at eq
          subst eq
          obtain ⟨z0, zI, oo, zH, vacc, eo, pacc⟩ := g'.lstAt (j := 0) rfl
          subst eo
          exact p1 I' H' D vacc fm hD0 zI zH pacc
      · have e0 : Res.guard (tot.length ≤ sizeLine) (Res.ok tot) = .stuck := if_neg hz
        rw [show PostM X W σ I H (match Res.ok tot with | .ok r => Res.guard (r.length ≤ sizeLine) (.ok r) | _ => .stuck) r Q = PostM X W σ I H (Res.guard (tot.length ≤ sizeLine) (Res.ok tot)) r Q from rfl, e0] at p0
        exact p0.elim
  | err e => exact p
  | stuck => exact p
end
end L2.Tr

namespace L2.Tr
open PySem PySem.Spec PyProof.Rows He
section
variable {α β γ δ ε ζ S L : Type} {X : Cx} {I0 H0 I H : Hp} {W : WX} {Kx : KnowsX} {G : Knows} {ctx : List (Option SF)} {mem : List MF} {e a b c o ix : Expr} {es : List Expr} {st : Stmt} {ss s1 : List Stmt} {pos pos' p2 : Pos} {n : Str} {σ : St} {Q : VK} {r : Rp α} {ra : Ra α} {rb : Ra β} {rc : Ra γ} {rr : Ra γ} {ma : Res α} {mb : Res β} {mc : Res Bool} {md : Res δ} {me : Res ε} {R : Hp → Hp → List V → δ → Prop} {R' : Hp → Hp → List V → ε → Prop} {kws : List Keyword} {ks : List Str}
end
section
variable {K : PySem.W.Frag} {x qual : Str} {params : Arguments} {body : List Stmt} {scope : Scope} {kws : List (Str × V)} {f : Addr} {fd : FuncData} {ps : List Str}
end
theorem J1.dead {S : Type} {X : Cx} {W : WX} {Kx : KnowsX} {G : Knows} {st : Stmt} {G' : S → Knows} : J1 X W Kx G st (.stuck : Res S) G' := fun _ _ _ _ _ p => p.elim
theorem JI.at {β : Type} {X : Cx} {I0 H0 : Hp} {W : WX} {mem : List MF} {tg iter : Expr} {m : Res (List β)} {r : Rp β} {c c' : List (Option SF)} (j : JI X I0 H0 W c' mem tg iter m r) (h : c = c' := by rfl) : JI X I0 H0 W c mem tg iter m r := by rw [h]; exact j
end L2.Tr

namespace L2.Tr
open PySem PySem.Spec PyProof.Rows
/-! ### lists by their entries -/
section
variable {α β : Type} {n : Nat} {f g : Nat → α}
def vec (n : Nat) (f : Nat → α) : List α := (List.range n).map f
@[simp] theorem vec_len : (vec n f).length = n := by simp [vec]
theorem vec_get {i : Nat} (h : i < n) : (vec n f)[i]? = some (f i) := by unfold vec; rw [List.getElem?_map, List.getElem?_range h]; rfl
theorem vec_none {i : Nat} (h : n ≤ i) : (vec n f)[i]? = none := List.getElem?_eq_none (by rw [vec_len]; exact h)
theorem vec_at {i : Int} (h0 : 0 ≤ i) (h : i.toNat < n) : atM (vec n f) i = .ok (f i.toNat) := atM_get h0 (vec_get h)
theorem vec_atN {i : Nat} (h : i < n) : atM (vec n f) (i : Int) = .ok (f i) := vec_at (Int.natCast_nonneg i) (by rw [Int.toNat_natCast]; exact h)
theorem vec_ext (h : ∀ i, i < n → f i = g i) : vec n f = vec n g := by
  unfold vec
  exact List.map_congr_left fun i hi => h i (List.mem_range.mp hi)
theorem vec_mem {x : α} (h : x ∈ vec n f) : ∃ i, i < n ∧ x = f i := by
  obtain ⟨i, h1, h2⟩ := List.mem_map.mp h
  exact ⟨i, List.mem_range.mp h1, h2.symm⟩
theorem vec_put {i : Int} {y : α} (h0 : 0 ≤ i) (h : i.toNat < n) : putM (vec n f) i y = .ok (vec n fun k => if k = i.toNat then y else f k) := by
  rw [putM_ok h0 (by rw [vec_len]; exact h)]
  congr 1
  refine List.ext_getElem? fun k => ?_
  by_cases hk : k < n
  · rw [vec_get hk, List.getElem?_set]
    by_cases e : i.toNat = k
    · subst e; rw [if_pos rfl, if_pos (by rw [vec_len]; exact hk), if_pos rfl]
    · rw [if_neg e, vec_get hk, if_neg (fun z => e z.symm)]
  · rw [vec_none (by omega), List.getElem?_set]
    by_cases e : i.toNat = k
    · omega
    · rw [if_neg e, vec_none (by omega)]
theorem vec_succ : vec (n + 1) f = vec n f ++ [f n] := by unfold vec; rw [List.range_succ, List.map_append]; rfl
theorem vec_map (h : α → β) : (vec n f).map h = vec n (fun i => h (f i)) := by unfold vec; rw [List.map_map]; rfl
theorem vec_app {x : α} (h : n < 1000000) : appM (vec n f) x = .ok (vec (n + 1) fun i => if i = n then x else f i) := by
  rw [appM_ok (by rw [vec_len]; exact h), vec_succ, if_pos rfl]
  congr 2
  exact vec_ext fun i hi => (if_neg (by omega)).symm
theorem rep_vec {x : α} {k : Int} (h0 : 0 ≤ k) (h : k ≤ 1000000) : repM [x] k = .ok (vec k.toNat fun _ => x) := by
  rw [repM_one h0 h]
  congr 1
  refine List.ext_getElem? fun i => ?_
  by_cases hi : i < k.toNat
  · rw [vec_get hi, List.getElem?_replicate, if_pos hi]
  · rw [vec_none (by omega), List.getElem?_replicate, if_neg hi]
theorem lcR_rng {F : Int → Res α} {hi : Int} (h0 : 0 ≤ hi) (h : hi ≤ 1000000) (hF : ∀ i : Nat, i < hi.toNat → F (i : Int) = .ok (f i)) : lcR F (rngI 0 hi.toNat) = .ok (vec hi.toNat f) := by
  rw [lcR_eq (g := fun x => f x.toNat) (size_le (by rw [rngI_len]; omega)) fun x hx => ?_]
  · unfold vec; rw [rngI_eq, List.map_map]; rfl
  · obtain ⟨x1, x2⟩ := rngI_mem hx
    have e := hF x.toNat (by omega)
    rwa [Int.toNat_of_nonneg x1] at e
theorem lcR_vec {F : α → Res β} {h : Nat → β} (hn : n ≤ 1000000) (hF : ∀ i, i < n → F (f i) = .ok (h i)) : lcR F (vec n f) = .ok (vec n h) := by
  have e : ∀ (m : Nat), m ≤ n → lcM F (vec m f) = .ok (vec m h) := fun m hm => by
    have : ∀ xs : List Nat, (∀ i ∈ xs, i < n) → lcM F (xs.map f) = .ok (xs.map h) := fun xs => by
      induction xs with
      | nil => exact fun _ => rfl
      | cons x xs ih =>
        intro hx
        rw [List.map_cons, List.map_cons]
        unfold lcM
        rw [hF x (hx x (List.mem_cons_self)), ih fun i hi => hx i (List.mem_cons_of_mem _ hi)]
        rfl
    exact this (List.range m) fun i hi => by have := List.mem_range.mp hi; omega
  unfold lcR
  rw [Res.guard_pos (size_le (by rw [vec_len]; exact hn)), e n (Nat.le_refl _)]
/-- a loop over range that builds a state -/
theorem for_rng {S : Type} {F : Int → S → Res S} {hi : Int} {s0 : S} (st : Nat → S) (h0 : st 0 = s0) (hF : ∀ i : Nat, i < hi.toNat → F (i : Int) (st i) = .ok (st (i + 1))) : forS F (rngI 0 hi.toNat) s0 = .ok (st hi.toNat) := by
  refine Ok.eq ((Ok.forS (fun i s => s = st i) h0.symm fun i x s e hs => ?_).mono fun s hs => by rw [hs, rngI_len])
  obtain ⟨e1, e2⟩ := rngI_get e
  rw [hs, show x = (i : Int) by omega]
  exact .of (hF i e2) rfl
end
/-! ### sums of Int -/
def sm (f : Nat → Int) : Nat → Int
  | 0 => 0
  | n + 1 => sm f n + f n
section
variable {f g : Nat → Int} {n m : Nat} {c : Int}
@[simp] theorem sm_zero : sm f 0 = 0 := rfl
theorem sm_succ : sm f (n + 1) = sm f n + f n := rfl
theorem sm_congr (h : ∀ i, i < n → f i = g i) : sm f n = sm g n := by
  induction n with
  | zero => rfl
  | succ n ih => rw [sm_succ, sm_succ, ih fun i hi => h i (by omega), h n (by omega)]
theorem sm_nonneg (h : ∀ i, i < n → 0 ≤ f i) : 0 ≤ sm f n := by
  induction n with
  | zero => exact (show (0 : Int) ≤ 0 by grind)
  | succ n ih =>
    rw [sm_succ]
    have := ih fun i hi => h i (by omega)
    have := h n (by omega)
    grind
end
/-! ### sums of Rat -/
def smQ (f : Nat → Rat) : Nat → Rat
  | 0 => 0
  | n + 1 => smQ f n + f n
section
variable {f g : Nat → Rat} {n m : Nat} {c : Rat}
@[simp] theorem smQ_zero : smQ f 0 = 0 := rfl
theorem smQ_succ : smQ f (n + 1) = smQ f n + f n := rfl
theorem smQ_congr (h : ∀ i, i < n → f i = g i) : smQ f n = smQ g n := by
  induction n with
  | zero => rfl
  | succ n ih => rw [smQ_succ, smQ_succ, ih fun i hi => h i (by omega), h n (by omega)]
theorem smQ_add : smQ (fun i => f i + g i) n = smQ f n + smQ g n := by
  induction n with
  | zero => show (0 : Rat) = 0 + 0; grind
  | succ n ih => rw [smQ_succ, smQ_succ, smQ_succ, ih]; grind
theorem smQ_sub : smQ (fun i => f i - g i) n = smQ f n - smQ g n := by
  induction n with
  | zero => show (0 : Rat) = 0 - 0; grind
  | succ n ih => rw [smQ_succ, smQ_succ, smQ_succ, ih]; grind
theorem smQ_mul : smQ (fun i => c * f i) n = c * smQ f n := by
  induction n with
  | zero => show (0 : Rat) = c * 0; grind
  | succ n ih => rw [smQ_succ, smQ_succ, ih]; grind
theorem smQ_mulr : smQ (fun i => f i * c) n = smQ f n * c := by
  rw [show (fun i => f i * c) = fun i => c * f i from funext fun i => by grind, smQ_mul]; grind
theorem smQ_null (h : ∀ i, i < n → f i = 0) : smQ f n = 0 := by
  rw [smQ_congr (g := fun _ => 0) h]
  clear h
  induction n with
  | zero => rfl
  | succ n ih => rw [smQ_succ, ih]; grind
theorem smQ_comm {h : Nat → Nat → Rat} : smQ (fun i => smQ (fun j => h i j) m) n = smQ (fun j => smQ (fun i => h i j) n) m := by
  induction n with
  | zero => exact (smQ_null fun j _ => rfl).symm
  | succ n ih => rw [smQ_succ, ih, ← smQ_add]; rfl
theorem smQ_nonneg (h : ∀ i, i < n → 0 ≤ f i) : 0 ≤ smQ f n := by
  induction n with
  | zero => exact (show (0 : Rat) ≤ 0 by grind)
  | succ n ih =>
    rw [smQ_succ]
    have := ih fun i hi => h i (by omega)
    have := h n (by omega)
    grind
theorem smQ_le (h : ∀ i, i < n → f i ≤ g i) : smQ f n ≤ smQ g n := by
  induction n with
  | zero => exact (show (0 : Rat) ≤ 0 by grind)
  | succ n ih =>
    rw [smQ_succ, smQ_succ]
    have := ih fun i hi => h i (by omega)
    have := h n (by omega)
    grind
/-- the one term -/
theorem smQ_one {k : Nat} (hk : k < n) (h : ∀ i, i < n → i ≠ k → f i = 0) : smQ f n = f k := by
  induction n with
  | zero => omega
  | succ n ih =>
    rw [smQ_succ]
    by_cases e : k = n
    · subst e
      rw [smQ_null fun i hi => h i (by omega) (by omega)]; grind
    · rw [ih (by omega) fun i hi => h i (by omega), h n (by omega) (fun z => e z.symm)]; grind
theorem smQ_ge {k : Nat} (hk : k < n) (h : ∀ i, i < n → 0 ≤ f i) : f k ≤ smQ f n := by
  induction n with
  | zero => omega
  | succ n ih =>
    rw [smQ_succ]
    have h1 := smQ_nonneg (f := f) (n := n) fun i hi => h i (by omega)
    have h2 := h n (by omega)
    by_cases e : k = n
    · subst e; grind
    · have := ih (by omega) fun i hi => h i (by omega)
      grind
end
theorem sum_app (xs ys : List Int) : (xs ++ ys).sum = xs.sum + ys.sum := by
  induction xs with
  | nil => simp
  | cons x xs ih => rw [List.cons_append, List.sum_cons, List.sum_cons, ih]; omega
theorem sum_vec (f : Nat → Int) : ∀ n, (vec n f).sum = sm f n
  | 0 => rfl
  | n + 1 => by rw [vec_succ, sum_app, sum_vec f n, sm_succ]; simp
end L2.Tr
namespace L2.Tr
open PySem PySem.Spec PyProof.Rows
end L2.Tr

/-! ### for, in a generator's body -/
namespace L2
open PySem PySem.Spec PyProof.Rows GenW
section
variable {M : Model} {A : Around} {R : GenEnd} {Y : Protocol} {n : Nat} {s₀ : Shared} {c : Code} {fs : List Frame} {s : Shared} {env : Env} {K : Flow → Sem PySem.Fin} {J : Value → Sem PySem.Fin} {gd : Bool → Bool} {lv : List Value → List Value}
end
section
variable {prog : Program} {w : World} {A : Around} {R : GenEnd} {Y : Protocol} {n : Nat} {s₀ : Shared} {fs : List Frame} {s : Shared} {env : Env}
end

section
variable {X : Cx} {tg : Expr}
end
end L2

/-! ### generators: judgements -/
namespace L2.Tr
open PySem PySem.Spec PyProof.Rows
section
variable {α β γ δ S T : Type}
def wGs (X : Cx) (st : Stmt) : TGn := fun D ys σ H => ∃ t, GS X st t ∧ t D ys σ H
def wGb (X : Cx) (ss : List Stmt) : TGn := fun D ys σ H => ∃ t, GSs X ss t ∧ t D ys σ H
theorem gss_W {X : Cx} {ss : List Stmt} : GSs X ss (wGb X ss) := ⟨fun A S ip R n ys s₀ c fs K J gd lv s σ H D g hn k hI ⟨t, p, q⟩ => p.run A S ip R n ys s₀ c fs K J gd lv s σ H D g hn k hI q⟩
theorem gs_W {X : Cx} {st : Stmt} : GS X st (wGs X st) := ⟨fun A S ip R n ys s₀ c fs K J gd lv s σ H D g hn k hI ⟨t, p, q⟩ => p.run A S ip R n ys s₀ c fs K J gd lv s σ H D g hn k hI q⟩
theorem pairedUp {r : Rp β} [mo : Mo r] {I I' : Hp} (s : Same I I') : ∀ {ys : List V} {xs : List β}, Paired (r I) ys xs → Paired (r I') ys xs
  | _, _, .nil => .nil
  | _, _, .cons h t => .cons (mo.up s h) (pairedUp s t)
def PostY (X : Cx) (W : WX) (Kx : KnowsX) (r : Rp β) (I : Hp) (m : Res (List β × S)) (G : S → Knows) (D : GEnds) : Prop := match m with
  | .ok z => ∀ I' H' σ' ys', Same I I' → G z.2 I' H' σ' → Paired (r I') ys' z.1 → D.nx ys' σ' H'
  | .err e => ∀ I' H' σ' cls d, Kx I' H' σ' d → ExR X.K I' H' e cls d → W cls d σ' H'
  | .stuck => False
def PostYE (X : Cx) (I0 H0 : Hp) (W : WX) (Kx : KnowsX) (r : Rp β) (m : Res (List β)) (D : GEnds) : Prop := match m with
  | .ok z => ∀ I' H' σ' ys', Fm I0 H0 I' H' → Paired (r I') ys' z → D.nx ys' σ' H'
  | .err e => ∀ I' H' σ' cls d, Kx I' H' σ' d → ExR X.K I' H' e cls d → W cls d σ' H'
  | .stuck => False
theorem PostY.up {X : Cx} {W : WX} {Kx : KnowsX} {r : Rp β} {I I1 : Hp} {m : Res (List β × S)} {G : S → Knows} {D : GEnds} (h : PostY X W Kx r I m G D) (s : Same I I1) : PostY X W Kx r I1 m G D := by
  cases m with
  | ok z => exact fun I' H' σ' ys' q => h I' H' σ' ys' (s.trans q)
  | err e => exact h
  | stuck => exact h
/-- a statement of a generator -/
def Y1 (X : Cx) (W : WX) (Kx : KnowsX) (r : Rp β) (G : Knows) (out : List β) (st : Stmt) (m : Res (List β × S)) (G' : S → Knows) : Prop :=
  ∀ (I H : Hp) (σ : St) (D : GEnds) (ys : List V), G I H σ → Paired (r I) ys out → PostY X W Kx r I m G' D → wGs X st D ys σ H
def YN (X : Cx) (W : WX) (Kx : KnowsX) (r : Rp β) (G : Knows) (out : List β) (ss : List Stmt) (m : Res (List β × S)) (G' : S → Knows) : Prop :=
  ∀ (I H : Hp) (σ : St) (D : GEnds) (ys : List V), G I H σ → Paired (r I) ys out → PostY X W Kx r I m G' D → wGb X ss D ys σ H
/-- a block that ends the generator -/
def YE (X : Cx) (I0 H0 : Hp) (W : WX) (Kx : KnowsX) (r : Rp β) (G : Knows) (out : List β) (ss : List Stmt) (m : Res (List β)) : Prop :=
  ∀ (I H : Hp) (σ : St) (D : GEnds) (ys : List V), G I H σ → Paired (r I) ys out → PostYE X I0 H0 W Kx r m D → wGb X ss D ys σ H
variable {X : Cx} {I0 H0 : Hp} {W : WX} {Kx : KnowsX} {G : Knows} {ctx : List (Option SF)} {mem : List MF} {e a b c o iter : Expr} {es : List Expr} {st : Stmt} {ss body : List Stmt} {pos pos' pos2 : Pos} {n : Str} {r : Rp β} {out : List β}
/-- a statement that hands out nothing -/
theorem Y1.of [mo : Mo r] {m : Res S} {G' : S → Knows} (j : J1 X W Kx G st m G') : Y1 X W Kx r G out st (m.bind fun s => .ok (out, s)) G' := fun I H σ D ys g pr p => by
  refine ⟨_, gs_ps ps_W, j I H σ (D.at ys) g ?_⟩
  cases m with
  | ok s => exact fun I' H' σ' si g' => p I' H' σ' ys si g' (pairedUp si pr)
  | err e => exact p
  | stuck => exact p
theorem YN.nil [mo : Mo r] {s : S} {G' : S → Knows} (h : ∀ I H σ, G I H σ → G' s I H σ) : YN X W Kx r G out [] (.ok (out, s)) G' := fun I H σ D ys g pr p => ⟨_, gss_nil, p I H σ ys (Same.refl _) (h _ _ _ g) pr⟩
theorem YN.seq [mo : Mo r] {m : Res (List β × S)} {G1 : S → Knows} {f : List β × S → Res (List β × T)} {G2 : T → Knows} (j : Y1 X W Kx r G out st m G1) (k : ∀ z, YN X W Kx r (G1 z.2) z.1 ss (f z) G2) : YN X W Kx r G out (st :: ss) (m.bind f) G2 := fun I H σ D ys g pr p => by
  refine ⟨_, gss_cons gs_W gss_W, j I H σ _ ys g pr ?_⟩
  cases m with
  | ok z => exact fun I' H' σ' ys' si g' pr' => k z I' H' σ' D ys' g' pr' (PostY.up p si)
  | err e => exact p
  | stuck => exact p
theorem YE.nil [mo : Mo r] (h : ∀ I H σ, G I H σ → Fm I0 H0 I H) : YE X I0 H0 W Kx r G out [] (.ok out) := fun I H σ D ys g pr p => ⟨_, gss_nil, p I H σ ys (h _ _ _ g) pr⟩
theorem YE.seq [mo : Mo r] {m : Res (List β × S)} {G1 : S → Knows} {f : List β × S → Res (List β)} (j : Y1 X W Kx r G out st m G1) (k : ∀ z, YE X I0 H0 W Kx r (G1 z.2) z.1 ss (f z)) : YE X I0 H0 W Kx r G out (st :: ss) (m.bind f) := fun I H σ D ys g pr p => by
  refine ⟨_, gss_cons gs_W gss_W, j I H σ _ ys g pr ?_⟩
  cases m with
  | ok z => exact fun I' H' σ' ys' si g' pr' => k z I' H' σ' D ys' g' pr' p
  | err e => exact p
  | stuck => exact p
theorem YE.ex {ι : Type} {G : ι → Knows} {m : Res (List β)} (h : ∀ i, YE X I0 H0 W Kx r (G i) out ss m) : YE X I0 H0 W Kx r (fun I H σ => ∃ i, G i I H σ) out ss m := fun I H σ D ys ⟨i, g⟩ pr p => h i I H σ D ys g pr p
theorem YN.ex {ι : Type} {G : ι → Knows} {m : Res (List β × S)} {G' : S → Knows} (h : ∀ i, YN X W Kx r (G i) out ss m G') : YN X W Kx r (fun I H σ => ∃ i, G i I H σ) out ss m G' := fun I H σ D ys ⟨i, g⟩ pr p => h i I H σ D ys g pr p
theorem YN.at {c' : List (Option SF)} {m : Res (List β × S)} {G' : S → Knows} (h : YN X W Kx r (Stt I0 H0 c' mem) out ss m G') (e : ctx = c' := by rfl) : YN X W Kx r (Stt I0 H0 ctx mem) out ss m G' := by subst e; exact h
abbrev gx (P : Program) (w : World) (K : PySem.W.Frag) (mg : Str → Option Value) (base : Heap) (N : List Str) (qual : Str) (scope : Scope) (f : Addr) (cdv : Value) (A : Around) (outer : List Env) (s : Shared) (H : Hp) (E : XK) (pn : List (Addr × Obj)) : Cx := gcxOf P w K mg base N qual scope f cdv A outer s H E pn
end
end L2.Tr

namespace L2.Tr
open PySem PySem.Spec PyProof.Rows
/-! ### None or a value -/
section
variable {α β γ δ S L : Type} {X : Cx} {I0 H0 : Hp} {W : WX} {Kx : KnowsX} {ctx : List (Option SF)} {mem : List MF} {e a : Expr} {ss : List Stmt} {pos : Pos} {rr : Ra γ} {r : Rp α}
def rOp (r : Rp α) : Rp (Option α) := fun I v x => match x with
  | none => v = .non
  | some y => r I v y
instance {r : Rp α} [m : Mo r] : Mo (rOp r) := ⟨fun {I I' v x} s h => by
  cases x with
  | none => exact h
  | some y => exact m.up s h⟩
def optM {β : Type} (x : Option α) (f1 : β) (f2 : α → β) : β := match x with
  | none => f1
  | some y => f2 y
class NoN (r : Rp α) : Prop where
  ne : ∀ I v x, r I v x → v ≠ .non
instance : NoN rInt := ⟨fun _ _ _ h z => by rw [show _ = V.int _ from h] at z; cases z⟩
instance : NoN rBl := ⟨fun _ _ _ h z => by rw [show _ = V.bl _ from h] at z; cases z⟩
instance : NoN rStr := ⟨fun _ _ _ h z => by rw [show _ = V.str _ from h] at z; cases z⟩
instance {K : PySem.W.Frag} : NoN (rFrac K) := ⟨fun _ _ _ ⟨_, _, e, _⟩ z => by rw [e] at z; cases z⟩
instance {K : PySem.W.Frag} : NoN (rNum K) := ⟨fun I v x h => by
  cases x with
  | i n => exact NoN.ne (r := rInt) I v n h
  | q q => exact NoN.ne (r := rFrac K) I v q h⟩
instance {r : Rp α} : NoN (rL r) := ⟨fun _ _ _ ⟨_, _, e, _⟩ z => by rw [e] at z; cases z⟩
instance {r : Rp α} : NoN (rT r) := ⟨fun _ _ _ ⟨_, _, e, _⟩ z => by rw [e] at z; cases z⟩
instance {R : Hp → Hp → List V → δ → Prop} : NoN (rTu R) := ⟨fun _ _ _ ⟨_, _, e, _⟩ z => by rw [e] at z; cases z⟩
instance {C : Addr} {gs : α → List (Str × SF)} : NoN (rIns C gs) := ⟨fun _ _ _ ⟨_, _, _, e, _⟩ z => by rw [e] at z; cases z⟩
theorem JT.dead : JT X I0 H0 W ctx mem e (.stuck : Res Bool) := fun _ _ _ _ _ p => p.elim
theorem JW.dead : JW X I0 H0 W ctx mem e (.stuck : Res Bool) := fun _ _ _ _ _ p => p.elim
theorem JE.dead {r : Ra α} : JE X I0 H0 W ctx mem e (.stuck : Res α) r := fun _ _ _ _ _ p => p.elim
theorem JG.dead {G : Knows} {G' : S → Knows} {GL : L → Knows} : JG X I0 H0 W Kx G ss (.stuck : Res (Fl S L γ)) G' GL rr := fun _ _ _ _ _ p => p.elim
end
end L2.Tr

namespace L2.Tr
open PySem PySem.Spec PyProof.Rows He
/-! ### own errors with values -/
/-- C(e, ..) of an own error, its context still None -/
theorem pmk_oexN {X : Cx} {e : Expr} {es : List Expr} {ta : TA} {p pos : Pos} {CX : CXT} {x : Str} {C fI : Addr} {k : Nat} {fd : FuncData} {ps : List Str} {sp : Sp} (T : OexC X.K C) (iC : PySem.W.findIn X.K (.ref C) "__init__" = some (some (.ref fI))) (tI : PySem.W.typeIn X.K (.ref fI) = some (.type "function"))
    (F1 : FnOk X.prog X.w X.K X.mg X.base CX k fI fd ps sp) (hr : Room (k + 1) X.A) (hb : Binds X.K fd ps []) (hx : Passes CX X (fun _ _ _ => False)) (hg : Gl X x) (hm : X.mg x = some (.ref C)) (ha : PA X (e :: es) ta)
    (hdb : (x == ("__debug__" : Str)) = false := by decide) (he : starEach (e :: es) X.env = (false, eval e X.env) :: starEach es X.env := by rfl) (hpl : (backTo pos (starEach es X.env)).any (·.1) = false := by rfl) :
    L2N.PMk X (.Call (.Name x p) (e :: es) [] pos) (tMkO C sp [] ta) := by
  intro pins s σ H Q I h
  obtain ⟨nm, q, N, bs, bm, sn, sub, ab, col, dd, k0, k1, k2, k3, k5, hC, hbm⟩ := T.cls
  refine wpAny_Call_Name_kw (ld_glob I hg hm ?_ hdb)
  refine PySem.W.callWith_K (h₀ := X.base) I.ok.mod.kin T.kC (thn (ha.run pos pins s σ H _ I h) fun us s1 ⟨vs, H1, I1, r1, hz, q1⟩ => ⟨I1.kIn, ?_⟩) he hpl
  show wpAny _ _ (call (.ref C) us) _ _ _
  obtain ⟨hp, g, dr, tk, os⟩ := s1
  have hq := q1 (hp.objs.size + 1) (I1.hok.fresh (Nat.le_succ _))
  rw [List.append_nil] at hq
  have kk : ∀ b o, hp.get? b = some o → ((hp.push (PySem.W.kdv_tup us)).push (PySem.HandSPX.excO C hp.objs.size)).get? b = some o := fun b o e => Heap.get?_push_of_some _ (Heap.get?_push_of_some _ e)
  have hget : ((hp.push (PySem.W.kdv_tup us)).push (PySem.HandSPX.excO C hp.objs.size)).get? (hp.objs.size + 1) = some (PySem.HandSPX.excO C hp.objs.size) := by heap_get
  have I2 : Inv X pins σ (upd H1 (hp.objs.size + 1) (exo (hp.objs.size + 1) C none)) ⟨(hp.push (PySem.W.kdv_tup us)).push (PySem.HandSPX.excO C hp.objs.size), g, dr, tk, os⟩ :=
    I1.laid (t' := tk) (a := hp.objs.size + 1) (o := exo (hp.objs.size + 1) C none) (h' := (hp.push (PySem.W.kdv_tup us)).push (PySem.HandSPX.excO C hp.objs.size)) kk (Nat.le_succ _) (exo_ok hget)
  have r2 : Vals (V.ref (hp.objs.size + 1) :: vs) (Value.ref (hp.objs.size + 1) :: us) := .cons rfl r1
  have hl : (Value.ref (hp.objs.size + 1) :: us ++ []).length = ps.length := by
    have e := r2.length
    rw [F1.len _ _ _ _ hq] at e
    rw [List.append_nil]
    exact e.symm
  have hus : us.length ≤ sizeLine := by
    rw [← Paired.length r1, sizeLine_eq]
    omega
  have bnd := hb ⟨(hp.push (PySem.W.kdv_tup us)).push (PySem.HandSPX.excO C hp.objs.size), g, dr, tk, os⟩ (Value.ref (hp.objs.size + 1) :: us) I2.kIn hl
  rw [List.append_nil] at bnd
  refine wpAny_call (PySem.HandSPX.call_own F.excBase_ValueError (fun Y => PySem.HandSPX.refsVE_contains Y bm hbm) (I1.kIn _ _ hC) (PySem.W.looks_findIn I1.kIn iC) (fun self => PySem.W.bind_fn I1.kIn self tI) hus
    (codeAny_mono (F1.run _ X.stack _ _ ⟨Value.ref (hp.objs.size + 1) :: us, []⟩ (Value.ref (hp.objs.size + 1) :: us) _ _ (fun _ _ _ => False) (hr.make C us []) (I2.env0.make C us []) bnd r2 hq) fun r s' hq' => ?_))
  cases r with
  | error er => exact hx pins σ _ _ er s' I2 hq'
  | ok fl =>
    cases fl with
    | ret u =>
      obtain ⟨v, H2, os2, bare2, un2, hok2, rv, ev, d, fs, ea, ed, hd1, q2⟩ := hq'
      subst ev
      obtain ⟨h2, g2, d2, t2, os'⟩ := s'
      obtain ⟨t0, G, J, kG, ge, hoe, na⟩ := mk_end0 (d2 := d2) (t2 := t2) I1 (Nat.le_succ _) kk un2 hok2 os2 bare2 ea ed hd1
      exact ⟨rv, _, _, _, ⟨G, g2, d2, t2, os'⟩, _, .ref C, some d, rfl, J, kG, ge, hoe, ⟨rfl, rfl, fun vs z => by cases z; rfl⟩, rfl, rfl, na, rfl, bare2, raises_own T.exC T.tyC, q2⟩
    | next => exact False.elim hq'
    | brk => exact False.elim hq'
    | cont => exact False.elim hq'
structure ExcV (K : PySem.W.Frag) (mg : Str → Option Value) (x : Str) (fs : List Str) : Prop where
  oex : OexC K (ga K x)
  ini : PySem.W.findIn K (.ref (ga K x)) "__init__" = some (some (.ref (ma K (ga K x) "__init__")))
  tyI : PySem.W.typeIn K (.ref (ma K (ga K x) "__init__")) = some (.type "function")
  no : ∀ f, f ∈ fs → PySem.W.findIn K (.ref (ga K x)) f = some none
  gl : mg x = some (.ref (ga K x))
  xf : XfC K (ga K x)
def isOex (K : PySem.W.Frag) (C : Addr) : Bool := match List.lookup C K with
  | some ⟨.type "type", _, .cls cd, sl⟩ => (match cd.mro, sl.toList with
    | .ref C' :: bm, [_, _, _, _, some (.builtin n), _] => C' == C && (n == "ValueError.__new__" && (cd.hasDict && (!cd.hasDel && HandSPX.refsVE bm)))
    | _, _ => false)
  | _ => false
theorem isOex_ok {K : PySem.W.Frag} {C : Addr} (h : isOex K C = true) : ∃ nm q N bs bm sn sub ab col dd k0 k1 k2 k3 k5, List.lookup C K = some (excClassObj nm q C N bs bm true sn sub ab col dd k0 k1 k2 k3 k5 "ValueError.__new__") ∧ HandSPX.refsVE bm = true := by
  unfold isOex at h
  split at h
  · rename_i dd cd sl e
    split at h
    · rename_i C' bm k0 k1 k2 k3 n k5 e1 e2
      simp only [Bool.and_eq_true, beq_iff_eq, Bool.not_eq_true'] at h
      obtain ⟨h1, h2, h3, h4, h5⟩ := h
      obtain ⟨nm, bs, mro, N, q, hd, sn, sub, ab, col, del⟩ := cd
      dsimp only at e1 h3 h4
      subst h1; subst h2; subst h3; subst h4; subst e1
      refine ⟨nm, q, N, bs, bm, sn, sub, ab, col, dd, k0, k1, k2, k3, k5, ?_, h5⟩
      rw [e]
      congr 2
      exact Array.toList_inj.mp e2
    · cases h
  · cases h
def fExcV (x : Str) (fs : List Str) : FB := fun K => isOex K (ga K x) && (eqO (PySem.W.findIn K (.ref (ga K x)) "__setattr__") (some (some (.builtin "object.__setattr__"))) && (decide (PySem.W.subIn K (.ref (ga K x)) (.type "BaseException") = some true) && (decide (PySem.W.typeIn K (.ref (ga K x)) = some (.type "type")) && (PySem.W.keepIn K (.ref (ga K x)) &&
  (eqO (PySem.W.findIn K (.ref (ga K x)) "__init__") (some (some (.ref (ma K (ga K x) "__init__")))) && (decide (PySem.W.typeIn K (.ref (ma K (ga K x) "__init__")) = some (.type "function")) && (fs.all (fun f => eqO (PySem.W.findIn K (.ref (ga K x)) f) (some none)) && ((Fa.glo x).ok K &&
  (eqO (PySem.W.findIn K (.ref (ga K x)) "__getattribute__") (some (some (.builtin "BaseException.__getattribute__"))) && (eqO (PySem.W.findIn K (.ref (ga K x)) "__getattr__") (some none) && PySem.W.hasDictIn K (ga K x)))))))))))
theorem excV_of {K : PySem.W.Frag} {mg : Str → Option Value} {h : Heap} (X : K.In h) (G : h.Ns mainGlobals mg) {x : Str} {fs : List Str} (c : fExcV x fs K = true) : ExcV K mg x fs := by
  obtain ⟨c1, c⟩ := ba c
  obtain ⟨c2, c⟩ := ba c
  obtain ⟨c3, c⟩ := ba c
  obtain ⟨c4, c⟩ := ba c
  obtain ⟨c5, c⟩ := ba c
  obtain ⟨c6, c⟩ := ba c
  obtain ⟨c7, c⟩ := ba c
  obtain ⟨c8, c⟩ := ba c
  obtain ⟨c9, c⟩ := ba c
  obtain ⟨c10, c⟩ := ba c
  obtain ⟨c11, c12⟩ := ba c
  exact ⟨⟨isOex_ok c1, of_decide_eq_true c2, of_decide_eq_true c3, of_decide_eq_true c4, c5⟩, of_decide_eq_true c6, of_decide_eq_true c7, fun f hf => of_decide_eq_true (List.all_eq_true.mp c8 f hf), glo_ok X G c9, ⟨of_decide_eq_true c10, of_decide_eq_true c11, of_decide_eq_true c3, c12⟩⟩
section
variable {P : Program} {w : World} {K : PySem.W.Frag} {mg : Str → Option Value} {base : Heap}
def sp1 (C : Addr) (f : Str) : Sp := fun vs H Q _ => ∃ a v, vs = [.ref a, v] ∧ H a = some (exo a C none) ∧ ∀ dx, H dx = none → dx ≠ a → Q .non (upd (upd H dx (exd dx [(f, v)])) a (exo a C (some dx)))
theorem init1 {x qual : Str} {params : Arguments} {body : List Stmt} {scope : Scope} {fl : Addr} {fd : FuncData} {p f : Str} {p1 p2 p3 pos : Pos} {C : Addr} (F : FunD K x qual params body scope [] [] fl fd) (S : FnScope ["self", p] ["self", p] scope) (hb : body = [.Assign [.Attribute (.Name "self" p1) f p2] (.Name p p3) pos]) (T : OexC K C) (hno : PySem.W.findIn K (.ref C) f = some none)
    (hv0 : Vis scope "self") (hv1 : Vis scope p) (hd : (p == ("__debug__" : Str)) = false) (hcd : (p == ("__classdict__" : Str)) = false) : FnOk P w K mg base (L2N.CX P w) 1 fl fd ["self", p] (sp1 C f) := by
  refine F.ok (k := 0) S (fun vs H Q E ⟨a, v, e, _⟩ => by rw [e]; rfl) fun cdv A outer s H vs Q E hr ⟨a, v, e, ha, h⟩ => ⟨_, pss_W, ?_⟩
  subst e; subst hb
  refine b_cons (PS.w (ps_ost pe_W pe_W) (w_var 1 (v := v) (w_var 0 (v := .ref a) ?_ rfl rfl hv0 (by decide) (by decide)) rfl rfl hv1 hd hcd))
  refine ⟨a, C, rfl, T, hno, .inl ⟨ha, fun dx h1 h2 => ?_⟩⟩
  exact b_nil (h dx h1 h2)
/-- the promise of an error's making -/
abbrev ErR1 (P : Program) (w : World) (K : PySem.W.Frag) (mg : Str → Option Value) (base : Heap) (x f : Str) : Prop := ExcV K mg x [f] ∧ ∃ fd ps, FnOk P w K mg base (L2N.CX P w) 1 (ma K (ga K x) "__init__") fd ps (sp1 (ga K x) f) ∧ Binds K fd ps []
end
section
variable {α β γ δ S L : Type} {X : Cx} {I0 H0 : Hp} {W : WX} {Kx : KnowsX} {ctx cw : List (Option SF)} {mem : List MF} {e a b : Expr} {ss body suite : List Stmt} {b₀ : Stmt} {pos pos' np p1 p3 : Pos} {n x f g : Str} {rr : Ra γ} {r : Rp α} {r2 : Rp β} {G : Knows}
theorem passNo : Passes (L2N.CX X.prog X.w) X (fun _ _ _ => False) := fun _ _ _ _ _ _ _ ⟨_, _, _, _, _, _, _, _, _, _, _, _, h⟩ => h.elim
def ErrP (X : Cx) (W : WX) (Kx : KnowsX) (e : Exn) : Prop := ∀ I' H' σ' cls d, Kx I' H' σ' d → ExR X.K I' H' e cls d → W cls d σ' H'
theorem err_last {fs : List (Str × V)} {ps : List (Str × Pay)} {I H : Hp} {σ : L2.St} {a dx : Addr} (st : Stt I0 H0 ctx mem I H σ) (hx : ∀ I H σ d, Stt I0 H0 ctx mem I H σ → Fr H0 d → Kx I H σ d) (p : ErrP X W Kx ⟨x, ps⟩) (hp : ps ≠ []) (pr : Paired (fun (p : Str × V) (q : Str × Pay) => p.1 = q.1 ∧ PayR X.K I p.2 q.2) fs ps) (ha : H a = none) (h1 : H dx = none) (h2 : dx ≠ a) {H2 : Hp} (hH2 : ∀ b, b ≠ a → b ≠ dx → H2 b = H b) : W (.ref (ga X.K x)) (some dx) σ (upd (del H2 a) dx (.xd fs)) := by
  have e : upd (del H2 a) dx (.xd fs) = upd H dx (.xd fs) := funext fun b => by
    by_cases hb : b = dx
    · subst hb; rw [upd_same, upd_same]
    · rw [upd_ne hb, upd_ne hb]
      by_cases hb2 : b = a
      · subst hb2
        rw [ha]
        simp [del]
      · have : del H2 a b = H2 b := by simp [del, hb2]
        rw [this, hH2 b hb2 hb]
  rw [e]
  have f1 : Fm I H I (upd H dx (.xd fs)) := Fm.newM st.same h1
  refine p I _ σ _ (some dx) (hx _ _ _ _ (st.step f1) fun q z => by cases z; exact st.fm.h.free h1) ⟨rfl, hp, fs, upd_same, st.same.free h1, pr⟩
theorem raise1_core {m : Res α} {pay : α → Pay} {D : Ends} {I H : Hp} {σ : L2.St} (hc : X.calm = true) (tk : L2N.Takes X W) (er : ErR1 X.prog X.w X.K X.mg X.base x f) (hr : Room 2 X.A) (je : JE X I0 H0 W ctx mem e m (rp r)) (pc : ∀ I v y, r I v y → PayR X.K I v (pay y)) (hx : ∀ I H σ d, Stt I0 H0 ctx mem I H σ → Fr H0 d → Kx I H σ d) (st : Stt I0 H0 ctx mem I H σ)
    (p : match m with | .ok y => ErrP X W Kx ⟨x, [(f, pay y)]⟩ | .err ee => ErrP X W Kx ee | .stuck => False) (hg : Gl X x := by rfl) (hdb : (x == ("__debug__" : Str)) = false := by decide) (hs : starEach [e] X.env = (false, eval e X.env) :: starEach [] X.env := by rfl) (hpl : (backTo p3 (starEach [] X.env)).any (·.1) = false := by rfl) :
    wS X (.Raise (some (.Call (.Name x p1) [e] [] p3)) none pos) D σ H := by
  obtain ⟨ev, fd, ps, F1, hb⟩ := er
  refine s_raise hc tk (pmk_oexN ev.oex ev.ini ev.tyI F1 hr hb passNo hg ev.gl pa_W hdb hs hpl) ?_
  refine Tr.w_cons (je I H σ _ st ?_) hs
  cases m with
  | ok y =>
    intro I1 H1 v f1 r1
    refine w_nil ⟨by simp, fun q hq => ⟨q, v, rfl, upd_same, fun dx h1 h2 => ⟨rfl, dx, [(f, v)], upd_same, by rw [upd_ne h2, upd_same], by rwa [upd_ne h2] at h1, ?_⟩⟩⟩
    refine err_last (st.step f1) hx p (by simp) (.cons ⟨rfl, pc I1 v y r1⟩ .nil) hq (by rwa [upd_ne h2] at h1) h2 fun b h3 h4 => ?_
    rw [upd_ne h3, upd_ne h4, upd_ne h3]
  | err ee => exact fun I' H' c d f y => p I' H' σ c d (hx _ _ _ _ (st.step f) (y.1.back st.fm.h)) y.2
  | stuck => exact p
/-! the rules -/
theorem J1.raise1 {m : Res α} {pay : α → Pay} {G' : S → Knows} (hc : X.calm = true) (tk : L2N.Takes X W) (er : ErR1 X.prog X.w X.K X.mg X.base x f) (hr : Room 2 X.A) (je : JE X I0 H0 W ctx mem e m (rp r)) (pc : ∀ I v y, r I v y → PayR X.K I v (pay y)) (hx : ∀ I H σ d, Stt I0 H0 ctx mem I H σ → Fr H0 d → Kx I H σ d) (hg : Gl X x := by rfl) (hdb : (x == ("__debug__" : Str)) = false := by decide) (hs : starEach [e] X.env = (false, eval e X.env) :: starEach [] X.env := by rfl) (hpl : (backTo p3 (starEach [] X.env)).any (·.1) = false := by rfl) :
    J1 X W Kx (Stt I0 H0 ctx mem) (.Raise (some (.Call (.Name x p1) [e] [] p3)) none pos) (m.bind fun y => (.err ⟨x, [(f, pay y)]⟩ : Res S)) G' := fun I H σ D st p => by
  refine raise1_core hc tk er hr je pc hx st ?_ hg hdb hs hpl
  cases m with
  | ok y => exact p
  | err ee => exact p
  | stuck => exact p
theorem JN.raise1 {m : Res α} {pay : α → Pay} {G' : S → Knows} (hc : X.calm = true) (tk : L2N.Takes X W) (er : ErR1 X.prog X.w X.K X.mg X.base x f) (hr : Room 2 X.A) (je : JE X I0 H0 W ctx mem e m (rp r)) (pc : ∀ I v y, r I v y → PayR X.K I v (pay y)) (hx : ∀ I H σ d, Stt I0 H0 ctx mem I H σ → Fr H0 d → Kx I H σ d) (hg : Gl X x := by rfl) (hdb : (x == ("__debug__" : Str)) = false := by decide) (hs : starEach [e] X.env = (false, eval e X.env) :: starEach [] X.env := by rfl) (hpl : (backTo p3 (starEach [] X.env)).any (·.1) = false := by rfl) :
    JN X W Kx (Stt I0 H0 ctx mem) (.Raise (some (.Call (.Name x p1) [e] [] p3)) none pos :: ss) (m.bind fun y => (.err ⟨x, [(f, pay y)]⟩ : Res S)) G' := fun I H σ D st p => by
  refine b_cons (raise1_core hc tk er hr je pc hx st ?_ hg hdb hs hpl)
  cases m with
  | ok y => exact p
  | err ee => exact p
  | stuck => exact p
theorem JR.raise1 {m : Res α} {pay : α → Pay} (hc : X.calm = true) (tk : L2N.Takes X W) (er : ErR1 X.prog X.w X.K X.mg X.base x f) (hr : Room 2 X.A) (je : JE X I0 H0 W ctx mem e m (rp r)) (pc : ∀ I v y, r I v y → PayR X.K I v (pay y)) (hx : ∀ I H σ d, Stt I0 H0 ctx mem I H σ → Fr H0 d → Kx I H σ d) (hg : Gl X x := by rfl) (hdb : (x == ("__debug__" : Str)) = false := by decide) (hs : starEach [e] X.env = (false, eval e X.env) :: starEach [] X.env := by rfl) (hpl : (backTo p3 (starEach [] X.env)).any (·.1) = false := by rfl) :
    JR X I0 H0 W Kx (Stt I0 H0 ctx mem) (.Raise (some (.Call (.Name x p1) [e] [] p3)) none pos :: ss) (m.bind fun y => (.err ⟨x, [(f, pay y)]⟩ : Res γ)) rr := fun I H σ D st p => by
  refine b_cons (raise1_core hc tk er hr je pc hx st ?_ hg hdb hs hpl)
  cases m with
  | ok y => exact p
  | err ee => exact p
  | stuck => exact p
theorem pay_int {K : PySem.W.Frag} : ∀ I v y, rInt I v y → PayR K I v (.int y) := fun _ _ _ h => h
theorem pay_str {K : PySem.W.Frag} : ∀ I v y, rStr I v y → PayR K I v (.str y) := fun _ _ _ h => h
/-- a region that holds nothing but the frozen heap's history -/
def MF.same (I1 : Hp) : MF := ⟨fun I _ fp => fp = [] ∧ Same I1 I, fun s ⟨e, h⟩ => ⟨e, h.trans s⟩, fun _ h => h⟩
theorem Regs.snoc {I H : Hp} {c : MF} : ∀ {mem : List MF} {fps : List (List Addr)} {fp : List Addr}, Regs I H mem fps → c.Q I H fp → Regs I H (mem ++ [c]) (fps ++ [fp])
  | [], [], _, _, h => ⟨h, True.intro⟩
  | _ :: _, _ :: _, _, ⟨a, b⟩, h => ⟨a, Regs.snoc b h⟩
  | [], _ :: _, _, h, _ => h.elim
  | _ :: _, [], _, h, _ => h.elim
theorem Regs.unsnoc {I H : Hp} {c : MF} : ∀ {mem : List MF} {fps : List (List Addr)}, Regs I H (mem ++ [c]) fps → ∃ fps0 fp, fps = fps0 ++ [fp] ∧ Regs I H mem fps0 ∧ c.Q I H fp
  | [], [fp], ⟨h, _⟩ => ⟨[], fp, rfl, True.intro, h⟩
  | [], [], h => h.elim
  | [], _ :: _ :: _, ⟨_, h⟩ => h.elim
  | _ :: _, q :: _, ⟨a, b⟩ => by
    obtain ⟨fps0, fp, e, r, h⟩ := Regs.unsnoc b
    exact ⟨q :: fps0, fp, by rw [e]; rfl, ⟨a, r⟩, h⟩
  | _ :: _, [], h => h.elim
theorem Stt.ghost {I H : Hp} {σ : L2.St} (s : Stt I0 H0 ctx mem I H σ) : Stt I0 H0 ctx (mem ++ [MF.same I]) I H σ := by
  obtain ⟨fps, rg, nd, k⟩ := s.me
  have e : (fps ++ [[]]).flatten = fps.flatten := by simp
  exact ⟨s.fm, s.len, s.sl, fps ++ [[]], rg.snoc ⟨rfl, Same.refl _⟩, by rw [e]; exact nd, fun a ha => k a (by rwa [e] at ha)⟩
theorem Stt.ungh {I1 I H : Hp} {σ : L2.St} (s : Stt I0 H0 ctx (mem ++ [MF.same I1]) I H σ) : Same I1 I ∧ Stt I0 H0 ctx mem I H σ := by
  obtain ⟨fps, rg, nd, k⟩ := s.me
  obtain ⟨fps0, fp, e, r, e2, h⟩ := rg.unsnoc
  subst e2; subst e
  have e : (fps0 ++ [[]]).flatten = fps0.flatten := by simp
  rw [e] at nd k
  exact ⟨h, s.fm, s.len, s.sl, fps0, r, nd, k⟩
/-! with a payload of one field -/
def pay1 {δ : Type} (f : Str) (dp : Pay → Option α) (h : α → Res δ) (ps : List (Str × Pay)) : Res δ := match ps with
  | [(g, p)] => if g = f then (match dp p with
    | some y => h y
    | none => .stuck) else .stuck
  | _ => .stuck
def dInt : Pay → Option Int
  | .int n => some n
  | _ => none
def dStr : Pay → Option Str
  | .str n => some n
  | _ => none
def dFrac : Pay → Option Rat
  | .frac n => some n
  | _ => none
def dNum : Pay → Option Num
  | .int n => some (.i n)
  | .frac q => some (.q q)
  | _ => none
class PayD (K : PySem.W.Frag) (dp : Pay → Option α) (r : Rp α) : Prop where
  ok : ∀ I v p y, PayR K I v p → dp p = some y → r I v y
instance {K : PySem.W.Frag} : PayD K dInt rInt := ⟨fun I v p y h e => by cases p <;> first | (cases e; exact h) | cases e⟩
instance {K : PySem.W.Frag} : PayD K dStr rStr := ⟨fun I v p y h e => by cases p <;> first | (cases e; exact h) | cases e⟩
instance {K : PySem.W.Frag} : PayD K dFrac (rFrac K) := ⟨fun I v p y h e => by cases p <;> first | (cases e; exact h) | cases e⟩
instance {K : PySem.W.Frag} : PayD K dNum (rNum K) := ⟨fun I v p y h e => by cases p <;> first | (cases e; exact h) | cases e⟩
/-- a field of the error in hand -/
theorem JE.xfld (i j : Nat) {ad dd : Addr} {oe : Obj} {pn : List (Addr × Obj)} {c0 : Str} {ps : List (Str × Pay)} {p : Pay} {y : α} {dp : Pay → Option α} [pd : PayD X.K dp r] (hz : L2N.Zn (.ref (He.ga X.K c0)) (some dd) oe) (hf : ∃ vs, oe.data = .fields vs) (ev : XfC X.K (He.ga X.K c0)) (hno : PySem.W.findIn X.K (.ref (He.ga X.K c0)) f = some none) (hd : dp p = some y) (hl : ps.lookup f = some p) (je : JE (X.suite ad ((ad, oe) :: pn)) I0 H0 W ctx mem a (.ok ()) (rp (rExc ad))) (hj : mem[j]? = some (MF.xd X.K dd ps) := by rfl) (hab : attributeBase a f X.env (eval a X.env) = eval a X.env := by rfl) :
    JE (X.suite ad ((ad, oe) :: pn)) I0 H0 W ctx mem (.Attribute a f pos) (.ok y) (rp r) := fun I H σ Q st q => by
  refine PE.w (pe_xf ev hno hz.zc hf pe_W hab) (je I H σ _ st ?_)
  intro I1 H1 v f1 r1
  have ev1 : v = .ref ad := r1
  obtain ⟨_, _, o, h1, fs, e1, pr⟩ := (st.step f1).me1 (P := fun I o => ∃ fs, o = .xd fs ∧ Paired (fun (p : Str × V) (q : Str × Pay) => p.1 = q.1 ∧ PayR X.K I p.2 q.2) fs ps) hj fun q => q
  subst e1
  have look : ∀ {fs : List (Str × V)} {ps : List (Str × Pay)}, Paired (fun (p : Str × V) (q : Str × Pay) => p.1 = q.1 ∧ PayR X.K I1 p.2 q.2) fs ps → ps.lookup f = some p → ∃ v, fs.lookup f = some v ∧ PayR X.K I1 v p := by
    intro fs ps h
    induction h with
    | nil => intro h; cases h
    | @cons u w us ws hh ht ih =>
      intro hl
      obtain ⟨u1, u2⟩ := u
      obtain ⟨w1, w2⟩ := w
      obtain ⟨e, hp⟩ := hh
      dsimp only at e hp
      subst e
      have hl' : (match f == u1 with | true => some w2 | false => ws.lookup f) = some p := hl
      show ∃ v, (match f == u1 with | true => some u2 | false => us.lookup f) = some v ∧ _
      cases hb : f == u1 with
      | true => rw [hb] at hl'; cases hl'; exact ⟨u2, rfl, hp⟩
      | false => rw [hb] at hl'; exact ih hl'
  obtain ⟨z, hz1, hz2⟩ := look pr hl
  exact ⟨ev1, rfl, dd, fs, z, rfl, h1, hz1, q I1 H1 z f1 (pd.ok I1 z p y hz2 hd)⟩
end
end L2.Tr

namespace L2.Tr
open PySem PySem.Spec PyProof.Rows He
section
variable {α β γ δ S L : Type} {X : Cx} {I0 H0 I H : Hp} {W : WX} {Kx : KnowsX} {G : Knows} {ctx : List (Option SF)} {mem : List MF} {e a b c o : Expr} {es : List Expr} {st : Stmt} {ss s1 : List Stmt} {pos pos' p2 : Pos} {n : Str} {σ : St} {Q : VK} {r : Rp α} {ra : Ra α} {rb : Ra β} {rc : Ra γ} {rr : Ra γ} {ma : Res α} {mb : Res β} {mc : Res Bool} {md : Res δ} {R : Hp → Hp → List V → δ → Prop} {K : PySem.W.Frag}
end
end L2.Tr

/-! lists of numbers that are equal item by item: != tells False -/
namespace GQ
open PySem PySem.SeqAt
open AutoSeq1 (wpAny_loadPart')
open MeetsSeq MeetsSeq2 MeetsSeq3 SeqRoads2
section
variable {prog : Program} {w : World} {A : Around} {R : Result → Shared → Prop} {E : Value → Shared → Prop} {s : Shared}
theorem ne_run {p q : Addr} {N : Nat} {J : Nat → Shared → Prop} (hJ : ListI prog w A (fun e t => R (.error e) t) p q N J) (stop : ∀ t, J N t → R (.ok (.ret (.bool false))) t) :
    ∀ (k i : Nat), i + k = N → ∀ t, J i t → wpAny (model prog w) A.in1 (Builtin.«list.__eq__.loop» ⟨[.ref p, .ref q, rawInt i, rawInt 3], []⟩) (FinOf prog w A R) (fun e t => R (.error e) t) t
  | 0, i, ei, t, j => by
    obtain rfl : i = N := ei
    have done := stop t j
    obtain ⟨us, vs, c1, c2, gp, gq, z1, z2, _⟩ := hJ i t j
    have o1 : us[((i : Nat) : Int).toNat]? = none := by rw [Int.toNat_natCast]; exact Array.getElem?_eq_none (by omega)
    have o2 : vs[((i : Nat) : Int).toNat]? = none := by rw [Int.toNat_natCast]; exact Array.getElem?_eq_none (by omega)
    obtain ⟨t1, t2, t3, t4, t5⟩ := t
    wp_walk using wpAny_loadPart' gp, wpAny_loadPart' gq
    rw [o1, o2]
    wp_walk using wpAny_loadPart' gp, wpAny_loadPart' gq
    have ez : (us.size != vs.size) = false := by rw [z1, z2]; simp
    show R (.ok (.ret (.bool (us.size != vs.size)))) _
    rw [ez]
    exact done
  | k + 1, i, ei, t, j => by
    obtain ⟨us, vs, c1, c2, gp, gq, z1, z2, next⟩ := hJ i t j
    have a1 : i < us.size := by omega
    have a2 : i < vs.size := by omega
    have o1 : us[((i : Nat) : Int).toNat]? = some us[i] := by rw [Int.toNat_natCast]; exact Array.getElem?_eq_getElem a1
    have o2 : vs[((i : Nat) : Int).toNat]? = some vs[i] := by rw [Int.toNat_natCast]; exact Array.getElem?_eq_getElem a2
    have one := next a1 a2
    obtain ⟨t1, t2, t3, t4, t5⟩ := t
    wp_walk using wpAny_loadPart' gp, wpAny_loadPart' gq
    rw [o1, o2]
    refine wpAny_bind (wpAny_mono one (fun x t' hx => ?_) fun _ _ z => z)
    obtain ⟨rfl, j'⟩ := hx
    have rest := ne_run hJ stop k (i + 1) (by omega) t' j'
    obtain ⟨t1', t2', t3', t4', t5'⟩ := t'
    wp_walk
    rw [show ((i : Int) + 1) = ((i + 1 : Nat) : Int) from rfl]
    refine ⟨plainId_quiet plain_eq_loop _, codeAny_builtin entry_eq_loop ?_⟩
    rw [Around.under_plainId plain_eq_loop _]
    exact rest
theorem ne_lists {p q : Addr} {N : Nat} {Q : Value → Shared → Prop} (hu : A.units < cLine) {J : Nat → Shared → Prop} (hJ : ListI prog w A E p q N J) (stop : ∀ t, J N t → Q (.bool false) t) (j0 : J 0 s) : wpAny (model prog w) A (richCompare .NotEq (.ref p) (.ref q)) Q E s := by
  have go := ne_run (R := wants (fun v t => v ≠ .notImplemented ∧ Q v t) E) hJ (fun t j => ⟨(fun x => nomatch x), stop t j⟩) N 0 (Nat.zero_add N) s j0
  obtain ⟨us, vs, c1, c2, gp, gq, z1, z2, _⟩ := hJ 0 s j0
  have ez : ¬ (us.size != vs.size) = true := by rw [z1, z2]; simp
  refine wpAny_richCompare_same_room (op := .NotEq) ⟨_, gp, rfl⟩ ⟨_, gq, rfl⟩ F.slot_list_ne (call_here F.slot_list_ne ⟨_, gp, rfl⟩ F.entry_list_ne (F.args_list_ne_2 _ _) ?_) hu
  have sub := AutoSeq1.sub_list_list
  obtain ⟨t1, t2, t3, t4, t5⟩ := s
  wp_walk using wpAny_loadPart' gp, wpAny_loadPart' gq
  refine ⟨plainId_quiet plain_eq_loop _, codeAny_builtin entry_eq_loop ?_⟩
  rw [Around.under_plainId plain_eq_loop _]
  exact go
end
end GQ
namespace L2.Tr
open PySem PySem.Spec PyProof.Rows He
instance : DecidableEq Num := fun x y => match x, y with
  | .i a, .i b => if h : a = b then .isTrue (by rw [h]) else .isFalse fun e => h (by cases e; rfl)
  | .q a, .q b => if h : a = b then .isTrue (by rw [h]) else .isFalse fun e => h (by cases e; rfl)
  | .i _, .q _ => .isFalse fun e => nomatch e
  | .q _, .i _ => .isFalse fun e => nomatch e
section
variable {X : Cx} {W : WX} {n : Nat} {D : Eqv}
theorem ne_data (hD : Mon D) (h : EqG X n D) {A : Around} {pins : List (Addr × Obj)} {s : Shared} {σ : St} {H : Hp} {a b : Addr} {xs ys : List V} (sb : Sub X (n + 1) A) (I : Inv X pins σ H s) (ha : H a = some (.lst xs)) (hb : H b = some (.lst ys)) (p : Prs D xs ys H) :
    wpAny (model X.prog X.w) A (richCompare .NotEq (.ref a) (.ref b)) (fun r t => r = .bool false ∧ ∃ H', Inv X pins σ H' t ∧ Ext H H') X.xe s :=
  GQ.ne_lists (N := xs.length) (J := fun _ t => LoopI X pins σ H t) sb.room.units0 (fun i t q => by
    obtain ⟨H1, I1, x1⟩ := id q
    obtain ⟨_, us, k, r, e⟩ := I1.hok a _ (x1 _ _ ha)
    obtain ⟨_, vs, k2, r2, e2⟩ := I1.hok b _ (x1 _ _ hb)
    exact ⟨us.toArray, vs.toArray, k, k2, e, e2, by rw [List.size_toArray, ← r.length], by rw [List.size_toArray, ← r2.length, ← p.1], fun h1 h2 => turnG hD h sb p r r2 i h1 h2 t q⟩) (fun t q => ⟨rfl, q⟩) ⟨H, I, Ext.rfl'⟩
/-- two Fractions of one worth -/
def DFr (K : PySem.W.Frag) : Eqv := fun x y H => ∃ I q, Same I H ∧ rFrac K I x q ∧ rFrac K I y q
theorem rcG_fr {k : Nat} {f : Addr} {gb : Rat × Num × Unit → Res Bool} (hm : OMet X.K (He.ga X.K "Fraction") "__eq__" f) (F : FnR X.prog X.w X.K X.mg X.base (L2N.CX X.prog X.w) k f (spF X.K (R2' (rp (rFrac X.K)) (rp (rNum X.K))) gb (rp rBl))) (tk : L2N.Takes X W) (hg : ∀ q, gb (q, .q q, ()) = .ok true) : RcG X k (DFr X.K) := by
  rintro A pins s σ H _ _ u v sb I rx ry ⟨Ig, q, sm, ⟨a, dx, rfl, ha⟩, ⟨b, dy, rfl, hb⟩⟩
  obtain rfl : u = Value.ref a := rx
  obtain rfl : v = Value.ref b := ry
  obtain ⟨od, J⟩ := insAt I (sm _ _ ha)
  obtain ⟨od', J'⟩ := insAt I (sm _ _ hb)
  obtain ⟨m, hF⟩ := I.fr
  refine PySem.W.cmp_K (op := .Eq) (tb := .ref (He.ga X.K "Fraction")) sb.room.units0 hF I.ok.mod.kin J J'.type (by simp [PySem.W.notFirst]) hm.at_ hm.fn ?_
  have env : Env0 X.prog X.w X.K X.mg X.base A X.stack s H := { I.env0 with frames := by rw [sb.fr]; exact I.env0.frames }
  have post : spF X.K (R2' (rp (rFrac X.K)) (rp (rNum X.K))) gb (rp rBl) [.ref a, .ref b] H (fun v H' => v = .bl true ∧ Ext H H') (fun cls d H' => W cls d σ H') :=
    ⟨Ig, (q, .q q, ()), sm, ⟨.ref a, [.ref b], rfl, ⟨a, dx, rfl, ha⟩, .ref b, [], rfl, ⟨b, dy, rfl, hb⟩, rfl⟩, by rw [hg q]; exact fun I' H' v f r => ⟨r, f.h⟩⟩
  refine wpAny_call (codeAny_mono (F A X.stack s H [.ref a, .ref b] [.ref a, .ref b] _ _ sb.room env (.cons rfl (.cons rfl .nil)) post) fun r t hq => ?_)
  cases r with
  | error e => exact L2N.passAt tk σ pins H s e t I hq
  | ok fl =>
    cases fl with
    | ret w =>
      obtain ⟨z, H', I', rz, rfl, ex⟩ := I.after hq
      cases rz
      exact ⟨rfl, H', I', ex⟩
    | next => exact False.elim hq
    | brk => exact False.elim hq
    | cont => exact False.elim hq
/-- two numbers, ints or Fractions alike -/
def DNm (K : PySem.W.Frag) : Eqv := fun x y H => ∃ I n, Same I H ∧ rNum K I x n ∧ rNum K I y n
theorem eqG_nm {k : Nat} {f : Addr} {gb : Rat × Num × Unit → Res Bool} (hm : OMet X.K (He.ga X.K "Fraction") "__eq__" f) (F : FnR X.prog X.w X.K X.mg X.base (L2N.CX X.prog X.w) k f (spF X.K (R2' (rp (rFrac X.K)) (rp (rNum X.K))) gb (rp rBl))) (tk : L2N.Takes X W) (hg : ∀ q, gb (q, .q q, ()) = .ok true) : EqG X k (DNm X.K) := fun A pins s σ H x y u v sb I rx ry d => by
  obtain ⟨I0, n, sm, a, b⟩ := d
  cases n with
  | i n =>
    cases (show x = V.int n from a)
    cases (show y = V.int n from b)
    exact (eqG_flat (X := X)).mono (Nat.zero_le k) A pins s σ H _ _ u v sb I rx ry ⟨rfl, rfl, by simp [eqV]⟩
  | q q =>
    exact (rcG_fr hm F tk hg).eqG (fun x y H ⟨_, _, _, ⟨a, _, ea, _⟩, ⟨b, _, eb, _⟩⟩ => ⟨a, b, ea, eb⟩) A pins s σ H x y u v sb I rx ry ⟨I0, q, sm, a, b⟩
end
end L2.Tr

namespace L2.Tr
open PySem PySem.Spec PyProof.Rows He
section
variable {α β γ δ S L : Type} {X : Cx} {I0 H0 I H : Hp} {W : WX} {ctx : List (Option SF)} {mem : List MF} {e a b c o : Expr} {es : List Expr} {pos pos' p2 : Pos} {n : Str} {σ : St} {Q : VK} {K : PySem.W.Frag}
theorem qEq_refl (q : Rat) : qEq q (.q q) = .ok true := by
  unfold qEq
  rw [show (Num.q q).val = q from rfl, decide_eq_true rfl]
/-! ### isinstance(e, c), e an error in hand that has values -/
def rIsV (K : PySem.W.Frag) (D ad dd : Addr) : List V → Hp → VK → Prop := fun xs H Q => ∃ (c : V) (u : Value) (t : Bool), xs = [.ref ad, c] ∧ (∀ v, RelV c v → v = u) ∧ PySem.W.kitOne K (.ref D) u = some t ∧ (∃ fs, H dd = some (.xd fs)) ∧ Q (.bl t) H
theorem call_isV {ad D dd : Addr} {oe : Obj} {pn : List (Addr × Obj)} (C : ExcC X.K D) (hz : L2N.Zn (.ref D) (some dd) oe) (hf : ∃ vs, oe.data = .fields vs) : CallR (X.suite ad ((ad, oe) :: pn)) (.builtin "isinstance") (rIsV X.K D ad dd) := by
  rintro pins s σ H xs us Q I r ⟨c, u, t, rfl, hu, hk, ⟨fs, hd⟩, q⟩
  cases r with | cons rx rr =>
  cases rr with | cons rt rr =>
  cases rr
  cases rx
  obtain rfl := hu _ rt
  obtain ⟨at_, _⟩ := I.pin (ad, oe) (List.mem_append_left _ List.mem_cons_self)
  obtain ⟨vs, hv⟩ := hf
  obtain ⟨mA, hns, _⟩ := (show ObjOk X.prog X.w H s.heap dd (.xd fs) from I.hok dd _ hd)
  obtain ⟨od, ho, _⟩ := lookIn_ns hns
  have J : PySem.W.InstAt s.heap ad oe D (some od) := ⟨at_, hz.1, by unfold PySem.W.notCls; rw [hv] <;> rfl, by rw [hz.2.1]; exact ho⟩
  have hcl : (PySem.W.clsIn X.K D).isSome = true := by obtain ⟨cd, h1, _⟩ := PySem.W.any_some C.hd; rw [h1]; rfl
  exact PySem.W.kia_one (PySem.W.kitx_exc hcl C.hg C.hk C.hs C.ha C.hn C.ht C.hm) I.kIn J hk (fun z => nomatch z) fun tk => ⟨.bl t, H, I.kept (t' := tk) fun _ _ z => z, rfl, q⟩
theorem JE.isV (j : Nat) {ad dd : Addr} {oe : Obj} {pn : List (Addr × Obj)} {D : Addr} {u : Value} {cv : V} {bb : Bool} {ps : List (Str × Pay)} (hz : L2N.Zn (.ref D) (some dd) oe) (hf : ∃ vs, oe.data = .fields vs) (C : ExcC X.K D) (hk : PySem.W.kitOne X.K (.ref D) u = some bb) (je : JE (X.suite ad ((ad, oe) :: pn)) I0 H0 W ctx mem a (.ok ()) (rp (rExc ad))) (jc : ∀ σ H Q, Q cv H → wE (X.suite ad ((ad, oe) :: pn)) b σ H Q) (hc : ClsV cv u) (hm : X.mg "isinstance" = none) (hj : mem[j]? = some (MF.xd X.K dd ps) := by rfl) (hg : Gl (X.suite ad ((ad, oe) :: pn)) "isinstance" := by rfl)
    (hs : starEach [a, b] X.env = (false, eval a X.env) :: starEach [b] X.env := by rfl) (hs2 : starEach [b] X.env = (false, eval b X.env) :: starEach [] X.env := by rfl) (hpl : (backTo pos (starEach [b] X.env)).any (·.1) = false := by rfl) :
    JE (X.suite ad ((ad, oe) :: pn)) I0 H0 W ctx mem (.Call (.Name "isinstance" pos') [a, b] [] pos) (.ok bb) (rp rBl) := fun I H σ Q st p => by
  refine w_callB (id := "isinstance") (Tr.w_cons (je I H σ _ st ?_) hs) hm (by decide +kernel) hg (by decide) (by decide) hs hpl
  intro I1 H1 v f1 r1
  cases (show v = V.ref ad from r1)
  obtain ⟨_, _, o, h1, fs, e1, _⟩ := (st.step f1).me1 (P := fun I o => ∃ fs, o = .xd fs ∧ Paired (fun (p : Str × V) (q : Str × Pay) => p.1 = q.1 ∧ PayR X.K I p.2 q.2) fs ps) hj fun q => q
  subst e1
  refine Tr.w_cons (jc σ H1 _ (w_nil ?_)) hs2
  exact CallR.w (call_isV C hz hf) ⟨cv, u, bb, rfl, fun w hw => hc.eq hw, hk, ⟨fs, h1⟩, p I1 H1 _ f1 rfl⟩
/-! ### C.m(k = v, ..), m a classmethod -/
section
variable {ε : Type} {kws : List Keyword} {ks : List Str} {R : Hp → Hp → List V → δ → Prop} {R' : Hp → Hp → List V → ε → Prop} {rc : Ra γ} {me : Res ε}
end
end
end L2.Tr

namespace L2.Tr
open PySem PySem.Spec PyProof.Rows
/-! ### expressions that change regions of the call's own: C t are the regions at the state t -/
section
variable {α β γ δ S T L : Type}
def PostX (X : Cx) (I0 H0 : Hp) (W : WX) (Kx : KnowsX) (ctx : List (Option SF)) (C : T → List MF) (σ : St) (I : Hp) (m : Res (α × T)) (r : Rp α) (Q : VK) : Prop := match m with
  | .ok x => ∀ I' H' v, Same I I' → Stt I0 H0 ctx (C x.2) I' H' σ → r I' v x.1 → Q v H'
  | .err e => ∀ I' H' cls d, Kx I' H' σ d → ExR X.K I' H' e cls d → W cls d σ H'
  | .stuck => False
def PostXT (X : Cx) (I0 H0 : Hp) (W : WX) (Kx : KnowsX) (ctx : List (Option SF)) (C : T → List MF) (σ : St) (I : Hp) (m : Res (Bool × T)) (Q : Bool → Hp → Prop) : Prop := match m with
  | .ok x => ∀ I' H', Same I I' → Stt I0 H0 ctx (C x.2) I' H' σ → Q x.1 H'
  | .err e => ∀ I' H' cls d, Kx I' H' σ d → ExR X.K I' H' e cls d → W cls d σ H'
  | .stuck => False
def PostXA (X : Cx) (I0 H0 : Hp) (W : WX) (Kx : KnowsX) (ctx : List (Option SF)) (C : T → List MF) (σ : St) (I : Hp) (m : Res (δ × T)) (R : Hp → Hp → List V → δ → Prop) (Q : List V → Hp → Prop) : Prop := match m with
  | .ok x => ∀ I' H' vs, Same I I' → Stt I0 H0 ctx (C x.2) I' H' σ → R I' H' vs x.1 → Q vs H'
  | .err e => ∀ I' H' cls d, Kx I' H' σ d → ExR X.K I' H' e cls d → W cls d σ H'
  | .stuck => False
/-- a new list, still of the call's own -/
def PostXM (X : Cx) (I0 H0 : Hp) (W : WX) (Kx : KnowsX) (ctx : List (Option SF)) (C : T → List MF) (σ : St) (I : Hp) (m : Res (List α × T)) (r : Rp α) (Q : VK) : Prop := match m with
  | .ok x => ∀ I' H' l (mo : Mo r), Same I I' → Stt I0 H0 ctx (MF.lst l r x.1 :: C x.2) I' H' σ → Q (.ref l) H'
  | .err e => ∀ I' H' cls d, Kx I' H' σ d → ExR X.K I' H' e cls d → W cls d σ H'
  | .stuck => False
def PostXI (X : Cx) (I0 H0 : Hp) (W : WX) (Kx : KnowsX) (ctx : List (Option SF)) (C : T → List MF) (σ : St) (I : Hp) (m : Res (List β × T)) (r : Rp β) (R : It → Hp → Prop) : Prop := match m with
  | .ok x => ∀ I' H' J vs (okp : Hp → Prop), Same I I' → Stt I0 H0 ctx (C x.2) I' H' σ → ItR J vs okp → (∀ I'' H'', Same I' I'' → Same I'' H'' → Same H0 H'' → okp H'') → Paired (r I') vs x.1 → R J H'
  | .err e => ∀ I' H' cls d, Kx I' H' σ d → ExR X.K I' H' e cls d → W cls d σ H'
  | .stuck => False
def JX (X : Cx) (I0 H0 : Hp) (W : WX) (Kx : KnowsX) (ctx : List (Option SF)) (C : T → List MF) (t0 : T) (e : Expr) (m : Res (α × T)) (r : Rp α) : Prop :=
  ∀ (I H : Hp) (σ : St) (Q : VK), Stt I0 H0 ctx (C t0) I H σ → PostX X I0 H0 W Kx ctx C σ I m r Q → wE X e σ H Q
def JXT (X : Cx) (I0 H0 : Hp) (W : WX) (Kx : KnowsX) (ctx : List (Option SF)) (C : T → List MF) (t0 : T) (e : Expr) (m : Res (Bool × T)) : Prop :=
  ∀ (I H : Hp) (σ : St) (Q : Bool → Hp → Prop), Stt I0 H0 ctx (C t0) I H σ → PostXT X I0 H0 W Kx ctx C σ I m Q → wT X e σ H Q
def JXW (X : Cx) (I0 H0 : Hp) (W : WX) (Kx : KnowsX) (ctx : List (Option SF)) (C : T → List MF) (t0 : T) (e : Expr) (m : Res (Bool × T)) : Prop :=
  ∀ (I H : Hp) (σ : St) (Q : Bool → Hp → Prop), Stt I0 H0 ctx (C t0) I H σ → PostXT X I0 H0 W Kx ctx C σ I m Q → wW X e σ H Q
def JXA (X : Cx) (I0 H0 : Hp) (W : WX) (Kx : KnowsX) (ctx : List (Option SF)) (C : T → List MF) (t0 : T) (es : List Expr) (m : Res (δ × T)) (R : Hp → Hp → List V → δ → Prop) : Prop :=
  ∀ (I H : Hp) (σ : St) (Q : List V → Hp → Prop), Stt I0 H0 ctx (C t0) I H σ → PostXA X I0 H0 W Kx ctx C σ I m R Q → wA X es σ H Q
def JXM (X : Cx) (I0 H0 : Hp) (W : WX) (Kx : KnowsX) (ctx : List (Option SF)) (C : T → List MF) (t0 : T) (e : Expr) (m : Res (List α × T)) (r : Rp α) : Prop :=
  ∀ (I H : Hp) (σ : St) (Q : VK), Stt I0 H0 ctx (C t0) I H σ → PostXM X I0 H0 W Kx ctx C σ I m r Q → wE X e σ H Q
def JXI (X : Cx) (I0 H0 : Hp) (W : WX) (Kx : KnowsX) (ctx : List (Option SF)) (C : T → List MF) (t0 : T) (tg iter : Expr) (m : Res (List β × T)) (r : Rp β) : Prop :=
  ∀ (I H : Hp) (σ : St) (R : It → Hp → Prop), Stt I0 H0 ctx (C t0) I H σ → PostXI X I0 H0 W Kx ctx C σ I m r R → wI X tg iter σ H R
abbrev HX (I0 H0 : Hp) (Kx : KnowsX) (ctx : List (Option SF)) (C : T → List MF) : Prop := ∀ (t : T) (I H : Hp) (σ : St) (d : Option Addr), Stt I0 H0 ctx (C t) I H σ → Fr H0 d → Kx I H σ d
/-- a value and a state handed on -/
def Res.bindX (m : Res (α × T)) (f : α → T → Res β) : Res β := m.bind fun x => f x.1 x.2
@[simp] theorem Res.ok_bindX (a : α) (t : T) (f : α → T → Res β) : (Res.ok (a, t)).bindX f = f a t := rfl
@[simp] theorem Res.err_bindX (e : Exn) (f : α → T → Res β) : (Res.err e).bindX f = .err e := rfl
@[simp] theorem Res.stuck_bindX (f : α → T → Res β) : (Res.stuck).bindX f = .stuck := rfl
variable {X : Cx} {I0 H0 I H I1 : Hp} {W : WX} {Kx : KnowsX} {G : Knows} {ctx : List (Option SF)} {C : T → List MF} {t0 t : T} {e a b c o iter elt : Expr} {es bs : List Expr} {st : Stmt} {ss s1 s2 : List Stmt} {pos pos' p2 : Pos} {n : Str} {ra : Rp α} {rb : Rp β} {rc : Rp γ} {r : Rp α} {σ : St} {Q : VK} {R : Hp → Hp → List V → δ → Prop}
theorem PostX.up {m : Res (α × T)} (p : PostX X I0 H0 W Kx ctx C σ I m r Q) (s : Same I I1) : PostX X I0 H0 W Kx ctx C σ I1 m r Q := by
  cases m with
  | ok x => exact fun I' H' v q => p I' H' v (s.trans q)
  | err e => exact p
  | stuck => exact p
theorem PostXT.up {m : Res (Bool × T)} {Q : Bool → Hp → Prop} (p : PostXT X I0 H0 W Kx ctx C σ I m Q) (s : Same I I1) : PostXT X I0 H0 W Kx ctx C σ I1 m Q := by
  cases m with
  | ok x => exact fun I' H' q => p I' H' (s.trans q)
  | err e => exact p
  | stuck => exact p
theorem PostXA.up {m : Res (δ × T)} {Q : List V → Hp → Prop} (p : PostXA X I0 H0 W Kx ctx C σ I m R Q) (s : Same I I1) : PostXA X I0 H0 W Kx ctx C σ I1 m R Q := by
  cases m with
  | ok x => exact fun I' H' v q => p I' H' v (s.trans q)
  | err e => exact p
  | stuck => exact p
theorem PostX.pe {m : Res α} (st : Stt I0 H0 ctx (C t) I H σ) (hx : HX I0 H0 Kx ctx C) (p : PostX X I0 H0 W Kx ctx C σ I (m.bind fun z => .ok (z, t)) r Q) : PostE X.K m (rp r) I H (fun cls d H' => W cls d σ H') Q := by
  cases m with
  | ok a => exact fun I' H' v f h => p I' H' v f.i (st.step f) h
  | err e => exact fun I' H' c d f x => p I' H' c d (hx _ _ _ _ _ (st.step f) (x.1.back st.fm.h)) x.2
  | stuck => exact p
theorem JX.of {m : Res α} (j : JE X I0 H0 W ctx (C t0) e m (rp r)) (hx : HX I0 H0 Kx ctx C) : JX X I0 H0 W Kx ctx C t0 e (m.bind fun a => .ok (a, t0)) r := fun I H σ Q st p => j I H σ Q st (PostX.pe st hx p)
theorem JXT.of {m : Res Bool} (j : JT X I0 H0 W ctx (C t0) c m) (hx : HX I0 H0 Kx ctx C) : JXT X I0 H0 W Kx ctx C t0 c (m.bind fun a => .ok (a, t0)) := fun I H σ Q st p => j I H σ Q st (by
  cases m with
  | ok a => exact fun I' H' v f h b hb => by cases h; cases hb; exact p I' H' f.i (st.step f)
  | err e => exact fun I' H' c d f x => p I' H' c d (hx _ _ _ _ _ (st.step f) (x.1.back st.fm.h)) x.2
  | stuck => exact p)
theorem JXA.of {m : Res δ} (j : JA X I0 H0 W ctx (C t0) es m R) (hx : HX I0 H0 Kx ctx C) : JXA X I0 H0 W Kx ctx C t0 es (m.bind fun a => .ok (a, t0)) R := fun I H σ Q st p => j I H σ Q st (by
  cases m with
  | ok a => exact fun I' H' v f h => p I' H' v f.i (st.step f) h
  | err e => exact fun I' H' c d f x => p I' H' c d (hx _ _ _ _ _ (st.step f) (x.1.back st.fm.h)) x.2
  | stuck => exact p)
theorem JXM.of [mo : Mo r] {m : Res (List α)} (j : JM X I0 H0 W ctx (C t0) e m r) (hx : HX I0 H0 Kx ctx C) : JXM X I0 H0 W Kx ctx C t0 e (m.bind fun a => .ok (a, t0)) r := fun I H σ Q st p => j I H σ Q st (by
  cases m with
  | ok a => exact fun I' H' l vs f h1 h2 h3 pr => p I' H' l mo f.i (st.adopt f h1 h2 h3 pr)
  | err e => exact fun I' H' c d f x => p I' H' c d (hx _ _ _ _ _ (st.step f) (x.1.back st.fm.h)) x.2
  | stuck => exact p)
theorem JXI.of {tg : Expr} {m : Res (List β)} (j : JI X I0 H0 W ctx (C t0) tg iter m rb) (hx : HX I0 H0 Kx ctx C) : JXI X I0 H0 W Kx ctx C t0 tg iter (m.bind fun a => .ok (a, t0)) rb := fun I H σ R st p => j I H σ R st (by
  cases m with
  | ok a => exact fun I' H' J vs okp f h1 h2 pr => p I' H' J vs okp f.i (st.step f) h1 h2 pr
  | err e => exact fun I' H' c d f x => p I' H' c d (hx _ _ _ _ _ (st.step f) (x.1.back st.fm.h)) x.2
  | stuck => exact p)
theorem JX.map {m : Res (α × T)} {r' : Rp β} {g : α → β} (j : JX X I0 H0 W Kx ctx C t0 e m r) (h : ∀ I v x, r I v x → r' I v (g x)) : JX X I0 H0 W Kx ctx C t0 e (m.bindX fun x t => .ok (g x, t)) r' := fun I H σ Q st p => j I H σ Q st (by
  cases m with
  | ok x => exact fun I' H' v s g' q => p I' H' v s g' (h _ _ _ q)
  | err e => exact p
  | stuck => exact p)
theorem JX.bin {op : Operator} {g : α → β → Res γ} {ma : Res (α × T)} {mb : T → Res (β × T)} [Mo ra] (ja : JX X I0 H0 W Kx ctx C t0 a ma ra) (jb : ∀ t, JX X I0 H0 W Kx ctx C t b (mb t) rb) (o : OpJ X W (binaryOp op) (rp ra) (rp rb) g (rp rc)) (hx : HX I0 H0 Kx ctx C) :
    JX X I0 H0 W Kx ctx C t0 (.BinOp a op b pos) (ma.bindX fun x t => (mb t).bindX fun y t' => (g x y).bind fun z => .ok (z, t')) rc := fun I H σ Q st p => by
  refine w_bin (ja I H σ _ st ?_)
  cases ma with
  | ok x =>
    intro I1 H1 u s1 g1 r1
    refine jb x.2 I1 H1 σ _ g1 ?_
    have p1 : PostX X I0 H0 W Kx ctx C σ I1 ((mb x.2).bindX fun y t' => (g x.1 y).bind fun z => .ok (z, t')) rc Q := PostX.up p s1
    revert p1
    generalize mb x.2 = z
    intro p1
    cases z with
    | ok y => exact fun I2 H2 v s2 g2 r2 => o I2 H2 σ Q u v x.1 y.1 g2.same (Mo.up (r := ra) s2 r1) r2 (PostX.pe g2 hx (PostX.up p1 s2))
    | err e => exact p1
    | stuck => exact p1
  | err e => exact p
  | stuck => exact p
theorem JX.cmp {op : CmpOp} {g : α → β → Res γ} {ma : Res (α × T)} {mb : T → Res (β × T)} [Mo ra] (ja : JX X I0 H0 W Kx ctx C t0 a ma ra) (jb : ∀ t, JX X I0 H0 W Kx ctx C t b (mb t) rb) (o : OpJ X W (compareOp op) (rp ra) (rp rb) g (rp rc)) (hx : HX I0 H0 Kx ctx C) (hm : behindInMarks op b = false := by first | exact nomark _ | rfl) :
    JX X I0 H0 W Kx ctx C t0 (.Compare a [op] [b] pos) (ma.bindX fun x t => (mb t).bindX fun y t' => (g x y).bind fun z => .ok (z, t')) rc := fun I H σ Q st p => by
  refine w_cmp (ja I H σ _ st ?_) hm
  cases ma with
  | ok x =>
    intro I1 H1 u s1 g1 r1
    refine jb x.2 I1 H1 σ _ g1 ?_
    have p1 : PostX X I0 H0 W Kx ctx C σ I1 ((mb x.2).bindX fun y t' => (g x.1 y).bind fun z => .ok (z, t')) rc Q := PostX.up p s1
    revert p1
    generalize mb x.2 = z
    intro p1
    cases z with
    | ok y => exact fun I2 H2 v s2 g2 r2 => o I2 H2 σ Q u v x.1 y.1 g2.same (Mo.up (r := ra) s2 r1) r2 (PostX.pe g2 hx (PostX.up p1 s2))
    | err e => exact p1
    | stuck => exact p1
  | err e => exact p
  | stuck => exact p
theorem PostXT.px {m : Res (Bool × T)} {Q : Bool → Hp → Prop} (p : PostXT X I0 H0 W Kx ctx C σ I m Q) : PostX X I0 H0 W Kx ctx C σ I m rBl (fun v H' => truW X σ v H' Q) := by
  cases m with
  | ok x => exact fun I' H' v s g q => by cases q; exact tru_bl (p I' H' s g)
  | err e => exact p
  | stuck => exact p
theorem JXT.cmp {op : CmpOp} {g : α → β → Res Bool} {ma : Res (α × T)} {mb : T → Res (β × T)} [Mo ra] (ja : JX X I0 H0 W Kx ctx C t0 a ma ra) (jb : ∀ t, JX X I0 H0 W Kx ctx C t b (mb t) rb) (o : OpJ X W (compareOp op) (rp ra) (rp rb) g (rp rBl)) (hx : HX I0 H0 Kx ctx C) (hm : behindInMarks op b = false := by first | exact nomark _ | rfl) :
    JXT X I0 H0 W Kx ctx C t0 (.Compare a [op] [b] pos) (ma.bindX fun x t => (mb t).bindX fun y t' => (g x y).bind fun z => .ok (z, t')) := fun I H σ Q st p => by
  refine w_tcmp (ja I H σ _ st ?_) hm
  have p := p.px
  cases ma with
  | ok x =>
    intro I1 H1 u s1 g1 r1
    refine jb x.2 I1 H1 σ _ g1 ?_
    have p1 : PostX X I0 H0 W Kx ctx C σ I1 ((mb x.2).bindX fun y t' => (g x.1 y).bind fun z => .ok (z, t')) rBl _ := PostX.up p s1
    revert p1
    generalize mb x.2 = z
    intro p1
    cases z with
    | ok y => exact fun I2 H2 v s2 g2 r2 => o I2 H2 σ _ u v x.1 y.1 g2.same (Mo.up (r := ra) s2 r1) r2 (PostX.pe g2 hx (PostX.up p1 s2))
    | err e => exact p1
    | stuck => exact p1
  | err e => exact p
  | stuck => exact p
theorem JXT.not {m : Res (Bool × T)} (j : JXT X I0 H0 W Kx ctx C t0 e m) : JXT X I0 H0 W Kx ctx C t0 (.UnaryOp .Not e pos) (m.bindX fun b t => .ok (!b, t)) := fun I H σ Q st p => by
  refine w_not (j I H σ _ st ?_)
  cases m with
  | ok k => exact fun I1 H1 s g => p I1 H1 s g
  | err e => exact p
  | stuck => exact p
theorem JX.un {op : UnaryOp} {g : α → Res γ} {ma : Res (α × T)} (ja : JX X I0 H0 W Kx ctx C t0 a ma ra) (o : UnJ X W (unaryOp op) (rp ra) g (rp rc)) (hx : HX I0 H0 Kx ctx C) : JX X I0 H0 W Kx ctx C t0 (.UnaryOp op a pos) (ma.bindX fun x t => (g x).bind fun z => .ok (z, t)) rc := fun I H σ Q st p => by
  refine w_un (ja I H σ _ st ?_)
  cases ma with
  | ok x => exact fun I1 H1 u s1 g1 r1 => o I1 H1 σ Q u x.1 g1.same r1 (PostX.pe g1 hx (PostX.up p s1))
  | err e => exact p
  | stuck => exact p
theorem JXT.bool {op} {m : Res (Bool × T)} (j : JXW X I0 H0 W Kx ctx C t0 (.BoolOp op es pos) m) : JXT X I0 H0 W Kx ctx C t0 (.BoolOp op es pos) m := fun I H σ Q st p => w_tbool (j I H σ Q st p)
theorem JXW.and1 {m : Res (Bool × T)} (j : JXT X I0 H0 W Kx ctx C t0 a m) : JXW X I0 H0 W Kx ctx C t0 (.BoolOp .And [a] pos) m := fun I H σ Q st p => w_and1 (j I H σ Q st p)
theorem JXW.or1 {m : Res (Bool × T)} (j : JXT X I0 H0 W Kx ctx C t0 a m) : JXW X I0 H0 W Kx ctx C t0 (.BoolOp .Or [a] pos) m := fun I H σ Q st p => w_or1 (j I H σ Q st p)
theorem JXW.and {m : Res (Bool × T)} {m2 : T → Res (Bool × T)} (j : JXT X I0 H0 W Kx ctx C t0 a m) (k : ∀ t, JXW X I0 H0 W Kx ctx C t (.BoolOp .And (b :: bs) pos) (m2 t)) : JXW X I0 H0 W Kx ctx C t0 (.BoolOp .And (a :: b :: bs) pos) (m.bindX fun x t => if x = true then m2 t else .ok (false, t)) := fun I H σ Q st p => by
  refine w_and (j I H σ _ st ?_)
  cases m with
  | ok x =>
    obtain ⟨x, t⟩ := x
    intro I1 H1 s g
    have p1 := PostXT.up p s
    cases x with
    | true => exact iteT (k t I1 H1 σ Q g p1)
    | false => exact iteF (p1 I1 H1 (Same.refl _) g)
  | err e => exact p
  | stuck => exact p
theorem JXW.or {m : Res (Bool × T)} {m2 : T → Res (Bool × T)} (j : JXT X I0 H0 W Kx ctx C t0 a m) (k : ∀ t, JXW X I0 H0 W Kx ctx C t (.BoolOp .Or (b :: bs) pos) (m2 t)) : JXW X I0 H0 W Kx ctx C t0 (.BoolOp .Or (a :: b :: bs) pos) (m.bindX fun x t => if x = true then .ok (true, t) else m2 t) := fun I H σ Q st p => by
  refine w_or (j I H σ _ st ?_)
  cases m with
  | ok x =>
    obtain ⟨x, t⟩ := x
    intro I1 H1 s g
    have p1 := PostXT.up p s
    cases x with
    | true => exact iteT (p1 I1 H1 (Same.refl _) g)
    | false => exact iteF (k t I1 H1 σ Q g p1)
  | err e => exact p
  | stuck => exact p
theorem JX.ifx {mc : Res (Bool × T)} {m1 m2 : T → Res (α × T)} (j : JXT X I0 H0 W Kx ctx C t0 c mc) (k1 : ∀ t, JX X I0 H0 W Kx ctx C t a (m1 t) r) (k2 : ∀ t, JX X I0 H0 W Kx ctx C t b (m2 t) r) : JX X I0 H0 W Kx ctx C t0 (.IfExp c a b pos) (mc.bindX fun x t => if x = true then m1 t else m2 t) r := fun I H σ Q st p => by
  refine w_ifx (j I H σ _ st ?_)
  cases mc with
  | ok x =>
    obtain ⟨x, t⟩ := x
    intro I1 H1 s g
    cases x with
    | true => exact iteT (k1 t I1 H1 σ Q g (PostX.up (m := m1 t) p s))
    | false => exact iteF (k2 t I1 H1 σ Q g (PostX.up (m := m2 t) p s))
  | err e => exact p
  | stuck => exact p
/-! ### arguments, calls -/
theorem JXA.nil : JXA X I0 H0 W Kx ctx C t0 [] (.ok ((), t0)) aNil := fun I H σ Q st p => w_nil (p I H [] (Same.refl _) st rfl)
class MoN (R : Hp → Hp → List V → δ → Prop) : Prop where
  up : ∀ {I H I' H' : Hp} {vs : List V} {x : δ}, Same I I' → R I H vs x → R I' H' vs x
theorem JXA.cons {ma : Res (α × T)} {m : T → Res (δ × T)} [Mo ra] (j : JX X I0 H0 W Kx ctx C t0 e ma ra) (k : ∀ t, JXA X I0 H0 W Kx ctx C t es (m t) R) (hs : starEach (e :: es) X.env = (false, eval e X.env) :: starEach es X.env := by rfl) :
    JXA X I0 H0 W Kx ctx C t0 (e :: es) (ma.bindX fun x t => (m t).bindX fun y t' => .ok ((x, y), t')) (aCons (rp ra) R) := fun I H σ Q st p => by
  refine Tr.w_cons (j I H σ _ st ?_) hs
  cases ma with
  | ok x =>
    intro I1 H1 v s1 g1 r1
    refine k x.2 I1 H1 σ _ g1 ?_
    have p1 : PostXA X I0 H0 W Kx ctx C σ I1 ((m x.2).bindX fun y t' => .ok ((x.1, y), t')) (aCons (rp ra) R) Q := PostXA.up p s1
    revert p1
    generalize m x.2 = z
    intro p1
    cases z with
    | ok y => exact fun I2 H2 vs s2 g2 r2 => p1 I2 H2 _ s2 g2 ⟨v, vs, rfl, Mo.up (r := ra) s2 r1, r2⟩
    | err e => exact p1
    | stuck => exact p1
  | err e => exact p
  | stuck => exact p
theorem JXA.nilL : JXA X I0 H0 W Kx ctx C t0 [] (.ok ([], t0)) (lR 0 (rp r)) := fun I H σ Q st p => w_nil (p I H [] (Same.refl _) st ⟨rfl, .nil⟩)
theorem JXA.consL {k : Nat} {ma : Res (α × T)} {m : T → Res (List α × T)} [mo : Mo r] (j : JX X I0 H0 W Kx ctx C t0 e ma r) (jk : ∀ t, JXA X I0 H0 W Kx ctx C t es (m t) (lR k (rp r))) (hs : starEach (e :: es) X.env = (false, eval e X.env) :: starEach es X.env := by rfl) :
    JXA X I0 H0 W Kx ctx C t0 (e :: es) (ma.bindX fun x t => (m t).bindX fun y t' => .ok (x :: y, t')) (lR (k + 1) (rp r)) := fun I H σ Q st p => by
  refine Tr.w_cons (j I H σ _ st ?_) hs
  cases ma with
  | ok x =>
    intro I1 H1 v s1 g1 r1
    refine jk x.2 I1 H1 σ _ g1 ?_
    have p1 : PostXA X I0 H0 W Kx ctx C σ I1 ((m x.2).bindX fun y t' => .ok (x.1 :: y, t')) (lR (k + 1) (rp r)) Q := PostXA.up p s1
    revert p1
    generalize m x.2 = z
    intro p1
    cases z with
    | ok y => exact fun I2 H2 vs s2 g2 r2 => p1 I2 H2 _ s2 g2 ⟨by rw [List.length_cons, r2.1], .cons (mo.up s2 r1) r2.2⟩
    | err e => exact p1
    | stuck => exact p1
  | err e => exact p
  | stuck => exact p
variable {md : Res (δ × T)} {g : δ → Res γ}
theorem JXA.call (k : JXA X I0 H0 W Kx ctx C t0 es md R) {f : Value} (cj : CallJ X W f R g (rp rc)) (hx : HX I0 H0 Kx ctx C) (st : Stt I0 H0 ctx (C t0) I H σ) (p : PostX X I0 H0 W Kx ctx C σ I (md.bindX fun x t => (g x).bind fun z => .ok (z, t)) rc Q) : wA X es σ H fun vs H1 => callW X f σ vs H1 Q := by
  refine k I H σ _ st ?_
  cases md with
  | ok x => exact fun I1 H1 vs s1 g1 r1 => cj I1 H1 σ Q vs x.1 g1.same r1 (PostX.pe g1 hx (PostX.up p s1))
  | err e => exact p
  | stuck => exact p
theorem JX.call {f : Addr} (k : JXA X I0 H0 W Kx ctx C t0 (e :: es) md R) (cj : CallJ X W (.ref f) R g (rp rc)) (hx : HX I0 H0 Kx ctx C) (hm : X.mg n = some (.ref f)) (hk : PySem.W.keepIn X.K (.ref f) = true) (hg : Gl X n := by rfl) (hdb : (n == ("__debug__" : Str)) = false := by decide)
    (he : starEach (e :: es) X.env = (false, eval e X.env) :: starEach es X.env := by rfl) (hpl : (backTo pos (starEach es X.env)).any (·.1) = false := by rfl) : JX X I0 H0 W Kx ctx C t0 (.Call (.Name n pos') (e :: es) [] pos) (md.bindX fun x t => (g x).bind fun z => .ok (z, t)) rc := fun I H σ Q st p =>
  w_call (k.call cj hx st p) hm hk hg hdb he hpl
theorem JX.callB {id : String} (k : JXA X I0 H0 W Kx ctx C t0 (e :: es) md R) (cj : CallJ X W (.builtin id) R g (rp rc)) (hx : HX I0 H0 Kx ctx C) (hm : X.mg n = none) (hv : bootBuiltins n = some (.builtin id)) (hg : Gl X n := by rfl) (hn : n ≠ "__name__" := by decide) (hdb : (n == ("__debug__" : Str)) = false := by decide)
    (he : starEach (e :: es) X.env = (false, eval e X.env) :: starEach es X.env := by rfl) (hpl : (backTo pos (starEach es X.env)).any (·.1) = false := by rfl) : JX X I0 H0 W Kx ctx C t0 (.Call (.Name n pos') (e :: es) [] pos) (md.bindX fun x t => (g x).bind fun z => .ok (z, t)) rc := fun I H σ Q st p =>
  w_callB (k.call cj hx st p) hm hv hg hn hdb he hpl
theorem JX.callTy {N : String} (k : JXA X I0 H0 W Kx ctx C t0 (e :: es) md R) (cj : CallJ X W (.type N) R g (rp rc)) (hx : HX I0 H0 Kx ctx C) (hm : X.mg n = none) (hv : bootBuiltins n = some (.type N)) (hg : Gl X n := by rfl) (hn : n ≠ "__name__" := by decide) (hdb : (n == ("__debug__" : Str)) = false := by decide)
    (he : starEach (e :: es) X.env = (false, eval e X.env) :: starEach es X.env := by rfl) (hpl : (backTo pos (starEach es X.env)).any (·.1) = false := by rfl) : JX X I0 H0 W Kx ctx C t0 (.Call (.Name n pos') (e :: es) [] pos) (md.bindX fun x t => (g x).bind fun z => .ok (z, t)) rc := fun I H σ Q st p =>
  w_callTy (k.call cj hx st p) hm hv hg hn hdb he hpl
/-! ### subscripts, displays -/
theorem JX.ix {m : Res (List α × T)} {mi : T → Res (Int × T)} [mo : Mo r] (ja : JX X I0 H0 W Kx ctx C t0 a m (rL r)) (jb : ∀ t, JX X I0 H0 W Kx ctx C t b (mi t) rInt) (hs : PlainIx b := by exact fun _ _ => rfl) :
    JX X I0 H0 W Kx ctx C t0 (.Subscript a b pos) (m.bindX fun xs t => (mi t).bindX fun i t' => (atM xs i).bind fun z => .ok (z, t')) r := fun I H σ Q st p => by
  refine PE.w (pe_ix ix_list pe_W pe_W hs) (ja I H σ _ st ?_)
  cases m with
  | ok xs =>
    intro I1 H1 u s1 g1 r1
    refine jb xs.2 I1 H1 σ _ g1 ?_
    have p1 : PostX X I0 H0 W Kx ctx C σ I1 ((mi xs.2).bindX fun i t' => (atM xs.1 i).bind fun z => .ok (z, t')) r Q := PostX.up p s1
    revert p1
    generalize mi xs.2 = z
    intro p1
    cases z with
    | ok i =>
      intro I2 H2 v s2 g2 r2
      obtain ⟨l, vs, rfl, hl, pr⟩ := Mo.up (r := rL r) s2 r1
      have p2 : PostX X I0 H0 W Kx ctx C σ I2 ((atM xs.1 i.1).bind fun z => .ok (z, i.2)) r Q := PostX.up p1 s2
      unfold atM at p2
      cases e : atI xs.1 i.1 with
      | none => rw [e] at p2; exact p2.elim
      | some x =>
        rw [e] at p2
        obtain ⟨w, ew, hw⟩ := atI_pair pr e
        exact ⟨l, vs, i.1, w, rfl, r2, SqL.of (g2.same _ _ hl), ew, p2 I2 H2 w (Same.refl _) g2 hw⟩
    | err e => exact p1
    | stuck => exact p1
  | err e => exact p
  | stuck => exact p
theorem JX.tupD {k : Nat} {x1} [m : MoR R] [ic : Ice R] (j : JXA X I0 H0 W Kx ctx C t0 es md R) (hk : ∀ I H vs x, R I H vs x → vs.length = k) (hz : k ≤ sizeLine := by decide) : JX X I0 H0 W Kx ctx C t0 (.Tuple es x1 pos) md (rTu R) := fun I H σ Q st p => by
  refine w_tup (j I H σ _ st ?_)
  cases md with
  | ok x =>
    intro I1 H1 vs s1 g1 r1
    refine ⟨by rw [hk _ _ _ _ r1]; exact hz, fun q hq => ?_⟩
    have fn := Fm.new (o := .tup vs) g1.same hq
    exact p _ _ _ (s1.trans fn.i) (g1.step fn) ⟨q, vs, rfl, upd_same, m.up fn.i fn.i (ic.ice r1)⟩
  | err e => exact p
  | stuck => exact p
theorem JXM.lst {k : Nat} {m : Res (List α × T)} [mo : Mo r] (j : JXA X I0 H0 W Kx ctx C t0 es m (lR k (rp r))) (hk : k ≤ sizeLine := by decide) : JXM X I0 H0 W Kx ctx C t0 (.List es pos) m r := fun I H σ Q st p => by
  refine w_lst (j I H σ _ st ?_)
  cases m with
  | ok xs => exact fun I1 H1 vs s1 g1 r1 => ⟨by rw [r1.1]; exact hk, fun q hq => p _ _ _ mo s1 (g1.push hq r1.2)⟩
  | err e => exact p
  | stuck => exact p
/-- a region's first list is frozen -/
theorem Stt.ice1 [mo : Mo r] {mem : List MF} {l : Addr} {xs : List α} (s : Stt I0 H0 ctx (MF.lst l r xs :: mem) I H σ) : ∃ I', Same I I' ∧ Stt I0 H0 ctx mem I' H σ ∧ rL r I' (.ref l) xs := by
  obtain ⟨fp, ⟨e, o, hH, vs, eo, pr⟩, _, sm, s2⟩ := s.freezeAt 0 rfl
  subst e; subst eo
  exact ⟨_, sm, s2, l, vs, rfl, by rw [ice_in (List.mem_singleton_self l)]; exact hH, Paired.mapP pr fun _ _ z => mo.up sm z⟩
theorem JX.ofM [mo : Mo r] {m : Res (List α × T)} (j : JXM X I0 H0 W Kx ctx C t0 e m r) : JX X I0 H0 W Kx ctx C t0 e m (rL r) := fun I H σ Q st p => by
  refine j I H σ Q st ?_
  cases m with
  | ok x =>
    intro I1 H1 l _ s g
    obtain ⟨I2, s2, g2, h⟩ := g.ice1
    exact p I2 H1 _ (s.trans s2) g2 h
  | err e => exact p
  | stuck => exact p
/-! ### calls that change a region -/
/-- a region behind a call -/
structure RgF (I H1 I' H' : Hp) (c : MF) (fp : List Addr) : Prop where
  fm : Fm I H1 I' H'
  nd : fp.Nodup
  own : ∀ a, a ∈ fp → H1 a = none ∧ I' a = none ∧ H' a ≠ none
  q : c.Q I' H' fp
def PostC (K : PySem.W.Frag) (M : β → MF) (kp : Bool) (b : β) (m : Res (γ × β)) (rc : Rp γ) (I H : Hp) (fp : List Addr) (E : XK) (Q : VK) : Prop := match m with
  | .ok x => ∀ I' H' v fp', RgF I (rm H fp) I' H' (M x.2) fp' → rc I' v x.1 → Q v H'
  | .err e => ∀ I' H' cls d, Fm I (rm H fp) I' H' → (kp = true → ∃ fp', RgF I (rm H fp) I' H' (M b) fp') → Fr (rm H fp) d → ExR K I' H' e cls d → E cls d H'
  | .stuck => False
structure RgS (I H : Hp) (c : MF) (fp : List Addr) : Prop where
  s : Same I H
  q : c.Q I H fp
  nd : fp.Nodup
  own : ∀ a, a ∈ fp → I a = none ∧ H a ≠ none
def CallC (X : Cx) (W : WX) (f : Value) (RG : Addr → β → MF) (R : Addr → Hp → Hp → List V → δ → Prop) (g : δ → β → Res (γ × β)) (rc : Rp γ) (kp : Bool) : Prop :=
  ∀ (I H : Hp) (σ : St) (Q : VK) (vs : List V) (d : δ) (l : Addr) (b : β) (fp : List Addr), RgS I H (RG l b) fp → R l I H vs d → PostC X.K (RG l) kp b (g d b) rc I H fp (fun cls d H' => W cls d σ H') Q → callW X f σ vs H Q
def spX (K : PySem.W.Frag) (RG : Addr → β → MF) (R : Addr → Hp → Hp → List V → δ → Prop) (g : δ → β → Res (γ × β)) (rc : Rp γ) (kp : Bool) : Sp := fun vs H Q E => ∃ I l b fp d, RgS I H (RG l b) fp ∧ R l I H vs d ∧ PostC K (RG l) kp b (g d b) rc I H fp E Q
theorem cc_of {k : Nat} {f : Addr} {RG : Addr → β → MF} {R : Addr → Hp → Hp → List V → δ → Prop} {g : δ → β → Res (γ × β)} {kp : Bool} (F : FnR X.prog X.w X.K X.mg X.base (L2N.CX X.prog X.w) k f (spX X.K RG R g rc kp)) (hr : Room k X.A) (tk : L2N.Takes X W) : CallC X W (.ref f) RG R g rc kp := fun I H σ Q vs d l b fp s h p => run_W F hr tk ⟨I, l, b, fp, d, s, h, p⟩
/-- the caller's regions ahead of a call and behind it -/
theorem Stt.lend {mem : List MF} {c : MF} {j : Nat} (s : Stt I0 H0 ctx mem I H σ) (hj : mem[j]? = some c) : ∃ fp, RgS I H c fp ∧ (∀ a, rm H fp a = none → H0 a = none) ∧ (∀ I' H', Fm I (rm H fp) I' H' → Fm I0 H0 I' H') ∧ ∀ (I' H' : Hp) (c' : MF) (fp' : List Addr), RgF I (rm H fp) I' H' c' fp' → Stt I0 H0 ctx (mem.set j c') I' H' σ := by
  obtain ⟨fp, q, nd, k, go⟩ := s.change hj
  have hz : ∀ a, rm H fp a = none → H0 a = none := fun a e => by
    by_cases h : a ∈ fp
    · exact (k a h).1
    · rw [rm_out h] at e; exact s.fm.h.free e
  have hm : ∀ a, H0 a ≠ none → a ∉ fp := fun a z y => z (k a y).1
  refine ⟨fp, ⟨s.same, q, nd, fun a h => (k a h).2⟩, hz, fun I' H' f => ⟨s.fm.i.trans f.i, fun b u e => f.h b u (by rw [rm_out (hm b (by rw [e]; intro z; cases z))]; exact s.fm.h b u e), f.ih, fun l e nn => f.mu l (s.fm.mu l e nn) ?_⟩, fun I' H' c' fp' f => go I' H' c' fp' f.fm f.nd f.own f.q⟩
  rw [rm_out (hm l nn)]
  cases z : H0 l with
  | none => exact absurd z nn
  | some o => rw [s.fm.h l o z]; intro y; cases y
theorem Fr.lend {fp : List Addr} {d : Option Addr} (f : Fr (rm H fp) d) (hz : ∀ a, rm H fp a = none → H0 a = none) : Fr H0 d := fun a e => hz a (f a e)
theorem set_same {ι : Type _} {xs : List ι} {j : Nat} {c : ι} (h : xs[j]? = some c) : xs.set j c = xs := by
  apply List.ext_getElem?
  intro i
  by_cases hi : i = j
  · subst hi
    have hl := (List.getElem?_eq_some_iff.mp h).1
    rw [List.getElem?_set_self hl, h]
  · rw [List.getElem?_set_ne (Ne.symm hi)]
/-- a call with the region at j -/
theorem callC_at {RG : Addr → β → MF} {Rl : Addr → Hp → Hp → List V → δ → Prop} {gc : δ → β → Res (γ × β)} {kp : Bool} {f : Value} (j : Nat) {l : Addr} (get : T → β) (put : T → β → T) (cc : CallC X W f RG Rl gc rc kp) (st : Stt I0 H0 ctx (C t) I H σ) {vs : List V} {d : δ} (hr : Rl l I H vs d)
    (h1 : (C t)[j]? = some (RG l (get t))) (h2 : ∀ b, (C t).set j (RG l b) = C (put t b)) (hk : ∀ (I H : Hp) (d : Option Addr), Fm I0 H0 I H → (kp = true → Stt I0 H0 ctx (C t) I H σ) → Fr H0 d → Kx I H σ d)
    (p : PostX X I0 H0 W Kx ctx C σ I ((gc d (get t)).bindX fun z b => .ok (z, put t b)) rc Q) : callW X f σ vs H Q := by
  obtain ⟨fp, rs, hz, fm0, go⟩ := st.lend h1
  refine cc I H σ Q vs d l (get t) fp rs hr ?_
  revert p
  generalize gc d (get t) = z
  intro p
  cases z with
  | ok x => exact fun I' H' v fp' rf h => p I' H' v rf.fm.i (by show Stt I0 H0 ctx (C (put t x.2)) I' H' σ; rw [← h2]; exact go I' H' _ fp' rf) h
  | err e => exact fun I' H' cls d f kk fr x => p I' H' cls d (hk I' H' d (fm0 _ _ f) (fun hkp => by
      obtain ⟨fp', rf⟩ := kk hkp
      have := go I' H' _ fp' rf
      have e2 : (C t).set j (RG l (get t)) = C t := by
        exact set_same h1
      rw [e2] at this; exact this) (fr.lend hz)) x
  | stuck => exact p
end
end L2.Tr

namespace L2.Tr
open PySem PySem.Spec PyProof.Rows
section
variable {α β γ δ S T L : Type} {X : Cx} {I0 H0 I H I1 : Hp} {W : WX} {Kx : KnowsX} {G : Knows} {ctx : List (Option SF)} {mem : List MF} {C : T → List MF} {t0 t : T} {e a b c o iter elt ix : Expr} {es bs : List Expr} {st : Stmt} {ss s1 s2 body : List Stmt} {pos pos' p2 : Pos} {n : Str} {ra : Rp α} {rb : Rp β} {rc : Rp γ} {r : Rp α} {σ : St} {Q : VK} {R : Hp → Hp → List V → δ → Prop} {rr : Ra γ}
/-! ### f(..), o.m(..) that change a region -/
theorem JX.callC {RG : Addr → β → MF} {Rl : Addr → Hp → Hp → List V → δ → Prop} {gc : δ → β → Res (γ × β)} {kp : Bool} {f : Addr} (j : Nat) {l : Addr} (get : T → β) (put : T → β → T) {md : Res (δ × T)} (k : JXA X I0 H0 W Kx ctx C t0 (e :: es) md (Rl l)) (cc : CallC X W (.ref f) RG Rl gc rc kp)
    (h1 : ∀ t, (C t)[j]? = some (RG l (get t))) (h2 : ∀ t b, (C t).set j (RG l b) = C (put t b)) (hk : ∀ (I H : Hp) (σ : St) (d : Option Addr), Fm I0 H0 I H → Fr H0 d → Kx I H σ d)
    (hm : X.mg n = some (.ref f)) (hkk : PySem.W.keepIn X.K (.ref f) = true) (hg : Gl X n := by rfl) (hdb : (n == ("__debug__" : Str)) = false := by decide)
    (he : starEach (e :: es) X.env = (false, eval e X.env) :: starEach es X.env := by rfl) (hpl : (backTo pos (starEach es X.env)).any (·.1) = false := by rfl) :
    JX X I0 H0 W Kx ctx C t0 (.Call (.Name n pos') (e :: es) [] pos) (md.bindX fun x t => (gc x (get t)).bindX fun z b => .ok (z, put t b)) rc := fun I H σ Q st p => by
  refine w_call (k I H σ _ st ?_) hm hkk hg hdb he hpl
  cases md with
  | ok x => exact fun I1 H1 vs s1 g1 r1 => callC_at j get put cc g1 r1 (h1 _) (h2 _) (fun I' H' d f _ fr => hk I' H' σ d f fr) (PostX.up p s1)
  | err e => exact p
  | stuck => exact p
/-! ### comprehensions whose items change regions -/
def lcXM (f : β → T → Res (α × T)) : List β → T → Res (List α × T)
  | [], t => .ok ([], t)
  | x :: xs, t => match f x t with
    | .ok y => (lcXM f xs y.2).bind fun z => .ok (y.1 :: z.1, z.2)
    | _ => .stuck
def lcX (f : β → T → Res (α × T)) (xs : List β) (t : T) : Res (List α × T) := Res.guard (xs.length ≤ sizeLine) (lcXM f xs t)
theorem lcXM_drop {f : β → T → Res (α × T)} {xs : List β} {i : Nat} {x : β} (h : xs[i]? = some x) (t : T) : lcXM f (xs.drop i) t = (match f x t with
    | .ok y => (lcXM f (xs.drop (i + 1)) y.2).bind fun z => .ok (y.1 :: z.1, z.2)
    | _ => .stuck) := by
  have hi := (List.getElem?_eq_some_iff.mp h).1
  rw [List.drop_eq_getElem_cons hi]
  have : xs[i] = x := (List.getElem?_eq_some_iff.mp h).2
  rw [this]
  rfl
theorem lcXM_noerr {f : β → T → Res (α × T)} {e : Exn} : ∀ (l : List β) (t : T), lcXM f l t ≠ .err e
  | [], t, h => by cases h
  | x :: l, t, h => by
    unfold lcXM at h
    cases q : f x t with
    | ok y =>
      rw [q] at h
      dsimp only at h
      cases q2 : lcXM f l y.2 with
      | ok ys => rw [q2] at h; cases h
      | err e2 => rw [q2] at h; cases h; exact lcXM_noerr l y.2 q2
      | stuck => rw [q2] at h; cases h
    | err e2 => rw [q] at h; cases h
    | stuck => rw [q] at h; cases h
/-- a name's slot as it was ahead -/
theorem Stt.back {mem' : List MF} {I' H' : Hp} {j : Nat} {q : Option SF} {v : Option V} (g : Stt I0 H0 ctx mem I H σ) (g' : Stt I0 H0 (ctx.set j q) mem' I' H' (σ.set j v)) (s : Same I I') : Stt I0 H0 ctx mem' I' H' σ := by
  refine ⟨g'.fm, g.len, fun i sf e => ?_, g'.me⟩
  by_cases hi : i = j
  · obtain ⟨w, e1, h⟩ := g.sl i sf e
    exact ⟨w, e1, sf.mo.up s h⟩
  · obtain ⟨w, e1, h⟩ := g'.sl i sf (by rw [List.getElem?_set_ne (Ne.symm hi)]; exact e)
    rw [List.getElem?_set_ne (Ne.symm hi)] at e1
    exact ⟨w, e1, h⟩
theorem lcX_post (j : Nat) [mo : Mo r] [mb : Mo rb] {m : Res (List β × T)} {f : β → T → Res (α × T)} {scope : Scope} (ji : JXI X I0 H0 W Kx ctx C t0 (.Name n pos') iter m rb)
    (je : ∀ (s : Shared) (H : Hp) (Ca : Addr) (cl : List (Str × Addr)) (fp : List Addr) (D : Addr) (acc : List α) (x : β) (t : T), JX (X.blkC s H scope (compEnvC scope cl Ca X.env) fp) I0 H0 W0 (fun _ _ _ _ => True) (ctx.set j (some ⟨rb, x⟩)) (fun t => MF.lst D r acc :: C t) t elt (f x t) r)
    (I H : Hp) (σ : St) (Q : VK) (st : Stt I0 H0 ctx (C t0) I H σ) (p : PostXM X I0 H0 W Kx ctx C σ I (m.bindX fun xs t => lcX f xs t) r Q) : tLc (wI X (.Name n pos') iter) (gName j) tYes (wEb X scope elt) [j] σ H Q := by
  refine ji I H σ _ st ?_
  cases m with
  | ok x0 =>
    obtain ⟨xs, t1⟩ := x0
    intro I1 H1 J vs okp f1 g1 itr stay pr D hD
    have hlen : vs.length = xs.length := Paired.length pr
    by_cases hz : xs.length ≤ sizeLine
    · have e0 : ((Res.ok (xs, t1)).bindX fun xs t => lcX f xs t) = lcXM f xs t1 := Res.guard_pos hz _
      rw [e0] at p
      cases et : lcXM f xs t1 with
      | ok tot =>
        rw [et] at p
        refine ⟨fun i k H' => k + i = vs.length ∧ ∃ I' acc t ys, Same I1 I' ∧ Stt I0 H0 ctx (MF.lst D r acc :: C t) I' H' σ ∧ acc.length ≤ i ∧ lcXM f (xs.drop i) t = .ok (ys, tot.2) ∧ tot.1 = acc ++ ys, ⟨vs.length, rfl, I1, [], t1, tot.1, Same.refl _, g1.push hD .nil, Nat.le_refl _, et, rfl⟩, ?_⟩
        rintro i k H' ⟨hk, I', acc, t, ys, si, g', ha, el, eq⟩
        have hok := stay I' H' si g'.same g'.fm.h
        by_cases hi : i < vs.length
        · obtain ⟨go, yl⟩ := (itr i H' hok).1 hi
          refine .inr ⟨go, fun H2 => ∃ I2 acc2 t2 ys2, Same I1 I2 ∧ Stt I0 H0 ctx (MF.lst D r acc2 :: C t2) I2 H2 σ ∧ acc2.length ≤ i + 1 ∧ lcXM f (xs.drop (i + 1)) t2 = .ok (ys2, tot.2) ∧ tot.1 = acc2 ++ ys2, fun H2 h => ⟨k - 1, by omega, by omega, h⟩, fun v H2 hy => ?_⟩
          obtain ⟨rfl, ev⟩ := yl v H2 hy
          obtain ⟨x, ex, hr⟩ := paired_drop pr i ev
          rw [lcXM_drop ex] at el
          show (fun σ2 H2 => wipe σ2 [j] = wipe σ [j] ∧ _) (((σ.set j none)).set j (some v)) H2
          refine ⟨?_, ?_⟩
          · show ((σ.set j none).set j (some v)).set j none = σ.set j none
            rw [List.set_set, List.set_set]
          · show wEb X scope elt ((σ.set j none).set j (some v)) H2 _
            rw [List.set_set]
            intro s3 H3 Ca cl fp
            refine je s3 H3 Ca cl fp D acc x t I' H2 (σ.set j (some v)) _ (g'.set j (mb.up si hr)) ?_
            revert el
            generalize f x t = z
            intro el
            cases z with
            | ok y =>
              cases el2 : lcXM f (xs.drop (i + 1)) y.2 with
              | ok ys2 =>
                dsimp only at el
                rw [el2] at el
                have el' : (y.1 :: ys2.1, ys2.2) = (ys, tot.2) := by injection el
                obtain ⟨e3, e4⟩ := Prod.mk.inj el'
                intro I4 H4 vy s4 g4 r4
                have g5 := g'.back g4 s4
                obtain ⟨z0, zI, oo, zH, vacc, eo, pacc⟩ := g5.lstAt (j := 0) rfl
                subst eo
                have hla := Paired.length pacc
                have hlt := (List.getElem?_eq_some_iff.mp ex).1
                refine ⟨vacc, zH, by omega, I4, acc ++ [y.1], y.2, ys2.1, si.trans s4, g5.relst 0 rfl (paired_app pacc (.cons r4 .nil)), by rw [List.length_append, List.length_singleton]; omega, by rw [el2, ← e4], by rw [eq, ← e3, List.append_assoc]; rfl⟩
              | err e => dsimp only at el; rw [el2] at el; cases el
              | stuck => dsimp only at el; rw [el2] at el; cases el
            | err e => cases el
            | stuck => cases el
        · refine .inl ⟨(itr i H' hok).2 (by omega), ?_⟩
          have e1 : xs.drop i = [] := List.drop_eq_nil_of_le (by omega)
          rw [e1] at el
          have el' : (([] : List α), t) = (ys, tot.2) := by injection el
          obtain ⟨e3, e4⟩ := Prod.mk.inj el'
          rw [← e3, List.append_nil] at eq
          rw [e4, ← eq] at g'
          exact p I' H' D mo (f1.trans si) g'
      | err e => exact absurd et (lcXM_noerr _ _)
      | stuck => rw [et] at p; exact p.elim
    · have e0 : ((Res.ok (xs, t1)).bindX fun xs t => lcX f xs t) = .stuck := if_neg hz
      rw [e0] at p
      exact p.elim
  | err e => exact p
  | stuck => exact p
theorem JXM.lc (j : Nat) [mo : Mo r] [mb : Mo rb] {m : Res (List β × T)} {f : β → T → Res (α × T)} {scope : Scope} (ji : JXI X I0 H0 W Kx ctx C t0 (.Name n pos') iter m rb)
    (je : ∀ (s : Shared) (H : Hp) (Ca : Addr) (cl : List (Str × Addr)) (fp : List Addr) (D : Addr) (acc : List α) (x : β) (t : T), L2N.Takes (X.blkC s H scope (compEnvC scope cl Ca X.env) fp) W0 → JX (X.blkC s H scope (compEnvC scope cl Ca X.env) fp) I0 H0 W0 (fun _ _ _ _ => True) (ctx.set j (some ⟨rb, x⟩)) (fun t => MF.lst D r acc :: C t) t elt (f x t) r)
    (hN : X.N.Nodup) (ok : BlkOk X.N X.env.scope scope [(n, j)]) (hj : X.N[j]? = some n := by rfl) (hc : Cool X := by first | exact .inl rfl | exact .inr ⟨_, by assumption, List.mem_cons_self⟩) (hsc : Loc (relabel scope X.env) n := by first | exact Or.inl rfl | exact Or.inr rfl) (hfn : (scope.names.lookup n == some .cell) = true ∨ (relabel scope X.env).names.lookup n = some .local := by first | exact .inr rfl | exact .inl rfl) (hs : ∀ x, foldedSetIterable iter X.env x = pure x := by intro _; rfl) :
    JXM X I0 H0 W Kx ctx C t0 (.ListComp elt [⟨.Name n pos', iter, [], 0⟩] scope pos) (m.bindX fun xs t => lcX f xs t) r := fun I H σ Q st p =>
  PE.w (pe_lcC (own := [(n, j)]) hc hN pi_W ok (fun s H C cl fp => pg_name (i := j) hN hj hsc hfn) (fun s H C cl fp => pts_nil) (fun s H C cl fp => pe_Wb s H C cl fp) hs) (lcX_post j ji (fun s H Ca cl fp D acc x t => je s H Ca cl fp D acc x t takes0) I H σ Q st p)
theorem JXI.range1 {tg : Expr} {m : Res (Int × T)} (j : JX X I0 H0 W Kx ctx C t0 a m rInt) (hm : X.mg "range" = none) (hg : Gl X "range" := by rfl) (hs : starEach [a] X.env = (false, eval a X.env) :: starEach [] X.env := by rfl) : JXI X I0 H0 W Kx ctx C t0 tg (.Call (.Name "range" pos') [a] [] pos) (m.bindX fun x t => (rangeM1 x).bind fun z => .ok (z, t)) rInt := fun I H σ R st p => by
  refine PI.w (pi_range1C hg hm (pa_cons pe_W pa_nil hs) hs) (j I H σ _ st ?_)
  cases m with
  | ok x =>
    intro I1 H1 v s1 g1 r1
    cases (show v = V.int x.1 from r1)
    by_cases hh : -(2 ^ 62) ≤ x.1 ∧ x.1 < 2 ^ 62
    · have e : ((Res.ok x).bindX fun x t => (rangeM1 x).bind fun z => .ok (z, t)) = .ok (rngI 0 x.1.toNat, x.2) := by
        show (rangeM1 x.1).bind _ = _
        rw [show rangeM1 x.1 = _ from Res.guard_pos hh _]; rfl
      rw [e] at p
      exact ⟨x.1, rfl, hh.1, hh.2, p I1 H1 _ _ _ s1 g1 itr_rng (fun _ _ _ _ _ => True.intro) rng_pair⟩
    · have e : ((Res.ok x).bindX fun x t => (rangeM1 x).bind fun z => .ok (z, t)) = .stuck := by
        show (rangeM1 x.1).bind _ = _
        rw [show rangeM1 x.1 = _ from if_neg hh]; rfl
      rw [e] at p
      exact p.elim
  | err e => exact p
  | stuck => exact p
/-! ### statements -/
theorem J1.setX (i : Nat) [Mo r] {m : Res (α × T)} (j : JX X I0 H0 W Kx ctx C t0 e m r) (hN : X.N.Nodup) (hi : X.N[i]? = some n := by rfl) (hl : Loc X.env.scope n := by first | exact Or.inl rfl | exact Or.inr rfl) (hs : swapsWith e (some (.Name n pos')) pos.line X.env = pure false := by rfl)
    (hf : X.fn n = true ∨ X.env.scope.names.lookup n = some .local := by first | exact .inl rfl | exact .inr rfl | assumption) : J1 X W Kx (Stt I0 H0 ctx (C t0)) (.Assign [.Name n pos'] e pos) m (fun x => Stt I0 H0 (ctx.set i (some ⟨r, x.1⟩)) (C x.2)) := fun I H σ D g p => by
  refine s_set i (j I H σ _ g ?_) hN hi hl hs hf
  cases m with
  | ok x => exact fun I' H' v s g' h => p I' H' _ s (g'.set i h)
  | err e => exact fun I' H' c d x => p I' H' σ c d x
  | stuck => exact p
theorem JR.ifX {mc : Res (Bool × T)} {m1 m2 : T → Res γ} (j : JXT X I0 H0 W Kx ctx C t0 c mc) (k1 : ∀ t, JR X I0 H0 W Kx (Stt I0 H0 ctx (C t)) s1 (m1 t) rr) (k2 : ∀ t, JR X I0 H0 W Kx (Stt I0 H0 ctx (C t)) ss (m2 t) rr) :
    JR X I0 H0 W Kx (Stt I0 H0 ctx (C t0)) (.If c s1 [] pos :: ss) (mc.bindX fun x t => if x = true then m1 t else m2 t) rr := fun I H σ D g p => by
  refine b_cons (s_if (j I H σ _ g ?_))
  cases mc with
  | ok x =>
    obtain ⟨x, t⟩ := x
    intro I1 H1 s g1
    cases x with
    | true => exact iteT (b_mono (k1 t I1 H1 σ { D with nx := fun _ _ => False } g1 p) (fun _ _ z => z.elim) (fun _ _ z => z) (fun _ _ z => z) (fun _ _ z => z))
    | false => exact iteF (b_nil (k2 t I1 H1 σ D g1 p))
  | err e => exact fun I' H' c d x => p I' H' σ c d x
  | stuck => exact p
theorem J1.ifX {mc : Res (Bool × T)} {m1 m2 : T → Res S} {G' : S → Knows} (j : JXT X I0 H0 W Kx ctx C t0 c mc) (k1 : ∀ t, JN X W Kx (Stt I0 H0 ctx (C t)) s1 (m1 t) G') (k2 : ∀ t, JN X W Kx (Stt I0 H0 ctx (C t)) s2 (m2 t) G') :
    J1 X W Kx (Stt I0 H0 ctx (C t0)) (.If c s1 s2 pos) (mc.bindX fun x t => if x = true then m1 t else m2 t) G' := fun I H σ D g p => by
  refine s_if (j I H σ _ g ?_)
  cases mc with
  | ok x =>
    obtain ⟨x, t⟩ := x
    intro I1 H1 s g1
    cases x with
    | true => exact iteT (k1 t I1 H1 σ D g1 (PostB.up (m := m1 t) p s))
    | false => exact iteF (k2 t I1 H1 σ D g1 (PostB.up (m := m2 t) p s))
  | err e => exact fun I' H' c d x => p I' H' σ c d x
  | stuck => exact p
theorem J1G.ifX {mc : Res (Bool × T)} {m1 m2 : T → Res (Fl S L γ)} {G' : S → Knows} {GL : L → Knows} (j : JXT X I0 H0 W Kx ctx C t0 c mc) (k1 : ∀ t, JG X I0 H0 W Kx (Stt I0 H0 ctx (C t)) s1 (m1 t) G' GL rr) (k2 : ∀ t, JG X I0 H0 W Kx (Stt I0 H0 ctx (C t)) s2 (m2 t) G' GL rr) :
    J1G X I0 H0 W Kx (Stt I0 H0 ctx (C t0)) (.If c s1 s2 pos) (mc.bindX fun x t => if x = true then m1 t else m2 t) G' GL rr := fun I H σ D g p => by
  refine s_if (j I H σ _ g ?_)
  cases mc with
  | ok x =>
    obtain ⟨x, t⟩ := x
    intro I1 H1 s g1
    cases x with
    | true => exact iteT (k1 t I1 H1 σ D g1 (PostG.up (m := m1 t) p s))
    | false => exact iteF (k2 t I1 H1 σ D g1 (PostG.up (m := m2 t) p s))
  | err e => exact fun I' H' c d x => p I' H' σ c d x
  | stuck => exact p
/-- the iterable of a for, put ahead: as if its items were drawn first -/
theorem JXI.forS (j : Nat) [mb : Mo rb] {m : Res (List β × T)} {cx : S → List (Option SF)} {me : S → List MF} {f : β → S → Res S} {s0 : T → S} (hp : PassesOwn (model X.prog X.w) X.A X.env X.xe) (ji : JXI X I0 H0 W Kx ctx C t0 (.Name n pos') iter m rb)
    (jb : ∀ x s, JN X W Kx (Stt I0 H0 ((cx s).set j (some ⟨rb, x⟩)) (me s)) body (f x s) fun s' => Stt I0 H0 (cx s') (me s')) (hC : ∀ t, C t = me (s0 t)) (hw : ∀ t, weakC ctx (cx (s0 t))) (hN : X.N.Nodup) (hc : Cool X := by first | exact .inl rfl | exact .inr ⟨_, by assumption, List.mem_cons_self⟩)
    (hj : X.N[j]? = some n := by rfl) (hl : Loc X.env.scope n := by first | exact Or.inl rfl | exact Or.inr rfl) (hf : X.fn n = true ∨ X.env.scope.names.lookup n = some .local := by first | exact .inl rfl | exact .inr rfl | assumption) (hs : ∀ x, foldedSetIterable iter X.env x = pure x := by intro _; rfl) :
    J1 X W Kx (Stt I0 H0 ctx (C t0)) (.For (.Name n pos') iter body [] pos) (m.bindX fun xs t => Tr.forS f xs (s0 t)) (fun s => Stt I0 H0 (cx s) (me s)) := fun I H σ D g p => by
  refine PS.w (ps_forC hp hc pi_W (pg_name (i := j) hN hj hl hf) pss_W hs) (ji I H σ _ g ?_)
  cases m with
  | ok x0 =>
    obtain ⟨xs, t1⟩ := x0
    intro I1 H1 J vs okp f1 g1 itr stay pr
    have p0 : PostB X W Kx I1 (Tr.forS f xs (s0 t1)) (fun s => Stt I0 H0 (cx s) (me s)) D := PostB.up p f1
    have hlen : vs.length = xs.length := Paired.length pr
    have g1 : Stt I0 H0 (cx (s0 t1)) (me (s0 t1)) I1 H1 σ := by rw [← hC t1]; exact g1.weak (hw t1)
    refine ⟨fun i k σ' H' => k + i = vs.length ∧ ∃ I' s, Same I1 I' ∧ Stt I0 H0 (cx s) (me s) I' H' σ' ∧ PostB X W Kx I' (Tr.forS f (xs.drop i) s) (fun s => Stt I0 H0 (cx s) (me s)) D, ⟨vs.length, rfl, I1, s0 t1, Same.refl _, g1, p0⟩, ?_⟩
    rintro i k σ' H' ⟨hk, I', s, si, g', p'⟩
    have hok := stay I' H' si g'.same g'.fm.h
    by_cases hi : i < vs.length
    · obtain ⟨go, yl⟩ := (itr i H' hok).1 hi
      refine .inr ⟨go, fun σ2 H2 => ∃ I2 s2, Same I1 I2 ∧ Stt I0 H0 (cx s2) (me s2) I2 H2 σ2 ∧ PostB X W Kx I2 (Tr.forS f (xs.drop (i + 1)) s2) (fun s => Stt I0 H0 (cx s) (me s)) D, fun σ2 H2 h => ⟨k - 1, by omega, by omega, h⟩, fun v H2 hy => ?_⟩
      obtain ⟨rfl, ev⟩ := yl v H2 hy
      obtain ⟨x, ex, hr⟩ := paired_drop pr i ev
      rw [forS_drop ex] at p'
      have key := jb x s I' H2 (σ'.set j (some v)) { D with nx := fun σ2 H2 => ∃ I2 s2, Same I' I2 ∧ Stt I0 H0 (cx s2) (me s2) I2 H2 σ2 ∧ PostB X W Kx I2 (Tr.forS f (xs.drop (i + 1)) s2) (fun s => Stt I0 H0 (cx s) (me s)) D, ct := fun _ _ => False, bk := fun _ _ => False } (g'.set j (mb.up si hr)) ?_
      · refine b_mono key (fun σ2 H2 ⟨I2, s2, q1, q2, q3⟩ => ⟨I2, s2, si.trans q1, q2, q3⟩) (fun _ _ z => z) (fun _ _ z => z.elim) (fun _ _ z => z.elim)
      · revert p'
        generalize f x s = z
        intro p'
        cases z with
        | ok s2 => exact fun I2 H2 σ2 q1 q2 => ⟨I2, s2, q1, q2, PostB.up p' q1⟩
        | err e => exact p'
        | stuck => exact p'.elim
    · refine .inl ⟨(itr i H' hok).2 (by omega), ?_⟩
      have : xs.drop i = [] := List.drop_eq_nil_of_le (by omega)
      rw [this] at p'
      exact p' I' H' σ' (Same.refl _) g'
  | err e => exact fun I' H' c d x => p I' H' σ c d x
  | stuck => exact p.elim
/-! ### defs that change a region of the caller's -/
/-- what such a def hands back: its value and the region -/
def rReg (M : β → MF) (H0 : Hp) (rc : Rp γ) : Ra (γ × β) := fun I H v x => rc I v x.1 ∧ ∃ fp, fp.Nodup ∧ (∀ a, a ∈ fp → H0 a = none ∧ I a = none ∧ H a ≠ none) ∧ (M x.2).Q I H fp
theorem Stt.reg {c : MF} {j : Nat} (s : Stt I0 H0 ctx mem I H σ) (hj : mem[j]? = some c) : ∃ fp, fp.Nodup ∧ (∀ a, a ∈ fp → H0 a = none ∧ I a = none ∧ H a ≠ none) ∧ c.Q I H fp := by
  obtain ⟨fp, q, nd, k, _⟩ := s.change hj
  exact ⟨fp, nd, k, q⟩
theorem JR.retR (j : Nat) {M : β → MF} {bb : β} {m : Res γ} (je : JE X I0 H0 W ctx mem e m (rp rc)) (hx : ∀ I H σ d, Stt I0 H0 ctx mem I H σ → Fr H0 d → Kx I H σ d) (hj : mem[j]? = some (M bb) := by rfl) : JR X I0 H0 W Kx (Stt I0 H0 ctx mem) (.Return (some e) pos :: ss) (m.bind fun y => .ok (y, bb)) (rReg M H0 rc) := fun I H σ D g p => by
  refine b_cons (s_ret (je I H σ _ g ?_))
  cases m with
  | ok y => exact fun I' H' v f r => p I' H' v (g.fm.trans f) ⟨r, (g.step f).reg hj⟩
  | err e => exact fun I' H' c d f x => p I' H' σ c d (hx _ _ _ _ (g.step f) (x.1.back g.fm.h)) x.2
  | stuck => exact p
end
theorem FunD.fnX {γ δ β : Type} {P : Program} {w : World} {K : PySem.W.Frag} {mg : Str → Option Value} {base : Heap} {x qual : Str} {params : Arguments} {body : List Stmt} {scope : Scope} {dvs : List V} {kws : List (Str × V)} {f : Addr} {fd : FuncData} {N ps : List Str} {k : Nat} {RG : Addr → β → MF} {R : Addr → Hp → Hp → List V → δ → Prop} {m : δ → β → Res (γ × β)} {rc : Rp γ} (F : FunD K x qual params body scope dvs kws f fd) (Sc : FnScope N ps scope) (len : ∀ l I H vs d, R l I H vs d → vs.length = ps.length)
    (hb : ∀ (cdv : Value) (A : Around) (outer : List Env) (s : Shared) (I0 H0 H1 : Hp) (E : XK) (vs : List V) (d : δ) (l : Addr) (b : β), Room k (A.deeper (envOfC qual scope s.heap.objs.size f cdv)) → Same I0 H1 → R l I0 H1 vs d →
      ∃ ctx : List (Option SF), ctx.length = N.length ∧ vs.length ≤ N.length ∧ IniR I0 vs ctx ∧ JR (bx P w K mg base N qual scope f cdv A outer s H1 E) I0 H0 (bW E) (bK I0 H0) (Stt I0 H0 ctx [RG l b]) body (m d b) (rReg (RG l) H0 rc)) : FnOk P w K mg base (L2N.CX P w) (k + 1) f fd ps (spX K RG R m rc false) := by
  refine F.ok Sc (fun vs H Q E ⟨I, l, b, fp, d, _, h, _⟩ => len l I H vs d h) fun cdv A outer s H vs Q E hr ⟨I, l, b, fp, d, rs, h, p⟩ => ⟨_, pss_W, ?_⟩
  obtain ⟨ctx, l1, l2, ini, j⟩ := hb cdv A outer s I (rm H fp) H E vs d l b hr rs.s h
  refine j I H _ _ ?_ ?_
  · refine ⟨⟨Same.refl _, fun a u e => ?_, rs.s, fun a e n => e⟩, ?_, fun i sf e => IniR.get ini i sf e, [fp], ⟨rs.q, True.intro⟩, ?_, fun a ha => ?_⟩
    · by_cases hf : a ∈ fp
      · rw [rm_in hf] at e; cases e
      · rw [rm_out hf] at e; exact e
    · unfold L2.start
      rw [List.length_append, List.length_map, List.length_replicate, l1]
      omega
    · simpa using rs.nd
    · have ha : a ∈ fp := by simpa using ha
      exact ⟨rm_in ha, rs.own a ha⟩
  · revert p
    show PostC K (RG l) false b (m d b) rc I H fp E Q → PostR _ _ _ _ _ (m d b) _ _
    generalize m d b = z
    intro p
    cases z with
    | ok y => exact fun I' H' v fm ⟨r, fp', nd, own, q⟩ => p I' H' v fp' ⟨fm, nd, own, q⟩ r
    | err e => exact fun I' H' _ c d f x => p I' H' c d f.1 (fun z => by cases z) f.2 x
    | stuck => exact p
theorem FnOk.frX0 {γ δ β : Type} {P : Program} {w : World} {K : PySem.W.Frag} {mg : Str → Option Value} {base : Heap} {k : Nat} {f : Addr} {fd : FuncData} {ps : List Str} {RG : Addr → β → MF} {R : Addr → Hp → Hp → List V → δ → Prop} {m : δ → β → Res (γ × β)} {rc : Rp γ} {kp : Bool} (F : FnOk P w K mg base (L2N.CX P w) k f fd ps (spX K RG R m rc kp)) (hb : Binds K fd ps []) :
    FnR P w K mg base (L2N.CX P w) k f (spX K RG R m rc kp) := (FnOk.raw F hb .nil).imp fun vs H Q E h => by rw [List.append_nil]; exact h
end L2.Tr

namespace L2.Tr
open PySem PySem.Spec PyProof.Rows
section
variable {α β γ δ S T L : Type} {X : Cx} {I0 H0 I H I1 : Hp} {W : WX} {Kx : KnowsX} {G : Knows} {ctx : List (Option SF)} {mem : List MF} {C : T → List MF} {t0 t : T} {e a b c o iter elt ix : Expr} {es bs : List Expr} {st : Stmt} {ss s1 s2 body : List Stmt} {pos pos' p2 : Pos} {n : Str} {ra : Rp α} {rb : Rp β} {rc : Rp γ} {r : Rp α} {σ : St} {Q : VK} {R : Hp → Hp → List V → δ → Prop} {rr : Ra γ}
theorem JX.at {m : Res (α × T)} {c c' : List (Option SF)} {C C' : T → List MF} (j : JX X I0 H0 W Kx c' C' t0 e m r) (h : c = c' := by rfl) (h2 : C = C' := by rfl) : JX X I0 H0 W Kx c C t0 e m r := by rw [h, h2]; exact j
theorem JXI.list {tg : Expr} {m : Res (List β × T)} (j : JX X I0 H0 W Kx ctx C t0 iter m (rL rb)) : JXI X I0 H0 W Kx ctx C t0 tg iter m rb := fun I H σ R st p => by
  refine PI.w (pi_listC pe_W) (j I H σ _ st ?_)
  cases m with
  | ok xs =>
    rintro I1 H1 v s1 g1 ⟨l, vs, rfl, hl, pr⟩
    exact ⟨l, rfl, ⟨vs, SqL.of (g1.same _ _ hl)⟩, p I1 H1 _ vs _ s1 g1 itr_list (fun I2 H2 s1 s2 _ => SqL.of (s2 _ _ (s1 _ _ hl))) pr⟩
  | err e => exact p
  | stuck => exact p
theorem JXI.range2 {tg : Expr} {m : Res (Int × T)} {m' : T → Res (Int × T)} (j : JX X I0 H0 W Kx ctx C t0 a m rInt) (j' : ∀ t, JX X I0 H0 W Kx ctx C t b (m' t) rInt) (hm : X.mg "range" = none) (hg : Gl X "range" := by rfl) (hs : starEach [a, b] X.env = (false, eval a X.env) :: starEach [b] X.env := by rfl) (hs2 : starEach [b] X.env = (false, eval b X.env) :: starEach [] X.env := by rfl) :
    JXI X I0 H0 W Kx ctx C t0 tg (.Call (.Name "range" pos') [a, b] [] pos) (m.bindX fun x t => (m' t).bindX fun y t' => (rangeM x y).bind fun z => .ok (z, t')) rInt := fun I H σ R st p => by
  refine PI.w (pi_range2C hg hm (pa_cons pe_W (pa_cons pe_W pa_nil hs2) hs) (by rw [hs, hs2]; rfl) (by rw [hs2]; rfl)) (j I H σ _ st ?_)
  cases m with
  | ok x =>
    intro I1 H1 v s1 g1 r1
    refine j' x.2 I1 H1 σ _ g1 ?_
    have p1 : PostXI X I0 H0 W Kx ctx C σ I1 ((m' x.2).bindX fun y t' => (rangeM x.1 y).bind fun z => .ok (z, t')) rInt R := by
      revert p
      show PostXI X I0 H0 W Kx ctx C σ I ((m' x.2).bindX fun y t' => (rangeM x.1 y).bind fun z => .ok (z, t')) rInt R → _
      generalize ((m' x.2).bindX fun y t' => (rangeM x.1 y).bind fun z => (.ok (z, t') : Res (List Int × T))) = z
      intro p
      cases z with
      | ok w => exact fun I' H' J vs okp s => p I' H' J vs okp (s1.trans s)
      | err e => exact p
      | stuck => exact p
    revert p1
    generalize m' x.2 = z
    intro p1
    cases z with
    | ok y =>
      intro I2 H2 v2 s2 g2 r2
      cases (show v = V.int x.1 from r1)
      cases (show v2 = V.int y.1 from r2)
      by_cases hh : -(2 ^ 62) ≤ x.1 ∧ x.1 < 2 ^ 62 ∧ -(2 ^ 62) ≤ y.1 ∧ y.1 < 2 ^ 62
      · have e : ((Res.ok y).bindX fun y t' => (rangeM x.1 y).bind fun z => .ok (z, t')) = .ok (rngI x.1 (y.1 - x.1).toNat, y.2) := by
          show (rangeM x.1 y.1).bind _ = _
          rw [show rangeM x.1 y.1 = _ from Res.guard_pos hh _]; rfl
        rw [e] at p1
        exact ⟨x.1, y.1, rfl, hh, p1 I2 H2 _ _ _ s2 g2 itr_rng (fun _ _ _ _ _ => True.intro) rng_pair⟩
      · have e : ((Res.ok y).bindX fun y t' => (rangeM x.1 y).bind fun z => .ok (z, t')) = .stuck := by
          show (rangeM x.1 y.1).bind _ = _
          rw [show rangeM x.1 y.1 = _ from if_neg hh]; rfl
        rw [e] at p1
        exact p1.elim
    | err e => exact p1
    | stuck => exact p1
  | err e => exact p
  | stuck => exact p
theorem JXI.forG (j : Nat) [mb : Mo rb] {m : Res (List β × T)} {cx : S → List (Option SF)} {me : S → List MF} {f : β → S → Res (Fl S S γ)} {s0 : T → S} {GL : L → Knows} (hp : PassesOwn (model X.prog X.w) X.A X.env X.xe) (ji : JXI X I0 H0 W Kx ctx C t0 (.Name n pos') iter m rb)
    (jb : ∀ x s, JG X I0 H0 W Kx (Stt I0 H0 ((cx s).set j (some ⟨rb, x⟩)) (me s)) body (f x s) (fun s' => Stt I0 H0 (cx s') (me s')) (fun s' => Stt I0 H0 (cx s') (me s')) rr) (hC : ∀ t, C t = me (s0 t)) (hw : ∀ t, weakC ctx (cx (s0 t))) (hN : X.N.Nodup) (hc : Cool X := by first | exact .inl rfl | exact .inr ⟨_, by assumption, List.mem_cons_self⟩)
    (hj : X.N[j]? = some n := by rfl) (hl : Loc X.env.scope n := by first | exact Or.inl rfl | exact Or.inr rfl) (hf : X.fn n = true ∨ X.env.scope.names.lookup n = some .local := by first | exact .inl rfl | exact .inr rfl | assumption) (hs : ∀ x, foldedSetIterable iter X.env x = pure x := by intro _; rfl) :
    J1G X I0 H0 W Kx (Stt I0 H0 ctx (C t0)) (.For (.Name n pos') iter body [] pos) (m.bindX fun xs t => (Tr.forG f xs (s0 t) : Res (Fl S L γ))) (fun s => Stt I0 H0 (cx s) (me s)) GL rr := fun I H σ D g p => by
  refine PS.w (ps_forC hp hc pi_W (pg_name (i := j) hN hj hl hf) pss_W hs) (ji I H σ _ g ?_)
  cases m with
  | ok x0 =>
    obtain ⟨xs, t1⟩ := x0
    intro I1 H1 J vs okp f1 g1 itr stay pr
    have p0 : PostG X I0 H0 W Kx I1 (Tr.forG f xs (s0 t1)) (fun s => Stt I0 H0 (cx s) (me s)) GL rr D := PostG.up p f1
    have hlen : vs.length = xs.length := Paired.length pr
    have g1 : Stt I0 H0 (cx (s0 t1)) (me (s0 t1)) I1 H1 σ := by rw [← hC t1]; exact g1.weak (hw t1)
    refine ⟨fun i k σ' H' => k + i = vs.length ∧ ∃ I' s, Same I1 I' ∧ Stt I0 H0 (cx s) (me s) I' H' σ' ∧ PostG X I0 H0 W Kx I' (Tr.forG f (xs.drop i) s) (fun s => Stt I0 H0 (cx s) (me s)) GL rr D, ⟨vs.length, rfl, I1, s0 t1, Same.refl _, g1, p0⟩, ?_⟩
    rintro i k σ' H' ⟨hk, I', s, si, g', p'⟩
    have hok := stay I' H' si g'.same g'.fm.h
    by_cases hi : i < vs.length
    · obtain ⟨go, yl⟩ := (itr i H' hok).1 hi
      refine .inr ⟨go, fun σ2 H2 => ∃ I2 s2, Same I1 I2 ∧ Stt I0 H0 (cx s2) (me s2) I2 H2 σ2 ∧ PostG X I0 H0 W Kx I2 (Tr.forG f (xs.drop (i + 1)) s2) (fun s => Stt I0 H0 (cx s) (me s)) GL rr D, fun σ2 H2 h => ⟨k - 1, by omega, by omega, h⟩, fun v H2 hy => ?_⟩
      obtain ⟨rfl, ev⟩ := yl v H2 hy
      obtain ⟨x, ex, hr⟩ := paired_drop pr i ev
      rw [forG_drop ex] at p'
      refine jb x s I' H2 (σ'.set j (some v)) _ (g'.set j (mb.up si hr)) ?_
      revert p'
      generalize f x s = z
      intro p'
      cases z with
      | ok a => cases a with
        | nx s2 => exact fun I2 H2 σ2 q1 q2 => ⟨I2, s2, si.trans q1, q2, PostG.up p' q1⟩
        | ct s2 => exact fun I2 H2 σ2 q1 q2 => ⟨I2, s2, si.trans q1, q2, PostG.up p' q1⟩
        | bk s2 => exact p'
        | rt y => exact p'
      | err e => exact p'
      | stuck => exact p'.elim
    · refine .inl ⟨(itr i H' hok).2 (by omega), ?_⟩
      have : xs.drop i = [] := List.drop_eq_nil_of_le (by omega)
      rw [this] at p'
      exact p' I' H' σ' (Same.refl _) g'
  | err e => exact fun I' H' c d x => p I' H' σ c d x
  | stuck => exact p.elim
/-- f(new list, ..) of a def that changes the list: nobody else knows it -/
theorem Fm.dropNew {I H I2 H2 I' H' : Hp} {l : Addr} (f : Fm I H I2 H2) (hl : H l = none) (g : Fm I2 (rm H2 [l]) I' H') : Fm I H I' H' := by
  have out : ∀ a, H a ≠ none → rm H2 [l] a = H2 a := fun a h => rm_out fun z => h (by rw [List.mem_singleton.mp z]; exact hl)
  refine ⟨f.i.trans g.i, fun b u e => g.h b u (by rw [out b (by rw [e]; intro z; cases z)]; exact f.h b u e), g.ih, fun a e n => g.mu a (f.mu a e n) ?_⟩
  rw [out a n]
  cases z : H a with
  | none => exact absurd z n
  | some o => rw [f.h a o z]; intro y; cases y
end
end L2.Tr

namespace L2.Tr
open PySem PySem.Spec PyProof.Rows
section
variable {α β γ δ ε : Type} {X : Cx} {I0 H0 : Hp} {W : WX} {ctx : List (Option SF)} {mem : List MF} {e a b c o : Expr} {es bs : List Expr} {kws : List Keyword} {pos pos' kpos : Pos} {n x : Str} {nm : Option Str} {r : Rp α}
variable {R : Hp → Hp → List V → δ → Prop} {R' : Hp → Hp → List V → ε → Prop} {md : Res δ} {me : Res ε} {g : δ → ε → Res (List α)} {ks : List Str}
/-! ### keyword calls that hand back a new list -/
def CallKN (X : Cx) (W : WX) (f : Value) (ks : List Str) (R : Hp → Hp → List V → δ → Prop) (R' : Hp → Hp → List V → ε → Prop) (g : δ → ε → Res (List α)) (r : Rp α) : Prop :=
  ∀ (I H : Hp) (σ : St) (Q : VK) (vs zs : List V) (x : δ) (y : ε), Same I H → R I H vs x → R' I H zs y → PostM X W σ I H (g x y) r Q → callKW X f ks σ vs zs H Q
theorem JM.callK0 {f : Addr} {g : Unit → ε → Res (List α)} (jk : JK X I0 H0 W ctx mem kws me R') (cj : CallKN X W (.ref f) ks aNil R' g r) (hm : X.mg n = some (.ref f)) (hk : PySem.W.keepIn X.K (.ref f) = true) (hg : Gl X n := by rfl) (hdb : (n == ("__debug__" : Str)) = false := by decide)
    (hall : (backToKw pos (keywordEach kws X.env)).all (·.1.isSome) = true := by rfl) (hks : (backToKw pos (keywordEach kws X.env)).filterMap (·.1) = ks := by rfl)
    (hpl : ((backTo pos (starEach [] X.env)).any (·.1) || (backToKw pos (keywordEach kws X.env)).any (·.1.isNone)) = false := by rfl) : JM X I0 H0 W ctx mem (.Call (.Name n pos') [] kws pos) (me.bind fun y => g () y) r := fun I H σ Q st p => wE.mk fun pins s Iv => by
  refine wpAny_Call_Name_kw (ld_glob Iv hg hm ?_ hdb)
  refine PySem.W.callWith_KW0 (h₀ := X.base) Iv.ok.mod.kin hk hall ?_ hpl
  rw [hks]
  refine thn (jk pos I H σ (fun zs H2 => callKW X (.ref f) ks σ [] zs H2 Q) st ?_ pins s Iv) fun ws s2 ⟨zs, H2, I2, r2, q2⟩ => ⟨I2.kIn, q2 pins s2 [] ws I2 .nil r2⟩
  cases me with
  | ok y => exact fun I2 H2 zs f2 r2 => cj I2 H2 σ Q [] zs () y f2.ih rfl r2 (PostM.up (m := g () y) p f2)
  | err e => exact p
  | stuck => exact p
end
end L2.Tr

namespace L2.Tr
open PySem PySem.Spec PyProof.Rows
section
variable {α β γ δ T U : Type}
theorem Res.okbX (a : α) (t : T) (f : α → T → Res β) : (Res.ok (a, t)).bindX f = f a t := by
  have h : (Res.ok (a, t)).bindX f = f a t := rfl
  exact h
theorem Res.bindX_bind (m : Res (α × T)) (f : α → T → Res β) (g : β → Res γ) : (m.bindX f).bind g = m.bindX fun a t => (f a t).bind g := by cases m <;> rfl
theorem Res.bind_bindX (m : Res α) (f : α → Res (β × T)) (g : β → T → Res γ) : (m.bind f).bindX g = m.bind fun a => (f a).bindX g := by cases m <;> rfl
theorem Res.bindX_bindX (m : Res (α × T)) (f : α → T → Res (β × U)) (g : β → U → Res γ) : (m.bindX f).bindX g = m.bindX fun a t => (f a t).bindX g := by cases m <;> rfl
theorem Res.bindX_ok (m : Res (α × T)) : (m.bindX fun a t => Res.ok (a, t)) = m := by cases m <;> rfl
theorem Ok.bindX {m : Res (α × T)} {f : α → T → Res β} {P : α × T → Prop} {Q : β → Prop} (h : Ok m P) (k : ∀ a t, P (a, t) → Ok (f a t) Q) : Ok (m.bindX f) Q := by
  obtain ⟨⟨a, t⟩, e, p⟩ := h
  rw [e]
  exact k a t p
theorem lcXM_ok {f : β → T → Res (α × T)} {P : β → α → Prop} {Inv : T → Prop} : ∀ {xs : List β} {t : T}, Inv t → (∀ x t, x ∈ xs → Inv t → Ok (f x t) fun y => P x y.1 ∧ Inv y.2) → Ok (lcXM f xs t) fun y => y.1.length = xs.length ∧ (∀ (i : Nat) x z, xs[i]? = some x → y.1[i]? = some z → P x z) ∧ Inv y.2
  | [], t, h0, _ => .ok ⟨rfl, fun i x z h _ => by simp at h, h0⟩
  | x :: xs, t, h0, h => by
    obtain ⟨⟨a, t1⟩, e, p, q⟩ := h x t (List.mem_cons_self ..) h0
    unfold lcXM
    rw [e]
    show Ok ((lcXM f xs t1).bind fun z => .ok (a :: z.1, z.2)) _
    refine (lcXM_ok (t := t1) q fun y t hy => h y t (List.mem_cons_of_mem _ hy)).bind fun z ⟨z1, z2, z3⟩ => .ok ⟨by show (a :: z.1).length = _; rw [List.length_cons, List.length_cons, z1], fun i u v hu hv => ?_, z3⟩
    cases i with
    | zero =>
      have hu : x = u := by simpa using hu
      have hv : a = v := by simpa using hv
      rw [← hu, ← hv]; exact p
    | succ i => exact z2 i u v (by simpa using hu) (by simpa using hv)
theorem Ok.lcX {f : β → T → Res (α × T)} {P : β → α → Prop} {Inv : T → Prop} {xs : List β} {t : T} (hl : xs.length ≤ sizeLine) (h0 : Inv t) (h : ∀ x t, x ∈ xs → Inv t → Ok (f x t) fun y => P x y.1 ∧ Inv y.2) : Ok (Tr.lcX f xs t) fun y => y.1.length = xs.length ∧ (∀ (i : Nat) x z, xs[i]? = some x → y.1[i]? = some z → P x z) ∧ Inv y.2 := .guard hl (lcXM_ok h0 h)
/-! ### lists built item by item from those ahead -/
def cvl (g : Nat → List α → α) : Nat → List α
  | 0 => []
  | n + 1 => cvl g n ++ [g n (cvl g n)]
theorem cvl_vec (g : Nat → List α → α) : ∀ n, cvl g n = vec n fun i => g i (cvl g i)
  | 0 => rfl
  | n + 1 => by rw [vec_succ, ← cvl_vec g n]; rfl
end
/-- a tape: a cell and two mixers -/
def TP (t : List Int) : Prop := ∃ a b c : Int, t = [a, b, c] ∧ 0 ≤ a ∧ (0 ≤ b ∧ b < 2 ^ 40) ∧ (0 ≤ c ∧ c < 2 ^ 40)
end L2.Tr

namespace L2.Tr
open PySem PySem.Spec PyProof.Rows He
section
variable {α β γ : Type} {X : Cx} {I0 H0 I H : Hp} {W : WX} {ctx : List (Option SF)} {mem : List MF} {e a b c o : Expr} {pos pos' p2 : Pos} {n : Str} {σ : St} {Q : VK}
/-! ### C.f, a tuple of texts -/
def ctA (K : PySem.W.Frag) (C : Addr) (f : Str) : Addr := match PySem.W.findCls K (.ref C) (.type "type") f with
  | some (.val (.ref a)) => a
  | _ => 0
def isStrs : List Value → List Str → Bool
  | [], [] => true
  | .str x _ :: us, y :: ys => decide (x = y) && isStrs us ys
  | _, _ => false
structure CTup (K : PySem.W.Frag) (C : Addr) (f : Str) (zs : List Str) : Prop where
  rd : ClX.CRead K C (.type "type")
  cv : ClX.CVal K C (.type "type") f (.ref (ctA K C f)) (.ref (ctA K C f))
  sq : ∀ H, SqT K H (ctA K C f) (zs.map V.str)
def fCTup (x f : Str) (zs : List Str) : FB := fun K => PySem.W.readsIn K (ga K x) (.type "type") && (eqO (PySem.W.specialIn K (.ref (ga K x)) "__getattribute__") (some (some (.builtin "type.__getattribute__"))) && ((match PySem.W.findCls K (.ref (ga K x)) (.type "type") f with
  | some (.val (.ref _)) => true
  | _ => false) && (match K.lookup (ctA K (ga K x) f) with
  | some ⟨.type c, _, .seq its _, _⟩ => decide (c = "tuple") && (decide (its.size ≤ 1000) && isStrs its.toList zs)
  | _ => false)))
end
/-! ### the Hook with such tables -/
abbrev AlZ : Type := AlX × List (Option (List (Option (Str × Int))))
def obsZ (fs : List FB) (fn : List DX) (ts : List Tab) (K : PySem.W.Frag) : AlZ := (obsY fs fn K, ts.map fun t => dicW K (t.1 K))
def valZ (fn : List DX) (ts : List Tab) (w : World) : AlZ := (valY fn, ts.map fun t => some (keysIn w.params t.2))
def SaysZ (fs : List FB) (fn : List DX) (ts : List Tab) (w : World) (K : PySem.W.Frag) : Prop := obsZ fs fn ts K = valZ fn ts w
section
variable {fs : List FB} {fn : List DX} {ts : List Tab} {w : World} {K : PySem.W.Frag}
theorem SaysZ.y (c : SaysZ fs fn ts w K) : SaysY fs fn K := congrArg (fun z : AlZ => z.1) c
theorem SaysZ.fact (c : SaysZ fs fn ts w K) (i : Nat) {f : FB} (h : fs[i]? = some f := by rfl) : f K = true := c.y.fact i h
theorem SaysZ.def_ (c : SaysZ fs fn ts w K) (i : Nat) {d : DX} (h : fn[i]? = some d := by rfl) : ∃ fd, FunD K d.name d.qual d.params d.body d.scope (d.dfl.map (Dv.v K)) (d.kwd.map fun q => (q.1, q.2.v K)) (d.at_ K) fd := c.y.def_ i h
theorem SaysZ.tab (c : SaysZ fs fn ts w K) (i : Nat) {t : Tab} (h : ts[i]? = some t := by rfl) : ∃ es n, KDict K w (t.1 K) es n := by
  have e : ts.map (fun t => dicW K (t.1 K)) = ts.map fun t => some (keysIn w.params t.2) := congrArg (fun z : AlZ => z.2) c
  have e2 : (ts.map fun t => dicW K (t.1 K))[i]? = (ts.map fun t => some (keysIn w.params t.2))[i]? := by rw [e]
  rw [List.getElem?_map, List.getElem?_map, h] at e2
  exact dicW_ok (Option.some.inj e2)
end
end L2.Tr

namespace L2.Tr
open PySem PySem.Spec PyProof.Rows
section
variable {α β γ S L : Type} {X : Cx} {I0 H0 : Hp} {W : WX} {Kx : KnowsX} {ctx cw : List (Option SF)} {mem : List MF} {body suite : List Stmt} {b₀ : Stmt} {h₀ : ExceptHandler} {pos pos' np : Pos} {n x f : Str} {rr : Ra γ} {G' : S → Knows} {GL : L → Knows}
/-- what the clauses do with an error -/
def hdsM : List (List (Str × Bool) × (Exn → Res (Fl S L γ))) → Exn → Res (Fl S L γ)
  | [], e => .err e
  | (Ls, h) :: r, e => match Ls.lookup e.cls with
    | some true => (match h e with
      | .ok y => .ok y
      | _ => .stuck)
    | some false => hdsM r e
    | none => .stuck
def tryN (m : Res (Fl S L γ)) (hs : List (List (Str × Bool) × (Exn → Res (Fl S L γ)))) : Res (Fl S L γ) := match m with
  | .ok s => .ok s
  | .err e => hdsM hs e
  | .stuck => .stuck
def tsW (X : Cx) (ss : List Stmt) : Addr → Value → Option Addr → TS := fun a cls d D σ H => ∀ oe pn, L2N.Zn cls d oe → (∃ vs, oe.data = .fields vs) → wB (X.suite a ((a, oe) :: pn)) ss D σ H
inductive JHds (X : Cx) (I0 H0 : Hp) (cw : List (Option SF)) (mem : List MF) (G' : S → Knows) (GL : L → Knows) (rr : Ra γ) : List ExceptHandler → List (Value × (Addr → Value → Option Addr → TS)) → List (List (Str × Bool) × (Exn → Res (Fl S L γ))) → Prop
  | nil : JHds X I0 H0 cw mem G' GL rr [] [] []
  | only {x : Str} {cv : Value} {b₀ : Stmt} {suite : List Stmt} {np pos' : Pos} {hds : List ExceptHandler} {l : List (Value × (Addr → Value → Option Addr → TS))} {Ls : List (Str × Bool)} {mh : Exn → Res (Fl S L γ)} {ms : List (List (Str × Bool) × (Exn → Res (Fl S L γ)))}
      (js : ∀ (a : Addr) (oe : Obj) (ee : Exn) (d : Option Addr) (pn : List (Addr × Obj)), (ee.cls, true) ∈ Ls → JG (X.suite a ((a, oe) :: pn)) I0 H0 (fun _ _ _ _ => False) (fun _ _ _ _ => True) (Stt I0 H0 cw mem) (b₀ :: suite) (mh ee) G' GL rr)
      (hL : ∀ y b, (y, b) ∈ Ls → PySem.W.exmOne X.K (.ref (He.ga X.K y)) cv = some b) (hc : Names X x cv) (r : JHds X I0 H0 cw mem G' GL rr hds l ms) :
      JHds X I0 H0 cw mem G' GL rr (.ExceptHandler (some (.Name x np)) none (b₀ :: suite) pos' :: hds) ((cv, tsW X (b₀ :: suite)) :: l) ((Ls, mh) :: ms)
  | as_ {x n : Str} {cv : Value} {b₀ : Stmt} {suite : List Stmt} {np pos' : Pos} {hds : List ExceptHandler} {l : List (Value × (Addr → Value → Option Addr → TS))} {Ls : List (Str × Bool)} {mh : Exn → Res (Fl S L γ)} {ms : List (List (Str × Bool) × (Exn → Res (Fl S L γ)))} (i : Nat)
      (js : ∀ (a : Addr) (oe : Obj) (ee : Exn) (d : Option Addr) (pn : List (Addr × Obj)), L2N.Zn (.ref (He.ga X.K ee.cls)) d oe → (∃ vs, oe.data = .fields vs) → (ee.cls, true) ∈ Ls → (d = none → ee.pay = []) → (∀ q, d = some q → ee.pay ≠ []) → JG (X.suite a ((a, oe) :: pn)) I0 H0 (fun _ _ _ _ => False) (fun _ _ _ _ => True) (Stt I0 H0 (cw.set i (some ⟨rExc a, ()⟩)) (exm X.K d ee ++ mem)) (b₀ :: suite) (mh ee) (fun s I H σ => G' s I H (σ.set i none)) (fun s I H σ => GL s I H (σ.set i none)) rr)
      (hL : ∀ y b, (y, b) ∈ Ls → PySem.W.exmOne X.K (.ref (He.ga X.K y)) cv = some b) (hc : Names X x cv) (hi : X.N[i]? = some n) (hln : X.env.kindOf n = some .local) (r : JHds X I0 H0 cw mem G' GL rr hds l ms) :
      JHds X I0 H0 cw mem G' GL rr (.ExceptHandler (some (.Name x np)) (some n) (b₀ :: suite) pos' :: hds) ((cv, tsAs i (tsW X (b₀ :: suite))) :: l) ((Ls, mh) :: ms)
theorem JHds.ok {hds : List ExceptHandler} {l : List (Value × (Addr → Value → Option Addr → TS))} {ms : List (List (Str × Bool) × (Exn → Res (Fl S L γ)))} (hN : X.N.Nodup) (h : JHds X I0 H0 cw mem G' GL rr hds l ms) : HdsN X hds l := by
  induction h with
  | nil => exact .nil
  | only js hL hc r ih => exact .only hc (fun a oe cls d pn hz hf => ⟨fun pins s σ H D Iv h => h oe pn hz hf pins s Iv⟩) ih
  | as_ i js hL hc hi hln r ih => exact .as_ hN hi hln hc (fun a oe cls d pn hz hf => ⟨fun pins s σ H D Iv h => h oe pn hz hf pins s Iv⟩) ih
theorem JHds.w {hds : List ExceptHandler} {l : List (Value × (Addr → Value → Option Addr → TS))} {ms : List (List (Str × Bool) × (Exn → Res (Fl S L γ)))} (h : JHds X I0 H0 cw mem G' GL rr hds l ms) {I I' H' : Hp} {σ' : L2.St} {d : Option Addr} {cls : Value} {ee : Exn} {D : Ends} (sm : Same I I') (g : Stt I0 H0 cw mem I' H' σ') (fr : Fr H0 d) (hxr : ExR X.K I' H' ee cls d) (hmx : NoXd mem)
    (hx : ∀ I H σ d, Stt I0 H0 cw mem I H σ → Fr H0 d → Kx I H σ d) (p : PostG X I0 H0 W Kx I (hdsM ms ee) G' GL rr D) : wMany X.K W D l cls d σ' H' := by
  induction h with
  | nil => exact p I' H' σ' cls d (hx _ _ _ _ g fr) hxr
  | @only x cv b₀ suite np pos' hds l Ls mh ms js hL hc r ih =>
    have p1 : PostG X I0 H0 W Kx I (match Ls.lookup ee.cls with
      | some true => (match mh ee with
        | .ok y => .ok y
        | _ => .stuck)
      | some false => hdsM ms ee
      | none => .stuck) G' GL rr D := p
    obtain ⟨ec, hxr2⟩ := id hxr
    cases hl : Ls.lookup ee.cls with
    | none => rw [hl] at p1; exact p1.elim
    | some bb =>
      rw [hl] at p1
      refine ⟨bb, by rw [ec]; exact hL _ _ (lookup_mem hl), fun hb a ha oe pn' hz hf' => ?_, fun hb => ?_⟩
      · subst hb
        refine js a oe ee d pn' (lookup_mem hl) I' H' _ _ g ?_
        have p2 : PostG X I0 H0 W Kx I (match mh ee with
          | .ok y => .ok y
          | _ => .stuck) G' GL rr D := p1
        revert p2
        generalize mh ee = z
        intro p2
        cases z with
        | ok y =>
          cases y with
          | nx s => exact fun I2 H2 σ2 s2 q => p2 I2 H2 _ (sm.trans s2) q
          | bk s => exact fun I2 H2 σ2 s2 q => p2 I2 H2 _ (sm.trans s2) q
          | ct s => exact fun I2 H2 σ2 s2 q => p2 I2 H2 _ (sm.trans s2) q
          | rt y => exact p2
        | err _ => exact p2.elim
        | stuck => exact p2.elim
      · subst hb
        exact ih p1
  | @as_ x n cv b₀ suite np pos' hds l Ls mh ms i js hL hc hi hln r ih =>
    have p1 : PostG X I0 H0 W Kx I (match Ls.lookup ee.cls with
      | some true => (match mh ee with
        | .ok y => .ok y
        | _ => .stuck)
      | some false => hdsM ms ee
      | none => .stuck) G' GL rr D := p
    obtain ⟨ec, hxr2⟩ := id hxr
    cases hl : Ls.lookup ee.cls with
    | none => rw [hl] at p1; exact p1.elim
    | some bb =>
      rw [hl] at p1
      refine ⟨bb, by rw [ec]; exact hL _ _ (lookup_mem hl), fun hb a ha oe pn' hz hf' => ?_, fun hb => ?_⟩
      · subst hb
        rw [ec] at hz
        refine js a oe ee d pn' hz hf' (lookup_mem hl) (fun z => by subst z; exact hxr2) (fun q z => by subst z; exact hxr2.1) I' H' _ _ ((g.set i (r := rExc a) (x := ()) rfl).exm fr hxr hmx) ?_
        have p2 : PostG X I0 H0 W Kx I (match mh ee with
          | .ok y => .ok y
          | _ => .stuck) G' GL rr D := p1
        revert p2
        generalize mh ee = z
        intro p2
        cases z with
        | ok y =>
          cases y with
          | nx s => exact fun I2 H2 σ2 s2 q => p2 I2 H2 _ (sm.trans s2) q
          | bk s => exact fun I2 H2 σ2 s2 q => p2 I2 H2 _ (sm.trans s2) q
          | ct s => exact fun I2 H2 σ2 s2 q => p2 I2 H2 _ (sm.trans s2) q
          | rt y => exact p2
        | err _ => exact p2.elim
        | stuck => exact p2.elim
      · subst hb
        exact ih p1
theorem J1G.tryN {hds : List ExceptHandler} {l : List (Value × (Addr → Value → Option Addr → TS))} {ms : List (List (Str × Bool) × (Exn → Res (Fl S L γ)))} {mb : Res (Fl S L γ)} {me' : Hp → List MF} (tk : L2N.Takes X W)
    (jb : ∀ (W' : WX) (pn : List (Addr × Obj)) (xe : Value → Shared → Prop) (I1 : Hp), L2N.Takes (X.tr pn xe) W' → PassesOwn (model X.prog X.w) X.A X.env xe → JG (X.tr pn xe) I0 H0 W' (fun I H σ d => Stt I0 H0 cw (me' I1) I H σ ∧ Fr H0 d) (Stt I0 H0 ctx (me' I1)) body mb G' GL rr)
    (hd : JHds X I0 H0 cw mem G' GL rr (h₀ :: hds) l ms) (hx : ∀ I H σ d, Stt I0 H0 cw mem I H σ → Fr H0 d → Kx I H σ d) (hN : X.N.Nodup) (hme : ∀ I1, me' I1 = mem ++ [MF.same I1] := by intro _; rfl)
    (hs : X.stack = X.env :: X.outer := by rfl) (hf : X.env.frame = some X.env.locals := by rfl) (hmx : NoXd mem := by exact True.intro) :
    J1G X I0 H0 W Kx (Stt I0 H0 ctx mem) (.Try body (h₀ :: hds) [] [] pos) (tryN mb ms) G' GL rr := fun I H σ D g p => by
  refine PS.w (ps_try_manyN (tb := fun W' D σ H => ∀ pn xe, L2N.Takes (X.tr pn xe) W' → PassesOwn (model X.prog X.w) X.A X.env xe → wB (X.tr pn xe) body D σ H) hs hf tk
    (fun W' pn xe t1 t2 => ⟨fun pins s σ H D Iv h => h pn xe t1 t2 pins s Iv⟩) (hd.ok hN)) ?_
  intro pn xe t1 t2
  refine jb _ pn xe I t1 t2 I H σ _ (by rw [hme]; exact g.ghost) ?_
  cases mb with
  | ok r =>
    cases r with
    | nx s => exact p
    | bk s => exact p
    | ct s => exact p
    | rt y => exact p
  | stuck => exact p.elim
  | err ee =>
    intro I' H' σ' cls d hk hxr
    obtain ⟨g0, fr⟩ := hk
    rw [hme] at g0
    obtain ⟨sm, g1⟩ := g0.ungh
    exact hd.w sm g1 fr hxr hmx hx p
theorem JHds.as0 {cv : Value} {hds : List ExceptHandler} {l : List (Value × (Addr → Value → Option Addr → TS))} {Ls : List (Str × Bool)} {mh : Res (Fl S L γ)} {ms : List (List (Str × Bool) × (Exn → Res (Fl S L γ)))} (i : Nat) (c0 : Str)
    (js : ∀ (a : Addr) (oe : Obj) (pn : List (Addr × Obj)), L2N.Zn (.ref (He.ga X.K c0)) none oe → (∃ vs, oe.data = .fields vs) → JG (X.suite a ((a, oe) :: pn)) I0 H0 (fun _ _ _ _ => False) (fun _ _ _ _ => True) (Stt I0 H0 (cw.set i (some ⟨rExc a, ()⟩)) mem) (b₀ :: suite) mh (fun s I H σ => G' s I H (σ.set i none)) (fun s I H σ => GL s I H (σ.set i none)) rr)
    (hcl : ∀ c, (c, true) ∈ Ls → c = c0) (hL : ∀ y b, (y, b) ∈ Ls → PySem.W.exmOne X.K (.ref (He.ga X.K y)) cv = some b) (hc : Names X x cv) (r : JHds X I0 H0 cw mem G' GL rr hds l ms) (hi : X.N[i]? = some n := by rfl) (hln : X.env.kindOf n = some .local := by rfl) :
    JHds X I0 H0 cw mem G' GL rr (.ExceptHandler (some (.Name x np)) (some n) (b₀ :: suite) pos' :: hds) ((cv, tsAs i (tsW X (b₀ :: suite))) :: l) ((Ls, fun ee => if ee.pay.isEmpty = true then mh else .stuck) :: ms) := by
  refine .as_ i (fun a oe ee d pn hz hf' hm h0 h1 => ?_) hL hc hi hln r
  rw [hcl _ hm] at hz
  obtain ⟨ec, ep⟩ := ee
  dsimp only at h0 h1 ⊢
  cases ep with
  | cons _ _ => exact JG.dead
  | nil =>
    cases d with
    | some dd => exact absurd rfl (h1 dd rfl)
    | none => exact js a oe pn hz hf'
theorem JHds.as1 {cv : Value} {hds : List ExceptHandler} {l : List (Value × (Addr → Value → Option Addr → TS))} {Ls : List (Str × Bool)} {mh : α → Res (Fl S L γ)} {ms : List (List (Str × Bool) × (Exn → Res (Fl S L γ)))} (i : Nat) (c0 f : Str) (dp : Pay → Option α)
    (js : ∀ (a : Addr) (oe : Obj) (dd : Addr) (pn : List (Addr × Obj)) (p : Pay) (y : α), L2N.Zn (.ref (He.ga X.K c0)) (some dd) oe → (∃ vs, oe.data = .fields vs) → dp p = some y → JG (X.suite a ((a, oe) :: pn)) I0 H0 (fun _ _ _ _ => False) (fun _ _ _ _ => True) (Stt I0 H0 (cw.set i (some ⟨rExc a, ()⟩)) (MF.xd X.K dd [(f, p)] :: mem)) (b₀ :: suite) (mh y) (fun s I H σ => G' s I H (σ.set i none)) (fun s I H σ => GL s I H (σ.set i none)) rr)
    (hcl : ∀ c, (c, true) ∈ Ls → c = c0) (hL : ∀ y b, (y, b) ∈ Ls → PySem.W.exmOne X.K (.ref (He.ga X.K y)) cv = some b) (hc : Names X x cv) (r : JHds X I0 H0 cw mem G' GL rr hds l ms) (hi : X.N[i]? = some n := by rfl) (hln : X.env.kindOf n = some .local := by rfl) :
    JHds X I0 H0 cw mem G' GL rr (.ExceptHandler (some (.Name x np)) (some n) (b₀ :: suite) pos' :: hds) ((cv, tsAs i (tsW X (b₀ :: suite))) :: l) ((Ls, fun ee => pay1 f dp mh ee.pay) :: ms) := by
  refine .as_ i (fun a oe ee d pn hz hf' hm h0 h1 => ?_) hL hc hi hln r
  rw [hcl _ hm] at hz
  obtain ⟨ec, ep⟩ := ee
  dsimp only at h0 h1 ⊢
  cases ep with
  | nil => exact JG.dead
  | cons q ep =>
    cases ep with
    | cons _ _ => exact JG.dead
    | nil =>
      obtain ⟨g, p⟩ := q
      unfold pay1
      dsimp only
      by_cases hg : g = f
      · rw [if_pos hg]
        subst hg
        cases hd : dp p with
        | none => exact JG.dead
        | some y =>
          cases d with
          | none => cases h0 rfl
          | some dd => exact js a oe dd pn p y hz hf' hd
      · rw [if_neg hg]; exact JG.dead
end
end L2.Tr

namespace L2.Tr
open PySem PySem.Spec PyProof.Rows He
/-! ### nested data compared -/
class DpC {α : Type} (r : Rp α) where
  deq : DecidableEq α
  enc : α → PyData
  lay : α → Bool
  dep : Nat
  dp : ∀ {K : PySem.W.Frag} {I H : Hp} {v : V} {x : α}, Same I H → r I v x → Dp K H v (enc x)
  eq : ∀ x y, PyData.eqv (enc x) (enc y) = decide (x = y)
  cl : ∀ x, lay x = true → PyData.canLay0 (enc x) = true
  dd : ∀ x, PyData.depth (enc x) ≤ dep
instance : DpC rInt where
  deq := inferInstance
  enc := .int
  lay := fun _ => true
  dep := 0
  dp := fun _ h => by rw [show _ = V.int _ from h]; exact .int _
  eq := fun x y => by
    show (x == y) = _
    by_cases h : x = y <;> simp [h]
  cl := fun _ _ => by simp only [PyData.canLay0]
  dd := fun _ => by simp only [PyData.depth]; exact Nat.le_refl _
instance : DpC rStr where
  deq := inferInstance
  enc := .str
  lay := fun x => PyData.strOk x
  dep := 0
  dp := fun _ h => by rw [show _ = V.str _ from h]; exact .str _
  eq := fun x y => by
    show (x == y) = _
    by_cases h : x = y <;> simp [h]
  cl := fun x h => by simp only [PyData.canLay0]; exact h
  dd := fun _ => by simp only [PyData.depth]; exact Nat.le_refl _
instance : DpC rBl where
  deq := inferInstance
  enc := .bool
  lay := fun _ => true
  dep := 0
  dp := fun _ h => by rw [show _ = V.bl _ from h]; exact .bl _
  eq := fun x y => by
    show (x == y) = _
    by_cases h : x = y <;> simp [h]
  cl := fun _ _ => by simp only [PyData.canLay0]
  dd := fun _ => by simp only [PyData.depth]; exact Nat.le_refl _
section
variable {α β : Type} {r : Rp α}
theorem eqvAll_map [d : DpC r] : ∀ xs ys : List α, PyData.eqvAll (xs.map d.enc) (ys.map d.enc) = @decide (xs = ys) (@instDecidableEqList _ d.deq xs ys)
  | [], [] => by simp [PyData.eqvAll]
  | [], _ :: _ => by simp [PyData.eqvAll]
  | _ :: _, [] => by simp [PyData.eqvAll]
  | x :: xs, y :: ys => by
    have := d.deq
    rw [List.map_cons, List.map_cons]
    show (PyData.eqv _ _ && PyData.eqvAll _ _) = _
    rw [eqvAll_map xs ys, d.eq]
    by_cases h : x = y <;> by_cases h' : xs = ys <;> simp [h, h']
theorem dpAll_map [d : DpC r] {K : PySem.W.Frag} {I H : Hp} (s : Same I H) : ∀ {vs : List V} {xs : List α}, Paired (r I) vs xs → DpAll K H vs (xs.map d.enc)
  | _, _, .nil => .nil
  | _, _, .cons h t => .cons (d.dp s h) (dpAll_map s t)
theorem canAll_map [d : DpC r] : ∀ {xs : List α}, xs.all d.lay = true → PyData.canLayAll0 (xs.map d.enc) = true
  | [], _ => by simp only [List.map_nil, PyData.canLayAll0]
  | x :: xs, h => by
    rw [List.all_cons, Bool.and_eq_true] at h
    simp only [List.map_cons, PyData.canLayAll0]
    rw [d.cl x h.1, canAll_map h.2]; rfl
theorem depAll_map [d : DpC r] : ∀ xs : List α, PyData.depthAll (xs.map d.enc) ≤ d.dep
  | [] => by simp only [List.map_nil, PyData.depthAll]; exact Nat.zero_le _
  | x :: xs => by
    simp only [List.map_cons, PyData.depthAll]
    exact Nat.max_le.mpr ⟨d.dd x, depAll_map xs⟩
instance dpcL [d : DpC r] : DpC (rL r) where
  deq := @instDecidableEqList _ d.deq
  enc := fun xs => .list (xs.map d.enc)
  lay := fun xs => xs.all d.lay
  dep := d.dep + 1
  dp := fun s ⟨l, vs, e, h, p⟩ => by rw [e]; exact .lst (SqL.of (s _ _ h)) (dpAll_map s p)
  eq := fun x y => by show PyData.eqvAll _ _ = _; exact eqvAll_map x y
  cl := fun x h => by simp only [PyData.canLay0]; exact canAll_map h
  dd := fun x => by simp only [PyData.depth]; have := depAll_map (r := r) x; omega
instance [d : DpC r] : DpC (rT r) where
  deq := @instDecidableEqList _ d.deq
  enc := fun xs => .tuple (xs.map d.enc)
  lay := fun xs => xs.all d.lay
  dep := d.dep + 1
  dp := fun s ⟨l, vs, e, h, p⟩ => by rw [e]; exact .tup (SqT.of (s _ _ h)) (dpAll_map s p)
  eq := fun x y => by show PyData.eqvAll _ _ = _; exact eqvAll_map x y
  cl := fun x h => by simp only [PyData.canLay0]; exact canAll_map h
  dd := fun x => by simp only [PyData.depth]; have := depAll_map (r := r) x; omega
/-- items of several kinds -/
class DpL {δ : Type} (R : Hp → Hp → List V → δ → Prop) where
  deq : DecidableEq δ
  enc : δ → List PyData
  lay : δ → Bool
  dep : Nat
  dp : ∀ {K : PySem.W.Frag} {I H : Hp} {vs : List V} {x : δ}, Same I H → R I I vs x → DpAll K H vs (enc x)
  eq : ∀ x y, PyData.eqvAll (enc x) (enc y) = decide (x = y)
  cl : ∀ x, lay x = true → PyData.canLayAll0 (enc x) = true
  dd : ∀ x, PyData.depthAll (enc x) ≤ dep
instance : DpL aNil where
  deq := inferInstance
  enc := fun _ => []
  lay := fun _ => true
  dep := 0
  dp := fun _ h => by rw [show _ = [] from h]; exact .nil
  eq := fun _ _ => by simp [PyData.eqvAll]
  cl := fun _ _ => by simp only [PyData.canLayAll0]
  dd := fun _ => by simp only [PyData.depthAll]; exact Nat.le_refl _
instance {δ : Type} {R : Hp → Hp → List V → δ → Prop} [d : DpC r] [l : DpL R] : DpL (aCons (rp r) R) where
  deq := @instDecidableEqProd _ _ d.deq l.deq
  enc := fun x => d.enc x.1 :: l.enc x.2
  lay := fun x => d.lay x.1 && l.lay x.2
  dep := max d.dep l.dep
  dp := fun s ⟨v, ws, e, h, h'⟩ => by rw [e]; exact .cons (d.dp s h) (l.dp s h')
  eq := fun x y => by
    have := d.deq
    have := l.deq
    show (PyData.eqv _ _ && PyData.eqvAll _ _) = _
    rw [d.eq, l.eq]
    obtain ⟨a, b⟩ := x
    obtain ⟨a', b'⟩ := y
    by_cases h : a = a' <;> by_cases h' : b = b' <;> simp [h, h']
  cl := fun x h => by
    rw [Bool.and_eq_true] at h
    simp only [PyData.canLayAll0]
    rw [d.cl _ h.1, l.cl _ h.2]; rfl
  dd := fun x => by
    simp only [PyData.depthAll]
    have h1 := d.dd x.1
    have h2 := l.dd x.2
    omega
instance {δ : Type} {R : Hp → Hp → List V → δ → Prop} [l : DpL R] : DpC (rTu R) where
  deq := l.deq
  enc := fun x => .tuple (l.enc x)
  lay := l.lay
  dep := l.dep + 1
  dp := fun s ⟨a, vs, e, h, p⟩ => by rw [e]; exact .tup (SqT.of (s _ _ h)) (l.dp s p)
  eq := fun x y => by show PyData.eqvAll _ _ = _; exact l.eq x y
  cl := fun x h => by simp only [PyData.canLay0]; exact l.cl x h
  dd := fun x => by simp only [PyData.depth]; have := l.dd x; omega
theorem shaped_dp [d : DpC r] (hd : d.dep ≤ 64) {x : α} (h : d.lay x = true) : SeqAt.shaped (d.enc x) = true := by
  unfold SeqAt.shaped
  rw [d.cl x h, decide_eq_true (Nat.le_trans (d.dd x) hd)]
  rfl
def eqD (r : Rp α) [d : DpC r] (x y : α) : Res Bool := Res.guard (d.lay x = true ∧ d.lay y = true) (.ok (@decide (x = y) (d.deq x y)))
variable {X : Cx} {W : WX}
theorem opj_eqDp [d : DpC r] (hu : X.A.units + 64 < cLine) (hd : d.dep ≤ 64 := by decide) : OpJ X W (compareOp .Eq) (rp r) (rp r) (fun x y => eqD r x y) (rp rBl) := fun I H σ Q u v x y s a b p => by
  obtain ⟨g, p⟩ := post_guard p
  exact OpR.w (op_eqD hu) ⟨_, _, d.dp s a, d.dp s b, shaped_dp hd g.1, shaped_dp hd g.2, p I H _ (Fm.refl s) (by rw [d.eq]; rfl)⟩
theorem opj_neDp [d : DpC r] (hu : X.A.units + 64 < cLine) (hd : d.dep ≤ 64 := by decide) : OpJ X W (compareOp .NotEq) (rp r) (rp r) (fun x y => (eqD r x y).bind fun z => .ok (!z)) (rp rBl) := fun I H σ Q u v x y s a b p => by
  have p : PostE X.K ((Res.guard (d.lay x = true ∧ d.lay y = true) (.ok (@decide (x = y) (d.deq x y)))).bind fun z => .ok (!z)) (rp rBl) I H (fun cls d H' => W cls d σ H') Q := p
  by_cases g : d.lay x = true ∧ d.lay y = true
  · rw [Res.guard_pos g] at p
    exact OpR.w (op_neD hu) ⟨_, _, d.dp s a, d.dp s b, shaped_dp hd g.1, shaped_dp hd g.2, p I H _ (Fm.refl s) (by rw [d.eq]; rfl)⟩
  · unfold Res.guard at p
    rw [if_neg g] at p
    exact p.elim
end
end L2.Tr

namespace L2.Tr
open PySem PySem.Spec PyProof.Rows He
section
variable {α β γ δ : Type} {X : Cx} {I0 H0 I H : Hp} {W : WX} {ctx : List (Option SF)} {mem : List MF} {e a b c o : Expr} {es : List Expr} {pos pos' p2 apos : Pos} {n : Str} {σ : St} {Q : VK} {r : Rp α} {R : Hp → Hp → List V → δ → Prop} {ma : Res α} {md : Res δ} {rb : Ra β}
/-! ### lists of kinds, only read -/
def rLu (R : Hp → Hp → List V → δ → Prop) : Rp δ := fun I v x => ∃ l vs, v = .ref l ∧ I l = some (.lst vs) ∧ R I I vs x
instance [m : MoR R] : Mo (rLu R) := ⟨fun s ⟨l, vs, e, h, p⟩ => ⟨l, vs, e, s _ _ h, m.up s s p⟩⟩
/-! ### isinstance of a class's tuple -/
theorem CTup.ty {K : PySem.W.Frag} {x f : Str} {zs : List Str} (c : fCTup x f zs K = true) : ∃ o, K.lookup (ctA K (ga K x) f) = some o ∧ o.cls = .type "tuple" := by
  obtain ⟨c1, c⟩ := ba c
  obtain ⟨c2, c⟩ := ba c
  obtain ⟨c3, c4⟩ := ba c
  split at c4
  · rename_i t d its m sl e
    obtain ⟨d1, d⟩ := ba c4
    exact ⟨_, e, by rw [of_decide_eq_true d1]⟩
  · cases c4
/-- the tuple with its type known -/
def rCT (K : PySem.W.Frag) (C : Addr) (f : Str) : Ra Unit := fun _ _ v _ => v = .ref (ctA K C f) ∧ ∃ o, K.lookup (ctA K C f) = some o ∧ o.cls = .type "tuple"
instance {K : PySem.W.Frag} {C : Addr} {f : Str} : MoA (rCT K C f) := ⟨fun _ _ h => h⟩
end
end L2.Tr

namespace L2.Tr
open PySem PySem.Spec PyProof.Rows He
section
variable {X : Cx} {I0 H0 : Hp} {W : WX} {ctx : List (Option SF)} {mem : List MF} {pos : Pos}
end
end L2.Tr

namespace L2.Tr
open PySem PySem.Spec PyProof.Rows
/-! ### x, y, .. = a tuple or a list of known length -/
section
variable {α β γ δ S T : Type} {X : Cx} {I0 H0 : Hp} {W : WX} {Kx : KnowsX} {ctx : List (Option SF)} {mem : List MF} {e a b c o : Expr} {pos : Pos}
end
end L2.Tr

namespace L2.Tr
open PySem PySem.Spec PyProof.Rows
/-! ### an int's name that is to hold any number -/
section
variable {α β γ S L : Type} {X : Cx} {I0 H0 : Hp} {W : WX} {Kx : KnowsX} {ctx ctx' : List (Option SF)} {mem : List MF} {st : Stmt} {rr : Ra γ}
end
end L2.Tr

namespace L2.Tr
open PySem PySem.Spec PyProof.Rows L2H
/-! ### own defs that are called in an except suite: defs that need not know what is handled -/
/-- what such a def promises wherever some object p is pinned -/
def FnL (P : Program) (w : World) (K : PySem.W.Frag) (mg : Str → Option Value) (base : Heap) (k : Nat) (f : Addr) (sp : Sp) : Prop :=
  ∀ (A : Around) (outer : List Env) (s : Shared) (H : Hp) (us : List Value) (vs : List V) (Q : VK) (E : XK) (p : Addr × Obj), RoomH k A → Hot1 A p → PinOk outer H s p → Env0 P w K mg base A outer s H → Vals vs us → sp vs H Q E →
    codeAny (model P w) A (.call (.ref f) ⟨us, []⟩) (CR (L2N.CX P w) outer P w H s Q E) s
section
variable {α β γ δ S L : Type} {P : Program} {w : World} {K : PySem.W.Frag} {mg : Str → Option Value} {base : Heap} {x qual : Str} {params : Arguments} {body : List Stmt} {scope : Scope} {f : Addr} {fd : FuncData} {N ps : List Str} {k : Nat} {r : Ra γ} {R : Hp → Hp → List V → δ → Prop} {m : δ → Res γ}
/-- a nicer mirror -/
theorem FnL.nice {m' : δ → Res γ} (F : FnL P w K mg base k f (spF K R m r)) (h : ∀ d, m' d = .stuck ∨ m' d = m d) : FnL P w K mg base k f (spF K R m' r) := fun A outer s H us vs Q E p hr ho hp e0 rv ⟨I, d, sm, hR, post⟩ => by
  rcases h d with e | e
  · rw [e] at post; exact post.elim
  · rw [e] at post; exact F A outer s H us vs Q E p hr ho hp e0 rv ⟨I, d, sm, hR, post⟩
end
section
variable {α β γ δ : Type} {X : Cx} {W : WX} {f f' : Addr} {k : Nat} {ra : Ra α} {rb : Ra β} {rc : Ra γ} {R : Hp → Hp → List V → δ → Prop} {m : δ → Res γ}
variable {g : Rat × Num × Unit → Res γ}
end
end L2.Tr

namespace L2.Tr
open PySem PySem.Spec PyProof.Rows He
/-! ### objects of the call's own that may still be changed; their lists are theirs alone -/
inductive OF where
  | im (s : SF)
  | ls {α : Type} (r : Rp α) (mo : Mo r) (xs : List α)
def putO (f : Str) (s : OF) : List (Str × OF) → List (Str × OF)
  | [] => [(f, s)]
  | q :: gs => if q.1 = f then (f, s) :: gs else q :: putO f s gs
/-- the fields of the dict, with the addresses of the lists -/
def OFR (I H : Hp) : List (Str × V) → List (Str × OF) → List Addr → Prop
  | [], [], as => as = []
  | p :: fs, (n, .im s) :: gs, as => p.1 = n ∧ s.r I p.2 s.x ∧ OFR I H fs gs as
  | p :: fs, (n, .ls r _ xs) :: gs, as => ∃ a as', as = a :: as' ∧ p.1 = n ∧ p.2 = .ref a ∧ (∃ vs, H a = some (.lst vs) ∧ Paired (r I) vs xs) ∧ OFR I H fs gs as'
  | [], _ :: _, _ => False
  | _ :: _, [], _ => False
theorem OFR.up {I I' H H' : Hp} (s : Same I I') : ∀ {gs : List (Str × OF)} {fs : List (Str × V)} {as : List Addr}, (∀ a, a ∈ as → H' a = H a) → OFR I H fs gs as → OFR I' H' fs gs as
  | [], [], _, _, h => h
  | (n, .im q) :: gs, p :: fs, as, k, ⟨a, b, c⟩ => ⟨a, q.mo.up s b, OFR.up s k c⟩
  | (n, .ls r mo xs) :: gs, p :: fs, as, k, ⟨a, as', e, h1, h2, ⟨vs, h3, h4⟩, h5⟩ => by
    subst e
    exact ⟨a, as', rfl, h1, h2, ⟨vs, by rw [k a List.mem_cons_self]; exact h3, Paired.mapP h4 fun _ _ q => mo.up s q⟩, OFR.up s (fun b hb => k b (List.mem_cons_of_mem _ hb)) h5⟩
  | [], _ :: _, _, _, h => h.elim
  | (_, .im _) :: _, [], _, _, h => h.elim
  | (_, .ls _ _ _) :: _, [], _, _, h => h.elim
theorem OFR.length {I H : Hp} : ∀ {gs : List (Str × OF)} {fs : List (Str × V)} {as : List Addr}, OFR I H fs gs as → fs.length = gs.length
  | [], [], _, _ => rfl
  | (n, .im q) :: gs, p :: fs, as, ⟨_, _, c⟩ => congrArg Nat.succ (OFR.length c)
  | (n, .ls r mo xs) :: gs, p :: fs, as, ⟨_, _, _, _, _, _, c⟩ => congrArg Nat.succ (OFR.length c)
  | [], _ :: _, _, h => h.elim
  | (_, .im _) :: _, [], _, h => h.elim
  | (_, .ls _ _ _) :: _, [], _, h => h.elim
theorem OFR.none {I H : Hp} {f : Str} : ∀ {gs : List (Str × OF)} {fs : List (Str × V)} {as : List Addr}, OFR I H fs gs as → gs.lookup f = none → fs.lookup f = none
  | [], [], _, _, _ => rfl
  | (n, o) :: gs, (k, v) :: fs, as, h, e => by
    have hk : k = n ∧ ∃ as', OFR I H fs gs as' := by
      cases o with
      | im q => exact ⟨h.1, _, h.2.2⟩
      | ls r mo xs => obtain ⟨_, as', _, h1, _, _, h5⟩ := h; exact ⟨h1, as', h5⟩
    obtain ⟨rfl, as', h'⟩ := hk
    rw [List.lookup_cons] at e ⊢
    by_cases hq : (f == k) = true
    · rw [hq] at e; cases e
    · rw [Bool.not_eq_true] at hq
      rw [hq] at e ⊢
      exact OFR.none h' e
  | [], _ :: _, _, h, _ => h.elim
  | (_, .im _) :: _, [], _, h, _ => h.elim
  | (_, .ls _ _ _) :: _, [], _, h, _ => h.elim
theorem OFR.look {I H : Hp} {f : Str} {q : SF} : ∀ {gs : List (Str × OF)} {fs : List (Str × V)} {as : List Addr}, OFR I H fs gs as → gs.lookup f = some (.im q) → ∃ v, fs.lookup f = some v ∧ q.r I v q.x
  | [], [], _, _, e => by simp at e
  | (n, o) :: gs, (k, v) :: fs, as, h, e => by
    have hk : k = n ∧ (∃ as', OFR I H fs gs as') ∧ (∀ s, o = .im s → s.r I v s.x) := by
      cases o with
      | im q => exact ⟨h.1, ⟨_, h.2.2⟩, fun s e => by cases e; exact h.2.1⟩
      | ls r mo xs => obtain ⟨_, as', _, h1, _, _, h5⟩ := h; exact ⟨h1, ⟨as', h5⟩, fun s e => by cases e⟩
    obtain ⟨rfl, ⟨as', h'⟩, hv⟩ := hk
    rw [List.lookup_cons] at e ⊢
    by_cases hq : (f == k) = true
    · rw [hq] at e ⊢
      have e' : o = .im q := by simpa using e
      exact ⟨v, rfl, hv _ e'⟩
    · rw [Bool.not_eq_true] at hq
      rw [hq] at e ⊢
      exact OFR.look h' e
  | [], _ :: _, _, h, _ => h.elim
  | (_, .im _) :: _, [], _, h, _ => h.elim
  | (_, .ls _ _ _) :: _, [], _, h, _ => h.elim
/-- a list of the object's own -/
theorem OFR.list {α : Type} {r : Rp α} {mo : Mo r} {xs : List α} {I H : Hp} {f : Str} : ∀ {gs : List (Str × OF)} {fs : List (Str × V)} {as : List Addr}, OFR I H fs gs as → gs.lookup f = some (.ls r mo xs) →
    ∃ a vs, fs.lookup f = some (.ref a) ∧ a ∈ as ∧ H a = some (.lst vs) ∧ Paired (r I) vs xs ∧ (∀ vs' zs, as.Nodup → Paired (r I) vs' zs → OFR I (upd H a (.lst vs')) fs (putO f (.ls r mo zs) gs) as) ∧
      ∀ l vs' zs, H l = some (.lst vs') → Paired (r I) vs' zs → l ∉ as → ∃ as', OFR I H (putF f (.ref l) fs) (putO f (.ls r mo zs) gs) as' ∧ (as.Nodup → as'.Nodup) ∧ ∀ b, b ∈ as' → b = l ∨ b ∈ as
  | [], [], _, _, e => by simp at e
  | (n, .im q') :: gs, (k, w) :: fs, as, ⟨h1, h2, h3⟩, e => by
    obtain rfl : k = n := h1
    by_cases hq : k = f
    · subst hq; rw [List.lookup_cons, show (k == k) = true from by simp] at e; cases e
    · have hf : (f == k) = false := by simpa using fun z => hq z.symm
      rw [List.lookup_cons, hf] at e
      obtain ⟨a, vs, i1, i2, i3, i4, i5, i6⟩ := OFR.list h3 e
      refine ⟨a, vs, by rw [List.lookup_cons, hf]; exact i1, i2, i3, i4, fun vs' zs nd p => ?_, fun l vs' zs hl p hn => ?_⟩
      · show OFR I _ _ (if k = f then _ else _) as
        rw [if_neg hq]
        exact ⟨rfl, h2, i5 vs' zs nd p⟩
      · obtain ⟨as', j1, j2, j3⟩ := i6 l vs' zs hl p hn
        refine ⟨as', ?_, j2, j3⟩
        show OFR I H (if k = f then _ else _) (if k = f then _ else _) as'
        rw [if_neg hq, if_neg hq]
        exact ⟨rfl, h2, j1⟩
  | (n, .ls r' mo' xs') :: gs, (k, w) :: fs, as, ⟨a, as', e0, h1, h2, ⟨vs, h3, h4⟩, h5⟩, e => by
    obtain rfl : k = n := h1
    obtain rfl : w = .ref a := h2
    subst e0
    by_cases hq : k = f
    · subst hq
      have hkk : (k == k) = true := by simp
      rw [List.lookup_cons, hkk] at e
      have e' : OF.ls r' mo' xs' = OF.ls r mo xs := by simpa using e
      cases e'
      refine ⟨a, vs, by rw [List.lookup_cons, hkk], List.mem_cons_self, h3, h4, fun vs' zs nd p => ?_, fun l vs' zs hl p hn => ?_⟩
      · show OFR I _ _ (if k = k then _ else _) _
        rw [if_pos rfl]
        have hn := (List.nodup_cons.mp nd).1
        exact ⟨a, as', rfl, rfl, rfl, ⟨vs', upd_same, p⟩, OFR.up (Same.refl _) (fun b hb => upd_ne (fun z => hn (z ▸ hb))) h5⟩
      · refine ⟨l :: as', ?_, fun nd => List.nodup_cons.mpr ⟨fun z => hn (List.mem_cons_of_mem _ z), (List.nodup_cons.mp nd).2⟩, fun b hb => ?_⟩
        · show OFR I H (if k = k then _ else _) (if k = k then _ else _) _
          rw [if_pos rfl, if_pos rfl]
          exact ⟨l, as', rfl, rfl, rfl, ⟨vs', hl, p⟩, h5⟩
        · rcases List.mem_cons.mp hb with z | z
          · exact .inl z
          · exact .inr (List.mem_cons_of_mem _ z)
    · have hf : (f == k) = false := by simpa using fun z => hq z.symm
      rw [List.lookup_cons, hf] at e
      obtain ⟨a2, vs2, i1, i2, i3, i4, i5, i6⟩ := OFR.list h5 e
      refine ⟨a2, vs2, by rw [List.lookup_cons, hf]; exact i1, List.mem_cons_of_mem _ i2, i3, i4, fun vs' zs nd p => ?_, fun l vs' zs hl p hn => ?_⟩
      · show OFR I _ _ (if k = f then _ else _) _
        rw [if_neg hq]
        have nd2 := List.nodup_cons.mp nd
        exact ⟨a, as', rfl, rfl, rfl, ⟨vs, (upd_ne (show a ≠ a2 from fun z => nd2.1 (z ▸ i2))).trans h3, h4⟩, i5 vs' zs nd2.2 p⟩
      · obtain ⟨as2, j1, j2, j3⟩ := i6 l vs' zs hl p (fun z => hn (List.mem_cons_of_mem _ z))
        refine ⟨a :: as2, ?_, fun nd => ?_, fun b hb => ?_⟩
        · show OFR I H (if k = f then _ else _) (if k = f then _ else _) _
          rw [if_neg hq, if_neg hq]
          exact ⟨a, as2, rfl, rfl, rfl, ⟨vs, h3, h4⟩, j1⟩
        · have nd2 := List.nodup_cons.mp nd
          refine List.nodup_cons.mpr ⟨fun z => ?_, j2 nd2.2⟩
          rcases j3 a z with y | y
          · exact hn (y ▸ List.mem_cons_self)
          · exact nd2.1 y
        · rcases List.mem_cons.mp hb with z | z
          · exact .inr (z ▸ List.mem_cons_self)
          · rcases j3 b z with y | y
            · exact .inl y
            · exact .inr (List.mem_cons_of_mem _ y)
  | [], _ :: _, _, h, _ => h.elim
  | (_, .im _) :: _, [], _, h, _ => h.elim
  | (_, .ls _ _ _) :: _, [], _, h, _ => h.elim
def MF.obj (l C : Addr) (gs : List (Str × OF)) : MF := ⟨fun I H fp => ∃ dx fs as, fp = l :: as ∧ H l = some (.ins C dx fs) ∧ OFR I H fs gs as, fun s ⟨dx, fs, as, e, h, q⟩ => ⟨dx, fs, as, e, h, q.up s fun _ _ => rfl⟩,
  fun k ⟨dx, fs, as, e, h, q⟩ => ⟨dx, fs, as, e, by rw [k l (by rw [e]; exact List.mem_cons_self)]; exact h, q.up (Same.refl _) fun a ha => k a (by rw [e]; exact List.mem_cons_of_mem _ ha)⟩⟩
section
variable {α β γ δ S T L : Type} {X : Cx} {I0 H0 I H I1 H1 : Hp} {W : WX} {Kx : KnowsX} {G : Knows} {ctx : List (Option SF)} {mem : List MF} {C : T → List MF} {t0 t : T} {e a b c o : Expr} {es : List Expr} {st : Stmt} {ss : List Stmt} {pos pos' p2 : Pos} {n : Str} {σ : St} {Q : VK} {r : Rp α} {ra : Ra α} {rb : Ra β} {rc : Rp γ} {ma : Res α} {md : Res δ} {R : Hp → Hp → List V → δ → Prop}
/-- such an object, to be read -/
def rdO (Cl : Addr) (gs : S → List (Str × OF)) : Ra S := fun I H v x => ∃ l dx fs as, v = .ref l ∧ H l = some (.ins Cl dx fs) ∧ OFR I H fs (gs x) as ∧ ∀ a, a ∈ as → H a ≠ none
theorem same_at {H H' : Hp} {a : Addr} (t : Same H H') (h : H a ≠ none) : H' a = H a := by
  cases z : H a with
  | none => exact absurd z h
  | some o => exact t _ _ z
instance {Cl : Addr} {gs : S → List (Str × OF)} : MoA (rdO Cl gs) := ⟨fun s t ⟨l, dx, fs, as, e, h, q, k⟩ => ⟨l, dx, fs, as, e, t _ _ h, q.up s fun a ha => same_at t (k a ha), fun a ha => by rw [same_at t (k a ha)]; exact k a ha⟩⟩
end
end L2.Tr

namespace L2.Tr
open PySem PySem.Spec PyProof.Rows He
section
variable {α β γ δ ε S T L : Type} {X : Cx} {I0 H0 I H I1 H1 : Hp} {W : WX} {Kx : KnowsX} {G : Knows} {ctx : List (Option SF)} {mem : List MF} {C : T → List MF} {t0 t : T} {e a b c o : Expr} {es : List Expr} {st : Stmt} {ss : List Stmt} {pos pos' p2 : Pos} {n : Str} {σ : St} {Q : VK} {r : Rp α} {ra : Ra α} {rb : Ra β} {rc : Rp γ} {rr : Ra γ} {ma : Res α} {md : Res δ} {R : Hp → Hp → List V → δ → Prop}
/-! ### making such an object -/
def rNewO (Hz : Hp) (Cl : Addr) (gs : S → List (Str × OF)) : Ra S := fun I H v x => ∃ l fp, v = .ref l ∧ fp.Nodup ∧ (∀ a, a ∈ fp → Hz a = none ∧ I a = none ∧ H a ≠ none) ∧ (MF.obj l Cl (gs x)).Q I H fp
def atH (Hz : Hp) (R : Hp → Hp → List V → δ → Prop) : Hp → Hp → List V → δ → Prop := fun I H vs d => H = Hz ∧ R I H vs d
/-- the cells of an object in the making -/
inductive Pk : List (Str × SF) → List MF → List (Str × OF) → Prop
  | nil : Pk [] [] []
  | im {n : Str} {s : SF} {gs ms os} : Pk gs ms os → Pk ((n, s) :: gs) ms ((n, .im s) :: os)
  | ls {n : Str} {l : Addr} {α : Type} {r : Rp α} {mo : Mo r} {xs : List α} {gs ms os} : Pk gs ms os → Pk ((n, SF.mk (rRef l) ()) :: gs) (@MF.lst α l r mo xs :: ms) ((n, .ls r mo xs) :: os)
def CallKO (X : Cx) (W : WX) (f : Value) (ks : List Str) (R : Hp → Hp → List V → δ → Prop) (R' : Hp → Hp → List V → ε → Prop) (g : δ → ε → Res S) (Cl : Addr) (gs : S → List (Str × OF)) : Prop := ∀ Hz, CallKJ X W f ks (atH Hz R) R' g (rNewO Hz Cl gs)
def MkKO (P : Program) (w : World) (K : PySem.W.Frag) (mg : Str → Option Value) (base : Heap) (k : Nat) (C : Addr) (ks : List Str) (R : Hp → Hp → List V → δ → Prop) (R' : Hp → Hp → List V → ε → Prop) (m : δ → ε → Res S) (gs : S → List (Str × OF)) : Prop :=
  ∀ (X : Cx) (W : WX), X.prog = P → X.w = w → X.K = K → X.mg = mg → X.base = base → Room k X.A → L2N.Takes X W → CallKO X W (.ref C) ks R R' m C gs
def CallO (X : Cx) (W : WX) (f : Value) (R : Hp → Hp → List V → δ → Prop) (g : δ → Res S) (Cl : Addr) (gs : S → List (Str × OF)) : Prop := ∀ Hz, CallJ X W f (atH Hz R) g (rNewO Hz Cl gs)
def MkRO (P : Program) (w : World) (K : PySem.W.Frag) (mg : Str → Option Value) (base : Heap) (k : Nat) (C : Addr) (R : Hp → Hp → List V → δ → Prop) (m : δ → Res S) (gs : S → List (Str × OF)) : Prop :=
  ∀ (X : Cx) (W : WX), X.prog = P → X.w = w → X.K = K → X.mg = mg → X.base = base → Room k X.A → L2N.Takes X W → CallO X W (.ref C) R m C gs
theorem MkKO.mono {P : Program} {w : World} {K : PySem.W.Frag} {mg : Str → Option Value} {base : Heap} {j k : Nat} {C : Addr} {ks : List Str} {R' : Hp → Hp → List V → ε → Prop} {m : δ → ε → Res S} {gs : S → List (Str × OF)} (F : MkKO P w K mg base j C ks R R' m gs) (h : j ≤ k) : MkKO P w K mg base k C ks R R' m gs := fun X W e1 e2 e3 e4 e5 hr tk => F X W e1 e2 e3 e4 e5 (hr.mono h) tk
theorem MkRO.mono {P : Program} {w : World} {K : PySem.W.Frag} {mg : Str → Option Value} {base : Heap} {j k : Nat} {C : Addr} {m : δ → Res S} {gs : S → List (Str × OF)} (F : MkRO P w K mg base j C R m gs) (h : j ≤ k) : MkRO P w K mg base k C R m gs := fun X W e1 e2 e3 e4 e5 hr tk => F X W e1 e2 e3 e4 e5 (hr.mono h) tk
/-- an expression whose worth is such an object, new -/
def JNO (X : Cx) (I0 H0 : Hp) (W : WX) (ctx : List (Option SF)) (mem : List MF) (e : Expr) (m : Res S) (Cl : Addr) (gs : S → List (Str × OF)) : Prop :=
  ∀ (I H : Hp) (σ : St) (Q : VK), Stt I0 H0 ctx mem I H σ → (match m with
    | .ok x => ∀ I1 H1 l fp, Fm I H I1 H1 → fp.Nodup → (∀ a, a ∈ fp → H a = none ∧ I1 a = none ∧ H1 a ≠ none) → (MF.obj l Cl (gs x)).Q I1 H1 fp → Q (.ref l) H1
    | .err e => ∀ I' H' cls d, Fm I H I' H' → Fr H d ∧ ExR X.K I' H' e cls d → W cls d σ H'
    | .stuck => False) → wE X e σ H Q
theorem jno_post {Cl : Addr} {gs : S → List (Str × OF)} {m : Res S} {I2 H2 : Hp} (f : Fm I H I2 H2) (p : match m with
    | .ok x => ∀ I1 H1 l fp, Fm I H I1 H1 → fp.Nodup → (∀ a, a ∈ fp → H a = none ∧ I1 a = none ∧ H1 a ≠ none) → (MF.obj l Cl (gs x)).Q I1 H1 fp → Q (.ref l) H1
    | .err e => ∀ I' H' cls d, Fm I H I' H' → Fr H d ∧ ExR X.K I' H' e cls d → W cls d σ H'
    | .stuck => False) : PostE X.K m (rNewO H2 Cl gs) I2 H2 (fun cls d H' => W cls d σ H') Q := by
  cases m with
  | ok x => exact fun I' H' v g ⟨l, fp, ev, nd, k, q⟩ => by subst ev; exact p I' H' l fp (f.trans g) nd (fun a ha => ⟨f.h.free (k a ha).1, (k a ha).2⟩) q
  | err e => exact fun I' H' c d g x => p I' H' c d (f.trans g) ⟨x.1.back f.h, x.2⟩
  | stuck => exact p
theorem JNO.callK0 {f Cl : Addr} {kws : List Keyword} {ks : List Str} {me : Res ε} {R' : Hp → Hp → List V → ε → Prop} {g : Unit → ε → Res S} {gs : S → List (Str × OF)} (jk : JK X I0 H0 W ctx mem kws me R') (cj : CallKO X W (.ref f) ks aNil R' g Cl gs) (hm : X.mg n = some (.ref f)) (hk : PySem.W.keepIn X.K (.ref f) = true) (hg : Gl X n := by rfl) (hdb : (n == ("__debug__" : Str)) = false := by decide)
    (hall : (backToKw pos (keywordEach kws X.env)).all (·.1.isSome) = true := by rfl) (hks : (backToKw pos (keywordEach kws X.env)).filterMap (·.1) = ks := by rfl)
    (hpl : ((backTo pos (starEach [] X.env)).any (·.1) || (backToKw pos (keywordEach kws X.env)).any (·.1.isNone)) = false := by rfl) : JNO X I0 H0 W ctx mem (.Call (.Name n pos') [] kws pos) (me.bind fun y => g () y) Cl gs := fun I H σ Q st p => wE.mk fun pins s Iv => by
  refine wpAny_Call_Name_kw (ld_glob Iv hg hm ?_ hdb)
  refine PySem.W.callWith_KW0 (h₀ := X.base) Iv.ok.mod.kin hk hall ?_ hpl
  rw [hks]
  refine thn (jk pos I H σ (fun zs H2 => callKW X (.ref f) ks σ [] zs H2 Q) st ?_ pins s Iv) fun ws s2 ⟨zs, H2, I2, r2, q2⟩ => ⟨I2.kIn, q2 pins s2 [] ws I2 .nil r2⟩
  cases me with
  | ok y => exact fun I2 H2 zs f2 r2 => cj H2 I2 H2 σ Q [] zs () y f2.ih ⟨rfl, rfl⟩ r2 (jno_post f2 p)
  | err e => exact p
  | stuck => exact p
/-! ### a case of None or a value that is no name -/
theorem JE.some {o : Option α} {y : α} {r : Rp α} (j : JE X I0 H0 W ctx mem e (.ok o) (rp (rOp r))) (h : o = some y) : JE X I0 H0 W ctx mem e (.ok y) (rp r) := by
  subst h
  exact fun I H σ Q st p => j I H σ Q st fun I' H' v f q => p I' H' v f q
theorem JE.none {o : Option α} {r : Rp α} (j : JE X I0 H0 W ctx mem e (.ok o) (rp (rOp r))) (h : o = none) : JE X I0 H0 W ctx mem e (.ok ()) (rp rNon) := by
  subst h
  exact fun I H σ Q st p => j I H σ Q st fun I' H' v f q => p I' H' v f q
theorem JR.case {o : Option α} {m1 : Res γ} {m2 : α → Res γ} (k1 : o = none → JR X I0 H0 W Kx G ss m1 rr) (k2 : ∀ y, o = some y → JR X I0 H0 W Kx G ss (m2 y) rr) : JR X I0 H0 W Kx G ss (optM o m1 m2) rr := by
  cases o with
  | none => exact k1 rfl
  | some y => exact k2 y rfl
theorem JN.case {o : Option α} {G' : S → Knows} {m1 : Res S} {m2 : α → Res S} (k1 : o = none → JN X W Kx G ss m1 G') (k2 : ∀ y, o = some y → JN X W Kx G ss (m2 y) G') : JN X W Kx G ss (optM o m1 m2) G' := by
  cases o with
  | none => exact k1 rfl
  | some y => exact k2 y rfl
theorem JG.case {o : Option α} {G' : S → Knows} {GL : L → Knows} {m1 : Res (Fl S L γ)} {m2 : α → Res (Fl S L γ)} (k1 : o = none → JG X I0 H0 W Kx G ss m1 G' GL rr) (k2 : ∀ y, o = some y → JG X I0 H0 W Kx G ss (m2 y) G' GL rr) : JG X I0 H0 W Kx G ss (optM o m1 m2) G' GL rr := by
  cases o with
  | none => exact k1 rfl
  | some y => exact k2 y rfl
end
end L2.Tr
namespace L2.Tr
open PySem PySem.Spec PyProof.Rows He
section
variable {β S : Type} {X : Cx} {W : WX}
end
end L2.Tr

namespace L2.Tr
open PySem PySem.Spec PyProof.Rows He
/-! ### the Hook, the addresses that it looks at written out -/
def hookA (as : List Addr) (fs : List FB) (fn : List DX) (ts : List Tab) : PySem.W.Hook where
  α := AlZ
  obs := fun s => obsZ fs fn ts (frG s.heap.get? as)
  val := fun w => valZ fn ts w
  says := fun w h => ∃ K : PySem.W.Frag, K.In h ∧ SaysZ fs fn ts w K
  of := fun _ _ e => ⟨_, frG_in, e⟩
  keeps := fun _ _ _ ⟨K, hK, c⟩ k => ⟨K, PySem.W.Frag.In.keeps hK k, c⟩
theorem obsA_eq {as : List Addr} {fs : List FB} {fn : List DX} {ts : List Tab} {g : Addr → Option Obj} {s : Shared} (h : ∀ a, g a = s.heap.get? a) : obsZ fs fn ts (frG g as) = (hookA as fs fn ts).obs s := by
  have e : g = s.heap.get? := funext h
  rw [e] <;> rfl
end L2.Tr

namespace L2.Tr
open PySem PySem.Spec PyProof.Rows He
section
variable {X : Cx} {I0 H0 : Hp} {W : WX} {Kx : KnowsX} {ctx : List (Option SF)} {mem : List MF} {pos pos' : Pos} {n y : Str} {α : Type} {r : Rp α}
end
end L2.Tr

namespace L2.Tr
open PySem PySem.Spec PyProof.Rows He
/-! ### tables: lists of lists of the call's own, stores by row and column -/
def RowsR {α : Type} (I H : Hp) (r : Rp α) : List Addr → List (List α) → Prop
  | [], [] => True
  | a :: ls, xs :: xss => (∃ vs, H a = some (.lst vs) ∧ Paired (r I) vs xs) ∧ RowsR I H r ls xss
  | _, _ => False
theorem RowsR.up {α : Type} {r : Rp α} [mo : Mo r] {I I' H H' : Hp} (s : Same I I') : ∀ {ls : List Addr} {xss : List (List α)}, (∀ a, a ∈ ls → H' a = H a) → RowsR I H r ls xss → RowsR I' H' r ls xss
  | [], [], _, h => h
  | a :: ls, xs :: xss, k, ⟨⟨vs, h1, h2⟩, h3⟩ => ⟨⟨vs, by rw [k a List.mem_cons_self]; exact h1, Paired.mapP h2 fun _ _ q => mo.up s q⟩, RowsR.up s (fun b hb => k b (List.mem_cons_of_mem _ hb)) h3⟩
  | [], _ :: _, _, h => h.elim
  | _ :: _, [], _, h => h.elim
theorem RowsR.length {α : Type} {r : Rp α} {I H : Hp} : ∀ {ls : List Addr} {xss : List (List α)}, RowsR I H r ls xss → ls.length = xss.length
  | [], [], _ => rfl
  | _ :: _, _ :: _, ⟨_, h⟩ => congrArg Nat.succ (RowsR.length h)
  | [], _ :: _, h => h.elim
  | _ :: _, [], h => h.elim
theorem RowsR.snoc {α : Type} {r : Rp α} {I H : Hp} {a : Addr} {vs : List V} {xs : List α} (h1 : H a = some (.lst vs)) (h2 : Paired (r I) vs xs) : ∀ {ls : List Addr} {xss : List (List α)}, RowsR I H r ls xss → RowsR I H r (ls ++ [a]) (xss ++ [xs])
  | [], [], _ => ⟨⟨vs, h1, h2⟩, True.intro⟩
  | _ :: _, _ :: _, ⟨h3, h4⟩ => ⟨h3, RowsR.snoc h1 h2 h4⟩
  | [], _ :: _, h => h.elim
  | _ :: _, [], h => h.elim
theorem RowsR.get {α : Type} {r : Rp α} {I H : Hp} : ∀ {ls : List Addr} {xss : List (List α)} {i : Nat} {xs : List α}, RowsR I H r ls xss → xss[i]? = some xs → ∃ a vs, ls[i]? = some a ∧ H a = some (.lst vs) ∧ Paired (r I) vs xs
  | [], [], _, _, _, e => by simp at e
  | a :: _, x :: _, 0, xs, ⟨⟨vs, h1, h2⟩, _⟩, e => by
    have : x = xs := by simpa using e
    subst this
    exact ⟨a, vs, rfl, h1, h2⟩
  | _ :: ls, _ :: xss, i + 1, xs, ⟨_, h⟩, e => by
    obtain ⟨a, vs, e1, h1, h2⟩ := RowsR.get h (show xss[i]? = some xs by simpa using e)
    exact ⟨a, vs, by simpa using e1, h1, h2⟩
  | [], _ :: _, _, _, h, _ => h.elim
  | _ :: _, [], _, _, h, _ => h.elim
/-- the row at i is laid anew -/
theorem RowsR.put {α : Type} {r : Rp α} [mo : Mo r] {I H : Hp} {a : Addr} {vs : List V} {zs : List α} (h2 : Paired (r I) vs zs) : ∀ {ls : List Addr} {xss : List (List α)} {i : Nat}, ls.Nodup → RowsR I H r ls xss → ls[i]? = some a → RowsR I (upd H a (.lst vs)) r ls (xss.set i zs)
  | [], [], _, _, _, e => by simp at e
  | b :: ls, x :: xss, 0, nd, ⟨_, h⟩, e => by
    have : b = a := by simpa using e
    subst this
    exact ⟨⟨vs, upd_same, h2⟩, RowsR.up (Same.refl _) (fun c hc => upd_ne fun z => (List.nodup_cons.mp nd).1 (z ▸ hc)) h⟩
  | b :: ls, x :: xss, i + 1, nd, ⟨⟨ws, h3, h4⟩, h⟩, e => by
    have e' : ls[i]? = some a := by simpa using e
    have ne : b ≠ a := fun z => (List.nodup_cons.mp nd).1 (z ▸ List.mem_of_getElem? e')
    exact ⟨⟨ws, by rw [upd_ne ne]; exact h3, h4⟩, RowsR.put h2 (List.nodup_cons.mp nd).2 h e'⟩
  | [], _ :: _, _, _, h, _ => h.elim
  | _ :: _, [], _, _, h, _ => h.elim
def MF.tab {α : Type} (l : Addr) (r : Rp α) [m : Mo r] (xss : List (List α)) : MF :=
  ⟨fun I H fp => ∃ ls, fp = l :: ls ∧ H l = some (.lst (ls.map V.ref)) ∧ RowsR I H r ls xss,
   fun s ⟨ls, e, h1, h2⟩ => ⟨ls, e, h1, h2.up s fun _ _ => rfl⟩,
   fun k ⟨ls, e, h1, h2⟩ => ⟨ls, e, by rw [k l (by rw [e]; exact List.mem_cons_self)]; exact h1, h2.up (Same.refl _) fun a ha => k a (by rw [e]; exact List.mem_cons_of_mem _ ha)⟩⟩
section
variable {α β γ δ S L : Type} {X : Cx} {I0 H0 I H : Hp} {W : WX} {Kx : KnowsX} {ctx : List (Option SF)} {mem : List MF} {e a b c o elt iter ix ix2 : Expr} {pos pos' p2 : Pos} {n : Str} {σ : St} {r : Rp α} {rb : Rp β} {rr : Ra γ} {ss : List Stmt}
/-- a new list becomes a row -/
theorem Stt.row [mo : Mo r] {l D : Addr} {xs : List α} {acc : List (List α)} (s : Stt I0 H0 ctx (MF.lst l r xs :: MF.tab D r acc :: mem) I H σ) : ∃ ls, H D = some (.lst (ls.map V.ref)) ∧ I D = none ∧ ls.length = acc.length ∧ Stt I0 H0 ctx (MF.tab D r (acc ++ [xs]) :: mem) I (upd H D (.lst ((ls ++ [l]).map V.ref))) σ := by
  obtain ⟨fps, rg, nd, k⟩ := s.me
  match fps, rg, nd, k with
  | [], rg, _, _ => exact rg.elim
  | [_], ⟨_, rg⟩, _, _ => exact rg.elim
  | fp :: fq :: fps, ⟨⟨e1, ob, hl, vs, eo, pr⟩, ⟨ls, e2, hD, rows⟩, rg⟩, nd, k =>
    subst e1; subst eo; subst e2
    have nd0 : (l :: (D :: ls ++ fps.flatten)).Nodup := by simpa using nd
    have nl := (List.nodup_cons.mp nd0).1
    have nd1 := (List.nodup_cons.mp nd0).2
    have ndA := List.nodup_append.mp nd1
    have nD := (List.nodup_cons.mp ndA.1).1
    have kk : ∀ a, a = l ∨ a = D ∨ a ∈ ls ∨ a ∈ fps.flatten → H0 a = none ∧ I a = none ∧ H a ≠ none := fun a ha => k a (by
      simp only [List.flatten_cons, List.mem_append, List.mem_cons, List.not_mem_nil, or_false]
      rcases ha with h | h | h | h
      · exact .inl h
      · exact .inr (.inl (.inl h))
      · exact .inr (.inl (.inr h))
      · exact .inr (.inr h))
    have lD : l ≠ D := fun z => nl (by rw [z]; exact List.mem_append_left _ List.mem_cons_self)
    have kD := kk D (.inr (.inl rfl))
    refine ⟨ls, hD, kD.2.1, rows.length, ?_, s.len, s.sl, (D :: (ls ++ [l])) :: fps, ⟨⟨ls ++ [l], rfl, upd_same, ?_⟩, rg.up (Same.refl _) fun a ha => upd_ne fun z => ?_⟩, ?_, fun a ha => ?_⟩
    · exact ⟨s.fm.i, fun b u e => by rw [upd_ne (ne_of_none e kD.1)]; exact s.fm.h _ _ e, fun b u e => by rw [upd_ne (ne_of_none e kD.2.1)]; exact s.fm.ih _ _ e, s.fm.mu⟩
    · have rows' : RowsR I (upd H D (.lst ((ls ++ [l]).map V.ref))) r ls acc := rows.up (Same.refl _) fun a ha => upd_ne fun z => nD (z ▸ ha)
      exact rows'.snoc (by rw [upd_ne lD]; exact hl) pr
    · exact ndA.2.2 D List.mem_cons_self a ha z.symm
    · have p : (D :: (ls ++ [l]) ++ fps.flatten).Perm (l :: (D :: ls ++ fps.flatten)) := by
        have h1 : (D :: (ls ++ [l]) ++ fps.flatten) = (D :: ls) ++ l :: fps.flatten := by simp
        have h2 : (l :: (D :: ls ++ fps.flatten)) = l :: ((D :: ls) ++ fps.flatten) := rfl
        rw [h1, h2]; exact List.perm_middle
      show (List.flatten ((D :: (ls ++ [l])) :: fps)).Nodup
      rw [List.flatten_cons]
      exact p.nodup_iff.mpr nd0
    · have ha' : a = l ∨ a = D ∨ a ∈ ls ∨ a ∈ fps.flatten := by
        simp only [List.flatten_cons, List.mem_append, List.mem_cons, List.not_mem_nil, or_false] at ha
        rcases ha with (h | h | h) | h
        · exact .inr (.inl h)
        · exact .inr (.inr (.inl h))
        · exact .inl h
        · exact .inr (.inr (.inr h))
      obtain ⟨q1, q2, q3⟩ := kk a ha'
      refine ⟨q1, q2, ?_⟩
      by_cases z : a = D
      · rw [z, upd_same]; intro h; cases h
      · rw [upd_ne z]; exact q3
/-- the table is frozen -/
theorem rows_ice {D : Addr} {ls : List Addr} {xss : List (List α)} [mo : Mo r] (hI : ∀ a, a ∈ D :: ls → I a = none) (sm : Same I (ice I H (D :: ls))) : ∀ {ks : List Addr}, (∀ a, a ∈ ks → a ∈ ls) → RowsR I H r ks xss → Paired (rL r (ice I H (D :: ls))) (ks.map V.ref) xss := fun {ks} hk h => by
  induction ks generalizing xss with
  | nil =>
    cases xss with
    | nil => exact .nil
    | cons x xss => exact h.elim
  | cons k ks ih =>
    cases xss with
    | nil => exact h.elim
    | cons x xss =>
      obtain ⟨⟨vs, h1, h2⟩, h3⟩ := h
      exact .cons ⟨k, vs, rfl, by rw [ice_in (List.mem_cons_of_mem _ (hk k List.mem_cons_self))]; exact h1, Paired.mapP h2 fun _ _ q => mo.up sm q⟩ (ih (fun a ha => hk a (List.mem_cons_of_mem _ ha)) h3)
theorem Stt.frzT [mo : Mo r] {l : Addr} {xss : List (List α)} (s : Stt I0 H0 ctx mem I H σ) (i j : Nat) (hj : mem[j]? = some (MF.tab l r xss)) (hc : ctx[i]? = some (some (SF.mk (rRef l) ()))) : ∃ I', Same I I' ∧ Stt I0 H0 (ctx.set i (some ⟨rL (rL r), xss⟩)) (mem.eraseIdx j) I' H σ := by
  obtain ⟨fp, ⟨ls, e, hH, rows⟩, hI, sm, s2⟩ := s.freezeAt j hj
  subst e
  refine ⟨_, sm, s2.recast i (b := ⟨rL (rL r), xss⟩) hc fun v h => ?_⟩
  exact ⟨l, ls.map V.ref, h, by rw [ice_in List.mem_cons_self]; exact hH, rows_ice hI sm (fun a ha => ha) rows⟩
theorem JN.frzT (i j : Nat) [mo : Mo r] {l : Addr} {xss : List (List α)} {m : Res S} {G' : S → Knows} (k : JN X W Kx (Stt I0 H0 (ctx.set i (some ⟨rL (rL r), xss⟩)) (mem.eraseIdx j)) ss m G') (hj : mem[j]? = some (MF.tab l r xss) := by rfl) (hc : ctx[i]? = some (some (SF.mk (rRef l) ())) := by rfl) : JN X W Kx (Stt I0 H0 ctx mem) ss m G' := fun I H σ D g p => by
  obtain ⟨I', sm, g'⟩ := g.frzT i j hj hc
  exact k I' H σ D g' (PostB.up p sm)
theorem JR.frzT (i j : Nat) [mo : Mo r] {l : Addr} {xss : List (List α)} {m : Res γ} (k : JR X I0 H0 W Kx (Stt I0 H0 (ctx.set i (some ⟨rL (rL r), xss⟩)) (mem.eraseIdx j)) ss m rr) (hj : mem[j]? = some (MF.tab l r xss) := by rfl) (hc : ctx[i]? = some (some (SF.mk (rRef l) ())) := by rfl) : JR X I0 H0 W Kx (Stt I0 H0 ctx mem) ss m rr := fun I H σ D g p => by
  obtain ⟨I', sm, g'⟩ := g.frzT i j hj hc
  exact k I' H σ D g' p
theorem JG.frzT (i j : Nat) [mo : Mo r] {l : Addr} {xss : List (List α)} {m : Res (Fl S L γ)} {G' : S → Knows} {GL : L → Knows} (k : JG X I0 H0 W Kx (Stt I0 H0 (ctx.set i (some ⟨rL (rL r), xss⟩)) (mem.eraseIdx j)) ss m G' GL rr) (hj : mem[j]? = some (MF.tab l r xss) := by rfl) (hc : ctx[i]? = some (some (SF.mk (rRef l) ())) := by rfl) : JG X I0 H0 W Kx (Stt I0 H0 ctx mem) ss m G' GL rr := fun I H σ D g p => by
  obtain ⟨I', sm, g'⟩ := g.frzT i j hj hc
  exact k I' H σ D g' (PostG.up p sm)
theorem Stt.pushT [mo : Mo r] {D : Addr} (s : Stt I0 H0 ctx mem I H σ) (hD : H D = none) : Stt I0 H0 ctx (MF.tab D r ([] : List (List α)) :: mem) I (upd H D (.lst [])) σ :=
  s.adoptR (fp := [D]) (Fm.newM s.same hD) (by simp) (fun a ha => by rw [List.mem_singleton.mp ha]; exact ⟨hD, s.same.free hD, by rw [upd_same]; intro z; cases z⟩) ⟨[], rfl, upd_same, True.intro⟩
def PostT (X : Cx) (I0 H0 : Hp) (W : WX) (σ : St) (I H : Hp) (ctx : List (Option SF)) (mem : List MF) (m : Res (List (List α))) (r : Rp α) [mo : Mo r] (Q : VK) : Prop := match m with
  | .ok xss => ∀ I1 H1 l, Fm I H I1 H1 → Stt I0 H0 ctx (MF.tab l r xss :: mem) I1 H1 σ → Q (.ref l) H1
  | .err e => ∀ I' H' cls d, Fm I H I' H' → Fr H d ∧ ExR X.K I' H' e cls d → W cls d σ H'
  | .stuck => False
theorem lcT_post (j : Nat) [mo : Mo r] [mb : Mo rb] {m : Res (List β)} {f : β → Res (List α)} {scope : Scope} (ji : JI X I0 H0 W ctx mem (.Name n pos') iter m rb)
    (je : ∀ (s : Shared) (H : Hp) (C : Addr) (cl : List (Str × Addr)) (fp : List Addr) (D : Addr) (acc : List (List α)) (x : β), JM (X.blkC s H scope (compEnvC scope cl C X.env) fp) I0 H0 W0 (ctx.set j (some ⟨rb, x⟩)) (MF.tab D r acc :: mem) elt (f x) r)
    (I H : Hp) (σ : St) (Q : VK) (st : Stt I0 H0 ctx mem I H σ) (p : PostT X I0 H0 W σ I H ctx mem (m.bind fun xs => lcR f xs) r Q) : tLc (wI X (.Name n pos') iter) (gName j) tYes (wEb X scope elt) [j] σ H Q := by
  refine ji I H σ _ st ?_
  cases m with
  | ok xs =>
    intro I1 H1 J vs okp f1 itr stay pr D hD
    have hlen := Paired.length pr
    by_cases hz : xs.length ≤ sizeLine
    · have e0 : ((Res.ok xs).bind fun xs => lcR f xs) = lcM f xs := Res.guard_pos hz _
      rw [e0] at p
      have hD0 : H D = none := f1.h.free hD
      cases et : lcM f xs with
      | ok tot =>
        rw [et] at p
        refine ⟨fun i k H' => k + i = vs.length ∧ ∃ I' acc ys, Same I1 I' ∧ Fm I H I' H' ∧ Stt I0 H0 ctx (MF.tab D r acc :: mem) I' H' σ ∧ acc.length ≤ i ∧ lcM f (xs.drop i) = .ok ys ∧ tot = acc ++ ys, ⟨vs.length, rfl, I1, [], tot, Same.refl _, f1.trans (Fm.newM f1.ih hD), (st.step f1).pushT hD, Nat.le_refl _, et, rfl⟩, ?_⟩
        rintro i k H' ⟨hk, I', acc, ys, si, fm, g', ha, el, eq⟩
        have hok := stay I' H' si g'.same g'.fm.h
        by_cases hi : i < vs.length
        · obtain ⟨go, yl⟩ := (itr i H' hok).1 hi
          refine .inr ⟨go, fun H2 => ∃ I2 acc2 ys2, Same I1 I2 ∧ Fm I H I2 H2 ∧ Stt I0 H0 ctx (MF.tab D r acc2 :: mem) I2 H2 σ ∧ acc2.length ≤ i + 1 ∧ lcM f (xs.drop (i + 1)) = .ok ys2 ∧ tot = acc2 ++ ys2, fun H2 h => ⟨k - 1, by omega, by omega, h⟩, fun v H2 hy => ?_⟩
          obtain ⟨rfl, ev⟩ := yl v H2 hy
          obtain ⟨x, ex, hr⟩ := paired_drop pr i ev
          rw [lcM_drop ex] at el
          show (fun σ2 H2 => wipe σ2 [j] = wipe σ [j] ∧ _) (((σ.set j none)).set j (some v)) H2
          refine ⟨?_, ?_⟩
          · show ((σ.set j none).set j (some v)).set j none = σ.set j none
            rw [List.set_set, List.set_set]
          · show wEb X scope elt ((σ.set j none).set j (some v)) H2 _
            rw [List.set_set]
            intro s3 H3 C cl fp
            refine je s3 H3 C cl fp D acc x I' H2 (σ.set j (some v)) _ (g'.set j (mb.up si hr)) ?_
            revert el
            generalize f x = z
            intro el
            cases z with
            | ok y =>
              cases el2 : lcM f (xs.drop (i + 1)) with
              | ok ys2 =>
                dsimp only at el
                rw [el2] at el
                cases el
                intro I4 H4 l4 vs4 f4 hl4 hI4 h4 pr4
                have g4 := g'.adopt (mo := mo) f4 hl4 hI4 h4 pr4
                obtain ⟨ls, zH, zI, hla, g5⟩ := g4.row
                have hlt := (List.getElem?_eq_some_iff.mp ex).1
                rw [List.map_append] at g5
                refine ⟨ls.map V.ref, zH, by rw [List.length_map]; omega, I4, acc ++ [y], ys2, si.trans f4.i, (fm.trans f4).updNew hD0 zI, g5, by rw [List.length_append, List.length_singleton]; omega, rfl, by rw [eq, List.append_assoc]; rfl⟩
              | err e => dsimp only at el; rw [el2] at el; cases el
              | stuck => dsimp only at el; rw [el2] at el; cases el
            | err e => cases el
            | stuck => cases el
        · refine .inl ⟨(itr i H' hok).2 (by omega), ?_⟩
          have e1 : xs.drop i = [] := List.drop_eq_nil_of_le (by omega)
          rw [e1] at el
          cases el
          rw [List.append_nil] at eq
          subst eq
          exact p I' H' D fm g'
      | err e =>
        exfalso
        have : ∀ l : List β, lcM f l ≠ .err e := fun l => by
          induction l with
          | nil => intro h; cases h
          | cons x l ih =>
            intro h
            unfold lcM at h
            cases q : f x with
            | ok y =>
              rw [q] at h
              dsimp only at h
              cases q2 : lcM f l with
              | ok ys => rw [q2] at h; cases h
              | err e2 => rw [q2] at h ih; cases h; exact ih rfl
              | stuck => rw [q2] at h; cases h
            | err e2 => rw [q] at h; cases h
            | stuck => rw [q] at h; cases h
        exact this xs et
      | stuck => rw [et] at p; exact p.elim
    · have e0 : ((Res.ok xs).bind fun xs => lcR f xs) = .stuck := if_neg hz
      rw [e0] at p
      exact p.elim
  | err e => exact p
  | stuck => exact p
/-- y = [[..] for ..], the rows may still be changed -/
theorem J1.setTab (i j : Nat) {y : Str} {py spos : Pos} [mo : Mo r] [mb : Mo rb] {m : Res (List β)} {f : β → Res (List α)} {scope : Scope} (ji : JI X I0 H0 W ctx mem (.Name n pos') iter m rb)
    (je : ∀ (s : Shared) (H : Hp) (C : Addr) (cl : List (Str × Addr)) (fp : List Addr) (D : Addr) (acc : List (List α)) (x : β), L2N.Takes (X.blkC s H scope (compEnvC scope cl C X.env) fp) W0 → JM (X.blkC s H scope (compEnvC scope cl C X.env) fp) I0 H0 W0 (ctx.set j (some ⟨rb, x⟩)) (MF.tab D r acc :: mem) elt (f x) r)
    (hx : ∀ I H σ d, Stt I0 H0 ctx mem I H σ → Fr H0 d → Kx I H σ d) (hN : X.N.Nodup) (ok : BlkOk X.N X.env.scope scope [(n, j)]) (hi : X.N[i]? = some y := by rfl) (hyl : X.env.scope.names.lookup y = some .local := by rfl)
    (hsw : swapsWith (.ListComp elt [⟨.Name n pos', iter, [], 0⟩] scope pos) (some (.Name y py)) spos.line X.env = pure true := by rfl) (hj : X.N[j]? = some n := by rfl) (hc : Cool X := by first | exact .inl rfl | exact .inr ⟨_, by assumption, List.mem_cons_self⟩) (hsc : Loc (relabel scope X.env) n := by first | exact Or.inl rfl | exact Or.inr rfl) (hfn : (scope.names.lookup n == some .cell) = true ∨ (relabel scope X.env).names.lookup n = some .local := by first | exact .inr rfl | exact .inl rfl) (hs : ∀ x, foldedSetIterable iter X.env x = pure x := by intro _; rfl) :
    J1 X W Kx (Stt I0 H0 ctx mem) (.Assign [.Name y py] (.ListComp elt [⟨.Name n pos', iter, [], 0⟩] scope pos) spos) (m.bind fun xs => lcR f xs) (fun xss I H σ => ∃ l, Stt I0 H0 (ctx.set i (some ⟨rRef l, ()⟩)) (MF.tab l r xss :: mem) I H σ) := fun I H σ D g p => by
  refine PS.w (ps_setLcC (own := [(n, j)]) hc hN hi hyl hsw pi_W ok (fun s H C cl fp => pg_name (i := j) hN hj hsc hfn) (fun s H C cl fp => pts_nil) (fun s H C cl fp => pe_Wb s H C cl fp) hs) (lcT_post j ji (fun s H C cl fp D acc x => je s H C cl fp D acc x takes0) I H σ (fun x H1 => gName i x σ H1 D.nx) g ?_)
  revert p
  generalize (m.bind fun xs => lcR f xs) = z
  intro p
  cases z with
  | ok xs => exact fun I1 H1 l f g1 => p I1 _ _ f.i ⟨l, g1.set i rfl⟩
  | err e => exact fun I' H' c d f x => p I' H' σ c d (hx _ _ _ _ (g.step f) (x.1.back g.fm.h)) x.2
  | stuck => exact p
/-- a row is changed -/
theorem Stt.retab [mo : Mo r] {l a : Addr} {xss : List (List α)} {zs : List α} {vs : List V} {q : Nat} {ls : List Addr} (s : Stt I0 H0 ctx mem I H σ) (j : Nat) (hj : mem[j]? = some (MF.tab l r xss)) (hH : H l = some (.lst (ls.map V.ref))) (ha : ls[q]? = some a) (h : Paired (r I) vs zs) : Stt I0 H0 ctx (mem.set j (MF.tab l r (xss.set q zs))) I (upd H a (.lst vs)) σ := by
  obtain ⟨fp, ⟨ls', e, hH', rows⟩, nd, own, k⟩ := s.change hj
  subst e
  rw [hH] at hH'
  have el : ls = ls' := by
    have h1 : ls.map V.ref = ls'.map V.ref := by
      injection hH' with h
      injection h
    exact List.map_inj_right (fun x y h => by cases h; rfl) |>.mp h1
  subst el
  have nl := (List.nodup_cons.mp nd).1
  have nd1 := (List.nodup_cons.mp nd).2
  have am : a ∈ ls := List.mem_of_getElem? ha
  have la : l ≠ a := fun z => nl (z ▸ am)
  refine k I _ (MF.tab l r (xss.set q zs)) (l :: ls) ⟨Same.refl _, fun b u e => ?_, fun b u e => ?_, fun b e _ => e⟩ nd (fun b hb => ?_) ⟨ls, rfl, by rw [upd_ne la]; exact hH, rows.put h nd1 ha⟩
  · by_cases hb : b ∈ l :: ls
    · rw [rm_in hb] at e; cases e
    · rw [rm_out hb] at e
      rw [upd_ne fun z => hb (by rw [z]; exact List.mem_cons_of_mem _ am)]; exact e
  · have hb : b ∉ l :: ls := fun z => by rw [(own b z).2.1] at e; cases e
    rw [upd_ne fun z => hb (by rw [z]; exact List.mem_cons_of_mem _ am)]; exact s.same _ _ e
  · obtain ⟨h1, h2, h3⟩ := own b hb
    refine ⟨rm_in hb, h2, ?_⟩
    by_cases z : b = a
    · rw [z, upd_same]; intro h; cases h
    · rw [upd_ne z]; exact h3
def rowT (xss : List (List α)) (i : Int) : Res Nat := match ixN xss.length i with
  | some q => .ok q
  | none => .stuck
def putT (xss : List (List α)) (q : Nat) (j : Int) (y : α) : Res (List (List α)) := (putM (xss.getD q []) j y).bind fun zs => .ok (xss.set q zs)
theorem Stt.tabAt [mo : Mo r] {l : Addr} {xss : List (List α)} (s : Stt I0 H0 ctx mem I H σ) {j : Nat} (hj : mem[j]? = some (MF.tab l r xss)) : ∃ ls, H l = some (.lst (ls.map V.ref)) ∧ RowsR I H r ls xss := by
  obtain ⟨fp, ⟨ls, _, h1, h2⟩, _⟩ := s.change hj
  exact ⟨ls, h1, h2⟩
/-- x[i][j] = e -/
theorem J1.putT (i j : Nat) [mo : Mo r] {l : Addr} {xss : List (List α)} {m : Res α} {mi mj : Res Int} {p1 p3 : Pos} (je : JE X I0 H0 W ctx mem e m (rp r)) (ji : JE X I0 H0 W ctx mem ix mi (rp rInt)) (ji2 : JE X I0 H0 W ctx mem ix2 mj (rp rInt)) (hx : ∀ I H σ d, Stt I0 H0 ctx mem I H σ → Fr H0 d → Kx I H σ d)
    (hj : mem[j]? = some (MF.tab l r xss) := by rfl) (hc : ctx[i]? = some (some (SF.mk (rRef l) ())) := by rfl) (hN : X.N[i]? = some n := by rfl) (hv : Vis X.env.scope n := by first | exact Or.inl rfl | exact Or.inr (Or.inl rfl) | exact Or.inr (Or.inr rfl)) (hd : (n == ("__debug__" : Str)) = false := by decide)
    (hcd : (n == ("__classdict__" : Str)) = false := by decide) (hsx : PlainIx ix := by exact fun _ _ => rfl) (ha : ∀ v, assign (.Subscript (.Subscript (.Name n p1) ix p3) ix2 pos') X.env v = (do
      let ov ← holding [v] (eval (.Subscript (.Name n p1) ix p3) X.env)
      let iv ← holding [v, ov] (eval ix2 X.env)
      standAt pos'
      holding [v, ov, iv] (setItem ov iv v)
      release [v, ov, iv] []) := by intro _; rfl)
    (hs : swapsWithSole [.Subscript (.Subscript (.Name n p1) ix p3) ix2 pos'] e pos.line X.env = pure false := by rfl) (hw : swappedStores [.Subscript (.Subscript (.Name n p1) ix p3) ix2 pos'] e X.env = pure none := by rfl)
    (h1 : (assignEach [.Subscript (.Subscript (.Name n p1) ix p3) ix2 pos'] X.env).map (·.2) = [assign (.Subscript (.Subscript (.Name n p1) ix p3) ix2 pos') X.env] := by rfl) :
    J1 X W Kx (Stt I0 H0 ctx mem) (.Assign [.Subscript (.Subscript (.Name n p1) ix p3) ix2 pos'] e pos) (m.bind fun y => mi.bind fun k => (rowT xss k).bind fun q => mj.bind fun k2 => Tr.putT xss q k2 y) (fun zs => Stt I0 H0 ctx (mem.set j (MF.tab l r zs))) := fun I H σ D g p => by
  refine PS.w (ps_asg pe_W (pg_sub pe_W pe_W set_list ha) hs hw h1) (je I H σ _ g ?_)
  cases m with
  | ok y =>
    intro I1 H1 v f1 r1
    have g1 := g.step f1
    obtain ⟨u, eu, hu⟩ := g1.sl i _ hc
    cases (show u = V.ref l from hu)
    refine PE.w (pe_ix ix_list pe_W pe_W hsx) (w_var i (ji I1 H1 σ _ g1 ?_) eu hN hv hd hcd)
    cases mi with
    | ok k =>
      intro I2 H2 vk f2 r2
      cases (show vk = V.int k from r2)
      have g2 := g1.step f2
      obtain ⟨ls, hl, rows⟩ := g2.tabAt hj
      have p' : PostB X W Kx I ((rowT xss k).bind fun q => mj.bind fun k2 => Tr.putT xss q k2 y) _ D := p
      unfold rowT at p'
      cases ek : ixN xss.length k with
      | none =>
        rw [ek] at p'; exact p'.elim
      | some q =>
        rw [ek] at p'
        have hq := (ixN_seq ek).2.1
        have hrow : xss[q]? = some (xss[q]'hq) := List.getElem?_eq_getElem hq
        obtain ⟨a, ws, ha', hHa, pa⟩ := rows.get hrow
        refine ⟨l, ls.map V.ref, k, .ref a, rfl, rfl, SqL.of hl, ?_, ?_⟩
        · unfold atI
          rw [List.length_map, rows.length, ek]
          show (ls.map V.ref)[q]? = _
          rw [List.getElem?_map, ha']; rfl
        · refine ji2 I2 H2 σ _ g2 ?_
          cases mj with
          | ok k2 =>
            intro I3 H3 vk2 f3 r3
            cases (show vk2 = V.int k2 from r3)
            have g3 := g2.step f3
            have p2 : PostB X W Kx I (Tr.putT xss q k2 y) _ D := p'
            unfold Tr.putT at p2
            rw [List.getD_eq_getElem?_getD, hrow, Option.getD_some] at p2
            have hHa3 := f3.h _ _ hHa
            have hl3 := f3.h _ _ hl
            unfold putM at p2
            cases ek2 : ixN (xss[q]'hq).length k2 with
            | none => rw [ek2] at p2; exact p2.elim
            | some q2 =>
              rw [ek2] at p2
              refine ⟨a, ws, k2, q2, rfl, rfl, hHa3, by rw [Paired.length pa]; exact ek2, ?_⟩
              exact p2 I3 _ σ ((f1.i.trans f2.i).trans f3.i) (g3.retab j hj hl3 ha' (paired_set (mo.up (f2.i.trans f3.i) r1) q2 (Paired.mapP pa fun _ _ z => mo.up f3.i z)))
          | err e =>
            have p2 : PostB X W Kx I (.err e : Res (List (List α))) _ D := p'
            exact fun I' H' c d f x => p2 I' H' σ c d (hx _ _ _ _ (g2.step f) (x.1.back g2.fm.h)) x.2
          | stuck =>
            have p2 : PostB X W Kx I (.stuck : Res (List (List α))) _ D := p'
            exact p2.elim
    | err e => exact fun I' H' c d f x => p I' H' σ c d (hx _ _ _ _ (g1.step f) (x.1.back g1.fm.h)) x.2
    | stuck => exact p.elim
  | err e => exact fun I' H' c d f x => p I' H' σ c d (hx _ _ _ _ (g.step f) (x.1.back g.fm.h)) x.2
  | stuck => exact p.elim
end
end L2.Tr

namespace L2.Tr
open PySem PySem.Spec PyProof.Rows L2H
/-! ### own defs and properties that are called while an exception is handled -/
theorem RoomH.in1 {k : Nat} {A : Around} (r : RoomH (k + 1) A) : RoomH k A.in1 := ⟨by have := r.dp; show A.depth + 3 * k + 5 < _; omega, by have := r.un; show A.units + 1 + 16 * k + 200 < _; omega⟩
section
variable {α β γ δ S T : Type} {X : Cx} {I0 H0 : Hp} {W : WX} {Kx : KnowsX} {G : Knows} {ctx : List (Option SF)} {mem : List MF} {e a b c o : Expr} {es bs : List Expr} {pos pos' : Pos} {n : Str} {ra : Ra α} {rb : Ra β} {rc : Ra γ} {ma : Res α} {r : Rp α} {f : Addr} {k : Nat} {R : Hp → Hp → List V → δ → Prop} {σ : L2.St} {H : Hp} {Q : VK}
end
/-! ### and, or as values, with effects -/
section
variable {α β γ δ T : Type} {X : Cx} {I0 H0 I H I1 : Hp} {W : WX} {Kx : KnowsX} {ctx : List (Option SF)} {C : T → List MF} {t0 t : T} {e a b c : Expr} {es bs : List Expr} {pos : Pos} {Q : VK}
theorem JX.one {op} {m : Res (Bool × T)} (j : JX X I0 H0 W Kx ctx C t0 a m rBl) : JX X I0 H0 W Kx ctx C t0 (.BoolOp op [a] pos) m rBl := fun I H σ Q st p => w_oneV (j I H σ Q st p)
theorem JX.and {m1 : Res (Bool × T)} {m2 : T → Res (Bool × T)} (j : JX X I0 H0 W Kx ctx C t0 a m1 rBl) (k : ∀ t, JX X I0 H0 W Kx ctx C t (.BoolOp .And (b :: bs) pos) (m2 t) rBl) : JX X I0 H0 W Kx ctx C t0 (.BoolOp .And (a :: b :: bs) pos) (m1.bindX fun x t => if x = true then m2 t else .ok (false, t)) rBl := fun I H σ Q st p => by
  refine w_andV (j I H σ _ st ?_)
  cases m1 with
  | ok x =>
    obtain ⟨x, t⟩ := x
    intro I1 H1 v s g r
    have p1 : PostX X I0 H0 W Kx ctx C σ I1 (if x = true then m2 t else .ok (false, t)) rBl Q := PostX.up p s
    refine ⟨x, r, ?_⟩
    cases x with
    | true => exact iteT (k t I1 H1 σ Q g p1)
    | false => exact iteF (p1 I1 H1 _ (Same.refl _) g rfl)
  | err e => exact p
  | stuck => exact p
theorem JX.or {m1 : Res (Bool × T)} {m2 : T → Res (Bool × T)} (j : JX X I0 H0 W Kx ctx C t0 a m1 rBl) (k : ∀ t, JX X I0 H0 W Kx ctx C t (.BoolOp .Or (b :: bs) pos) (m2 t) rBl) : JX X I0 H0 W Kx ctx C t0 (.BoolOp .Or (a :: b :: bs) pos) (m1.bindX fun x t => if x = true then .ok (true, t) else m2 t) rBl := fun I H σ Q st p => by
  refine w_orV (j I H σ _ st ?_)
  cases m1 with
  | ok x =>
    obtain ⟨x, t⟩ := x
    intro I1 H1 v s g r
    have p1 : PostX X I0 H0 W Kx ctx C σ I1 (if x = true then .ok (true, t) else m2 t) rBl Q := PostX.up p s
    refine ⟨x, r, ?_⟩
    cases x with
    | true => exact iteT (p1 I1 H1 _ (Same.refl _) g rfl)
    | false => exact iteF (k t I1 H1 σ Q g p1)
  | err e => exact p
  | stuck => exact p
end
section
variable {α β γ S L : Type} {X : Cx} {I0 H0 : Hp} {W : WX} {Kx : KnowsX} {ctx cw : List (Option SF)} {mem : List MF} {body suite : List Stmt} {b₀ : Stmt} {pos pos' np : Pos} {n x : Str} {rr : Ra γ}
end
section
variable {α δ : Type} {P : Program} {w : World} {K : PySem.W.Frag} {mg : Str → Option Value} {base : Heap} {x qual : Str} {params : Arguments} {body : List Stmt} {scope : Scope} {f : Addr} {fd : FuncData} {N ps : List Str} {k : Nat} {r : Rp α} {R : Hp → Hp → List V → δ → Prop} {m : δ → Res (List α)}
end
theorem OFR.lst {I H : Hp} : ∀ {gs : List (Str × OF)} {fs : List (Str × V)} {as : List Addr}, OFR I H fs gs as → ∀ a, a ∈ as → ∃ vs, H a = some (.lst vs)
  | [], [], as, h, a, ha => by
    obtain rfl : as = [] := h
    cases ha
  | (n, .im q) :: gs, p :: fs, as, ⟨_, _, c⟩, a, ha => OFR.lst c a ha
  | (n, .ls r mo xs) :: gs, p :: fs, as, ⟨b, as', e, _, _, ⟨vs, h3, _⟩, h5⟩, a, ha => by
    subst e
    rcases List.mem_cons.mp ha with z | z
    · exact ⟨vs, by rw [z]; exact h3⟩
    · exact OFR.lst h5 a z
  | [], _ :: _, _, h, _, _ => h.elim
  | (_, .im _) :: _, [], _, h, _, _ => h.elim
  | (_, .ls _ _ _) :: _, [], _, h, _, _ => h.elim
theorem noxd_obj {l C : Addr} {gs : List (Str × OF)} : ∀ (I H : Hp) (fp : List Addr) (a : Addr) (fs : List (Str × V)), (MF.obj l C gs).Q I H fp → a ∈ fp → H a ≠ some (.xd fs) := fun I H fp a fs ⟨dx, gs', as, e, h, q⟩ ha z => by
  subst e
  rcases List.mem_cons.mp ha with y | y
  · rw [y, h] at z; cases z
  · obtain ⟨vs, h2⟩ := q.lst a y
    rw [h2] at z; cases z
end L2.Tr

namespace L2.Tr
open PySem PySem.Spec PyProof.Rows
/-! ### o.m(k = v, ..) that changes the object -/
section
variable {α β γ δ ε S T L : Type} {X : Cx} {I0 H0 I H I1 : Hp} {W : WX} {Kx : KnowsX} {ctx : List (Option SF)} {mem : List MF} {C : T → List MF} {t0 t : T} {kws : List Keyword} {pos pos' p2 : Pos} {n : Str} {rc : Rp γ} {σ : St} {Q : VK} {R' : Hp → Hp → List V → ε → Prop} {me : Res ε} {ks : List Str}
end
end L2.Tr

namespace L2.Tr
open PySem PySem.Spec PyProof.Rows
/-! ### tables are frozen, contexts written out -/
section
variable {α γ S L : Type} {X : Cx} {I0 H0 I H : Hp} {W : WX} {Kx : KnowsX} {ss : List Stmt} {ctx ctx' : List (Option SF)} {mem mem' : List MF} {rr : Ra γ}
variable (i j : Nat) {r : Rp α} [mo : Mo r] {l : Addr} {xss : List (List α)}
theorem JN.fzT {m : Res S} {G' : S → Knows} (k : JN X W Kx (Stt I0 H0 ctx' mem') ss m G') (hj : mem[j]? = some (MF.tab l r xss) := by rfl) (hc : ctx[i]? = some (some (SF.mk (rRef l) ())) := by rfl) (h1 : ctx.set i (some ⟨rL (rL r), xss⟩) = ctx' := by rfl) (h2 : mem.eraseIdx j = mem' := by rfl) : JN X W Kx (Stt I0 H0 ctx mem) ss m G' :=
  JN.frzT i j (by rw [h1, h2]; exact k) hj hc
theorem JR.fzT {m : Res γ} (k : JR X I0 H0 W Kx (Stt I0 H0 ctx' mem') ss m rr) (hj : mem[j]? = some (MF.tab l r xss) := by rfl) (hc : ctx[i]? = some (some (SF.mk (rRef l) ())) := by rfl) (h1 : ctx.set i (some ⟨rL (rL r), xss⟩) = ctx' := by rfl) (h2 : mem.eraseIdx j = mem' := by rfl) : JR X I0 H0 W Kx (Stt I0 H0 ctx mem) ss m rr :=
  JR.frzT i j (by rw [h1, h2]; exact k) hj hc
theorem JG.fzT {m : Res (Fl S L γ)} {G' : S → Knows} {GL : L → Knows} (k : JG X I0 H0 W Kx (Stt I0 H0 ctx' mem') ss m G' GL rr) (hj : mem[j]? = some (MF.tab l r xss) := by rfl) (hc : ctx[i]? = some (some (SF.mk (rRef l) ())) := by rfl) (h1 : ctx.set i (some ⟨rL (rL r), xss⟩) = ctx' := by rfl) (h2 : mem.eraseIdx j = mem' := by rfl) : JG X I0 H0 W Kx (Stt I0 H0 ctx mem) ss m G' GL rr :=
  JG.frzT i j (by rw [h1, h2]; exact k) hj hc
theorem JM.at {a : Expr} {m : Res (List α)} {c c' : List (Option SF)} (j : JM X I0 H0 W c' mem a m r) (h : c = c' := by rfl) : JM X I0 H0 W c mem a m r := by rw [h]; exact j
end
end L2.Tr

namespace L2.Tr
open PySem PySem.Spec PyProof.Rows
/-! ### comprehensions over a list that may still be changed -/
section
variable {α β γ δ S : Type} {X : Cx} {I0 H0 : Hp} {W : WX} {Kx : KnowsX} {ctx : List (Option SF)} {mem : List MF} {e a b c o elt iter tg : Expr} {ss body : List Stmt} {pos pos' : Pos} {n : Str} {r : Rp α} {rb : Rp β}
def JIZ (Z : Hp → Hp → Prop) (X : Cx) (I0 H0 : Hp) (W : WX) (ctx : List (Option SF)) (mem : List MF) (tg iter : Expr) (m : Res (List β)) (r : Rp β) : Prop :=
  ∀ (I H : Hp) (σ : St) (R : It → Hp → Prop), Stt I0 H0 ctx mem I H σ → (match m with
    | .ok xs => ∀ I' H' J vs (okp : Hp → Prop), Fm I H I' H' → ItR J vs okp → (∀ I'' H'', Same I' I'' → Same I'' H'' → Same H0 H'' → Z I'' H'' → okp H'') → Paired (r I') vs xs → R J H'
    | .err e => ∀ I' H' cls d, Fm I H I' H' → Fr H d ∧ ExR X.K I' H' e cls d → W cls d σ H'
    | .stuck => False) → wI X tg iter σ H R
theorem ints_of {I : Hp} : ∀ {vs : List V} {xs : List Int}, Paired (rInt I) vs xs → vs = xs.map V.int
  | [], [], _ => rfl
  | v :: vs, x :: xs, .cons h k => by
    cases (show v = V.int x from h)
    rw [List.map_cons, ← ints_of k]
theorem JIZ.mut {xs : List Int} {l : Addr} (i j : Nat) (hj : mem[j]? = some (MF.lst l rInt xs) := by rfl) (hc : ctx[i]? = some (some (SF.mk (rRef l) ())) := by rfl) (hN : X.N[i]? = some n := by rfl) (hv : Vis X.env.scope n := by first | exact Or.inl rfl | exact Or.inr (Or.inl rfl) | exact Or.inr (Or.inr rfl)) (hd : (n == ("__debug__" : Str)) = false := by decide)
    (hcd : (n == ("__classdict__" : Str)) = false := by decide) : JIZ (fun _ H => H l = some (.lst (xs.map V.int))) X I0 H0 W ctx mem tg (.Name n pos) (.ok xs) rInt := fun I H σ R st p => by
  obtain ⟨u, eu, hu⟩ := st.sl i _ hc
  cases (show u = V.ref l from hu)
  obtain ⟨_, _, o, zH, vs, eo, pr⟩ := st.lstAt hj
  subst eo
  have ev := ints_of pr
  subst ev
  refine PI.w (pi_listC pe_W) (w_var i ⟨l, rfl, ⟨_, SqL.of zH⟩, ?_⟩ eu hN hv hd hcd)
  exact p I H _ _ _ (Fm.refl st.same) itr_list (fun I2 H2 s1 s2 s3 z => SqL.of z) pr
theorem zM {xs : List Int} {l : Addr} {j : Nat} (hj : mem[j]? = some (MF.lst l rInt xs)) : ∀ I H σ c, Stt I0 H0 ctx (c :: mem) I H σ → H l = some (.lst (xs.map V.int)) := fun I H σ c st => by
  obtain ⟨_, _, o, zH, vs, eo, pr⟩ := st.lstAt (j := j + 1) (by rw [List.getElem?_cons_succ]; exact hj)
  subst eo
  have ev := ints_of pr
  subst ev
  exact zH
theorem lcZ_post {Z : Hp → Hp → Prop} (j : Nat) [mo : Mo r] [mb : Mo rb] {m : Res (List β)} {f : β → Res α} {scope : Scope} (hZ : ∀ I H σ c, Stt I0 H0 ctx (c :: mem) I H σ → Z I H) (ji : JIZ Z X I0 H0 W ctx mem (.Name n pos') iter m rb)
    (je : ∀ (s : Shared) (H : Hp) (C : Addr) (cl : List (Str × Addr)) (fp : List Addr) (D : Addr) (acc : List α) (x : β), JE (X.blkC s H scope (compEnvC scope cl C X.env) fp) I0 H0 W0 (ctx.set j (some ⟨rb, x⟩)) (MF.lst D r acc :: mem) elt (f x) (rp r))
    (I H : Hp) (σ : St) (Q : VK) (st : Stt I0 H0 ctx mem I H σ) (p : PostM X W σ I H (m.bind fun xs => lcR f xs) r Q) : tLc (wI X (.Name n pos') iter) (gName j) tYes (wEb X scope elt) [j] σ H Q := by
  refine ji I H σ _ st ?_
  cases m with
  | ok xs =>
    intro I1 H1 J vs okp f1 itr stay pr D hD
    have hlen := Paired.length pr
    by_cases hz : xs.length ≤ sizeLine
    · have e0 : ((Res.ok xs).bind fun xs => lcR f xs) = lcM f xs := Res.guard_pos hz _
      rw [e0] at p
      have hD0 : H D = none := f1.h.free hD
      cases et : lcM f xs with
      | ok tot =>
        rw [et] at p
        refine ⟨fun i k H' => k + i = vs.length ∧ ∃ I' acc ys, Same I1 I' ∧ Fm I H I' H' ∧ Stt I0 H0 ctx (MF.lst D r acc :: mem) I' H' σ ∧ acc.length ≤ i ∧ lcM f (xs.drop i) = .ok ys ∧ tot = acc ++ ys, ⟨vs.length, rfl, I1, [], tot, Same.refl _, f1.trans (Fm.newM f1.ih hD), (st.step f1).push hD .nil, Nat.le_refl _, et, rfl⟩, ?_⟩
        rintro i k H' ⟨hk, I', acc, ys, si, fm, g', ha, el, eq⟩
        have hok := stay I' H' si g'.same g'.fm.h (hZ _ _ _ _ g')
        by_cases hi : i < vs.length
        · obtain ⟨go, yl⟩ := (itr i H' hok).1 hi
          refine .inr ⟨go, fun H2 => ∃ I2 acc2 ys2, Same I1 I2 ∧ Fm I H I2 H2 ∧ Stt I0 H0 ctx (MF.lst D r acc2 :: mem) I2 H2 σ ∧ acc2.length ≤ i + 1 ∧ lcM f (xs.drop (i + 1)) = .ok ys2 ∧ tot = acc2 ++ ys2, fun H2 h => ⟨k - 1, by omega, by omega, h⟩, fun v H2 hy => ?_⟩
          obtain ⟨rfl, ev⟩ := yl v H2 hy
          obtain ⟨x, ex, hr⟩ := paired_drop pr i ev
          rw [lcM_drop ex] at el
          show (fun σ2 H2 => wipe σ2 [j] = wipe σ [j] ∧ _) (((σ.set j none)).set j (some v)) H2
          refine ⟨?_, ?_⟩
          · show ((σ.set j none).set j (some v)).set j none = σ.set j none
            rw [List.set_set, List.set_set]
          · show wEb X scope elt ((σ.set j none).set j (some v)) H2 _
            rw [List.set_set]
            intro s3 H3 C cl fp
            refine je s3 H3 C cl fp D acc x I' H2 (σ.set j (some v)) _ (g'.set j (mb.up si hr)) ?_
            revert el
            generalize f x = z
            intro el
            cases z with
            | ok y =>
              cases el2 : lcM f (xs.drop (i + 1)) with
              | ok ys2 =>
                dsimp only at el
                rw [el2] at el
                cases el
                intro I4 H4 vy f4 r4
                have g4 := g'.step f4
                obtain ⟨z0, zI, oo, zH, vacc, eo, pacc⟩ := g4.lstAt (j := 0) rfl
                subst eo
                have hla := Paired.length pacc
                have hlt := (List.getElem?_eq_some_iff.mp ex).1
                refine ⟨vacc, zH, by omega, I4, acc ++ [y], ys2, si.trans f4.i, (fm.trans f4).updNew hD0 zI, g4.relst 0 rfl (paired_app pacc (.cons r4 .nil)), by rw [List.length_append, List.length_singleton]; omega, rfl, by rw [eq, List.append_assoc]; rfl⟩
              | err e => dsimp only at el; rw [el2] at el; cases el
              | stuck => dsimp only at el; rw [el2] at el; cases el
            | err e => cases el
            | stuck => cases el
        · refine .inl ⟨(itr i H' hok).2 (by omega), ?_⟩
          have e1 : xs.drop i = [] := List.drop_eq_nil_of_le (by omega)
          rw [e1] at el
          cases el
          rw [List.append_nil] at eq
          subst eq
          obtain ⟨z0, zI, oo, zH, vacc, eo, pacc⟩ := g'.lstAt (j := 0) rfl
          subst eo
          exact p I' H' D vacc fm hD0 zI zH pacc
      | err e =>
        exfalso
        have : ∀ l : List β, lcM f l ≠ .err e := fun l => by
          induction l with
          | nil => intro h; cases h
          | cons x l ih =>
            intro h
            unfold lcM at h
            cases q : f x with
            | ok y =>
              rw [q] at h
              dsimp only at h
              cases q2 : lcM f l with
              | ok ys => rw [q2] at h; cases h
              | err e2 => rw [q2] at h ih; cases h; exact ih rfl
              | stuck => rw [q2] at h; cases h
            | err e2 => rw [q] at h; cases h
            | stuck => rw [q] at h; cases h
        exact this xs et
      | stuck => rw [et] at p; exact p.elim
    · have e0 : ((Res.ok xs).bind fun xs => lcR f xs) = .stuck := if_neg hz
      rw [e0] at p
      exact p.elim
  | err e => exact p
  | stuck => exact p
theorem JM.lcMT (j i2 j2 : Nat) [mo : Mo r] {xs : List Int} {l : Addr} {n2 : Str} {p2 : Pos} {f : Int → Res α} {scope : Scope} 
    (je : ∀ (s : Shared) (H : Hp) (C : Addr) (cl : List (Str × Addr)) (fp : List Addr) (D : Addr) (acc : List α) (x : Int), L2N.Takes (X.blkC s H scope (compEnvC scope cl C X.env) fp) W0 → JE (X.blkC s H scope (compEnvC scope cl C X.env) fp) I0 H0 W0 (ctx.set j (some ⟨rInt, x⟩)) (MF.lst D r acc :: mem) elt (f x) (rp r))
    (hN : X.N.Nodup) (ok : BlkOk X.N X.env.scope scope [(n, j)]) (hj : X.N[j]? = some n := by rfl) (hc : Cool X := by first | exact .inl rfl | exact .inr ⟨_, by assumption, List.mem_cons_self⟩) (hsc : Loc (relabel scope X.env) n := by first | exact Or.inl rfl | exact Or.inr rfl) (hfn : (scope.names.lookup n == some .cell) = true ∨ (relabel scope X.env).names.lookup n = some .local := by first | exact .inr rfl | exact .inl rfl) (hs : ∀ x, foldedSetIterable (.Name n2 p2) X.env x = pure x := by intro _; rfl) (hj2 : mem[j2]? = some (MF.lst l rInt xs) := by rfl) (hc2 : ctx[i2]? = some (some (SF.mk (rRef l) ())) := by rfl) (hN2 : X.N[i2]? = some n2 := by rfl) (hv2 : Vis X.env.scope n2 := by first | exact Or.inl rfl | exact Or.inr (Or.inl rfl) | exact Or.inr (Or.inr rfl)) (hd2 : (n2 == ("__debug__" : Str)) = false := by decide) (hcd2 : (n2 == ("__classdict__" : Str)) = false := by decide) :
    JM X I0 H0 W ctx mem (.ListComp elt [⟨.Name n pos', (.Name n2 p2), [], 0⟩] scope pos) ((Res.ok xs).bind fun xs => lcR f xs) r := fun I H σ Q st p =>
  PE.w (pe_lcC (own := [(n, j)]) hc hN pi_W ok (fun s H C cl fp => pg_name (i := j) hN hj hsc hfn) (fun s H C cl fp => pts_nil) (fun s H C cl fp => pe_Wb s H C cl fp) hs) (lcZ_post j (zM hj2) (JIZ.mut (W := W) i2 j2 hj2 hc2 hN2 hv2 hd2 hcd2) (fun s H C cl fp D acc x => je s H C cl fp D acc x takes0) I H σ Q st p)
end
end L2.Tr

namespace L2.Tr
open PySem PySem.Spec PyProof.Rows
/-! ### defs that change a list and hand back a new one -/
section
variable {α β γ δ S T : Type} {X : Cx} {I0 H0 I H : Hp} {W : WX} {Kx : KnowsX} {ctx : List (Option SF)} {mem : List MF} {C : T → List MF} {t0 : T} {e : Expr} {es : List Expr} {ss : List Stmt} {pos pos' : Pos} {n : Str} {r : Rp α} {rt : Rp β} {σ : St} {Q : VK} {R : Hp → Hp → List V → δ → Prop}
def rNX (H0 : Hp) (r : Rp α) : Ra (List α × β) := fun I H v x => rNew H0 r I H v x.1
theorem JR.retCX (i j : Nat) [mo : Mo r] {bb : β} {l : Addr} {xs : List α} (hj : mem[j]? = some (MF.lst l r xs) := by rfl) (hc : ctx[i]? = some (some (SF.mk (rRef l) ())) := by rfl) (hN : X.N[i]? = some n := by rfl) (hv : Vis X.env.scope n := by first | exact Or.inl rfl | exact Or.inr (Or.inl rfl) | exact Or.inr (Or.inr rfl)) (hd : (n == ("__debug__" : Str)) = false := by decide)
    (hcd : (n == ("__classdict__" : Str)) = false := by decide) : JR X I0 H0 W Kx (Stt I0 H0 ctx mem) (.Return (some (.Name n pos')) pos :: ss) (.ok (xs, bb)) (rNX H0 r) := fun I H σ D g p =>
  JR.retC (W := W) (Kx := Kx) i j hj hc hN hv hd hcd I H σ D g p
def PostCN (K : PySem.W.Frag) (m : Res (List α × β)) (r : Rp α) (I H : Hp) (fp : List Addr) (E : XK) (Q : VK) : Prop := match m with
  | .ok x => ∀ I' H' l vs, Fm I (rm H fp) I' H' → rm H fp l = none → I' l = none → H' l = some (.lst vs) → Paired (r I') vs x.1 → Q (.ref l) H'
  | .err e => ∀ I' H' cls d, Fm I (rm H fp) I' H' → Fr (rm H fp) d → ExR K I' H' e cls d → E cls d H'
  | .stuck => False
def spXM (K : PySem.W.Frag) (RG : Addr → β → MF) (R : Addr → Hp → Hp → List V → δ → Prop) (g : δ → β → Res (List α × β)) (r : Rp α) : Sp := fun vs H Q E => ∃ I l b fp d, RgS I H (RG l b) fp ∧ R l I H vs d ∧ PostCN K (g d b) r I H fp E Q
def CallCM (X : Cx) (W : WX) (f : Value) (RG : Addr → β → MF) (R : Addr → Hp → Hp → List V → δ → Prop) (g : δ → β → Res (List α × β)) (r : Rp α) : Prop :=
  ∀ (I H : Hp) (σ : St) (Q : VK) (vs : List V) (d : δ) (l : Addr) (b : β) (fp : List Addr), RgS I H (RG l b) fp → R l I H vs d → PostCN X.K (g d b) r I H fp (fun cls d H' => W cls d σ H') Q → callW X f σ vs H Q
theorem cm_of {k : Nat} {f : Addr} {RG : Addr → β → MF} {R : Addr → Hp → Hp → List V → δ → Prop} {g : δ → β → Res (List α × β)} (F : FnR X.prog X.w X.K X.mg X.base (L2N.CX X.prog X.w) k f (spXM X.K RG R g r)) (hr : Room k X.A) (tk : L2N.Takes X W) : CallCM X W (.ref f) RG R g r := fun I H σ Q vs d l b fp s h p => run_W F hr tk ⟨I, l, b, fp, d, s, h, p⟩
/-- f(new list, ..) of such a def -/
theorem JM.callXM {Rn : Addr → Hp → Hp → List V → Unit × δ → Prop} {gc : Unit × δ → List β → Res (List α × List β)} {f : Addr} {m1 : Res (List β)} {md : Res δ} [mo : Mo rt] (j : JM X I0 H0 W ctx mem e m1 rt) (k : JA X I0 H0 W ctx mem es md R) (cc : CallCM X W (.ref f) (fun l xs => MF.lst l rt xs) Rn gc r) (hR : ∀ l, Rn l = aCons (rp (rRef l)) R)
    (hm : X.mg n = some (.ref f)) (hkk : PySem.W.keepIn X.K (.ref f) = true) (hg : Gl X n := by rfl) (hdb : (n == ("__debug__" : Str)) = false := by decide)
    (he : starEach (e :: es) X.env = (false, eval e X.env) :: starEach es X.env := by rfl) (hpl : (backTo pos (starEach es X.env)).any (·.1) = false := by rfl) :
    JM X I0 H0 W ctx mem (.Call (.Name n pos') (e :: es) [] pos) (m1.bind fun xs => md.bind fun d => (gc ((), d) xs).bindX fun z _ => .ok z) r := fun I H σ Q st p => by
  refine w_call (Tr.w_cons (j I H σ _ st ?_) he) hm hkk hg hdb he hpl
  cases m1 with
  | ok xs =>
    intro I1 H1 l vs f1 h1 h2 h3 pr
    refine k I1 H1 σ _ (st.step f1) ?_
    cases md with
    | ok d =>
      intro I2 H2 ws f2 r2
      have hI2 : I2 l = none := f2.mu l h2 (by rw [h3]; intro z; cases z)
      have hH2 : H2 l = some (.lst vs) := f2.h _ _ h3
      refine cc I2 H2 σ Q (.ref l :: ws) ((), d) l xs [l] ⟨f2.ih, ⟨rfl, _, hH2, vs, rfl, Paired.mapP pr fun _ _ z => mo.up f2.i z⟩, by simp, fun a ha => by
        rw [List.mem_singleton.mp ha]; exact ⟨hI2, by rw [hH2]; intro z; cases z⟩⟩ (by rw [hR]; exact ⟨_, ws, rfl, rfl, r2⟩) ?_
      revert p
      show PostM X W σ I H ((gc ((), d) xs).bindX fun z _ => .ok z) r Q → _
      generalize gc ((), d) xs = z
      intro p
      have back : ∀ a, rm H2 [l] a = none → H a = none := fun a e => by
        by_cases hl : a = l
        · rw [hl]; exact h1
        · rw [rm_out (fun z => hl (List.mem_singleton.mp z))] at e
          exact (f1.trans f2).h.free e
      cases z with
      | ok x => exact fun I' H' l2 vs2 rf a1 a2 a3 a4 => p I' H' l2 vs2 ((f1.trans f2).dropNew h1 rf) (back l2 a1) a2 a3 a4
      | err e => exact fun I' H' cls d f fr x => p I' H' cls d ((f1.trans f2).dropNew h1 f) ⟨fun a e => back a (fr a e), x⟩
      | stuck => exact p
    | err e => exact fun I' H' c d f x => p I' H' c d (f1.trans f) ⟨x.1.back f1.h, x.2⟩
    | stuck => exact p
  | err e => exact p
  | stuck => exact p
end
theorem FunD.fnXM {α δ β : Type} {P : Program} {w : World} {K : PySem.W.Frag} {mg : Str → Option Value} {base : Heap} {x qual : Str} {params : Arguments} {body : List Stmt} {scope : Scope} {dvs : List V} {kws : List (Str × V)} {f : Addr} {fd : FuncData} {N ps : List Str} {k : Nat} {RG : Addr → β → MF} {R : Addr → Hp → Hp → List V → δ → Prop} {m : δ → β → Res (List α × β)} {r : Rp α} (F : FunD K x qual params body scope dvs kws f fd) (Sc : FnScope N ps scope) (len : ∀ l I H vs d, R l I H vs d → vs.length = ps.length)
    (hb : ∀ (cdv : Value) (A : Around) (outer : List Env) (s : Shared) (I0 H0 H1 : Hp) (E : XK) (vs : List V) (d : δ) (l : Addr) (b : β), Room k (A.deeper (envOfC qual scope s.heap.objs.size f cdv)) → Same I0 H1 → R l I0 H1 vs d →
      ∃ ctx : List (Option SF), ctx.length = N.length ∧ vs.length ≤ N.length ∧ IniR I0 vs ctx ∧ JR (bx P w K mg base N qual scope f cdv A outer s H1 E) I0 H0 (bW E) (bK I0 H0) (Stt I0 H0 ctx [RG l b]) body (m d b) (rNX H0 r)) : FnOk P w K mg base (L2N.CX P w) (k + 1) f fd ps (spXM K RG R m r) := by
  refine F.ok Sc (fun vs H Q E ⟨I, l, b, fp, d, _, h, _⟩ => len l I H vs d h) fun cdv A outer s H vs Q E hr ⟨I, l, b, fp, d, rs, h, p⟩ => ⟨_, pss_W, ?_⟩
  obtain ⟨ctx, l1, l2, ini, j⟩ := hb cdv A outer s I (rm H fp) H E vs d l b hr rs.s h
  refine j I H _ _ ?_ ?_
  · refine ⟨⟨Same.refl _, fun a u e => ?_, rs.s, fun a e n => e⟩, ?_, fun i sf e => IniR.get ini i sf e, [fp], ⟨rs.q, True.intro⟩, ?_, fun a ha => ?_⟩
    · by_cases hf : a ∈ fp
      · rw [rm_in hf] at e; cases e
      · rw [rm_out hf] at e; exact e
    · unfold L2.start
      rw [List.length_append, List.length_map, List.length_replicate, l1]
      omega
    · simpa using rs.nd
    · have ha : a ∈ fp := by simpa using ha
      exact ⟨rm_in ha, rs.own a ha⟩
  · revert p
    show PostCN K (m d b) r I H fp E Q → PostR _ _ _ _ _ (m d b) _ _
    generalize m d b = z
    intro p
    cases z with
    | ok y => exact fun I' H' v fm ⟨l3, vs3, e, a1, a2, a3, a4⟩ => by subst e; exact p I' H' l3 vs3 fm a1 a2 a3 a4
    | err e => exact fun I' H' _ c d f x => p I' H' c d f.1 f.2 x
    | stuck => exact p
theorem FnOk.frXM {α δ β : Type} {P : Program} {w : World} {K : PySem.W.Frag} {mg : Str → Option Value} {base : Heap} {k : Nat} {f : Addr} {fd : FuncData} {ps : List Str} {RG : Addr → β → MF} {R : Addr → Hp → Hp → List V → δ → Prop} {m : δ → β → Res (List α × β)} {r : Rp α} (F : FnOk P w K mg base (L2N.CX P w) k f fd ps (spXM K RG R m r)) (hb : Binds K fd ps []) :
    FnR P w K mg base (L2N.CX P w) k f (spXM K RG R m r) := (FnOk.raw F hb .nil).imp fun vs H Q E h => by rw [List.append_nil]; exact h
section
variable {P : Program} {w : World} {K : PySem.W.Frag} {mg : Str → Option Value} {base : Heap} {N : List Str} {qual : Str} {scope : Scope} {f : Addr} {cd : Value} {A : Around} {outer : List Env} {s : Shared} {H : Hp} {E : XK} {pn : List (Addr × Obj)}
end
/-! ### a number on the left -/
def nxM {β γ : Type} (g1 : Int → β → Res γ) (g2 : Rat → β → Res γ) : Num → β → Res γ
  | .i n, y => g1 n y
  | .q r, y => g2 r y
theorem opj_nx {β γ : Type} {X : Cx} {W : WX} {f : Value → Value → Sem Value} {rb : Ra β} {rc : Ra γ} {g1 : Int → β → Res γ} {g2 : Rat → β → Res γ} (h1 : OpJ X W f (rp rInt) rb g1 rc) (h2 : OpJ X W f (rp (rFrac X.K)) rb g2 rc) :
    OpJ X W f (rp (rNum X.K)) rb (fun x y => nxM g1 g2 x y) rc := fun I H σ Q u v x y s a b p => by
  cases x with
  | i n => exact h1 I H σ Q u v n y s a b p
  | q r => exact h2 I H σ Q u v r y s a b p
/-! ### a def that falls off its end -/
theorem FunD.fnE {δ : Type} {P : Program} {w : World} {K : PySem.W.Frag} {mg : Str → Option Value} {base : Heap} {x qual : Str} {params : Arguments} {body : List Stmt} {scope : Scope} {dvs : List V} {kws : List (Str × V)} {f : Addr} {fd : FuncData} {N ps : List Str} {k : Nat} {R : Hp → Hp → List V → δ → Prop} {m : δ → Res Unit} (F : FunD K x qual params body scope dvs kws f fd) (S : FnScope N ps scope) (len : ∀ I H vs d, R I H vs d → vs.length = ps.length)
    (hb : ∀ (cdv : Value) (A : Around) (outer : List Env) (s : Shared) (I0 H0 : Hp) (E : XK) (vs : List V) (d : δ), Room k (A.deeper (envOfC qual scope s.heap.objs.size f cdv)) → Same I0 H0 → R I0 H0 vs d →
      ∃ G : Knows, G I0 H0 (start N vs) ∧ JN (bx P w K mg base N qual scope f cdv A outer s H0 E) (bW E) (bK I0 H0) G body (m d) (fun _ I H σ => ∃ ctx mem, Stt I0 H0 ctx mem I H σ)) : FnOk P w K mg base (L2N.CX P w) (k + 1) f fd ps (spF K R m (rp rNon)) := by
  refine F.ok S (fun vs H Q E ⟨I, d, _, h, _⟩ => len I H vs d h) fun cdv A outer s H vs Q E hr ⟨I, d, sm, h, p⟩ => ⟨_, pss_W, ?_⟩
  obtain ⟨G, g, j⟩ := hb cdv A outer s I H E vs d hr sm h
  refine j I H _ _ g ?_
  revert p
  show PostE K (m d) (rp rNon) I H E Q → PostB _ _ _ _ (m d) _ _
  generalize m d = z
  intro p
  cases z with
  | ok y =>
    rintro I' H' σ' _ ⟨ctx', mem', g⟩
    exact p I' H' .non g.fm rfl
  | err e => exact fun I' H' _ c d f x => p I' H' c d f.1 ⟨f.2, x⟩
  | stuck => exact p
end L2.Tr

/-! lists of numbers that are equal item by item by their worths: == tells True, != tells False -/
namespace GQ
open PySem PySem.SeqAt
section
variable {prog : Program} {w : World} {A : Around} {E : Value → Shared → Prop} {s : Shared}
theorem eqBool_intL {n : Int} {t : Tok} {b : Addr} {Q : Bool → Shared → Prop} (h : wpAny (model prog w) A (richCompare .Eq (.int n t) (.ref b)) (fun v s' => ∃ r, v = .bool r ∧ Q r s') E s) : wpAny (model prog w) A (eqBool (.int n t) (.ref b)) Q E s := by
  unfold eqBool
  refine wpAny_holding ?_
  refine wpAny_ite_split (fun hab => absurd (eq_of_beq hab) (fun z => nomatch z)) (fun _ => ?_)
  refine wpAny_bind (wpAny_mono h (fun v s' hv => ?_) fun _ _ x => x)
  obtain ⟨r, rfl, q⟩ := hv
  exact wpAny_truthy_bool q
theorem eqBool_intR {n : Int} {t : Tok} {b : Addr} {Q : Bool → Shared → Prop} (h : wpAny (model prog w) A (richCompare .Eq (.ref b) (.int n t)) (fun v s' => ∃ r, v = .bool r ∧ Q r s') E s) : wpAny (model prog w) A (eqBool (.ref b) (.int n t)) Q E s := by
  unfold eqBool
  refine wpAny_holding ?_
  refine wpAny_ite_split (fun hab => absurd (eq_of_beq hab) (fun z => nomatch z)) (fun _ => ?_)
  refine wpAny_bind (wpAny_mono h (fun v s' hv => ?_) fun _ _ x => x)
  obtain ⟨r, rfl, q⟩ := hv
  exact wpAny_truthy_bool q
end
end GQ
namespace L2.Tr
open PySem PySem.Spec PyProof.Rows He
section
variable {X : Cx} {W : WX} {n : Nat} {D : Eqv} {k : Nat} {f : Addr} {gb : Rat × Num × Unit → Res Bool}
/-- what == of a Fraction and an int tells, called below -/
theorem call_qi (F : FnR X.prog X.w X.K X.mg X.base (L2N.CX X.prog X.w) k f (spF X.K (R2' (rp (rFrac X.K)) (rp (rNum X.K))) gb (rp rBl))) (tk : L2N.Takes X W) (hg : ∀ n : Int, gb ((n : Rat), .i n, ()) = .ok true) {A : Around} {pins : List (Addr × Obj)} {s : Shared} {σ : St} {H Ig : Hp} {a : Addr} {m : Int} {t : Tok} (sb : Sub X k A) (I : Inv X pins σ H s) (sm : Same Ig H) (ha : rFrac X.K Ig (.ref a) (m : Rat)) :
    wpAny (model X.prog X.w) A (call (.ref f) [.ref a, .int m t]) (fun r s' => r = .bool true ∧ ∃ H', Inv X pins σ H' s' ∧ Ext H H') X.xe s := by
  have env : Env0 X.prog X.w X.K X.mg X.base A X.stack s H := { I.env0 with frames := by rw [sb.fr]; exact I.env0.frames }
  have post : spF X.K (R2' (rp (rFrac X.K)) (rp (rNum X.K))) gb (rp rBl) [.ref a, .int m] H (fun v H' => v = .bl true ∧ Ext H H') (fun cls d H' => W cls d σ H') :=
    ⟨Ig, ((m : Rat), .i m, ()), sm, ⟨.ref a, [.int m], rfl, ha, .int m, [], rfl, rfl, rfl⟩, by rw [hg m]; exact fun I' H' v f r => ⟨r, f.h⟩⟩
  refine wpAny_call (codeAny_mono (F A X.stack s H [.ref a, .int m t] [.ref a, .int m] _ _ sb.room env (.cons rfl (.cons ⟨_, rfl⟩ .nil)) post) fun r t' hq => ?_)
  cases r with
  | error e => exact L2N.passAt tk σ pins H s e t' I hq
  | ok fl =>
    cases fl with
    | ret w =>
      obtain ⟨z, H', I', rz, rfl, ex⟩ := I.after hq
      cases rz
      exact ⟨rfl, H', I', ex⟩
    | next => exact False.elim hq
    | brk => exact False.elim hq
    | cont => exact False.elim hq
/-- two numbers of one worth -/
def DNv (K : PySem.W.Frag) : Eqv := fun x y H => ∃ I m n, Same I H ∧ rNum K I x m ∧ rNum K I y n ∧ m.val = n.val
theorem mon_nv {K : PySem.W.Frag} : Mon (DNv K) := fun x y H H' e ⟨I, m, n, s, a, b, v⟩ => ⟨I, m, n, fun p o h => e _ _ (s _ _ h), a, b, v⟩
theorem eqG_nv (hc : OCls X.K (He.ga X.K "Fraction")) (hn : PySem.W.notFirst X.K (He.ga X.K "Fraction") (.type "int") = true) (hm : OMet X.K (He.ga X.K "Fraction") "__eq__" f) (F : FnR X.prog X.w X.K X.mg X.base (L2N.CX X.prog X.w) k f (spF X.K (R2' (rp (rFrac X.K)) (rp (rNum X.K))) gb (rp rBl))) (tk : L2N.Takes X W) (hg : ∀ q, gb (q, .q q, ()) = .ok true) (hg2 : ∀ n : Int, gb ((n : Rat), .i n, ()) = .ok true) : EqG X k (DNv X.K) := fun A pins s σ H x y u v sb I rx ry d => by
  obtain ⟨I0, p, q, sm, a, b, e⟩ := d
  cases p with
  | i m =>
    cases q with
    | i n =>
      obtain rfl : m = n := by
        have : ((m : Int) : Rat) = ((n : Int) : Rat) := e
        exact_mod_cast this
      exact eqG_nm hm F tk hg A pins s σ H x y u v sb I rx ry ⟨I0, .i m, sm, a, b⟩
    | q r =>
      obtain rfl : ((m : Int) : Rat) = r := e
      cases (show x = V.int m from a)
      obtain ⟨t, rfl⟩ := (show ∃ t, u = Value.int m t from rx)
      obtain ⟨l, dx, rfl, hl⟩ := id b
      obtain rfl : v = Value.ref l := ry
      obtain ⟨od, J⟩ := insAt I (sm _ _ hl)
      have h : wpAny (model X.prog X.w) A (richCompare .Eq (.int m t) (.ref l)) (fun r s' => r = .bool true ∧ ∃ H', Inv X pins σ H' s' ∧ Ext H H') X.xe s := by
        refine PySem.W.tr_cmpR (op := .Eq) sb.room.units0 I.kIn J hm.at_ hm.fn hc.ni PySem.F.slot_int_eq PySem.F.entry_int_eq PySem.F.args_int_eq_2 ?_
        exact wpAny_mono (call_qi F tk hg2 sb I sm b) (fun r s' z => by obtain ⟨rfl, z⟩ := z; exact ⟨rfl, z⟩) fun _ _ x => x
      exact GQ.eqBool_intL (wpAny_mono h (fun r s' z => ⟨true, z.1, rfl, z.2⟩) fun _ _ x => x)
  | q r =>
    cases q with
    | i m =>
      obtain rfl : r = ((m : Int) : Rat) := e
      cases (show y = V.int m from b)
      obtain ⟨t, rfl⟩ := (show ∃ t, v = Value.int m t from ry)
      obtain ⟨l, dx, rfl, hl⟩ := id a
      obtain rfl : u = Value.ref l := rx
      obtain ⟨od, J⟩ := insAt I (sm _ _ hl)
      obtain ⟨mm, hF⟩ := I.fr
      have h : wpAny (model X.prog X.w) A (richCompare .Eq (.ref l) (.int m t)) (fun r s' => r = .bool true ∧ ∃ H', Inv X pins σ H' s' ∧ Ext H H') X.xe s := by
        refine PySem.W.cmp_K (op := .Eq) (tb := .type "int") sb.room.units0 hF I.ok.mod.kin J (PySem.W.Looks.of_pure rfl) hn hm.at_ hm.fn ?_
        exact wpAny_mono (call_qi F tk hg2 sb I sm a) (fun r s' z => by obtain ⟨rfl, z⟩ := z; exact ⟨rfl, z⟩) fun _ _ x => x
      exact GQ.eqBool_intR (wpAny_mono h (fun r s' z => ⟨true, z.1, rfl, z.2⟩) fun _ _ x => x)
    | q r2 =>
      obtain rfl : r = r2 := e
      exact eqG_nm hm F tk hg A pins s σ H x y u v sb I rx ry ⟨I0, .q r, sm, a, b⟩
def sameV (xs ys : List Num) : Prop := xs.map Num.val = ys.map Num.val
instance {xs ys : List Num} : Decidable (sameV xs ys) := by unfold sameV; infer_instance
theorem prs_nv {K : PySem.W.Frag} {I H : Hp} (sm : Same I H) : ∀ {vs ws : List V} {xs ys : List Num}, Paired (rNum K I) vs xs → Paired (rNum K I) ws ys → sameV xs ys → Prs (DNv K) vs ws H
  | _, _, _, _, .nil, .nil, _ => Prs.nil
  | _, _, _, _, .cons a t, .cons b t', e => by
    unfold sameV at e
    rw [List.map_cons, List.map_cons] at e
    injection e with e1 e2
    exact Prs.cons ⟨I, _, _, sm, a, b, e1⟩ (prs_nv sm t t' e2)
  | _, _, _, _, .nil, .cons b t', e => by unfold sameV at e; cases e
  | _, _, _, _, .cons a t, .nil, e => by unfold sameV at e; cases e
theorem opj_neNV (hc : OCls X.K (He.ga X.K "Fraction")) (hn : PySem.W.notFirst X.K (He.ga X.K "Fraction") (.type "int") = true) (hm : OMet X.K (He.ga X.K "Fraction") "__eq__" f) (F : FnR X.prog X.w X.K X.mg X.base (L2N.CX X.prog X.w) k f (spF X.K (R2' (rp (rFrac X.K)) (rp (rNum X.K))) gb (rp rBl))) (tk : L2N.Takes X W) (hg : ∀ q, gb (q, .q q, ()) = .ok true) (hg2 : ∀ n : Int, gb ((n : Rat), .i n, ()) = .ok true) (hr : Room (k + 1) X.A) :
    OpJ X W (compareOp .NotEq) (rH (rNum X.K)) (rH (rNum X.K)) (fun xs ys => Res.guard (sameV xs ys) (.ok false)) (rp rBl) := fun I H σ Q u v x y s ⟨l, vs, e1, h1, p1⟩ ⟨l', vs', e2, h2, p2⟩ p pins sh uu vv Iv ru rv => by
  by_cases hxy : sameV x y
  · subst e1; subst e2
    dsimp only at p
    rw [Res.guard_pos hxy] at p
    obtain rfl : uu = Value.ref l := ru
    obtain rfl : vv = Value.ref l' := rv
    show wpAny (model X.prog X.w) X.A (richCompare .NotEq _ _) (EP X pins σ Q) X.xe sh
    refine wpAny_mono (ne_data mon_nv (eqG_nv hc hn hm F tk hg hg2) ⟨hr, rfl⟩ Iv h1 h2 (prs_nv s p1 p2 hxy)) (fun r s' z => ?_) fun _ _ x => x
    obtain ⟨rfl, H', I', e⟩ := z
    exact ⟨.bl false, H', I', rfl, p I H' _ ⟨Same.refl _, e, fun a o h => e _ _ (s _ _ h), fun _ e _ => e⟩ rfl⟩
  · have e : (Res.guard (sameV x y) (.ok false) : Res Bool) = .stuck := if_neg hxy
    dsimp only at p
    rw [e] at p
    exact p.elim
theorem qEq_int (n : Int) : qEq (n : Rat) (.i n) = .ok true := by
  unfold qEq
  rw [show (Num.i n).val = (n : Rat) from rfl, decide_eq_true rfl]
end
end L2.Tr

namespace L2.Tr
/-! quadratic forms of a row of readings -/
def qf (r : Nat → Rat) (n : Nat) (p : Nat → Rat) : Rat := smQ (fun i => smQ (fun j => p i * p j * r (i + j)) n) n
/-- the readings that weights cannot bar -/
structure HM (r : Nat → Rat) : Prop where
  h0 : ∀ n p, 0 ≤ qf r n p
  h1 : ∀ n p, 0 ≤ qf (fun k => r (k + 1)) n p
  h2 : ∀ n p, 0 ≤ qf (fun k => r k - r (k + 1)) n p
  h3 : ∀ n p, 0 ≤ qf (fun k => r (k + 1) - r (k + 2)) n p
theorem smQ_shift {f : Nat → Rat} : ∀ {n : Nat}, smQ f (n + 1) = f 0 + smQ (fun i => f (i + 1)) n
  | 0 => by rw [smQ_succ]; show 0 + f 0 = f 0 + 0; grind
  | n + 1 => by rw [smQ_succ, smQ_shift (n := n), smQ_succ]; grind
/-- times x -/
theorem qf_x (r : Nat → Rat) (n : Nat) (p : Nat → Rat) : qf (fun k => r (k + 2)) n p = qf r (n + 1) (fun i => if i = 0 then 0 else p (i - 1)) := by
  unfold qf
  rw [smQ_shift]
  have e0 : smQ (fun j => (if (0 : Nat) = 0 then (0 : Rat) else p (0 - 1)) * (if j = 0 then 0 else p (j - 1)) * r (0 + j)) (n + 1) = 0 := smQ_null fun i _ => by rw [if_pos rfl]; grind
  rw [e0, Rat.zero_add]
  refine smQ_congr fun i _ => ?_
  rw [smQ_shift]
  dsimp only
  rw [if_neg (by omega), if_pos rfl]
  have : p (i + 1 - 1) * 0 * r (i + 1 + 0) + smQ (fun j => p (i + 1 - 1) * (if j + 1 = 0 then 0 else p (j + 1 - 1)) * r (i + 1 + (j + 1))) n = smQ (fun j => p i * p j * r (i + j + 2)) n := by
    rw [Rat.mul_zero, Rat.zero_mul, Rat.zero_add]
    refine smQ_congr fun j _ => ?_
    rw [if_neg (by omega), show i + 1 + (j + 1) = i + j + 2 by omega, Nat.add_sub_cancel, Nat.add_sub_cancel]
  exact this.symm
/-- times 1 - x -/
theorem qf_rest (r : Nat → Rat) (n : Nat) (p : Nat → Rat) : qf (fun k => r k - 2 * r (k + 1) + r (k + 2)) n p = qf r (n + 1) (fun i => (if i < n then p i else 0) - (if i = 0 then 0 else p (i - 1))) := by
  have split : qf r (n + 1) (fun i => (if i < n then p i else 0) - (if i = 0 then 0 else p (i - 1))) = qf r n p - 2 * qf (fun k => r (k + 1)) n p + qf (fun k => r (k + 2)) n p := by
    rw [qf_x]
    have a1 : qf r n p = qf r (n + 1) (fun i => if i < n then p i else 0) := by
      unfold qf
      rw [smQ_succ]
      have z : smQ (fun j => (if n < n then p n else 0) * (if j < n then p j else 0) * r (n + j)) (n + 1) = 0 := smQ_null fun j _ => by rw [if_neg (Nat.lt_irrefl n)]; grind
      rw [z, Rat.add_zero]
      refine smQ_congr fun i hi => ?_
      rw [smQ_succ]
      dsimp only
      rw [if_neg (Nat.lt_irrefl n), if_pos hi]
      have : smQ (fun j => p i * (if j < n then p j else 0) * r (i + j)) n = smQ (fun j => p i * p j * r (i + j)) n := smQ_congr fun j hj => by rw [if_pos hj]
      rw [this]; grind
    have a2 : qf (fun k => r (k + 1)) n p = smQ (fun i => smQ (fun j => (if i < n then p i else 0) * (if j = 0 then 0 else p (j - 1)) * r (i + j)) (n + 1)) (n + 1) := by
      rw [smQ_succ]
      have z : smQ (fun j => (if n < n then p n else 0) * (if j = 0 then 0 else p (j - 1)) * r (n + j)) (n + 1) = 0 := smQ_null fun j _ => by rw [if_neg (Nat.lt_irrefl n)]; grind
      rw [z, Rat.add_zero]
      unfold qf
      refine smQ_congr fun i hi => ?_
      rw [smQ_shift]
      dsimp only
      rw [if_pos hi, if_pos rfl, Rat.mul_zero, Rat.zero_mul, Rat.zero_add]
      refine smQ_congr fun j hj => ?_
      rw [if_neg (by omega), Nat.add_sub_cancel, show i + (j + 1) = i + j + 1 by omega]
    have a3 : smQ (fun i => smQ (fun j => (if i = 0 then 0 else p (i - 1)) * (if j < n then p j else 0) * r (i + j)) (n + 1)) (n + 1) = qf (fun k => r (k + 1)) n p := by
      rw [a2, smQ_comm]
      refine smQ_congr fun i _ => smQ_congr fun j _ => ?_
      rw [Nat.add_comm i j]; grind
    rw [a1]
    have e : qf r (n + 1) (fun i => (if i < n then p i else 0) - (if i = 0 then 0 else p (i - 1))) =
      qf r (n + 1) (fun i => if i < n then p i else 0)
      - smQ (fun i => smQ (fun j => (if i < n then p i else 0) * (if j = 0 then 0 else p (j - 1)) * r (i + j)) (n + 1)) (n + 1)
      - smQ (fun i => smQ (fun j => (if i = 0 then 0 else p (i - 1)) * (if j < n then p j else 0) * r (i + j)) (n + 1)) (n + 1)
      + qf r (n + 1) (fun i => if i = 0 then 0 else p (i - 1)) := by
      unfold qf
      rw [← smQ_sub, ← smQ_sub, ← smQ_add]
      refine smQ_congr fun i _ => ?_
      rw [← smQ_sub, ← smQ_sub, ← smQ_add]
      refine smQ_congr fun j _ => ?_
      grind
    rw [e, a3, ← a2]; grind
  rw [split]
  unfold qf
  rw [← smQ_mul, ← smQ_sub, ← smQ_add]
  refine smQ_congr fun i _ => ?_
  rw [← smQ_mul, ← smQ_sub, ← smQ_add]
  refine smQ_congr fun j _ => ?_
  grind
theorem qf_congr {r s : Nat → Rat} (h : ∀ k, r k = s k) (n : Nat) (p : Nat → Rat) : qf r n p = qf s n p := by
  rw [show r = s from funext h]
theorem HM.shift {r : Nat → Rat} (h : HM r) : HM fun k => r (k + 1) where
  h0 := h.h1
  h1 n p := by
    have := qf_x r n p
    rw [qf_congr (s := fun k => r (k + 2)) fun k => rfl, this]; exact h.h0 _ _
  h2 := h.h3
  h3 n p := by
    have := qf_x (fun k => r k - r (k + 1)) n p
    rw [qf_congr (s := fun k => r (k + 2) - r (k + 2 + 1)) fun k => rfl, this]
    exact h.h2 _ _
theorem HM.diff {r : Nat → Rat} (h : HM r) : HM fun k => r k - r (k + 1) where
  h0 := h.h2
  h1 := h.h3
  h2 n p := by
    rw [qf_congr (s := fun k => r k - 2 * r (k + 1) + r (k + 2)) fun k => by grind, qf_rest]
    exact h.h0 _ _
  h3 n p := by
    have := qf_rest (fun k => r (k + 1)) n p
    rw [qf_congr (s := fun k => r (k + 1) - 2 * r (k + 1 + 1) + r (k + 2 + 1)) fun k => by grind, this]
    exact h.h1 _ _
theorem HM.pos0 {r : Nat → Rat} (h : HM r) : 0 ≤ r 0 := by
  have := h.h0 1 fun _ => 1
  unfold qf at this
  have e : smQ (fun i => smQ (fun j => (1 : Rat) * 1 * r (i + j)) 1) 1 = r 0 := by
    rw [smQ_succ, smQ_succ]
    show (0 : Rat) + (0 + 1 * 1 * r (0 + 0)) = r 0
    grind
  rw [e] at this
  exact this
theorem HM.pos {r : Nat → Rat} (h : HM r) (k : Nat) : 0 ≤ r k := by
  induction k generalizing r with
  | zero => exact h.pos0
  | succ k ih => exact ih h.shift
end L2.Tr

namespace L2.Tr
/-! amounts that go back and forth -/
def dn (n : Nat) (w : Nat → Nat → Rat) (U : Nat → Rat) (x : Nat → Rat) (c : Nat) : Rat := smQ (fun i => w i c * x i) n / U c
def ip (T : Nat → Rat) (n : Nat) (x y : Nat → Rat) : Rat := smQ (fun i => T i * x i * y i) n
def lin (p : Nat → Rat) (v : Nat → Nat → Rat) (n : Nat) (i : Nat) : Rat := smQ (fun k => p k * v k i) n
structure RW (R C : Nat) (w : Nat → Nat → Rat) (T U : Nat → Rat) : Prop where
  w0 : ∀ i c, i < R → c < C → 0 ≤ w i c
  T0 : ∀ i, i < R → 0 < T i
  U0 : ∀ c, c < C → 0 < U c
  hT : ∀ i, i < R → smQ (w i) C ≤ T i
  hU : ∀ c, c < C → smQ (fun i => w i c) R ≤ U c
def tr (w : Nat → Nat → Rat) : Nat → Nat → Rat := fun i c => w c i
theorem RW.flip {R C : Nat} {w : Nat → Nat → Rat} {T U : Nat → Rat} (g : RW R C w T U) : RW C R (tr w) U T := ⟨fun i c hi hc => g.w0 c i hc hi, g.U0, g.T0, g.hU, g.hT⟩
theorem sq_nonneg (x : Rat) : 0 ≤ x * x := by
  rcases (Rat.le_total : 0 ≤ x ∨ x ≤ 0) with h | h
  · exact Rat.mul_nonneg h h
  · have : 0 ≤ -x := by grind
    have := Rat.mul_nonneg this this
    grind
theorem ip_self {T : Nat → Rat} {n : Nat} {x : Nat → Rat} (h : ∀ i, i < n → 0 < T i) : 0 ≤ ip T n x x := smQ_nonneg fun i hi => by
  have h1 := Rat.mul_nonneg (Rat.le_of_lt (h i hi)) (sq_nonneg (x i))
  grind
section
variable {R C : Nat} {w : Nat → Nat → Rat} {T U : Nat → Rat}
theorem dn_mul {x : Nat → Rat} {c : Nat} (h : 0 < U c) : U c * dn R w U x c = smQ (fun i => w i c * x i) R := by
  unfold dn
  rw [Rat.mul_comm]
  exact Rat.div_mul_cancel (by grind)
theorem dn_one {x : Nat → Rat} {c : Nat} (w0 : ∀ i, i < R → 0 ≤ w i c) (h0 : 0 < U c) (hU : smQ (fun i => w i c) R ≤ U c) : U c * dn R w U x c * dn R w U x c ≤ smQ (fun i => w i c * x i * x i) R := by
  have e := dn_mul (R := R) (w := w) (x := x) h0
  generalize dn R w U x c = y at *
  have h1 : 0 ≤ smQ (fun i => w i c * ((x i - y) * (x i - y))) R := smQ_nonneg fun i hi => Rat.mul_nonneg (w0 i hi) (sq_nonneg _)
  have h2 : smQ (fun i => w i c * ((x i - y) * (x i - y))) R = smQ (fun i => w i c * x i * x i) R - 2 * y * smQ (fun i => w i c * x i) R + y * y * smQ (fun i => w i c) R := by
    rw [← smQ_mul, ← smQ_mul, ← smQ_sub, ← smQ_add]
    exact smQ_congr fun i _ => by grind
  have h3 : y * y * smQ (fun i => w i c) R ≤ y * y * U c := Rat.mul_le_mul_of_nonneg_left hU (sq_nonneg y)
  rw [h2, ← e] at h1
  grind
theorem RW.contr (g : RW R C w T U) (x : Nat → Rat) : ip U C (dn R w U x) (dn R w U x) ≤ ip T R x x := by
  have h1 : ip U C (dn R w U x) (dn R w U x) ≤ smQ (fun c => smQ (fun i => w i c * x i * x i) R) C := smQ_le fun c hc => dn_one (fun i hi => g.w0 i c hi hc) (g.U0 c hc) (g.hU c hc)
  rw [smQ_comm] at h1
  refine Rat.le_trans h1 (smQ_le fun i hi => ?_)
  have e : smQ (fun c => w i c * x i * x i) C = x i * x i * smQ (w i) C := by
    rw [← smQ_mul]; exact smQ_congr fun c _ => by grind
  rw [e]
  have := Rat.mul_le_mul_of_nonneg_left (g.hT i hi) (sq_nonneg (x i))
  grind
theorem RW.adj (g : RW R C w T U) (x y : Nat → Rat) : ip U C (dn R w U x) y = ip T R x (dn C (tr w) T y) := by
  unfold ip
  have e1 : smQ (fun c => U c * dn R w U x c * y c) C = smQ (fun c => smQ (fun i => w i c * x i * y c) R) C := smQ_congr fun c hc => by
    rw [dn_mul (g.U0 c hc), ← smQ_mulr]
  have e2 : smQ (fun i => T i * x i * dn C (tr w) T y i) R = smQ (fun i => smQ (fun c => w i c * x i * y c) C) R := smQ_congr fun i hi => by
    have := dn_mul (R := C) (w := tr w) (U := T) (x := y) (g.T0 i hi)
    have e : T i * x i * dn C (tr w) T y i = x i * (T i * dn C (tr w) T y i) := by grind
    rw [e, this, ← smQ_mul]
    exact smQ_congr fun c _ => by show x i * (w i c * y c) = _; grind
  rw [e1, e2, smQ_comm]
theorem ip_comm {n : Nat} {x y : Nat → Rat} : ip T n x y = ip T n y x := smQ_congr fun i _ => by grind
theorem dn_lin {p : Nat → Rat} {v : Nat → Nat → Rat} {n c : Nat} (h : 0 < U c) : dn R w U (lin p v n) c = lin p (fun k => dn R w U (v k)) n c := by
  unfold dn lin
  have e : smQ (fun i => w i c * smQ (fun k => p k * v k i) n) R = smQ (fun k => p k * smQ (fun i => w i c * v k i) R) n := by
    rw [smQ_congr fun i _ => by rw [← smQ_mul], smQ_comm]
    refine smQ_congr fun k _ => ?_
    rw [← smQ_mul]
    exact smQ_congr fun i _ => by grind
  rw [e, Rat.div_def, ← smQ_mulr]
  refine smQ_congr fun k _ => ?_
  dsimp only
  rw [Rat.div_def, Rat.mul_assoc]
theorem ip_lin {p : Nat → Rat} {u v : Nat → Nat → Rat} {n m : Nat} : ip T m (lin p u n) (lin p v n) = smQ (fun i => smQ (fun j => p i * p j * ip T m (u i) (v j)) n) n := by
  unfold ip lin
  have e : ∀ i, T i * smQ (fun k => p k * u k i) n * smQ (fun k => p k * v k i) n = smQ (fun k => smQ (fun l => p k * p l * (T i * u k i * v l i)) n) n := fun i => by
    rw [show T i * smQ (fun k => p k * u k i) n * smQ (fun k => p k * v k i) n = smQ (fun k => p k * u k i) n * (T i * smQ (fun k => p k * v k i) n) by grind, ← smQ_mulr]
    refine smQ_congr fun k _ => ?_
    rw [← Rat.mul_assoc, ← smQ_mul]
    exact smQ_congr fun l _ => by grind
  rw [smQ_congr fun i _ => e i, smQ_comm]
  refine smQ_congr fun k _ => ?_
  rw [smQ_comm]
  refine smQ_congr fun l _ => ?_
  exact smQ_mul
theorem ip_congr {n : Nat} {x x' y y' : Nat → Rat} (h : ∀ i, i < n → x i = x' i) (k : ∀ i, i < n → y i = y' i) : ip T n x y = ip T n x' y' := smQ_congr fun i hi => by rw [h i hi, k i hi]
/-- both half ticks -/
def both (R C : Nat) (w : Nat → Nat → Rat) (T U : Nat → Rat) (x : Nat → Rat) : Nat → Rat := dn C (tr w) T (dn R w U x)
def pw (R C : Nat) (w : Nat → Nat → Rat) (T U : Nat → Rat) (e : Nat → Rat) : Nat → Nat → Rat
  | 0 => e
  | k + 1 => both R C w T U (pw R C w T U e k)
theorem RW.self (g : RW R C w T U) (x y : Nat → Rat) : ip T R (both R C w T U x) y = ip T R x (both R C w T U y) := by
  unfold both
  rw [← g.adj, ip_comm, ← g.adj, ip_comm]
theorem RW.half (g : RW R C w T U) (x y : Nat → Rat) : ip T R (both R C w T U x) y = ip U C (dn R w U x) (dn R w U y) := by
  unfold both
  rw [ip_comm, ← g.adj, ip_comm]
theorem RW.mom (g : RW R C w T U) (e : Nat → Rat) : ∀ i j, ip T R (pw R C w T U e i) (pw R C w T U e j) = ip T R (pw R C w T U e (i + j)) e
  | i, 0 => rfl
  | i, j + 1 => by
    show ip T R _ (both R C w T U (pw R C w T U e j)) = _
    rw [← g.self]
    have := g.mom e (i + 1) j
    rw [show i + (j + 1) = i + 1 + j by omega]
    exact this
theorem RW.hm (g : RW R C w T U) (e : Nat → Rat) : HM fun k => ip T R (pw R C w T U e k) e := by
  have a0 : ∀ n p, qf (fun k => ip T R (pw R C w T U e k) e) n p = ip T R (lin p (pw R C w T U e) n) (lin p (pw R C w T U e) n) := fun n p => by
    rw [ip_lin]
    exact smQ_congr fun i _ => smQ_congr fun j _ => by rw [g.mom]
  have dl : ∀ n p c, c < C → dn R w U (lin p (pw R C w T U e) n) c = lin p (fun k => dn R w U (pw R C w T U e k)) n c := fun n p c hc => dn_lin (g.U0 c hc)
  have a1 : ∀ n p, qf (fun k => ip T R (pw R C w T U e (k + 1)) e) n p = ip U C (dn R w U (lin p (pw R C w T U e) n)) (dn R w U (lin p (pw R C w T U e) n)) := fun n p => by
    rw [ip_congr (dl n p) (dl n p), ip_lin]
    refine smQ_congr fun i _ => smQ_congr fun j _ => ?_
    dsimp only
    rw [← g.half, show i + j + 1 = i + 1 + j by omega, ← g.mom]
    rfl
  have ul : ∀ n p i, i < R → both R C w T U (lin p (pw R C w T U e) n) i = lin p (fun k => pw R C w T U e (k + 1)) n i := fun n p i hi => by
    unfold both
    have := dn_lin (R := C) (w := tr w) (U := T) (p := p) (v := fun k => dn R w U (pw R C w T U e k)) (n := n) (c := i) (g.T0 i hi)
    rw [show lin p (fun k => pw R C w T U e (k + 1)) n i = lin p (fun k => dn C (tr w) T (dn R w U (pw R C w T U e k))) n i from rfl, ← this]
    unfold dn
    congr 1
    refine smQ_congr fun c hc => ?_
    show _ * dn R w U (lin p (pw R C w T U e) n) c = _
    rw [dl n p c hc]
    rfl
  have a2 : ∀ n p, qf (fun k => ip T R (pw R C w T U e (k + 2)) e) n p = ip T R (both R C w T U (lin p (pw R C w T U e) n)) (both R C w T U (lin p (pw R C w T U e) n)) := fun n p => by
    rw [ip_congr (ul n p) (ul n p), ip_lin]
    refine smQ_congr fun i _ => smQ_congr fun j _ => ?_
    dsimp only
    rw [show i + j + 2 = i + 1 + (j + 1) by omega, ← g.mom]
  have sb : ∀ (r s : Nat → Rat) n p, qf (fun k => r k - s k) n p = qf r n p - qf s n p := fun r s n p => by
    unfold qf
    rw [← smQ_sub]
    refine smQ_congr fun i _ => ?_
    rw [← smQ_sub]
    exact smQ_congr fun j _ => by grind
  refine ⟨fun n p => ?_, fun n p => ?_, fun n p => ?_, fun n p => ?_⟩
  · rw [a0]; exact ip_self g.T0
  · rw [a1]; exact ip_self g.U0
  · rw [sb, a0, a1]
    have := g.contr (lin p (pw R C w T U e) n)
    grind
  · rw [sb, a1, a2]
    have := g.flip.contr (dn R w U (lin p (pw R C w T U e) n))
    have e : ip T R (both R C w T U (lin p (pw R C w T U e) n)) (both R C w T U (lin p (pw R C w T U e) n)) = ip T R (dn C (tr w) T (dn R w U (lin p (pw R C w T U e) n))) (dn C (tr w) T (dn R w U (lin p (pw R C w T U e) n))) := rfl
    rw [e]
    grind
end
theorem HM.congr {r s : Nat → Rat} (h : HM r) (e : ∀ k, s k = r k) : HM s := by
  rw [show s = r from funext e]; exact h
end L2.Tr

namespace L2.Tr
/-! ### lines: amounts at the nodes of a row -/
def hstep (s : Nat → Rat) (v : Nat → Rat) (k : Nat) : Rat := (if k = 0 then 0 else (1 - s (k - 1)) * v (k - 1)) + s (k + 1) * v (k + 1)
/-- amounts after h half ticks from node m -/
def fr (s : Nat → Rat) (m : Nat) : Nat → Nat → Rat
  | 0 => fun k => if k = m then 1 else 0
  | h + 1 => hstep s (fr s m h)
def rl (s : Nat → Rat) (t : Nat) : Rat := fr s 0 (2 * t) 0
section
variable {s : Nat → Rat}
def pd (s : Nat → Rat) : Nat → Rat
  | 0 => 1
  | m + 1 => pd s m * s (m + 1)
def pc (s : Nat → Rat) : Nat → Rat
  | 0 => 1
  | m + 1 => pc s m * (1 - s m)
/-! the polynomials -/
def gf (s : Nat → Rat) (i : Nat) : Rat := (1 - s (i - 1)) * s i
mutual
def pE (s : Nat → Rat) : Nat → Nat → Rat
  | 0 => fun k => if k = 0 then 1 else 0
  | j + 1 => fun k => (if k = 0 then 0 else pO s j (k - 1)) - pE s j k * gf s (2 * j + 1)
def pO (s : Nat → Rat) : Nat → Nat → Rat
  | 0 => fun k => if k = 0 then 1 else 0
  | j + 1 => fun k => (if k = 0 then 0 else pO s j (k - 1)) - pE s j k * gf s (2 * j + 1) - pO s j k * gf s (2 * j + 2)
end
end
end L2.Tr

namespace L2.Tr
/-! ### the readings of a line -/
structure LS (s : Nat → Rat) (n e : Nat) : Prop where
  h0 : s 0 = 0
  n0 : 0 < n
  mid : ∀ k, 0 < k → k < n → 0 < s k ∧ s k < 1
  en : (e = 0 ∧ s n = 0) ∨ (e = 1 ∧ s n = 1)
def gp (s : Nat → Rat) (t : Nat) : Rat := pc s t * pd s (t - 1)
section
variable {s : Nat → Rat} {n e : Nat}
/-- what is known of the reading at tick t -/
def add (s : Nat → Rat) (n t : Nat) : Rat := if t ≤ n then s t * gp s t else 0
/-! as a web -/
def nT (s : Nat → Rat) : Nat → Rat
  | 0 => 1
  | k + 1 => nT s k * (1 - s k) / s (k + 1)
def nW (s : Nat → Rat) (i c : Nat) : Rat := (if c = i + 1 then nT s i * (1 - s i) else 0) + (if c + 1 = i then nT s c * (1 - s c) else 0)
theorem LS.lt (g : LS s n e) {k : Nat} (hk : k < n + e) : 0 ≤ s k ∧ s k ≤ 1 ∧ (0 < k → 0 < s k) := by
  by_cases h : k = 0
  · subst h; rw [g.h0]; exact ⟨by decide, by decide, fun h => absurd h (Nat.lt_irrefl _)⟩
  · by_cases hn : k < n
    · have := g.mid k (by omega) hn
      exact ⟨Rat.le_of_lt this.1, Rat.le_of_lt this.2, fun _ => this.1⟩
    · rcases g.en with ⟨e0, z⟩ | ⟨e1, z⟩
      · omega
      · rw [show k = n by omega, z]; exact ⟨by decide, by decide, fun _ => by decide⟩
theorem LS.lt1 (g : LS s n e) {k : Nat} (hk : k + 1 < n + e) : s k < 1 := by
  by_cases h : k = 0
  · subst h; rw [g.h0]; decide
  · rcases g.en with ⟨e0, z⟩ | ⟨e1, z⟩
    · exact (g.mid k (by omega) (by omega)).2
    · exact (g.mid k (by omega) (by omega)).2
theorem LS.T0 (g : LS s n e) : ∀ k, k < n + e → 0 < nT s k
  | 0, _ => by show (0 : Rat) < 1; decide
  | k + 1, hk => by
    have h1 := g.T0 k (by omega)
    have h2 := g.lt1 hk
    have h3 := (g.lt hk).2.2 (by omega)
    show 0 < nT s k * (1 - s k) / s (k + 1)
    rw [Rat.div_def]
    exact Rat.mul_pos (Rat.mul_pos h1 (by grind)) (Rat.inv_pos.mpr h3)
theorem LS.Ts (g : LS s n e) {k : Nat} (hk : k + 1 < n + e) : nT s (k + 1) * s (k + 1) = nT s k * (1 - s k) := by
  have h3 := (g.lt hk).2.2 (by omega)
  show nT s k * (1 - s k) / s (k + 1) * s (k + 1) = _
  exact Rat.div_mul_cancel (by grind)
theorem smQ_at {f : Nat → Rat} {k m : Nat} : smQ (fun c => if c = k then f c else 0) m = if k < m then f k else 0 := by
  by_cases h : k < m
  · rw [if_pos h, smQ_one (k := k) h fun i _ hi => if_neg hi, if_pos rfl]
  · rw [if_neg h]; exact smQ_null fun i hi => if_neg (by omega)
theorem smQ_be {f : Nat → Rat} {k m : Nat} (hk : k < m) : smQ (fun c => if c + 1 = k then f c else 0) m = if 0 < k then f (k - 1) else 0 := by
  by_cases h : 0 < k
  · rw [if_pos h, smQ_one (k := k - 1) (by omega) fun i _ hi => if_neg (by omega), if_pos (by omega)]
  · rw [if_neg h]; exact smQ_null fun i hi => if_neg (by omega)
/-- the sum along a node's joints -/
theorem nW_sum {x : Nat → Rat} {i N : Nat} (hi : i < N) : smQ (fun c => nW s i c * x c) N = (if i + 1 < N then nT s i * (1 - s i) * x (i + 1) else 0) + (if 0 < i then nT s (i - 1) * (1 - s (i - 1)) * x (i - 1) else 0) := by
  have e : smQ (fun c => nW s i c * x c) N = smQ (fun c => if c = i + 1 then nT s i * (1 - s i) * x c else 0) N + smQ (fun c => if c + 1 = i then nT s c * (1 - s c) * x c else 0) N := by
    rw [← smQ_add]
    refine smQ_congr fun c _ => ?_
    unfold nW
    by_cases h1 : c = i + 1
    · rw [if_pos h1, if_pos h1, if_neg (by omega), if_neg (by omega)]; grind
    · rw [if_neg h1, if_neg h1]
      by_cases h2 : c + 1 = i
      · rw [if_pos h2, if_pos h2]; grind
      · rw [if_neg h2, if_neg h2]; grind
  rw [e, smQ_at, smQ_be hi]
theorem nW_symm (i c : Nat) : nW s i c = nW s c i := by
  unfold nW
  by_cases h1 : c = i + 1
  · rw [if_pos h1, if_neg (by omega), if_neg (by omega), if_pos (by omega)]; grind
  · rw [if_neg h1]
    by_cases h2 : c + 1 = i
    · rw [if_pos h2, if_pos (by omega), if_neg (by omega)]; grind
    · rw [if_neg h2, if_neg (by omega), if_neg (by omega)]
theorem LS.rw_ (g : LS s n e) : RW (n + e) (n + e) (nW s) (nT s) (nT s) := by
  have w0 : ∀ i c, i < n + e → c < n + e → 0 ≤ nW s i c := fun i c hi hc => by
    unfold nW
    have a : ∀ k, k < n + e → 0 ≤ nT s k * (1 - s k) := fun k hk => Rat.mul_nonneg (Rat.le_of_lt (g.T0 k hk)) (by have := (g.lt hk).2.1; grind)
    have b1 : 0 ≤ (if c = i + 1 then nT s i * (1 - s i) else 0) := by split; exact a i hi; exact Rat.le_refl
    have b2 : 0 ≤ (if c + 1 = i then nT s c * (1 - s c) else 0) := by split; exact a c hc; exact Rat.le_refl
    grind
  have hT : ∀ i, i < n + e → smQ (nW s i) (n + e) ≤ nT s i := fun i hi => by
    have h := nW_sum (s := s) (x := fun _ => 1) (i := i) (N := n + e) hi
    rw [show smQ (fun c => nW s i c * 1) (n + e) = smQ (nW s i) (n + e) from smQ_congr fun c _ => by grind] at h
    rw [h]
    have t0 := g.T0 i hi
    obtain ⟨s0, s1, _⟩ := g.lt hi
    have p1 : 0 ≤ nT s i * (1 - s i) := Rat.mul_nonneg (Rat.le_of_lt t0) (by grind)
    have p2 : 0 ≤ nT s i * s i := Rat.mul_nonneg (Rat.le_of_lt t0) s0
    have a1 : (if i + 1 < n + e then nT s i * (1 - s i) * 1 else 0) ≤ nT s i * (1 - s i) := by split <;> grind
    have a2 : (if 0 < i then nT s (i - 1) * (1 - s (i - 1)) * 1 else 0) ≤ nT s i * s i := by
      split
      · rename_i h
        obtain ⟨u, rfl⟩ : ∃ u, i = u + 1 := ⟨i - 1, by omega⟩
        rw [Nat.add_sub_cancel, g.Ts hi]; grind
      · exact p2
    grind
  exact ⟨w0, g.T0, g.T0, hT, fun c hc => by rw [show smQ (fun i => nW s i c) (n + e) = smQ (nW s c) (n + e) from smQ_congr fun i _ => nW_symm i c]; exact hT c hc⟩
theorem LS.none (g : LS s n e) (he : e = 1) : ∀ h k, n < k → fr s 0 h k = 0
  | 0, k, hk => if_neg (by omega)
  | h + 1, k, hk => by
    show hstep s (fr s 0 h) k = 0
    unfold hstep
    rw [if_neg (by omega), g.none he h (k + 1) (by omega)]
    by_cases hn : k - 1 = n
    · rcases g.en with ⟨e0, _⟩ | ⟨_, z⟩
      · omega
      · rw [hn, z]; grind
    · rw [g.none he h (k - 1) (by omega)]; grind
def hf (s : Nat → Rat) (N : Nat) : Nat → Nat → Rat
  | 0 => fun i => if i = 0 then 1 else 0
  | h + 1 => dn N (nW s) (nT s) (hf s N h)
theorem LS.flow (g : LS s n e) : ∀ h c, c < n + e → nT s c * hf s (n + e) h c = fr s 0 h c
  | 0, c, hc => by
    show nT s c * (if c = 0 then 1 else 0) = if c = 0 then 1 else 0
    by_cases h : c = 0
    · rw [if_pos h, h]; show (1 : Rat) * 1 = 1; rw [Rat.mul_one]
    · rw [if_neg h, Rat.mul_zero]
  | h + 1, c, hc => by
    show nT s c * dn (n + e) (nW s) (nT s) (hf s (n + e) h) c = hstep s (fr s 0 h) c
    rw [dn_mul (g.T0 c hc), smQ_congr fun i _ => by rw [nW_symm i c], nW_sum hc]
    unfold hstep
    have a1 : (if c + 1 < n + e then nT s c * (1 - s c) * hf s (n + e) h (c + 1) else 0) = s (c + 1) * fr s 0 h (c + 1) := by
      by_cases h1 : c + 1 < n + e
      · rw [if_pos h1, ← g.Ts h1, ← g.flow h (c + 1) h1]; grind
      · rw [if_neg h1]
        rcases g.en with ⟨e0, z⟩ | ⟨e1, z⟩
        · rw [show c + 1 = n by omega, z]; grind
        · rw [g.none e1 h (c + 1) (by omega)]; grind
    have a2 : (if 0 < c then nT s (c - 1) * (1 - s (c - 1)) * hf s (n + e) h (c - 1) else 0) = if c = 0 then 0 else (1 - s (c - 1)) * fr s 0 h (c - 1) := by
      by_cases h1 : 0 < c
      · rw [if_pos h1, if_neg (by omega), ← g.flow h (c - 1) (by omega)]; grind
      · rw [if_neg h1, if_pos (by omega)]
    rw [a1, a2]; grind
theorem hf_pw (N : Nat) : ∀ k, hf s N (2 * k) = pw N N (nW s) (nT s) (nT s) (fun i => if i = 0 then 1 else 0) k
  | 0 => rfl
  | k + 1 => by
    show dn N (nW s) (nT s) (dn N (nW s) (nT s) (hf s N (2 * k))) = both N N (nW s) (nT s) (nT s) (pw N N (nW s) (nT s) (nT s) _ k)
    rw [hf_pw N k]
    unfold both
    rw [show tr (nW s) = nW s from funext fun i => funext fun c => nW_symm c i]
theorem LS.ip0 (g : LS s n e) (x : Nat → Rat) : ip (nT s) (n + e) x (fun i => if i = 0 then 1 else 0) = x 0 := by
  unfold ip
  rw [smQ_one (k := 0) (by have := g.n0; omega) fun i _ hi => by dsimp only; rw [if_neg hi, Rat.mul_zero]]
  show (1 : Rat) * x 0 * 1 = x 0
  grind
theorem LS.rl_pw (g : LS s n e) (t : Nat) : rl s t = ip (nT s) (n + e) (pw (n + e) (n + e) (nW s) (nT s) (nT s) (fun i => if i = 0 then 1 else 0) t) (fun i => if i = 0 then 1 else 0) := by
  rw [g.ip0, ← hf_pw]
  have := g.flow (2 * t) 0 (by have := g.n0; omega)
  unfold rl
  rw [← this]
  show (1 : Rat) * _ = _
  grind
theorem LS.hm (g : LS s n e) : HM (rl s) := (g.rw_.hm (fun i => if i = 0 then 1 else 0)).congr fun k => g.rl_pw k
/-! the limit of a line with the end 1 -/
def evn (i : Nat) : Rat := if i % 2 = 0 then 1 else 0
theorem LS.still (g : LS s n e) (he : e = 1) : ∀ c, c < n + e → dn (n + e) (nW s) (nT s) evn c = evn (c + 1) ∧ dn (n + e) (nW s) (nT s) (fun i => evn (i + 1)) c = evn c := by
  have key : ∀ (x : Nat → Rat) (y : Rat) c, c < n + e → (∀ i, i + 1 = c ∨ i = c + 1 → x i = y) → dn (n + e) (nW s) (nT s) x c = y := fun x y c hc hx => by
    have h := dn_mul (R := n + e) (w := nW s) (U := nT s) (x := x) (c := c) (g.T0 c hc)
    rw [smQ_congr fun i _ => by rw [nW_symm i c], nW_sum hc] at h
    have t0 := g.T0 c hc
    have e1 : (if c + 1 < n + e then nT s c * (1 - s c) * x (c + 1) else 0) = nT s c * (1 - s c) * y := by
      by_cases h1 : c + 1 < n + e
      · rw [if_pos h1, hx (c + 1) (.inr rfl)]
      · rw [if_neg h1]
        rcases g.en with ⟨e0, z⟩ | ⟨_, z⟩
        · omega
        · rw [show c = n by omega, z]; grind
    have e2 : (if 0 < c then nT s (c - 1) * (1 - s (c - 1)) * x (c - 1) else 0) = nT s c * s c * y := by
      by_cases h1 : 0 < c
      · obtain ⟨u, rfl⟩ : ∃ u, c = u + 1 := ⟨c - 1, by omega⟩
        rw [if_pos h1, Nat.add_sub_cancel, hx u (.inl rfl), g.Ts hc]
      · rw [if_neg h1, show c = 0 by omega, g.h0]; grind
    rw [e1, e2] at h
    have h2 : nT s c * (dn (n + e) (nW s) (nT s) x c - y) = 0 := by grind
    rcases Rat.mul_eq_zero.mp h2 with z | z
    · grind
    · grind
  intro c hc
  have ev2 : ∀ i, evn (i + 2) = evn i := fun i => by unfold evn; rw [Nat.add_mod_right]
  refine ⟨key _ _ c hc fun i hi => ?_, key _ _ c hc fun i hi => ?_⟩
  · rcases hi with rfl | rfl
    · rw [show i + 1 + 1 = i + 2 by omega, ev2]
    · rfl
  · rcases hi with rfl | rfl
    · rfl
    · rw [show c + 1 + 1 = c + 2 by omega, ev2]
def lsum (s : Nat → Rat) (N : Nat) : Rat := smQ (fun i => nT s i * evn i) N
theorem evn_sq (i : Nat) : evn i * evn i = evn i := by unfold evn; split <;> grind
theorem LS.lsum_pos (g : LS s n e) : 0 < lsum s (n + e) := by
  have h := smQ_ge (f := fun i => nT s i * evn i) (n := n + e) (k := 0) (by have := g.n0; omega) fun i hi => Rat.mul_nonneg (Rat.le_of_lt (g.T0 i hi)) (by unfold evn; split <;> decide)
  have e : nT s 0 * evn 0 = 1 := by show (1 : Rat) * (if 0 % 2 = 0 then 1 else 0) = 1; rw [if_pos rfl, Rat.mul_one]
  rw [e] at h
  unfold lsum
  grind
theorem LS.above (g : LS s n e) (he : e = 1) (t : Nat) : 1 / lsum s (n + e) ≤ rl s t := by
  have down : ∀ a b, rl s (a + b) ≤ rl s a := fun a b => by
    induction b with
    | zero => exact Rat.le_refl
    | succ b ih => have := g.hm.diff.pos (a + b); show rl s (a + b + 1) ≤ _; grind
  refine Rat.le_trans ?_ (down t t)
  have hr := g.rw_
  have S0 := g.lsum_pos
  have hS : ip (nT s) (n + e) evn evn = lsum s (n + e) := smQ_congr fun i _ => by rw [Rat.mul_assoc, evn_sq]
  have st : ∀ x, ip (nT s) (n + e) (both (n + e) (n + e) (nW s) (nT s) (nT s) x) evn = ip (nT s) (n + e) x evn := fun x => by
    rw [hr.self]
    refine ip_congr (fun _ _ => rfl) fun i hi => ?_
    unfold both
    rw [show tr (nW s) = nW s from funext fun i => funext fun c => nW_symm c i]
    have e1 : ∀ c, c < n + e → dn (n + e) (nW s) (nT s) evn c = evn (c + 1) := fun c hc => (g.still he c hc).1
    have e2 : dn (n + e) (nW s) (nT s) (dn (n + e) (nW s) (nT s) evn) i = dn (n + e) (nW s) (nT s) (fun c => evn (c + 1)) i := by
      unfold dn
      congr 1
      refine smQ_congr fun c hc => ?_
      have := e1 c hc
      unfold dn at this
      rw [this]
    rw [e2, (g.still he i hi).2]
  have hx : ∀ k, ip (nT s) (n + e) (pw (n + e) (n + e) (nW s) (nT s) (nT s) (fun i => if i = 0 then 1 else 0) k) evn = 1 := fun k => by
    induction k with
    | zero =>
      show ip (nT s) (n + e) (fun i => if i = 0 then 1 else 0) evn = 1
      rw [ip_comm, g.ip0]; rfl
    | succ k ih => exact (st _).trans ih
  have hm := hr.mom (fun i => if i = 0 then 1 else 0) t t
  rw [← g.rl_pw (t + t)] at hm
  have hb := hx t
  generalize pw (n + e) (n + e) (nW s) (nT s) (nT s) (fun i => if i = 0 then 1 else 0) t = x at *
  have h1 := ip_self (T := nT s) (n := n + e) (x := fun i => x i - (1 / lsum s (n + e)) * evn i) g.T0
  have e1 : ∀ c : Rat, ip (nT s) (n + e) (fun i => x i - c * evn i) (fun i => x i - c * evn i) = ip (nT s) (n + e) x x - 2 * c * ip (nT s) (n + e) x evn + c * c * ip (nT s) (n + e) evn evn := fun c => by
    unfold ip
    rw [← smQ_mul, ← smQ_mul, ← smQ_sub, ← smQ_add]
    exact smQ_congr fun i _ => by grind
  rw [e1, hb, hS, hm] at h1
  generalize lsum s (n + e) = S at *
  have : 1 / S * S = 1 := Rat.div_mul_cancel (by grind)
  have h2 : 1 / S * (1 / S) * S = 1 / S := by rw [Rat.mul_assoc, this, Rat.mul_one]
  rw [h2] at h1
  grind
end
end L2.Tr

namespace L2.Tr
/-! ### sizes: a denominator and a bound of the value -/
def Fx (D M : Nat) (q : Rat) : Prop := DB D (M * D) q
section
variable {D E M N : Nat} {x y : Rat}
theorem Fx.add (h : Fx D M x) (k : Fx D N y) : Fx D (M + N) (x + y) := by
  have := DB.add h k
  unfold Fx; rwa [Nat.add_mul]
theorem Fx.sub (h : Fx D M x) (k : Fx D N y) : Fx D (M + N) (x - y) := by
  have := DB.sub h k
  unfold Fx; rwa [Nat.add_mul]
theorem Fx.neg (h : Fx D M x) : Fx D M (-x) := DB.neg h
theorem Fx.mul (h : Fx D M x) (k : Fx E N y) : Fx (D * E) (M * N) (x * y) := by
  have := DB.mul h k
  unfold Fx
  rwa [show M * N * (D * E) = M * D * (N * E) by grind]
theorem Fx.pos (h : Fx D M x) : 0 < D := h.1
theorem Fx.up (h : Fx D M x) (hd : D ∣ E) (hE : 0 < E) : Fx E M x := by
  have := DB.dvd h hd hE
  unfold Fx
  rwa [Nat.mul_assoc, Nat.mul_div_cancel' hd] at this
theorem Fx.mono (h : Fx D M x) (hM : M ≤ N) : Fx D N x := DB.mono h (Nat.mul_le_mul_right D hM)
theorem Fx.zero (h : 0 < D) : Fx D M 0 := DB.zero h _
theorem Fx.one (h : 0 < D) : Fx D 1 1 := (show Fx 1 1 1 from DB.one).up (Nat.one_dvd D) h
theorem Fx.fits {a b : Nat} (h : Fx D M x) (hD : D ≤ 2 ^ a) (hM : M ≤ 2 ^ b) (hab : a + b ≤ 4000) : fits x :=
  DB.fits h (Nat.le_trans hD (Nat.pow_le_pow_right (by decide) (by omega))) (Nat.le_trans (Nat.mul_le_mul hM hD) (by rw [← Nat.pow_add]; exact Nat.pow_le_pow_right (by decide) (by omega)))
theorem Fx.sz {a b : Nat} (h : Fx D M x) (hD : D ≤ 2 ^ a) (hM : M ≤ 2 ^ b) : Sz (a + b) x := by
  obtain ⟨h0, z, e, hz⟩ := h
  rw [e]
  refine sz_divInt (Nat.le_trans hz (Nat.le_trans (Nat.mul_le_mul hM hD) (by rw [← Nat.pow_add, Nat.add_comm]; exact Nat.le_refl _))) ?_
  rw [Int.natAbs_natCast]
  exact Nat.le_trans hD (Nat.pow_le_pow_right (by decide) (by omega))
theorem Fx.sum {f : Nat → Rat} (h0 : 0 < D) : ∀ {n : Nat}, (∀ i, i < n → Fx D M (f i)) → Fx D (n * M) (smQ f n)
  | 0, _ => by rw [Nat.zero_mul]; exact Fx.zero h0
  | n + 1, h => by
    rw [smQ_succ, Nat.succ_mul]
    exact (Fx.sum h0 fun i hi => h i (by omega)).add (h n (by omega))
end
section
variable {s : Nat → Rat} {Λ : Nat}
end
theorem vec_getD {n k : Nat} {f : Nat → Rat} : (vec n f).getD k 0 = if k < n then f k else 0 := by
  rw [List.getD_eq_getElem?_getD]
  split
  · rename_i h; rw [vec_get h]; rfl
  · rename_i h; rw [vec_none (by omega)]; rfl
theorem qAddq {x y : Rat} (hx : fits x) (hy : fits y) : qAdd x (.q y) = .ok (x + y) := qAdd_ok (y := .q y) hx hy
theorem fits_1 : fits (1 : Rat) := ⟨by decide, by decide⟩
theorem fits_0 : fits (0 : Rat) := ⟨by decide, by decide⟩
theorem num_qd (q : Rat) : ((q.num : Int) : Rat) = q * ((q.den : Int) : Rat) := by
  have e := Rat.num_divInt_den q
  rw [Rat.divInt_eq_div] at e
  have h : ((q.den : Int) : Rat) ≠ 0 := by have := q.den_nz; exact_mod_cast this
  have h2 : (q.num : Rat) / ((q.den : Int) : Rat) * ((q.den : Int) : Rat) = (q.num : Rat) := Rat.div_mul_cancel h
  rw [e] at h2
  exact h2.symm
theorem den_q (q : Rat) : (0 : Rat) < ((q.den : Int) : Rat) := by
  have := q.den_pos
  have h : (0 : Int) < (q.den : Int) := by omega
  exact_mod_cast h
/-- a fraction against a pair -/
theorem cross_iff {q : Rat} {a b : Int} (hb : 0 < b) : q.num * b = a * (q.den : Int) ↔ q = (a : Rat) / (b : Rat) := by
  have h1 := num_qd q
  have h2 := den_q q
  have h3 : (0 : Rat) < (b : Rat) := by exact_mod_cast hb
  have key : q.num * b = a * (q.den : Int) ↔ ((q.num : Int) : Rat) * (b : Rat) = (a : Rat) * ((q.den : Int) : Rat) := by
    constructor
    · intro h; rw [← Rat.intCast_mul, ← Rat.intCast_mul, h]
    · intro h; rw [← Rat.intCast_mul, ← Rat.intCast_mul] at h; exact_mod_cast h
  rw [key, h1]
  constructor
  · intro h
    have : (q * (b : Rat) - (a : Rat)) * ((q.den : Int) : Rat) = 0 := by grind
    rcases Rat.mul_eq_zero.mp this with z | z
    · have e : q * (b : Rat) = (a : Rat) := by grind
      rw [← e]; grind
    · grind
  · intro h
    have e : (a : Rat) / (b : Rat) * (b : Rat) = (a : Rat) := Rat.div_mul_cancel (by grind)
    rw [← h] at e
    rw [← e]; grind
end L2.Tr

namespace L2.Tr
open PySem PySem.Spec PyProof.Rows
def top (i : Nat) : Stmt := PySem.Challenge.pw_tracerline_k79_delay_rows.main.body.getD i (.Pass ⟨0, 0, 0, 0⟩)
abbrev s_law_tape : Stmt := top 18
abbrev s_law_pick : Stmt := top 19
abbrev s_common_divisor : Stmt := top 9
abbrev s_Fraction_init : Stmt := inClass (top 10) 0
abbrev s_law_tops : Stmt := top 26
abbrev s_law_raised : Stmt := top 22
abbrev s_law_again : Stmt := top 25
abbrev s_law_over_powers : Stmt := top 23
abbrev s_as_fraction : Stmt := top 11
abbrev s_Fraction_eq : Stmt := inClass (top 10) 10
abbrev s_Fraction_add : Stmt := inClass (top 10) 1
abbrev s_Fraction_lt : Stmt := inClass (top 10) 11
abbrev s_Fraction_gt : Stmt := inClass (top 10) 13
abbrev s_NoWeb_init : Stmt := inClass (top 7) 0
abbrev s_check_returns : Stmt := top 15
abbrev s_BadWeb_init : Stmt := inClass (top 6) 0
abbrev s_total_of : Stmt := top 13
abbrev s_OneWay_init : Stmt := inClass (top 14) 0
abbrev s_delay_row : Stmt := top 16
abbrev s_OneWay_table : Stmt := inClass (top 14) 1
abbrev s_law_is : Stmt := top 20
abbrev s_law_described : Stmt := top 27
abbrev s_BadTick_init : Stmt := inClass (top 5) 0
abbrev s_Fraction_mul : Stmt := inClass (top 10) 5
abbrev s_OneWay_readings : Stmt := inClass (top 14) 2
abbrev s_law_due : Stmt := top 29
abbrev s_law_outcome : Stmt := top 28
abbrev s_law : Stmt := top 30
structure O_OneWay where
  f_rows : (List (List Rat))
  f_rooms : Int
abbrev gs_OneWay (K : PySem.W.Frag) : O_OneWay → List (Str × SF) := fun x => [("rows", SF.mk (rL (rL (rFrac K))) x.f_rows), ("rooms", SF.mk rInt x.f_rooms)]
abbrev r_OneWay (K : PySem.W.Frag) : Rp O_OneWay := rIns (He.ga K "OneWay") (gs_OneWay K)
theorem fl_OneWay_rows (K : PySem.W.Frag) : ∀ x, (gs_OneWay K x).lookup ("rows" : Str) = some (SF.mk (rL (rL (rFrac K))) x.f_rows) := fun _ => rfl
theorem fl_OneWay_rooms (K : PySem.W.Frag) : ∀ x, (gs_OneWay K x).lookup ("rooms" : Str) = some (SF.mk rInt x.f_rooms) := fun _ => rfl
structure Txt (w : World) (K : PySem.W.Frag) (mg : Str → Option Value) : Prop where
  g_law_tape : mg "_law_tape" = some (.ref (He.ga K "_law_tape"))
  k_law_tape : PySem.W.keepIn K (.ref (He.ga K "_law_tape")) = true
  g_law_pick : mg "_law_pick" = some (.ref (He.ga K "_law_pick"))
  k_law_pick : PySem.W.keepIn K (.ref (He.ga K "_law_pick")) = true
  g_Fraction : mg "Fraction" = some (.ref (He.ga K "Fraction"))
  mk_Fraction : Mk K (He.ga K "Fraction") (He.ma K (He.ga K "Fraction") "__init__")
  g_law_tops : mg "_law_tops" = some (.ref (He.ga K "_law_tops"))
  k_law_tops : PySem.W.keepIn K (.ref (He.ga K "_law_tops")) = true
  g_law_raised : mg "_law_raised" = some (.ref (He.ga K "_law_raised"))
  k_law_raised : PySem.W.keepIn K (.ref (He.ga K "_law_raised")) = true
  g_law_again : mg "_law_again" = some (.ref (He.ga K "_law_again"))
  k_law_again : PySem.W.keepIn K (.ref (He.ga K "_law_again")) = true
  g_law_over_powers : mg "_law_over_powers" = some (.ref (He.ga K "_law_over_powers"))
  k_law_over_powers : PySem.W.keepIn K (.ref (He.ga K "_law_over_powers")) = true
  n_range : mg "range" = none
  g_delay_row : mg "delay_row" = some (.ref (He.ga K "delay_row"))
  k_delay_row : PySem.W.keepIn K (.ref (He.ga K "delay_row")) = true
  g_law_described : mg "_law_described" = some (.ref (He.ga K "_law_described"))
  k_law_described : PySem.W.keepIn K (.ref (He.ga K "_law_described")) = true
  o_OneWay : OCls K (He.ga K "OneWay")
  me_OneWay_readings : Meth K (He.ga K "OneWay") "readings" (He.ma K (He.ga K "OneWay") "readings")
  n_list : mg "list" = none
  n_isinstance : mg "isinstance" = none
  n_len : mg "len" = none
  g_law_is : mg "_law_is" = some (.ref (He.ga K "_law_is"))
  k_law_is : PySem.W.keepIn K (.ref (He.ga K "_law_is")) = true
  o_Fraction : OCls K (He.ga K "Fraction")
  nf_Fraction : PySem.W.notFirst K (He.ga K "Fraction") (.ref (He.ga K "Fraction")) = true ∧ PySem.W.notFirst K (He.ga K "Fraction") (.type "int") = true
  om_Fraction_eq : OMet K (He.ga K "Fraction") "__eq__" (He.ma K (He.ga K "Fraction") "__eq__")
  g_law_due : mg "_law_due" = some (.ref (He.ga K "_law_due"))
  k_law_due : PySem.W.keepIn K (.ref (He.ga K "_law_due")) = true
  g_law_outcome : mg "_law_outcome" = some (.ref (He.ga K "_law_outcome"))
  k_law_outcome : PySem.W.keepIn K (.ref (He.ga K "_law_outcome")) = true
  n_abs : mg "abs" = none
  F_law_tape : ∃ fd, FunD K "_law_tape" "_law_tape" (defArgs s_law_tape) (defBody s_law_tape) (defScope s_law_tape) [] [] (He.ga K "_law_tape") fd
  n_int : mg "int" = none
  F_law_pick : ∃ fd, FunD K "_law_pick" "_law_pick" (defArgs s_law_pick) (defBody s_law_pick) (defScope s_law_pick) [] [] (He.ga K "_law_pick") fd
  F_common_divisor : ∃ fd, FunD K "common_divisor" "common_divisor" (defArgs s_common_divisor) (defBody s_common_divisor) (defScope s_common_divisor) [] [] (He.ga K "common_divisor") fd
  F_law_tops : ∃ fd, FunD K "_law_tops" "_law_tops" (defArgs s_law_tops) (defBody s_law_tops) (defScope s_law_tops) [] [] (He.ga K "_law_tops") fd
  F_law_raised : ∃ fd, FunD K "_law_raised" "_law_raised" (defArgs s_law_raised) (defBody s_law_raised) (defScope s_law_raised) [] [] (He.ga K "_law_raised") fd
  n_sum : mg "sum" = none
  F_law_again : ∃ fd, FunD K "_law_again" "_law_again" (defArgs s_law_again) (defBody s_law_again) (defScope s_law_again) [] [] (He.ga K "_law_again") fd
  F_law_over_powers : ∃ fd, FunD K "_law_over_powers" "_law_over_powers" (defArgs s_law_over_powers) (defBody s_law_over_powers) (defScope s_law_over_powers) [] [] (He.ga K "_law_over_powers") fd
  g_as_fraction : mg "as_fraction" = some (.ref (He.ga K "as_fraction"))
  k_as_fraction : PySem.W.keepIn K (.ref (He.ga K "as_fraction")) = true
  ex_BadReadings : ExcP K mg "BadReadings"
  g_check_returns : mg "check_returns" = some (.ref (He.ga K "check_returns"))
  k_check_returns : PySem.W.keepIn K (.ref (He.ga K "check_returns")) = true
  n_max : mg "max" = none
  g_OneWay : mg "OneWay" = some (.ref (He.ga K "OneWay"))
  mk_OneWay : Mk K (He.ga K "OneWay") (He.ma K (He.ga K "OneWay") "__init__")
  kI_int_Fraction : PySem.W.kitOne K (.type "int") (.ref (He.ga K "Fraction")) = some false
  kt_Fraction_Fraction : PySem.W.kitOne K (.ref (He.ga K "Fraction")) (.ref (He.ga K "Fraction")) = some true
  F_as_fraction : ∃ fd, FunD K "as_fraction" "as_fraction" (defArgs s_as_fraction) (defBody s_as_fraction) (defScope s_as_fraction) [] [] (He.ga K "as_fraction") fd
  na_Fraction_bottom : NoAttr K (He.ga K "Fraction") "bottom"
  na_Fraction_top : NoAttr K (He.ga K "Fraction") "top"
  kT_Fraction_int : PySem.W.kitOne K (.ref (He.ga K "Fraction")) (.type "int") = some false
  F_Fraction_eq : ∃ fd, FunD K "__eq__" "Fraction.__eq__" (defArgs s_Fraction_eq) (defBody s_Fraction_eq) (defScope s_Fraction_eq) [] [] (He.ma K (He.ga K "Fraction") "__eq__") fd
  om_Fraction_add : OMet K (He.ga K "Fraction") "__add__" (He.ma K (He.ga K "Fraction") "__add__")
  om_Fraction_radd : OMet K (He.ga K "Fraction") "__radd__" (He.ma K (He.ga K "Fraction") "__radd__")
  im_add : ∃ fo, PySem.W.findIn K (.type "int") "__add__" = some fo
  im_radd : ∃ fo, PySem.W.findIn K (.type "int") "__radd__" = some fo
  om_Fraction_lt : OMet K (He.ga K "Fraction") "__lt__" (He.ma K (He.ga K "Fraction") "__lt__")
  om_Fraction_gt : OMet K (He.ga K "Fraction") "__gt__" (He.ma K (He.ga K "Fraction") "__gt__")
  F_Fraction_add : ∃ fd, FunD K "__add__" "Fraction.__add__" (defArgs s_Fraction_add) (defBody s_Fraction_add) (defScope s_Fraction_add) [] [] (He.ma K (He.ga K "Fraction") "__add__") fd
  F_Fraction_lt : ∃ fd, FunD K "__lt__" "Fraction.__lt__" (defArgs s_Fraction_lt) (defBody s_Fraction_lt) (defScope s_Fraction_lt) [] [] (He.ma K (He.ga K "Fraction") "__lt__") fd
  F_Fraction_gt : ∃ fd, FunD K "__gt__" "Fraction.__gt__" (defArgs s_Fraction_gt) (defBody s_Fraction_gt) (defScope s_Fraction_gt) [] [] (He.ma K (He.ga K "Fraction") "__gt__") fd
  F_NoWeb_init : ∃ fd, FunD K "__init__" "NoWeb.__init__" (defArgs s_NoWeb_init) (defBody s_NoWeb_init) (defScope s_NoWeb_init) [] [] (He.ma K (He.ga K "NoWeb") "__init__") fd
  ev_NoWeb : ExcV K mg "NoWeb" ["tick"]
  F_check_returns : ∃ fd, FunD K "check_returns" "check_returns" (defArgs s_check_returns) (defBody s_check_returns) (defScope s_check_returns) [] [] (He.ga K "check_returns") fd
  n_any : mg "any" = none
  g_total_of : mg "total_of" = some (.ref (He.ga K "total_of"))
  k_total_of : PySem.W.keepIn K (.ref (He.ga K "total_of")) = true
  na_OneWay_rows : NoAttr K (He.ga K "OneWay") "rows"
  na_OneWay_rooms : NoAttr K (He.ga K "OneWay") "rooms"
  F_BadWeb_init : ∃ fd, FunD K "__init__" "BadWeb.__init__" (defArgs s_BadWeb_init) (defBody s_BadWeb_init) (defScope s_BadWeb_init) [] [] (He.ma K (He.ga K "BadWeb") "__init__") fd
  ev_BadWeb : ExcV K mg "BadWeb" ["reason"]
  F_total_of : ∃ fd, FunD K "total_of" "total_of" (defArgs s_total_of) (defBody s_total_of) (defScope s_total_of) [] [] (He.ga K "total_of") fd
  F_OneWay_init : ∃ fd, FunD K "__init__" "OneWay.__init__" (defArgs s_OneWay_init) (defBody s_OneWay_init) (defScope s_OneWay_init) [] [] (He.ma K (He.ga K "OneWay") "__init__") fd
  F_delay_row : ∃ fd, FunD K "delay_row" "delay_row" (defArgs s_delay_row) (defBody s_delay_row) (defScope s_delay_row) [] [] (He.ga K "delay_row") fd
  kt_OneWay_OneWay : PySem.W.kitOne K (.ref (He.ga K "OneWay")) (.ref (He.ga K "OneWay")) = some true
  me_OneWay_table : Meth K (He.ga K "OneWay") "table" (He.ma K (He.ga K "OneWay") "table")
  F_OneWay_table : ∃ fd, FunD K "table" "OneWay.table" (defArgs s_OneWay_table) (defBody s_OneWay_table) (defScope s_OneWay_table) [] [] (He.ma K (He.ga K "OneWay") "table") fd
  n_bool : mg "bool" = none
  F_law_is : ∃ fd, FunD K "_law_is" "_law_is" (defArgs s_law_is) (defBody s_law_is) (defScope s_law_is) [] [] (He.ga K "_law_is") fd
  F_law_described : ∃ fd, FunD K "_law_described" "_law_described" (defArgs s_law_described) (defBody s_law_described) (defScope s_law_described) [] [] (He.ga K "_law_described") fd
  om_Fraction_mul : OMet K (He.ga K "Fraction") "__mul__" (He.ma K (He.ga K "Fraction") "__mul__")
  F_BadTick_init : ∃ fd, FunD K "__init__" "BadTick.__init__" (defArgs s_BadTick_init) (defBody s_BadTick_init) (defScope s_BadTick_init) [] [] (He.ma K (He.ga K "BadTick") "__init__") fd
  ev_BadTick : ExcV K mg "BadTick" ["tick"]
  F_Fraction_mul : ∃ fd, FunD K "__mul__" "Fraction.__mul__" (defArgs s_Fraction_mul) (defBody s_Fraction_mul) (defScope s_Fraction_mul) [] [] (He.ma K (He.ga K "Fraction") "__mul__") fd
  F_OneWay_readings : ∃ fd, FunD K "readings" "OneWay.readings" (defArgs s_OneWay_readings) (defBody s_OneWay_readings) (defScope s_OneWay_readings) [] [] (He.ma K (He.ga K "OneWay") "readings") fd
  F_law_due : ∃ fd, FunD K "_law_due" "_law_due" (defArgs s_law_due) (defBody s_law_due) (defScope s_law_due) [] [] (He.ga K "_law_due") fd
  xm_NoWeb_NoWeb : PySem.W.exmOne K (.ref (He.ga K "NoWeb")) (.ref (He.ga K "NoWeb")) = some true
  xm_BadReadings_NoWeb : PySem.W.exmOne K (.ref (He.ga K "BadReadings")) (.ref (He.ga K "NoWeb")) = some false
  g_NoWeb : mg "NoWeb" = some (.ref (He.ga K "NoWeb"))
  g_TracerError : mg "TracerError" = some (.ref (He.ga K "TracerError"))
  kt_NoWeb_TracerError : PySem.W.kitOne K (.ref (He.ga K "NoWeb")) (.ref (He.ga K "TracerError")) = some true
  xc_NoWeb : ExcC K (He.ga K "NoWeb")
  n_ValueError : mg "ValueError" = none
  kT_NoWeb_ValueError : PySem.W.kitOne K (.ref (He.ga K "NoWeb")) (.type "ValueError") = some true
  g_BadReadings : mg "BadReadings" = some (.ref (He.ga K "BadReadings"))
  kt_NoWeb_BadReadings : PySem.W.kitOne K (.ref (He.ga K "NoWeb")) (.ref (He.ga K "BadReadings")) = some false
  xm_BadReadings_BadReadings : PySem.W.exmOne K (.ref (He.ga K "BadReadings")) (.ref (He.ga K "BadReadings")) = some true
  kt_BadReadings_TracerError : PySem.W.kitOne K (.ref (He.ga K "BadReadings")) (.ref (He.ga K "TracerError")) = some true
  xc_BadReadings : ExcC K (He.ga K "BadReadings")
  kT_BadReadings_ValueError : PySem.W.kitOne K (.ref (He.ga K "BadReadings")) (.type "ValueError") = some true
  F_law_outcome : ∃ fd, FunD K "_law_outcome" "_law_outcome" (defArgs s_law_outcome) (defBody s_law_outcome) (defScope s_law_outcome) [] [] (He.ga K "_law_outcome") fd
  F_law : ∃ fd, FunD K "law" "law" (defArgs s_law) (defBody s_law) (defScope s_law) [] [] (He.ga K "law") fd
  g_law : mg "law" = some (.ref (He.ga K "law"))
  F_Fraction_init : ∃ fd, FunD K "__init__" "Fraction.__init__" (defArgs s_Fraction_init) (defBody s_Fraction_init) (defScope s_Fraction_init) [.int 1] [] (He.ma K (He.ga K "Fraction") "__init__") fd
  ex_BadFraction : ExcP K mg "BadFraction"
  g_common_divisor : mg "common_divisor" = some (.ref (He.ga K "common_divisor"))
  k_common_divisor : PySem.W.keepIn K (.ref (He.ga K "common_divisor")) = true
theorem sc_law_tape : FnScope ["_law_script", "_law_k", "_law_cell"] ["_law_script", "_law_k"] (defScope s_law_tape) := ⟨rfl, rfl, rfl, by decide +kernel, rfl, by decide +kernel, by decide +kernel⟩
def m_law_tape (p_law_script : (List Int)) (p_law_k : Int) : Res (List Int) :=
  ((Res.ok (0 : Int)).bind fun v_law_cell_517 => ((((Res.ok p_law_k).bind fun a521 => (((Res.ok p_law_script).bind fun a519 => (Res.ok ()).bind fun b520 => .ok (a519, b520)).bind (fun d => .ok (d.1.length : Int))).bind fun b522 => .ok (decide (a521 < b522))).bind fun x527 => if x527 = true then (((Res.ok p_law_script).bind fun a524 => (Res.ok p_law_k).bind fun b525 => atM a524 b525).bind fun v_law_cell_523 => (Res.ok v_law_cell_523)) else (Res.ok v_law_cell_517)).bind fun s526 => ((((Res.ok s526).bind fun a528 => (Res.ok ()).bind fun b529 => .ok (a528, b529)).bind (fun d => .ok (if d.1 < 0 then -d.1 else d.1))).bind fun a545 => (((Res.ok (104729 : Int)).bind fun a532 => ((Res.ok (7919 : Int)).bind fun a530 => (Res.ok p_law_k).bind fun b531 => mulI a530 b531).bind fun b533 => .ok (a532 + b533)).bind fun a542 => (((Res.ok (15485863 : Int)).bind fun a536 => ((Res.ok (1299709 : Int)).bind fun a534 => (Res.ok p_law_k).bind fun b535 => mulI a534 b535).bind fun b537 => .ok (a536 + b537)).bind fun a539 => (Res.ok []).bind fun b540 => .ok (a539 :: b540)).bind fun b543 => .ok (a542 :: b543)).bind fun b546 => .ok (a545 :: b546))))
abbrev C_law_tape (P : Program) (w : World) (K : PySem.W.Frag) (mg : Str → Option Value) (base : Heap) : Prop := FnR P w K mg base (L2N.CX P w) 1 (He.ga K "_law_tape") (spN K (aCons (rdL K (rp rInt)) (aCons (rp rInt) aNil)) (fun d => m_law_tape d.1 d.2.1) rInt)
theorem ok_law_tape {P : Program} {w : World} {K : PySem.W.Frag} {mg : Str → Option Value} {base : Heap} (T : Txt w K mg) {fd : FuncData} (F : FunD K "_law_tape" "_law_tape" (defArgs s_law_tape) (defBody s_law_tape) (defScope s_law_tape) [] [] (He.ga K "_law_tape") fd) : FnOk P w K mg base (L2N.CX P w) 1 (He.ga K "_law_tape") fd ["_law_script", "_law_k"] (spN K (aCons (rdL K (rp rInt)) (aCons (rp rInt) aNil)) (fun d => m_law_tape d.1 d.2.1) rInt) := by
  refine FunD.fnN (k := 0) (N := ["_law_script", "_law_k", "_law_cell"]) (ps := ["_law_script", "_law_k"]) F sc_law_tape (fun I H vs d h => ?_) (fun cdv A outer s I0 H0 E vs d hr sm h => ?_)
  · obtain ⟨v0, _, rfl, h0, v1, _, rfl, h1, rfl⟩ := h; rfl
  obtain ⟨v0, _, rfl, h0, v1, _, rfl, h1, rfl⟩ := h
  have hx : ∀ {ctx : List (Option SF)} {mem : List MF} (I H : Hp) (σ : St) (d : Option Addr), Stt I0 H0 ctx mem I H σ → Fr H0 d → bK I0 H0 I H σ d := fun _ _ _ _ s f => ⟨s.fm, f⟩
  have tk : L2N.Takes (bx P w K mg base ["_law_script", "_law_k", "_law_cell"] "_law_tape" (defScope s_law_tape) (He.ga K "_law_tape") cdv A outer s H0 E) (bW E) := L2N.takes_of rfl rfl rfl rfl
  obtain ⟨p_law_script, p_law_k, _⟩ := d
  exact ⟨Stt I0 H0 [some (SF.mk (fun I v x => (rdL K (rp rInt)) I H0 v x) p_law_script), some (SF.mk rInt p_law_k), none] [], Stt.start sm ⟨h0, h1, ini_nil rfl⟩ rfl (by simp), (JR.seq (J1.cx (c' := fun v_law_cell_517 => [some (SF.mk (fun I v x => (rdL K (rp rInt)) I H0 v x) p_law_script), some (SF.mk rInt p_law_k), some (SF.mk rInt v_law_cell_517)]) (J1.set 2 JE.int hx sc_law_tape.nd)) fun v_law_cell_517 => (JR.seq (J1.if (S := Int) (G' := fun s526 => Stt I0 H0 [some (SF.mk (fun I v x => (rdL K (rp rInt)) I H0 v x) p_law_script), some (SF.mk rInt p_law_k), some (SF.mk rInt s526)] []) (JT.cmp (JE.var 1) (JE.callB (JA.cons (JE.varP 0 (r := (rdL K (rp rInt)))) JA.nil) cj_len T.n_len boot_len) opj_lt) (JN.seq (J1.cx (c' := fun v_law_cell_523 => [some (SF.mk (fun I v x => (rdL K (rp rInt)) I H0 v x) p_law_script), some (SF.mk rInt p_law_k), some (SF.mk rInt v_law_cell_523)]) (J1.set 2 (JE.ix (JE.varP 0 (r := (rdL K (rp rInt)))) (JE.var 1)) hx sc_law_tape.nd)) fun v_law_cell_523 => (JN.nil (fun _ _ _ h => h))) (JN.nil (fun _ _ _ h => h)) hx) fun s526 => (JR.retM (JM.lst (r := rInt) (JA.consL (JE.callB (JA.cons (JE.var 2) JA.nil) cj_abs T.n_abs boot_abs) (JA.consL (JE.bin JE.int (JE.bin JE.int (JE.var 1) opj_mul) opj_add) (JA.consL (JE.bin JE.int (JE.bin JE.int (JE.var 1) opj_mul) opj_add) JA.nilL)))) hx)))⟩
theorem fn_law_tape {P : Program} {w : World} {K : PySem.W.Frag} {mg : Str → Option Value} {base : Heap} (T : Txt w K mg) : FnR P w K mg base (L2N.CX P w) 1 (He.ga K "_law_tape") (spN K (aCons (rdL K (rp rInt)) (aCons (rp rInt) aNil)) (fun d => m_law_tape d.1 d.2.1) rInt) := by
  obtain ⟨fd, F⟩ := T.F_law_tape
  exact FnOk.frN0 (ok_law_tape T F) (F.bindsN fun _ _ _ _ _ _ us hl => match us, hl with | [_, _], _ => rfl)
theorem sc_law_pick : FnScope ["_law_tape_here", "_law_many", "_law_digit"] ["_law_tape_here", "_law_many"] (defScope s_law_pick) := ⟨rfl, rfl, rfl, by decide +kernel, rfl, by decide +kernel, by decide +kernel⟩
def m_law_pick (p_law_tape_here : List Int) (p_law_many : Int) : Res (Int × List Int) :=
  ((((Res.ok p_law_tape_here).bind fun a547 => (Res.ok (0 : Int)).bind fun b548 => atM a547 b548).bind fun a551 => ((Res.ok (10 : Int)).bind fun a549 => (Res.ok (18 : Int)).bind fun b550 => powI a549 b550).bind fun b552 => .ok (decide (a551 ≥ b552))).bind fun x553 => if x553 = true then ((((((Res.ok p_law_tape_here).bind fun a555 => (Res.ok (0 : Int)).bind fun b556 => atM a555 b556).bind fun a557 => (Res.ok ()).bind fun b558 => .ok (a557, b558)).bind (fun d => .ok d.1)).bind fun a559 => (Res.ok p_law_many).bind fun b560 => modI a559 b560).bind fun v_law_digit_554 => (((((Res.ok p_law_tape_here).bind fun a561 => (Res.ok (0 : Int)).bind fun b562 => atM a561 b562).bind fun a563 => (Res.ok p_law_many).bind fun b564 => fdivI a563 b564).bind fun y567 => (Res.ok (0 : Int)).bind fun k568 => putM p_law_tape_here k568 y567).bind fun v_law_tape_here_566 => ((Res.ok v_law_digit_554).bind fun y570 => Res.ok (y570, v_law_tape_here_566)))) else ((((((((((Res.ok p_law_tape_here).bind fun a571 => (Res.ok (1 : Int)).bind fun b572 => atM a571 b572).bind fun a573 => (Res.ok (69069 : Int)).bind fun b574 => mulI a573 b574).bind fun a579 => (((Res.ok p_law_tape_here).bind fun a575 => (Res.ok (0 : Int)).bind fun b576 => atM a575 b576).bind fun a577 => (Res.ok (7177 : Int)).bind fun b578 => mulI a577 b578).bind fun b580 => .ok (a579 + b580)).bind fun a581 => (Res.ok (12345 : Int)).bind fun b582 => .ok (a581 + b582)).bind fun a583 => (Res.ok ()).bind fun b584 => .ok (a583, b584)).bind (fun d => .ok d.1)).bind fun a585 => (Res.ok (2147483629 : Int)).bind fun b586 => modI a585 b586).bind fun y589 => (Res.ok (1 : Int)).bind fun k590 => putM p_law_tape_here k590 y589).bind fun v_law_tape_here_588 => ((((((((((Res.ok v_law_tape_here_588).bind fun a591 => (Res.ok (2 : Int)).bind fun b592 => atM a591 b592).bind fun a593 => (Res.ok (40014 : Int)).bind fun b594 => mulI a593 b594).bind fun a599 => (((Res.ok v_law_tape_here_588).bind fun a595 => (Res.ok (0 : Int)).bind fun b596 => atM a595 b596).bind fun a597 => (Res.ok (3571 : Int)).bind fun b598 => mulI a597 b598).bind fun b600 => .ok (a599 + b600)).bind fun a601 => (Res.ok (97 : Int)).bind fun b602 => .ok (a601 + b602)).bind fun a603 => (Res.ok ()).bind fun b604 => .ok (a603, b604)).bind (fun d => .ok d.1)).bind fun a605 => (Res.ok (2147483563 : Int)).bind fun b606 => modI a605 b606).bind fun y609 => (Res.ok (2 : Int)).bind fun k610 => putM v_law_tape_here_588 k610 y609).bind fun v_law_tape_here_608 => ((((((((((((Res.ok v_law_tape_here_608).bind fun a611 => (Res.ok (1 : Int)).bind fun b612 => atM a611 b612).bind fun a615 => ((Res.ok v_law_tape_here_608).bind fun a613 => (Res.ok (2 : Int)).bind fun b614 => atM a613 b614).bind fun b616 => mulI a615 b616).bind fun a617 => (Res.ok (5 : Int)).bind fun b618 => .ok (a617 + b618)).bind fun a619 => (Res.ok ()).bind fun b620 => .ok (a619, b620)).bind (fun d => .ok d.1)).bind fun a621 => (Res.ok (2147483587 : Int)).bind fun b622 => modI a621 b622).bind fun a623 => (Res.ok (32 : Int)).bind fun b624 => fdivI a623 b624).bind fun a625 => (Res.ok ()).bind fun b626 => .ok (a625, b626)).bind (fun d => .ok d.1)).bind fun a627 => (Res.ok p_law_many).bind fun b628 => modI a627 b628).bind fun y630 => Res.ok (y630, v_law_tape_here_608)))))
abbrev C_law_pick (P : Program) (w : World) (K : PySem.W.Frag) (mg : Str → Option Value) (base : Heap) : Prop := FnR P w K mg base (L2N.CX P w) 1 (He.ga K "_law_pick") (spX K (fun l xs => MF.lst l rInt xs) (fun l => (aCons (rp (rRef l)) (aCons (rp rInt) aNil))) (fun (d : (Unit × Int × Unit)) b => m_law_pick b d.2.1) rInt false)
theorem fn_law_pick {P : Program} {w : World} {K : PySem.W.Frag} {mg : Str → Option Value} {base : Heap} (T : Txt w K mg) : FnR P w K mg base (L2N.CX P w) 1 (He.ga K "_law_pick") (spX K (fun l xs => MF.lst l rInt xs) (fun l => (aCons (rp (rRef l)) (aCons (rp rInt) aNil))) (fun (d : (Unit × Int × Unit)) b => m_law_pick b d.2.1) rInt false) := by
  obtain ⟨fd, F⟩ := T.F_law_pick
  refine FnOk.frX0 (ps := ["_law_tape_here", "_law_many"]) (FunD.fnX (k := 0) (N := ["_law_tape_here", "_law_many", "_law_digit"]) (ps := ["_law_tape_here", "_law_many"]) F sc_law_pick (fun l I H vs d h => ?_) (fun cdv A outer s I0 H0 H1 E vs d l b hr sm h => ?_)) (F.bindsN fun _ _ _ _ _ _ us hl => match us, hl with | [_, _], _ => rfl)
  · obtain ⟨v0, _, rfl, h0, v1, _, rfl, h1, rfl⟩ := h; rfl
  obtain ⟨v0, _, rfl, h0, v1, _, rfl, h1, rfl⟩ := h
  have hx : ∀ {ctx : List (Option SF)} {mem : List MF} (I H : Hp) (σ : St) (d : Option Addr), Stt I0 H0 ctx mem I H σ → Fr H0 d → bK I0 H0 I H σ d := fun _ _ _ _ s f => ⟨s.fm, f⟩
  have tk : L2N.Takes (bx P w K mg base ["_law_tape_here", "_law_many", "_law_digit"] "_law_pick" (defScope s_law_pick) (He.ga K "_law_pick") cdv A outer s H1 E) (bW E) := L2N.takes_of rfl rfl rfl rfl
  obtain ⟨_, p_law_many, _⟩ := d
  revert b; intro p_law_tape_here
  exact ⟨[some (SF.mk (rRef l) ()), some (SF.mk rInt p_law_many), none], rfl, by simp, ⟨h0, h1, ini_nil rfl⟩, (JR.ifR (JT.cmp (JE.ix (JE.rdM 0 0) JE.int) (JE.bin JE.int JE.int opj_pow) opj_ge) (JR.seq (J1.cx (c' := fun v_law_digit_554 => [some (SF.mk (rRef l) ()), some (SF.mk rInt p_law_many), some (SF.mk rInt v_law_digit_554)]) (J1.set 2 (JE.bin (JE.callTy (JA.cons (JE.ix (JE.rdM 0 0) JE.int) JA.nil) cj_int T.n_int boot_int) (JE.var 1) opj_mod) hx sc_law_pick.nd)) fun v_law_digit_554 => (JR.seq (J1.cm (c' := fun v_law_tape_here_566 => [some (SF.mk (rRef l) ()), some (SF.mk rInt p_law_many), some (SF.mk rInt v_law_digit_554)]) (me' := fun v_law_tape_here_566 => [MF.lst l rInt v_law_tape_here_566]) (J1.put 0 0 (JE.bin (JE.ix (JE.rdM 0 0) JE.int) (JE.var 1) opj_fdiv) JE.int hx)) fun v_law_tape_here_566 => (JR.retR (M := fun xs => MF.lst l rInt xs) 0 (JE.var 2) hx))) (JR.seq (J1.cm (c' := fun v_law_tape_here_588 => [some (SF.mk (rRef l) ()), some (SF.mk rInt p_law_many), none]) (me' := fun v_law_tape_here_588 => [MF.lst l rInt v_law_tape_here_588]) (J1.put 0 0 (JE.bin (JE.callTy (JA.cons (JE.bin (JE.bin (JE.bin (JE.ix (JE.rdM 0 0) JE.int) JE.int opj_mul) (JE.bin (JE.ix (JE.rdM 0 0) JE.int) JE.int opj_mul) opj_add) JE.int opj_add) JA.nil) cj_int T.n_int boot_int) JE.int opj_mod) JE.int hx)) fun v_law_tape_here_588 => (JR.seq (J1.cm (c' := fun v_law_tape_here_608 => [some (SF.mk (rRef l) ()), some (SF.mk rInt p_law_many), none]) (me' := fun v_law_tape_here_608 => [MF.lst l rInt v_law_tape_here_608]) (J1.put 0 0 (JE.bin (JE.callTy (JA.cons (JE.bin (JE.bin (JE.bin (JE.ix (JE.rdM 0 0) JE.int) JE.int opj_mul) (JE.bin (JE.ix (JE.rdM 0 0) JE.int) JE.int opj_mul) opj_add) JE.int opj_add) JA.nil) cj_int T.n_int boot_int) JE.int opj_mod) JE.int hx)) fun v_law_tape_here_608 => (JR.retR (M := fun xs => MF.lst l rInt xs) 0 (JE.bin (JE.callTy (JA.cons (JE.bin (JE.bin (JE.callTy (JA.cons (JE.bin (JE.bin (JE.ix (JE.rdM 0 0) JE.int) (JE.ix (JE.rdM 0 0) JE.int) opj_mul) JE.int opj_add) JA.nil) cj_int T.n_int boot_int) JE.int opj_mod) JE.int opj_fdiv) JA.nil) cj_int T.n_int boot_int) (JE.var 1) opj_mod) hx))) hx)⟩
theorem sc_common_divisor : FnScope ["first", "second"] ["first", "second"] (defScope s_common_divisor) := ⟨rfl, rfl, rfl, by decide +kernel, rfl, by decide +kernel, by decide +kernel⟩
def m_common_divisor (p_first : Int) (p_second : Int) : Res Int :=
  ((((Res.ok p_first).bind fun a632 => (Res.ok ()).bind fun b633 => .ok (a632, b633)).bind (fun d => .ok (if d.1 < 0 then -d.1 else d.1))).bind fun v_first_631 => ((((Res.ok p_second).bind fun a635 => (Res.ok ()).bind fun b636 => .ok (a635, b636)).bind (fun d => .ok (if d.1 < 0 then -d.1 else d.1))).bind fun v_second_634 => ((whileM (fun s637 : (Int × Int) => ((Res.ok s637.2).bind fun a638 => (Res.ok (0 : Int)).bind fun b639 => .ok (!decide (a638 = b639)))) (fun s637 => (((Res.ok s637.2).bind fun a643 => ((Res.ok s637.1).bind fun a641 => (Res.ok s637.2).bind fun b642 => modI a641 b642).bind fun b644 => .ok (a643, b644)).bind fun v640 => (Res.ok (v640.1, v640.2)))) ((v_second_634).toNat + 1) (v_first_631, v_second_634)).bind fun s637 => (Res.ok s637.1))))
abbrev C_common_divisor (P : Program) (w : World) (K : PySem.W.Frag) (mg : Str → Option Value) (base : Heap) : Prop := FnR P w K mg base (L2N.CX P w) 1 (He.ga K "common_divisor") (spF K (aCons (rp rInt) (aCons (rp rInt) aNil)) (fun d => n_cd d.1 d.2.1) (rp rInt))
theorem ok_common_divisor {P : Program} {w : World} {K : PySem.W.Frag} {mg : Str → Option Value} {base : Heap} (T : Txt w K mg) {fd : FuncData} (F : FunD K "common_divisor" "common_divisor" (defArgs s_common_divisor) (defBody s_common_divisor) (defScope s_common_divisor) [] [] (He.ga K "common_divisor") fd) : FnOk P w K mg base (L2N.CX P w) 1 (He.ga K "common_divisor") fd ["first", "second"] (spF K (aCons (rp rInt) (aCons (rp rInt) aNil)) (fun d => m_common_divisor d.1 d.2.1) (rp rInt)) := by
  refine FunD.fn (k := 0) (N := ["first", "second"]) (ps := ["first", "second"]) F sc_common_divisor (fun I H vs d h => ?_) (fun cdv A outer s I0 H0 E vs d hr sm h => ?_)
  · obtain ⟨v0, _, rfl, h0, v1, _, rfl, h1, rfl⟩ := h; rfl
  obtain ⟨v0, _, rfl, h0, v1, _, rfl, h1, rfl⟩ := h
  have hx : ∀ {ctx : List (Option SF)} {mem : List MF} (I H : Hp) (σ : St) (d : Option Addr), Stt I0 H0 ctx mem I H σ → Fr H0 d → bK I0 H0 I H σ d := fun _ _ _ _ s f => ⟨s.fm, f⟩
  have tk : L2N.Takes (bx P w K mg base ["first", "second"] "common_divisor" (defScope s_common_divisor) (He.ga K "common_divisor") cdv A outer s H0 E) (bW E) := L2N.takes_of rfl rfl rfl rfl
  have hp : PassesOwn (model P w) (bx P w K mg base ["first", "second"] "common_divisor" (defScope s_common_divisor) (He.ga K "common_divisor") cdv A outer s H0 E).A (bx P w K mg base ["first", "second"] "common_divisor" (defScope s_common_divisor) (He.ga K "common_divisor") cdv A outer s H0 E).env (bx P w K mg base ["first", "second"] "common_divisor" (defScope s_common_divisor) (He.ga K "common_divisor") cdv A outer s H0 E).xe := passes_of rfl
  obtain ⟨p_first, p_second, _⟩ := d
  exact ⟨Stt I0 H0 [some (SF.mk rInt p_first), some (SF.mk rInt p_second)] [], Stt.start sm ⟨h0, h1, ini_nil rfl⟩ rfl (by simp), (JR.seq (J1.cx (c' := fun v_first_631 => [some (SF.mk rInt v_first_631), some (SF.mk rInt p_second)]) (J1.set 0 (JE.callB (JA.cons (JE.var 0) JA.nil) cj_abs T.n_abs boot_abs) hx sc_common_divisor.nd)) fun v_first_631 => (JR.seq (J1.cx (c' := fun v_second_634 => [some (SF.mk rInt v_first_631), some (SF.mk rInt v_second_634)]) (J1.set 1 (JE.callB (JA.cons (JE.var 1) JA.nil) cj_abs T.n_abs boot_abs) hx sc_common_divisor.nd)) fun v_second_634 => (JR.seq (J1.while (S := (Int × Int)) (cx := fun s637 => [some (SF.mk rInt s637.1), some (SF.mk rInt s637.2)]) (me := fun s637 => []) (s0 := (v_first_631, v_second_634)) (fuel := (v_second_634).toNat + 1) hp (fun s637 => (JT.cmp (JE.var 1) JE.int opj_ne)) (fun s637 => (JN.seq (J1.cx (c' := fun v640 => [some (SF.mk rInt v640.1), some (SF.mk rInt v640.2)]) (J1.par 0 1 (JE.var 1) (JE.bin (JE.var 0) (JE.var 1) opj_mod) hx sc_common_divisor.nd)) fun v640 => (JN.nil (fun _ _ _ h => h)))) fun _ => hx) fun s637 => (JR.ret (JE.var 0) hx))))⟩
theorem fn_common_divisor {P : Program} {w : World} {K : PySem.W.Frag} {mg : Str → Option Value} {base : Heap} (T : Txt w K mg) : FnR P w K mg base (L2N.CX P w) 1 (He.ga K "common_divisor") (spF K (aCons (rp rInt) (aCons (rp rInt) aNil)) (fun d => m_common_divisor d.1 d.2.1) (rp rInt)) := by
  obtain ⟨fd, F⟩ := T.F_common_divisor
  exact FnOk.fr0 (ok_common_divisor T F) (F.bindsN fun _ _ _ _ _ _ us hl => match us, hl with | [_, _], _ => rfl)
theorem nice_common_divisor : ∀ d : Int × Int × Unit, n_cd d.1 d.2.1 = .stuck ∨ n_cd d.1 d.2.1 = m_common_divisor d.1 d.2.1 := fun ⟨a, b, _⟩ => by
  right
  show Res.ok _ = m_common_divisor a b
  have e : m_common_divisor a b = (whileM _ _ ((absI b).toNat + 1) (absI a, absI b)).bind fun s => .ok s.1 := rfl
  rw [e, absI_eq a, absI_eq b]
  simp only [Res.ok_bind]
  rw [cd_loop (fun s => rfl) (fun s h => by simp only [Res.ok_bind, modI_ok h]) _ _ _ (by omega)]
  simp only [Res.ok_bind, Int.gcd, Nat.gcd_comm b.natAbs]
theorem sc_Fraction_init : FnScope ["self", "top", "bottom", "divisor"] ["self", "top", "bottom"] (defScope s_Fraction_init) := ⟨rfl, rfl, rfl, by decide +kernel, rfl, by decide +kernel, by decide +kernel⟩
def mi_Fraction (top bottom : Int) : Res (Int × Int) :=
  (((Res.ok bottom).bind fun a => (Res.ok (0 : Int)).bind fun b => .ok (decide (a = b))).bind fun x => if x = true then (Res.err eBF : Res Unit) else .ok ()).bind fun _ =>
  (((Res.ok top).bind fun a => ((Res.ok bottom).bind fun b => (Res.ok ()).bind fun c => .ok (b, c)).bind fun d => .ok (a, d)).bind fun d => n_cd d.1 d.2.1).bind fun dv =>
  (((Res.ok bottom).bind fun a => (Res.ok (0 : Int)).bind fun b => .ok (decide (a < b))).bind fun x => if x = true then ((Res.ok dv).bind fun a => .ok (-a)).bind fun v => (Res.ok v) else .ok dv).bind fun s =>
  ((Res.ok top).bind fun a => (Res.ok s).bind fun b => fdivI a b).bind fun x =>
  ((Res.ok bottom).bind fun a => (Res.ok s).bind fun b => fdivI a b).bind fun y => .ok (x, y)
theorem mi_Fraction_eq (t b : Int) : mi_Fraction t b = (qRaw t b).bind fun q => .ok (q.num, (q.den : Int)) := by
  unfold mi_Fraction qRaw
  simp only [Res.ok_bind, n_cd]
  by_cases hb : b = 0
  · simp [hb]
  · simp only [hb, decide_false, Bool.false_eq_true, if_false, Res.ok_bind]
    have key : ∀ dv : Int, dv = (if b < 0 then -(Int.gcd t b : Int) else (Int.gcd t b : Int)) → (fdivI t dv).bind (fun x => (fdivI b dv).bind fun y => .ok (x, y)) = (Res.guard ((Int.gcd t b).log2 < 9000) (.ok (Rat.divInt t b))).bind fun q => .ok (q.num, (q.den : Int)) := fun dv hd => by
      obtain ⟨e1, e2⟩ := div_num hb dv hd
      have hg : Int.gcd t b ≠ 0 := fun h => hb (Int.gcd_eq_zero_iff.mp h).2
      have na : dv.natAbs = Int.gcd t b := by rw [hd]; split <;> omega
      have nz : dv ≠ 0 := by omega
      unfold fdivI
      rw [na]
      by_cases hl : (Int.gcd t b).log2 < 9000
      · rw [Res.guard_pos ⟨nz, hl⟩, Res.guard_pos ⟨nz, hl⟩, Res.guard_pos hl, e1, e2]; rfl
      · unfold Res.guard; rw [if_neg (fun h => hl h.2), if_neg hl]; rfl
    by_cases hlt : b < 0
    · simp only [hlt, decide_true, if_true, Res.ok_bind]
      exact key _ (by rw [if_pos hlt])
    · simp only [hlt, decide_false, Bool.false_eq_true, if_false, Res.ok_bind]
      exact key _ (by rw [if_neg hlt])
theorem in_Fraction {P : Program} {w : World} {K : PySem.W.Frag} {mg : Str → Option Value} {base : Heap} (T : Txt w K mg) (c_common_divisor : C_common_divisor P w K mg base) {fd : FuncData} (F : FunD K "__init__" "Fraction.__init__" (defArgs s_Fraction_init) (defBody s_Fraction_init) (defScope s_Fraction_init) [.int 1] [] (He.ma K (He.ga K "Fraction") "__init__") fd) :
    FnOk P w K mg base (L2N.CX P w) 2 (He.ma K (He.ga K "Fraction") "__init__") fd ["self", "top", "bottom"] (spI K (He.ga K "Fraction") (aCons (rp rInt) (aCons (rp rInt) aNil)) (fun d => qRaw d.1 d.2.1) (rp (rFrac K))) := by
  refine FunD.init (k := 1) (N := ["self", "top", "bottom", "divisor"]) (S := Int × Int) F sc_Fraction_init (fun I H vs d h => ?_) (fun cdv A outer s I0 H0 H1 E vs d y dx hr sm h n1 n2 n3 eH => ?_)
  · obtain ⟨v0, _, rfl, h0, v1, _, rfl, h1, rfl⟩ := h; rfl
  obtain ⟨v0, _, rfl, h0, v1, _, rfl, h1, rfl⟩ := h
  obtain ⟨t, b, _⟩ := d
  have hx : ∀ {ctx : List (Option SF)} {mem : List MF} (I H : Hp) (σ : St) (d : Option Addr), Stt I0 H0 ctx mem I H σ → Fr H0 d → bK I0 H0 I H σ d := fun _ _ _ _ s f => ⟨s.fm, f⟩
  have tk : L2N.Takes (bx P w K mg base ["self", "top", "bottom", "divisor"] "Fraction.__init__" (defScope s_Fraction_init) (He.ma K (He.ga K "Fraction") "__init__") cdv A outer s H1 E) (bW E) := L2N.takes_of rfl rfl rfl rfl
  refine ⟨Stt I0 H0 [some ⟨rRef y, ()⟩, some ⟨rInt, t⟩, some ⟨rInt, b⟩, none] [.ins y (He.ga K "Fraction") dx []], Int × Int, mi_Fraction t b, fun s I H σ => ∃ ctx, Stt I0 H0 ctx [.ins y (He.ga K "Fraction") dx [("top", ⟨rInt, s.1⟩), ("bottom", ⟨rInt, s.2⟩)]] I H σ, ?_, ?_, ?_⟩
  · subst eH
    exact Stt.fresh sm n1 n2 n3 rfl fun i sf e => IniR.get (n := 1) (vs := [.ref y, v0, v1]) (c := [some ⟨rRef y, ()⟩, some ⟨rInt, t⟩, some ⟨rInt, b⟩, none]) ⟨rfl, h0, h1, ini_nil rfl⟩ i sf e
  · exact JN.seq (J1.if (S := Unit) (G' := fun _ => Stt I0 H0 [some ⟨rRef y, ()⟩, some ⟨rInt, t⟩, some ⟨rInt, b⟩, none] [.ins y (He.ga K "Fraction") dx []]) (JT.cmp (JE.var 2) JE.int opj_eq) (JN.last (J1.raiseP rfl tk T.ex_BadFraction hx)) (JN.nil fun _ _ _ h => h) hx) fun _ =>
      JN.seq (J1.set 3 (JE.call (JA.cons (JE.var 1) (JA.cons (JE.var 2) JA.nil)) (cj_of c_common_divisor (hr.mono (by decide)) tk) T.g_common_divisor T.k_common_divisor) hx sc_Fraction_init.nd) fun dv =>
      JN.seq (J1.if (S := Int) (G' := fun s => Stt I0 H0 [some ⟨rRef y, ()⟩, some ⟨rInt, t⟩, some ⟨rInt, b⟩, some ⟨rInt, s⟩] [.ins y (He.ga K "Fraction") dx []]) (JT.cmp (JE.var 2) JE.int opj_lt) (JN.seq (J1.set 3 (JE.un (JE.var 3) unj_neg) hx sc_Fraction_init.nd) fun v => JN.nil fun _ _ _ h => h) (JN.nil fun _ _ _ h => h) hx) fun s =>
      JN.seq (J1.sfld 0 (JE.bin (JE.var 1) (JE.var 3) opj_fdiv) T.o_Fraction.cl T.na_Fraction_top (by decide) hx) fun x =>
      JN.seq (J1.sfld 0 (JE.bin (JE.var 2) (JE.var 3) opj_fdiv) T.o_Fraction.cl T.na_Fraction_bottom (by simp [putG]) hx) fun y' => JN.nil fun _ _ _ h => ⟨_, h⟩
  · rw [mi_Fraction_eq]
    dsimp only
    generalize qRaw t b = z
    cases z with
    | err e => rfl
    | stuck => rfl
    | ok q =>
      refine ⟨q, rfl, fun I' H' σ' ⟨ctx, g⟩ => ?_⟩
      obtain ⟨fs, I2, e1, hf, g2, sm2, e2⟩ := g.freeze
      exact ⟨I2, g2.fm, y, dx, rfl, by rw [e2, frF_of rfl rfl hf]⟩
abbrev C_Fraction_2 (P : Program) (w : World) (K : PySem.W.Frag) (mg : Str → Option Value) (base : Heap) : Prop := MkR P w K mg base 3 (He.ga K "Fraction") (aCons (rp rInt) (aCons (rp rInt) aNil)) (fun d => qMk d.1 d.2.1) (rp (rFrac K))
theorem fn_Fraction_2 {P : Program} {w : World} {K : PySem.W.Frag} {mg : Str → Option Value} {base : Heap} (T : Txt w K mg) (c_common_divisor : C_common_divisor P w K mg base) : C_Fraction_2 P w K mg base := by
  obtain ⟨fd, F⟩ := T.F_Fraction_init
  obtain ⟨ds, hd, hb⟩ := FunD.binds1 (ps := ["self", "top", "bottom"]) F 3 1 (by simp) rfl fun T kV doc pm an cdv ct us its hl hi => match us, hl, its, hi with | [_, _, _], _, [_], _ => ⟨_, rfl, rfl⟩
  exact MkR.nice (mkR_of (h := fun d => d) T.mk_Fraction (in_Fraction T c_common_divisor F) hb hd fun I H vs d h => by rw [show List.drop 1 [V.int 1] = [] from rfl, List.append_nil]; exact h) fun d => qMk_raw d.1 d.2.1
abbrev C_Fraction_1 (P : Program) (w : World) (K : PySem.W.Frag) (mg : Str → Option Value) (base : Heap) : Prop := MkR P w K mg base 3 (He.ga K "Fraction") (aCons (rp rInt) aNil) (fun d => qInt d.1) (rp (rFrac K))
theorem fn_Fraction_1 {P : Program} {w : World} {K : PySem.W.Frag} {mg : Str → Option Value} {base : Heap} (T : Txt w K mg) (c_common_divisor : C_common_divisor P w K mg base) : C_Fraction_1 P w K mg base := by
  obtain ⟨fd, F⟩ := T.F_Fraction_init
  obtain ⟨ds, hd, hb⟩ := FunD.binds1 (ps := ["self", "top", "bottom"]) F 2 0 (by simp) rfl fun T kV doc pm an cdv ct us its hl hi => match us, hl, its, hi with | [_, _], _, [_], _ => ⟨_, rfl, rfl⟩
  exact MkR.nice (mkR_of (h := fun d : Int × Unit => (d.1, 1, ())) T.mk_Fraction (in_Fraction T c_common_divisor F) hb hd fun I H vs d h => by
    obtain ⟨v0, _, rfl, h0, rfl⟩ := h
    exact ⟨v0, _, rfl, h0, _, _, rfl, rfl, rfl⟩) fun d => qInt_raw d.1

theorem sc_law_tops : FnScope ["_law_tape_here", "_law_bottom", "_law_many", "_law_left", "_law_out", "_law_k", "_law_top"] ["_law_tape_here", "_law_bottom", "_law_many"] (defScope s_law_tops) := ⟨rfl, rfl, rfl, by decide +kernel, rfl, by decide +kernel, by decide +kernel⟩
def m_law_tops (p_law_tape_here : List Int) (p_law_bottom : Int) (p_law_many : Int) : Res ((List Int) × List Int) :=
  ((Res.ok p_law_bottom).bind fun v_law_left_646 => ((Res.ok ([] : List Int)).bind fun v_law_out_647 => ((((Res.ok p_law_many).bind fun a650 => rangeM1 a650).bind fun l733 => forS (fun (i651 : Int) (s649 : (Int × (List Int) × (List Int))) => ((((Res.ok ((), s649.2.1)).bindX fun x658 t659 => ((((Res.ok s649.1).bind fun a660 => (Res.ok (1 : Int)).bind fun b661 => .ok (a660 + b661)).bind fun a662 => Res.ok (a662, t659)).bindX fun x664 t665 => (Res.ok ((), t665)).bindX fun y666 t667 => Res.ok ((x664, y666), t667)).bindX fun y668 t669 => Res.ok ((x658, y668), t669)).bindX fun x654 t656 => (m_law_pick t656 x654.2.1).bindX fun z655 b657 => Res.ok (z655, b657)).bind fun v_law_top_653 => ((((((Res.ok ((), v_law_top_653.2)).bindX fun x677 t678 => (((Res.ok (4 : Int)).bind fun a679 => Res.ok (a679, t678)).bindX fun x681 t682 => (Res.ok ((), t682)).bindX fun y683 t684 => Res.ok ((x681, y683), t684)).bindX fun y685 t686 => Res.ok ((x677, y685), t686)).bindX fun x673 t675 => (m_law_pick t675 x673.2.1).bindX fun z674 b676 => Res.ok (z674, b676)).bindX fun x689 t690 => ((Res.ok (0 : Int)).bind fun a691 => Res.ok (a691, t690)).bindX fun y692 t694 => (.ok (decide (x689 = y692)) : Res Bool).bind fun z693 => Res.ok (z693, t694)).bindX fun x698 t695 => if x698 = true then ((Res.ok s649.1).bind fun v_law_top_696 => (Res.ok (v_law_top_696, t695))) else (Res.ok (v_law_top_653.1, t695))).bind fun s697 => ((((((Res.ok ((), s697.2)).bindX fun x704 t705 => (((Res.ok (3 : Int)).bind fun a706 => Res.ok (a706, t705)).bindX fun x708 t709 => (Res.ok ((), t709)).bindX fun y710 t711 => Res.ok ((x708, y710), t711)).bindX fun y712 t713 => Res.ok ((x704, y712), t713)).bindX fun x700 t702 => (m_law_pick t702 x700.2.1).bindX fun z701 b703 => Res.ok (z701, b703)).bindX fun x716 t717 => ((Res.ok (0 : Int)).bind fun a718 => Res.ok (a718, t717)).bindX fun y719 t721 => (.ok (decide (x716 = y719)) : Res Bool).bind fun z720 => Res.ok (z720, t721)).bindX fun x725 t722 => if x725 = true then ((Res.ok (0 : Int)).bind fun v_law_top_723 => (Res.ok (v_law_top_723, t722))) else (Res.ok (s697.1, t722))).bind fun s724 => (((Res.ok s724.1).bind fun y729 => appM s649.2.2 y729).bind fun v_law_out_727 => (((Res.ok s649.1).bind fun a731 => (Res.ok s724.1).bind fun b732 => .ok (a731 - b732)).bind fun v_law_left_730 => (Res.ok (v_law_left_730, s724.2, v_law_out_727)))))))) l733 (v_law_left_646, p_law_tape_here, v_law_out_647)).bind fun s649 => (Res.ok (s649.2.2, s649.2.1)))))
abbrev C_law_tops (P : Program) (w : World) (K : PySem.W.Frag) (mg : Str → Option Value) (base : Heap) : Prop := FnR P w K mg base (L2N.CX P w) 2 (He.ga K "_law_tops") (spXM K (fun l xs => MF.lst l rInt xs) (fun l => (aCons (rp (rRef l)) (aCons (rp rInt) (aCons (rp rInt) aNil)))) (fun (d : (Unit × Int × Int × Unit)) b => m_law_tops b d.2.1 d.2.2.1) rInt)
theorem fn_law_tops {P : Program} {w : World} {K : PySem.W.Frag} {mg : Str → Option Value} {base : Heap} (T : Txt w K mg) (c_law_pick : C_law_pick P w K mg base) : FnR P w K mg base (L2N.CX P w) 2 (He.ga K "_law_tops") (spXM K (fun l xs => MF.lst l rInt xs) (fun l => (aCons (rp (rRef l)) (aCons (rp rInt) (aCons (rp rInt) aNil)))) (fun (d : (Unit × Int × Int × Unit)) b => m_law_tops b d.2.1 d.2.2.1) rInt) := by
  obtain ⟨fd, F⟩ := T.F_law_tops
  refine FnOk.frXM (ps := ["_law_tape_here", "_law_bottom", "_law_many"]) (FunD.fnXM (k := 1) (N := ["_law_tape_here", "_law_bottom", "_law_many", "_law_left", "_law_out", "_law_k", "_law_top"]) (ps := ["_law_tape_here", "_law_bottom", "_law_many"]) F sc_law_tops (fun l I H vs d h => ?_) (fun cdv A outer s I0 H0 H1 E vs d l b hr sm h => ?_)) (F.bindsN fun _ _ _ _ _ _ us hl => match us, hl with | [_, _, _], _ => rfl)
  · obtain ⟨v0, _, rfl, h0, v1, _, rfl, h1, v2, _, rfl, h2, rfl⟩ := h; rfl
  obtain ⟨v0, _, rfl, h0, v1, _, rfl, h1, v2, _, rfl, h2, rfl⟩ := h
  have hx : ∀ {ctx : List (Option SF)} {mem : List MF} (I H : Hp) (σ : St) (d : Option Addr), Stt I0 H0 ctx mem I H σ → Fr H0 d → bK I0 H0 I H σ d := fun _ _ _ _ s f => ⟨s.fm, f⟩
  have tk : L2N.Takes (bx P w K mg base ["_law_tape_here", "_law_bottom", "_law_many", "_law_left", "_law_out", "_law_k", "_law_top"] "_law_tops" (defScope s_law_tops) (He.ga K "_law_tops") cdv A outer s H1 E) (bW E) := L2N.takes_of rfl rfl rfl rfl
  have hp : PassesOwn (model P w) (bx P w K mg base ["_law_tape_here", "_law_bottom", "_law_many", "_law_left", "_law_out", "_law_k", "_law_top"] "_law_tops" (defScope s_law_tops) (He.ga K "_law_tops") cdv A outer s H1 E).A (bx P w K mg base ["_law_tape_here", "_law_bottom", "_law_many", "_law_left", "_law_out", "_law_k", "_law_top"] "_law_tops" (defScope s_law_tops) (He.ga K "_law_tops") cdv A outer s H1 E).env (bx P w K mg base ["_law_tape_here", "_law_bottom", "_law_many", "_law_left", "_law_out", "_law_k", "_law_top"] "_law_tops" (defScope s_law_tops) (He.ga K "_law_tops") cdv A outer s H1 E).xe := passes_of rfl
  obtain ⟨_, p_law_bottom, p_law_many, _⟩ := d
  revert b; intro p_law_tape_here
  exact ⟨[some (SF.mk (rRef l) ()), some (SF.mk rInt p_law_bottom), some (SF.mk rInt p_law_many), none, none, none, none], rfl, by simp, ⟨h0, h1, h2, ini_nil rfl⟩, (JR.seq (J1.cx (c' := fun v_law_left_646 => [some (SF.mk (rRef l) ()), some (SF.mk rInt p_law_bottom), some (SF.mk rInt p_law_many), some (SF.mk rInt v_law_left_646), none, none, none]) (J1.set 3 (JE.var 1) hx sc_law_tops.nd)) fun v_law_left_646 => (JR.seq (J1.cn (c' := fun v_law_out_647 l648 => [some (SF.mk (rRef l) ()), some (SF.mk rInt p_law_bottom), some (SF.mk rInt p_law_many), some (SF.mk rInt v_law_left_646), some (SF.mk (rRef l648) ()), none, none]) (me' := fun v_law_out_647 l648 => [MF.lst l648 rInt v_law_out_647, MF.lst l rInt p_law_tape_here]) (J1.setM 4 (JM.lst (r := rInt) JA.nilL) hx sc_law_tops.nd)) fun v_law_out_647 => JR.ex fun l648 => (JR.seq (J1.forS (S := (Int × (List Int) × (List Int))) (cx := fun s649 => [some (SF.mk (rRef l) ()), some (SF.mk rInt p_law_bottom), some (SF.mk rInt p_law_many), some (SF.mk rInt s649.1), some (SF.mk (rRef l648) ()), none, none]) (me := fun s649 => [MF.lst l648 rInt s649.2.2, MF.lst l rInt s649.2.1]) (s0 := (v_law_left_646, p_law_tape_here, v_law_out_647)) 5 hp (JI.range1 (JE.var 2) T.n_range) (fun i651 s649 => JN.at (c' := [some (SF.mk (rRef l) ()), some (SF.mk rInt p_law_bottom), some (SF.mk rInt p_law_many), some (SF.mk rInt s649.1), some (SF.mk (rRef l648) ()), some (SF.mk rInt i651), none]) (JN.seq (J1.cm (c' := fun v_law_top_653 => [some (SF.mk (rRef l) ()), some (SF.mk rInt p_law_bottom), some (SF.mk rInt p_law_many), some (SF.mk rInt s649.1), some (SF.mk (rRef l648) ()), some (SF.mk rInt i651), some (SF.mk rInt v_law_top_653.1)]) (me' := fun v_law_top_653 => [MF.lst l648 rInt s649.2.2, MF.lst l rInt v_law_top_653.2]) (J1.setX (C := (fun (t652 : (List Int)) => [MF.lst l648 rInt s649.2.2, MF.lst l rInt t652])) (t0 := s649.2.1) 6 (JX.callC 1 (fun (t670 : (List Int)) => t670) (fun (t670 : (List Int)) b671 => b671) (JXA.cons (JX.of (JE.var 0 (r := rRef l)) (fun _ => hx)) (fun t659 => (JXA.cons (JX.of (JE.bin (JE.var 3) JE.int opj_add) (fun _ => hx)) (fun t665 => JXA.nil)))) (cc_of c_law_pick (hr.mono (by decide)) tk) (fun _ => rfl) (fun _ _ => rfl) (fun _ _ _ _ f r => ⟨f, r⟩) T.g_law_pick T.k_law_pick) sc_law_tops.nd)) fun v_law_top_653 => (JN.seq (J1.ifX (S := (Int × (List Int))) (G' := fun s697 => Stt I0 H0 [some (SF.mk (rRef l) ()), some (SF.mk rInt p_law_bottom), some (SF.mk rInt p_law_many), some (SF.mk rInt s649.1), some (SF.mk (rRef l648) ()), some (SF.mk rInt i651), some (SF.mk rInt s697.1)] [MF.lst l648 rInt s649.2.2, MF.lst l rInt s697.2]) (C := (fun (t699 : (List Int)) => [MF.lst l648 rInt s649.2.2, MF.lst l rInt t699])) (t0 := v_law_top_653.2) (JXT.cmp (JX.callC 1 (fun (t687 : (List Int)) => t687) (fun (t687 : (List Int)) b688 => b688) (JXA.cons (JX.of (JE.var 0 (r := rRef l)) (fun _ => hx)) (fun t678 => (JXA.cons (JX.of JE.int (fun _ => hx)) (fun t682 => JXA.nil)))) (cc_of c_law_pick (hr.mono (by decide)) tk) (fun _ => rfl) (fun _ _ => rfl) (fun _ _ _ _ f r => ⟨f, r⟩) T.g_law_pick T.k_law_pick) (fun t690 => (JX.of JE.int (fun _ => hx))) opj_eq (fun _ => hx)) (fun t695 => (JN.seq (J1.cx (c' := fun v_law_top_696 => [some (SF.mk (rRef l) ()), some (SF.mk rInt p_law_bottom), some (SF.mk rInt p_law_many), some (SF.mk rInt s649.1), some (SF.mk (rRef l648) ()), some (SF.mk rInt i651), some (SF.mk rInt v_law_top_696)]) (J1.set 6 (JE.var 3) hx sc_law_tops.nd)) fun v_law_top_696 => (JN.nil (fun _ _ _ h => h)))) (fun t695 => (JN.nil (fun _ _ _ h => h)))) fun s697 => (JN.seq (J1.ifX (S := (Int × (List Int))) (G' := fun s724 => Stt I0 H0 [some (SF.mk (rRef l) ()), some (SF.mk rInt p_law_bottom), some (SF.mk rInt p_law_many), some (SF.mk rInt s649.1), some (SF.mk (rRef l648) ()), some (SF.mk rInt i651), some (SF.mk rInt s724.1)] [MF.lst l648 rInt s649.2.2, MF.lst l rInt s724.2]) (C := (fun (t726 : (List Int)) => [MF.lst l648 rInt s649.2.2, MF.lst l rInt t726])) (t0 := s697.2) (JXT.cmp (JX.callC 1 (fun (t714 : (List Int)) => t714) (fun (t714 : (List Int)) b715 => b715) (JXA.cons (JX.of (JE.var 0 (r := rRef l)) (fun _ => hx)) (fun t705 => (JXA.cons (JX.of JE.int (fun _ => hx)) (fun t709 => JXA.nil)))) (cc_of c_law_pick (hr.mono (by decide)) tk) (fun _ => rfl) (fun _ _ => rfl) (fun _ _ _ _ f r => ⟨f, r⟩) T.g_law_pick T.k_law_pick) (fun t717 => (JX.of JE.int (fun _ => hx))) opj_eq (fun _ => hx)) (fun t722 => (JN.seq (J1.cx (c' := fun v_law_top_723 => [some (SF.mk (rRef l) ()), some (SF.mk rInt p_law_bottom), some (SF.mk rInt p_law_many), some (SF.mk rInt s649.1), some (SF.mk (rRef l648) ()), some (SF.mk rInt i651), some (SF.mk rInt v_law_top_723)]) (J1.set 6 JE.int hx sc_law_tops.nd)) fun v_law_top_723 => (JN.nil (fun _ _ _ h => h)))) (fun t722 => (JN.nil (fun _ _ _ h => h)))) fun s724 => (JN.seq (J1.cm (c' := fun v_law_out_727 => [some (SF.mk (rRef l) ()), some (SF.mk rInt p_law_bottom), some (SF.mk rInt p_law_many), some (SF.mk rInt s649.1), some (SF.mk (rRef l648) ()), some (SF.mk rInt i651), some (SF.mk rInt s724.1)]) (me' := fun v_law_out_727 => [MF.lst l648 rInt v_law_out_727, MF.lst l rInt s724.2]) (J1.app 4 0 (JE.var 6) hx)) fun v_law_out_727 => (JN.seq (J1.cx (c' := fun v_law_left_730 => [some (SF.mk (rRef l) ()), some (SF.mk rInt p_law_bottom), some (SF.mk rInt p_law_many), some (SF.mk rInt v_law_left_730), some (SF.mk (rRef l648) ()), some (SF.mk rInt i651), some (SF.mk rInt s724.1)]) (J1.set 3 (JE.bin (JE.var 3) (JE.var 6) opj_sub) hx sc_law_tops.nd)) fun v_law_left_730 => (JN.nil (fun _ _ _ h => (Stt.weak h (weak_some (weak_some (weak_some (weak_some (weak_some (weak_none (weak_none weak_nil)))))))))))))))) hx (weak_some (weak_some (weak_some (weak_some (weak_some (weak_none (weak_none weak_nil))))))) sc_law_tops.nd) fun s649 => (JR.retCX 4 0))))⟩
theorem sc_law_raised : FnScope ["_law_tops_here", "_law_bottom", "_law_start", "_law_out", "_law_power", "_law_top"] ["_law_tops_here", "_law_bottom", "_law_start"] (defScope s_law_raised) := ⟨rfl, rfl, rfl, by decide +kernel, rfl, by decide +kernel, by decide +kernel⟩
def m_law_raised (p_law_tops_here : (List Int)) (p_law_bottom : Int) (p_law_start : Int) : Res (List Int) :=
  (((Res.ok p_law_start).bind fun a736 => (Res.ok []).bind fun b737 => .ok (a736 :: b737)).bind fun v_law_out_734 => ((Res.ok (1 : Int)).bind fun v_law_power_739 => (((Res.ok p_law_tops_here).bind fun l750 => forS (fun (i741 : Int) (s740 : (Int × (List Int))) => ((((Res.ok i741).bind fun a743 => (Res.ok s740.1).bind fun b744 => mulI a743 b744).bind fun y746 => appM s740.2 y746).bind fun v_law_out_742 => (((Res.ok s740.1).bind fun a748 => (Res.ok p_law_bottom).bind fun b749 => mulI a748 b749).bind fun v_law_power_747 => (Res.ok (v_law_power_747, v_law_out_742))))) l750 (v_law_power_739, v_law_out_734)).bind fun s740 => (Res.ok s740.2))))
abbrev C_law_raised (P : Program) (w : World) (K : PySem.W.Frag) (mg : Str → Option Value) (base : Heap) : Prop := FnR P w K mg base (L2N.CX P w) 1 (He.ga K "_law_raised") (spN K (aCons (rdL K (rp rInt)) (aCons (rp rInt) (aCons (rp rInt) aNil))) (fun d => m_law_raised d.1 d.2.1 d.2.2.1) rInt)
theorem ok_law_raised {P : Program} {w : World} {K : PySem.W.Frag} {mg : Str → Option Value} {base : Heap} (T : Txt w K mg) {fd : FuncData} (F : FunD K "_law_raised" "_law_raised" (defArgs s_law_raised) (defBody s_law_raised) (defScope s_law_raised) [] [] (He.ga K "_law_raised") fd) : FnOk P w K mg base (L2N.CX P w) 1 (He.ga K "_law_raised") fd ["_law_tops_here", "_law_bottom", "_law_start"] (spN K (aCons (rdL K (rp rInt)) (aCons (rp rInt) (aCons (rp rInt) aNil))) (fun d => m_law_raised d.1 d.2.1 d.2.2.1) rInt) := by
  refine FunD.fnN (k := 0) (N := ["_law_tops_here", "_law_bottom", "_law_start", "_law_out", "_law_power", "_law_top"]) (ps := ["_law_tops_here", "_law_bottom", "_law_start"]) F sc_law_raised (fun I H vs d h => ?_) (fun cdv A outer s I0 H0 E vs d hr sm h => ?_)
  · obtain ⟨v0, _, rfl, h0, v1, _, rfl, h1, v2, _, rfl, h2, rfl⟩ := h; rfl
  obtain ⟨v0, _, rfl, h0, v1, _, rfl, h1, v2, _, rfl, h2, rfl⟩ := h
  have hx : ∀ {ctx : List (Option SF)} {mem : List MF} (I H : Hp) (σ : St) (d : Option Addr), Stt I0 H0 ctx mem I H σ → Fr H0 d → bK I0 H0 I H σ d := fun _ _ _ _ s f => ⟨s.fm, f⟩
  have tk : L2N.Takes (bx P w K mg base ["_law_tops_here", "_law_bottom", "_law_start", "_law_out", "_law_power", "_law_top"] "_law_raised" (defScope s_law_raised) (He.ga K "_law_raised") cdv A outer s H0 E) (bW E) := L2N.takes_of rfl rfl rfl rfl
  have hp : PassesOwn (model P w) (bx P w K mg base ["_law_tops_here", "_law_bottom", "_law_start", "_law_out", "_law_power", "_law_top"] "_law_raised" (defScope s_law_raised) (He.ga K "_law_raised") cdv A outer s H0 E).A (bx P w K mg base ["_law_tops_here", "_law_bottom", "_law_start", "_law_out", "_law_power", "_law_top"] "_law_raised" (defScope s_law_raised) (He.ga K "_law_raised") cdv A outer s H0 E).env (bx P w K mg base ["_law_tops_here", "_law_bottom", "_law_start", "_law_out", "_law_power", "_law_top"] "_law_raised" (defScope s_law_raised) (He.ga K "_law_raised") cdv A outer s H0 E).xe := passes_of rfl
  obtain ⟨p_law_tops_here, p_law_bottom, p_law_start, _⟩ := d
  exact ⟨Stt I0 H0 [some (SF.mk (fun I v x => (rdL K (rp rInt)) I H0 v x) p_law_tops_here), some (SF.mk rInt p_law_bottom), some (SF.mk rInt p_law_start), none, none, none] [], Stt.start sm ⟨h0, h1, h2, ini_nil rfl⟩ rfl (by simp), (JR.seq (J1.cn (c' := fun v_law_out_734 l738 => [some (SF.mk (fun I v x => (rdL K (rp rInt)) I H0 v x) p_law_tops_here), some (SF.mk rInt p_law_bottom), some (SF.mk rInt p_law_start), some (SF.mk (rRef l738) ()), none, none]) (me' := fun v_law_out_734 l738 => [MF.lst l738 rInt v_law_out_734]) (J1.setM 3 (JM.lst (r := rInt) (JA.consL (JE.var 2) JA.nilL)) hx sc_law_raised.nd)) fun v_law_out_734 => JR.ex fun l738 => (JR.seq (J1.cx (c' := fun v_law_power_739 => [some (SF.mk (fun I v x => (rdL K (rp rInt)) I H0 v x) p_law_tops_here), some (SF.mk rInt p_law_bottom), some (SF.mk rInt p_law_start), some (SF.mk (rRef l738) ()), some (SF.mk rInt v_law_power_739), none]) (J1.set 4 JE.int hx sc_law_raised.nd)) fun v_law_power_739 => (JR.seq (J1.forS (S := (Int × (List Int))) (cx := fun s740 => [some (SF.mk (fun I v x => (rdL K (rp rInt)) I H0 v x) p_law_tops_here), some (SF.mk rInt p_law_bottom), some (SF.mk rInt p_law_start), some (SF.mk (rRef l738) ()), some (SF.mk rInt s740.1), none]) (me := fun s740 => [MF.lst l738 rInt s740.2]) (s0 := (v_law_power_739, v_law_out_734)) 5 hp (JI.par 0) (fun i741 s740 => JN.at (c' := [some (SF.mk (fun I v x => (rdL K (rp rInt)) I H0 v x) p_law_tops_here), some (SF.mk rInt p_law_bottom), some (SF.mk rInt p_law_start), some (SF.mk (rRef l738) ()), some (SF.mk rInt s740.1), some (SF.mk rInt i741)]) (JN.seq (J1.cm (c' := fun v_law_out_742 => [some (SF.mk (fun I v x => (rdL K (rp rInt)) I H0 v x) p_law_tops_here), some (SF.mk rInt p_law_bottom), some (SF.mk rInt p_law_start), some (SF.mk (rRef l738) ()), some (SF.mk rInt s740.1), some (SF.mk rInt i741)]) (me' := fun v_law_out_742 => [MF.lst l738 rInt v_law_out_742]) (J1.app 3 0 (JE.bin (JE.var 5) (JE.var 4) opj_mul) hx)) fun v_law_out_742 => (JN.seq (J1.cx (c' := fun v_law_power_747 => [some (SF.mk (fun I v x => (rdL K (rp rInt)) I H0 v x) p_law_tops_here), some (SF.mk rInt p_law_bottom), some (SF.mk rInt p_law_start), some (SF.mk (rRef l738) ()), some (SF.mk rInt v_law_power_747), some (SF.mk rInt i741)]) (J1.set 4 (JE.bin (JE.var 4) (JE.var 1) opj_mul) hx sc_law_raised.nd)) fun v_law_power_747 => (JN.nil (fun _ _ _ h => (Stt.weak h (weak_some (weak_some (weak_some (weak_some (weak_some (weak_none weak_nil)))))))))))) hx (weak_some (weak_some (weak_some (weak_some (weak_some (weak_none weak_nil)))))) sc_law_raised.nd) fun s740 => (JR.retC 3 0))))⟩
theorem fn_law_raised {P : Program} {w : World} {K : PySem.W.Frag} {mg : Str → Option Value} {base : Heap} (T : Txt w K mg) : FnR P w K mg base (L2N.CX P w) 1 (He.ga K "_law_raised") (spN K (aCons (rdL K (rp rInt)) (aCons (rp rInt) (aCons (rp rInt) aNil))) (fun d => m_law_raised d.1 d.2.1 d.2.2.1) rInt) := by
  obtain ⟨fd, F⟩ := T.F_law_raised
  exact FnOk.frN0 (ok_law_raised T F) (F.bindsN fun _ _ _ _ _ _ us hl => match us, hl with | [_, _, _], _ => rfl)
theorem sc_law_again : FnScope ["_law_firsts", "_law_out", "_law_t", "_law_k"] ["_law_firsts"] (defScope s_law_again) := ⟨rfl, rfl, rfl, by decide +kernel, rfl, by decide +kernel, by decide +kernel⟩
def m_law_again (p_law_firsts : (List Int)) : Res (List Int) :=
  (((Res.ok (1 : Int)).bind fun a753 => (Res.ok []).bind fun b754 => .ok (a753 :: b754)).bind fun v_law_out_751 => ((((Res.ok (1 : Int)).bind fun a760 => (((Res.ok p_law_firsts).bind fun a758 => (Res.ok ()).bind fun b759 => .ok (a758, b759)).bind (fun d => .ok (d.1.length : Int))).bind fun b761 => rangeM a760 b761).bind fun l785 => forS (fun (i762 : Int) (s756 : (List Int)) => (((((((Res.ok (1 : Int)).bind fun a766 => ((Res.ok i762).bind fun a764 => (Res.ok (1 : Int)).bind fun b765 => .ok (a764 + b765)).bind fun b767 => rangeM a766 b767).bind fun l779 => lcR (fun (i768 : Int) => (((Res.ok p_law_firsts).bind fun a770 => (Res.ok i768).bind fun b771 => atM a770 b771).bind fun a776 => ((Res.ok s756).bind fun a774 => ((Res.ok i762).bind fun a772 => (Res.ok i768).bind fun b773 => .ok (a772 - b773)).bind fun b775 => atM a774 b775).bind fun b777 => mulI a776 b777)) l779).bind fun a781 => (Res.ok ()).bind fun b782 => .ok (a781, b782)).bind (fun d => .ok d.1.sum)).bind fun y784 => appM s756 y784).bind fun v_law_out_763 => (Res.ok v_law_out_763))) l785 v_law_out_751).bind fun s756 => (Res.ok s756)))
abbrev C_law_again (P : Program) (w : World) (K : PySem.W.Frag) (mg : Str → Option Value) (base : Heap) : Prop := FnR P w K mg base (L2N.CX P w) 1 (He.ga K "_law_again") (spN K (aCons (rdL K (rp rInt)) aNil) (fun d => m_law_again d.1) rInt)
theorem ok_law_again {P : Program} {w : World} {K : PySem.W.Frag} {mg : Str → Option Value} {base : Heap} (T : Txt w K mg) {fd : FuncData} (F : FunD K "_law_again" "_law_again" (defArgs s_law_again) (defBody s_law_again) (defScope s_law_again) [] [] (He.ga K "_law_again") fd) : FnOk P w K mg base (L2N.CX P w) 1 (He.ga K "_law_again") fd ["_law_firsts"] (spN K (aCons (rdL K (rp rInt)) aNil) (fun d => m_law_again d.1) rInt) := by
  refine FunD.fnN (k := 0) (N := ["_law_firsts", "_law_out", "_law_t", "_law_k"]) (ps := ["_law_firsts"]) F sc_law_again (fun I H vs d h => ?_) (fun cdv A outer s I0 H0 E vs d hr sm h => ?_)
  · obtain ⟨v0, _, rfl, h0, rfl⟩ := h; rfl
  obtain ⟨v0, _, rfl, h0, rfl⟩ := h
  have hx : ∀ {ctx : List (Option SF)} {mem : List MF} (I H : Hp) (σ : St) (d : Option Addr), Stt I0 H0 ctx mem I H σ → Fr H0 d → bK I0 H0 I H σ d := fun _ _ _ _ s f => ⟨s.fm, f⟩
  have tk : L2N.Takes (bx P w K mg base ["_law_firsts", "_law_out", "_law_t", "_law_k"] "_law_again" (defScope s_law_again) (He.ga K "_law_again") cdv A outer s H0 E) (bW E) := L2N.takes_of rfl rfl rfl rfl
  have hp : PassesOwn (model P w) (bx P w K mg base ["_law_firsts", "_law_out", "_law_t", "_law_k"] "_law_again" (defScope s_law_again) (He.ga K "_law_again") cdv A outer s H0 E).A (bx P w K mg base ["_law_firsts", "_law_out", "_law_t", "_law_k"] "_law_again" (defScope s_law_again) (He.ga K "_law_again") cdv A outer s H0 E).env (bx P w K mg base ["_law_firsts", "_law_out", "_law_t", "_law_k"] "_law_again" (defScope s_law_again) (He.ga K "_law_again") cdv A outer s H0 E).xe := passes_of rfl
  obtain ⟨p_law_firsts, _⟩ := d
  exact ⟨Stt I0 H0 [some (SF.mk (fun I v x => (rdL K (rp rInt)) I H0 v x) p_law_firsts), none, none, none] [], Stt.start sm ⟨h0, ini_nil rfl⟩ rfl (by simp), (JR.seq (J1.cn (c' := fun v_law_out_751 l755 => [some (SF.mk (fun I v x => (rdL K (rp rInt)) I H0 v x) p_law_firsts), some (SF.mk (rRef l755) ()), none, none]) (me' := fun v_law_out_751 l755 => [MF.lst l755 rInt v_law_out_751]) (J1.setM 1 (JM.lst (r := rInt) (JA.consL JE.int JA.nilL)) hx sc_law_again.nd)) fun v_law_out_751 => JR.ex fun l755 => (JR.seq (J1.forS (S := (List Int)) (cx := fun s756 => [some (SF.mk (fun I v x => (rdL K (rp rInt)) I H0 v x) p_law_firsts), some (SF.mk (rRef l755) ()), none, none]) (me := fun s756 => [MF.lst l755 rInt s756]) (s0 := v_law_out_751) 2 hp (JI.range2 JE.int (JE.callB (JA.cons (JE.varP 0 (r := (rdL K (rp rInt)))) JA.nil) cj_len T.n_len boot_len) T.n_range) (fun i762 s756 => JN.at (c' := [some (SF.mk (fun I v x => (rdL K (rp rInt)) I H0 v x) p_law_firsts), some (SF.mk (rRef l755) ()), some (SF.mk rInt i762), none]) (JN.seq (J1.cm (c' := fun v_law_out_763 => [some (SF.mk (fun I v x => (rdL K (rp rInt)) I H0 v x) p_law_firsts), some (SF.mk (rRef l755) ()), some (SF.mk rInt i762), none]) (me' := fun v_law_out_763 => [MF.lst l755 rInt v_law_out_763]) (J1.app 1 0 (JE.callB (JA.cons (JE.rd (JE.ofM (JM.lcT (r := rInt) 3 (JI.range2 JE.int (JE.bin (JE.var 2) JE.int opj_add) T.n_range) (fun _ _ _ _ _ D acc i768 tk769 => (JE.at (c' := [some (SF.mk (fun I v x => (rdL K (rp rInt)) I H0 v x) p_law_firsts), some (SF.mk (rRef l755) ()), some (SF.mk rInt i762), some (SF.mk rInt i768)]) (JE.bin (JE.ix (JE.varP 0 (r := (rdL K (rp rInt)))) (JE.var 3)) (JE.ix (JE.rdM 1 1) (JE.bin (JE.var 2) (JE.var 3) opj_sub)) opj_mul))) sc_law_again.nd (blkok_of (by kernel_rfl))))) JA.nil) (cj_sum rfl) T.n_sum boot_sum) hx)) fun v_law_out_763 => (JN.nil (fun _ _ _ h => (Stt.weak h (weak_some (weak_some (weak_none (weak_none weak_nil))))))))) hx (weak_some (weak_some (weak_none (weak_none weak_nil)))) sc_law_again.nd) fun s756 => (JR.retC 1 0)))⟩
theorem fn_law_again {P : Program} {w : World} {K : PySem.W.Frag} {mg : Str → Option Value} {base : Heap} (T : Txt w K mg) : FnR P w K mg base (L2N.CX P w) 1 (He.ga K "_law_again") (spN K (aCons (rdL K (rp rInt)) aNil) (fun d => m_law_again d.1) rInt) := by
  obtain ⟨fd, F⟩ := T.F_law_again
  exact FnOk.frN0 (ok_law_again T F) (F.bindsN fun _ _ _ _ _ _ us hl => match us, hl with | [_], _ => rfl)
theorem sc_law_over_powers : FnScope ["_law_numbers", "_law_bottom", "_law_out", "_law_power", "_law_number"] ["_law_numbers", "_law_bottom"] (defScope s_law_over_powers) := ⟨rfl, rfl, rfl, by decide +kernel, rfl, by decide +kernel, by decide +kernel⟩
def m_law_over_powers (p_law_numbers : (List Int)) (p_law_bottom : Int) : Res (List (Int × Int × Unit)) :=
  ((Res.ok ([] : List (Int × Int × Unit))).bind fun v_law_out_786 => ((Res.ok (1 : Int)).bind fun v_law_power_788 => (((Res.ok p_law_numbers).bind fun l803 => forS (fun (i790 : Int) (s789 : (Int × (List (Int × Int × Unit)))) => ((((Res.ok i790).bind fun a796 => ((Res.ok s789.1).bind fun a794 => (Res.ok ()).bind fun b795 => .ok (a794, b795)).bind fun b797 => .ok (a796, b797)).bind fun y799 => appM s789.2 y799).bind fun v_law_out_791 => (((Res.ok s789.1).bind fun a801 => (Res.ok p_law_bottom).bind fun b802 => mulI a801 b802).bind fun v_law_power_800 => (Res.ok (v_law_power_800, v_law_out_791))))) l803 (v_law_power_788, v_law_out_786)).bind fun s789 => (Res.ok s789.2))))
abbrev C_law_over_powers (P : Program) (w : World) (K : PySem.W.Frag) (mg : Str → Option Value) (base : Heap) : Prop := FnR P w K mg base (L2N.CX P w) 1 (He.ga K "_law_over_powers") (spN K (aCons (rdL K (rp rInt)) (aCons (rp rInt) aNil)) (fun d => m_law_over_powers d.1 d.2.1) (rTu (aCons (rp rInt) (aCons (rp rInt) aNil))))
theorem ok_law_over_powers {P : Program} {w : World} {K : PySem.W.Frag} {mg : Str → Option Value} {base : Heap} (T : Txt w K mg) {fd : FuncData} (F : FunD K "_law_over_powers" "_law_over_powers" (defArgs s_law_over_powers) (defBody s_law_over_powers) (defScope s_law_over_powers) [] [] (He.ga K "_law_over_powers") fd) : FnOk P w K mg base (L2N.CX P w) 1 (He.ga K "_law_over_powers") fd ["_law_numbers", "_law_bottom"] (spN K (aCons (rdL K (rp rInt)) (aCons (rp rInt) aNil)) (fun d => m_law_over_powers d.1 d.2.1) (rTu (aCons (rp rInt) (aCons (rp rInt) aNil)))) := by
  refine FunD.fnN (k := 0) (N := ["_law_numbers", "_law_bottom", "_law_out", "_law_power", "_law_number"]) (ps := ["_law_numbers", "_law_bottom"]) F sc_law_over_powers (fun I H vs d h => ?_) (fun cdv A outer s I0 H0 E vs d hr sm h => ?_)
  · obtain ⟨v0, _, rfl, h0, v1, _, rfl, h1, rfl⟩ := h; rfl
  obtain ⟨v0, _, rfl, h0, v1, _, rfl, h1, rfl⟩ := h
  have hx : ∀ {ctx : List (Option SF)} {mem : List MF} (I H : Hp) (σ : St) (d : Option Addr), Stt I0 H0 ctx mem I H σ → Fr H0 d → bK I0 H0 I H σ d := fun _ _ _ _ s f => ⟨s.fm, f⟩
  have tk : L2N.Takes (bx P w K mg base ["_law_numbers", "_law_bottom", "_law_out", "_law_power", "_law_number"] "_law_over_powers" (defScope s_law_over_powers) (He.ga K "_law_over_powers") cdv A outer s H0 E) (bW E) := L2N.takes_of rfl rfl rfl rfl
  have hp : PassesOwn (model P w) (bx P w K mg base ["_law_numbers", "_law_bottom", "_law_out", "_law_power", "_law_number"] "_law_over_powers" (defScope s_law_over_powers) (He.ga K "_law_over_powers") cdv A outer s H0 E).A (bx P w K mg base ["_law_numbers", "_law_bottom", "_law_out", "_law_power", "_law_number"] "_law_over_powers" (defScope s_law_over_powers) (He.ga K "_law_over_powers") cdv A outer s H0 E).env (bx P w K mg base ["_law_numbers", "_law_bottom", "_law_out", "_law_power", "_law_number"] "_law_over_powers" (defScope s_law_over_powers) (He.ga K "_law_over_powers") cdv A outer s H0 E).xe := passes_of rfl
  obtain ⟨p_law_numbers, p_law_bottom, _⟩ := d
  exact ⟨Stt I0 H0 [some (SF.mk (fun I v x => (rdL K (rp rInt)) I H0 v x) p_law_numbers), some (SF.mk rInt p_law_bottom), none, none, none] [], Stt.start sm ⟨h0, h1, ini_nil rfl⟩ rfl (by simp), (JR.seq (J1.cn (c' := fun v_law_out_786 l787 => [some (SF.mk (fun I v x => (rdL K (rp rInt)) I H0 v x) p_law_numbers), some (SF.mk rInt p_law_bottom), some (SF.mk (rRef l787) ()), none, none]) (me' := fun v_law_out_786 l787 => [MF.lst l787 (rTu (aCons (rp rInt) (aCons (rp rInt) aNil))) v_law_out_786]) (J1.setM 2 (JM.lst (r := (rTu (aCons (rp rInt) (aCons (rp rInt) aNil)))) JA.nilL) hx sc_law_over_powers.nd)) fun v_law_out_786 => JR.ex fun l787 => (JR.seq (J1.cx (c' := fun v_law_power_788 => [some (SF.mk (fun I v x => (rdL K (rp rInt)) I H0 v x) p_law_numbers), some (SF.mk rInt p_law_bottom), some (SF.mk (rRef l787) ()), some (SF.mk rInt v_law_power_788), none]) (J1.set 3 JE.int hx sc_law_over_powers.nd)) fun v_law_power_788 => (JR.seq (J1.forS (S := (Int × (List (Int × Int × Unit)))) (cx := fun s789 => [some (SF.mk (fun I v x => (rdL K (rp rInt)) I H0 v x) p_law_numbers), some (SF.mk rInt p_law_bottom), some (SF.mk (rRef l787) ()), some (SF.mk rInt s789.1), none]) (me := fun s789 => [MF.lst l787 (rTu (aCons (rp rInt) (aCons (rp rInt) aNil))) s789.2]) (s0 := (v_law_power_788, v_law_out_786)) 4 hp (JI.par 0) (fun i790 s789 => JN.at (c' := [some (SF.mk (fun I v x => (rdL K (rp rInt)) I H0 v x) p_law_numbers), some (SF.mk rInt p_law_bottom), some (SF.mk (rRef l787) ()), some (SF.mk rInt s789.1), some (SF.mk rInt i790)]) (JN.seq (J1.cm (c' := fun v_law_out_791 => [some (SF.mk (fun I v x => (rdL K (rp rInt)) I H0 v x) p_law_numbers), some (SF.mk rInt p_law_bottom), some (SF.mk (rRef l787) ()), some (SF.mk rInt s789.1), some (SF.mk rInt i790)]) (me' := fun v_law_out_791 => [MF.lst l787 (rTu (aCons (rp rInt) (aCons (rp rInt) aNil))) v_law_out_791]) (J1.app 2 0 (JE.tupD (k := 2) (JA.cons (JE.var 4) (JA.cons (JE.var 3) JA.nil)) (by rintro _ _ _ _ ⟨_, _, rfl, _, _, _, rfl, _, rfl⟩; rfl)) hx)) fun v_law_out_791 => (JN.seq (J1.cx (c' := fun v_law_power_800 => [some (SF.mk (fun I v x => (rdL K (rp rInt)) I H0 v x) p_law_numbers), some (SF.mk rInt p_law_bottom), some (SF.mk (rRef l787) ()), some (SF.mk rInt v_law_power_800), some (SF.mk rInt i790)]) (J1.set 3 (JE.bin (JE.var 3) (JE.var 1) opj_mul) hx sc_law_over_powers.nd)) fun v_law_power_800 => (JN.nil (fun _ _ _ h => (Stt.weak h (weak_some (weak_some (weak_some (weak_some (weak_none weak_nil))))))))))) hx (weak_some (weak_some (weak_some (weak_some (weak_none weak_nil))))) sc_law_over_powers.nd) fun s789 => (JR.retC 2 0))))⟩
theorem fn_law_over_powers {P : Program} {w : World} {K : PySem.W.Frag} {mg : Str → Option Value} {base : Heap} (T : Txt w K mg) : FnR P w K mg base (L2N.CX P w) 1 (He.ga K "_law_over_powers") (spN K (aCons (rdL K (rp rInt)) (aCons (rp rInt) aNil)) (fun d => m_law_over_powers d.1 d.2.1) (rTu (aCons (rp rInt) (aCons (rp rInt) aNil)))) := by
  obtain ⟨fd, F⟩ := T.F_law_over_powers
  exact FnOk.frN0 (ok_law_over_powers T F) (F.bindsN fun _ _ _ _ _ _ us hl => match us, hl with | [_, _], _ => rfl)
theorem sc_as_fraction : FnScope ["number"] ["number"] (defScope s_as_fraction) := ⟨rfl, rfl, rfl, by decide +kernel, rfl, by decide +kernel, by decide +kernel⟩
def m_as_fraction (p_number : Num) : Res Rat :=
  (match p_number with | .i p_number_i => (((Res.ok p_number_i).bind fun a887 => .ok false).bind fun x888 => if x888 = true then .stuck else (((Res.ok p_number_i).bind fun a890 => (Res.ok ()).bind fun b891 => .ok (a890, b891)).bind (fun d => qInt d.1))) | .q p_number_q => (((Res.ok p_number_q).bind fun a893 => .ok true).bind fun x894 => if x894 = true then (Res.ok p_number_q) else .stuck))
abbrev C_as_fraction (P : Program) (w : World) (K : PySem.W.Frag) (mg : Str → Option Value) (base : Heap) : Prop := FnR P w K mg base (L2N.CX P w) 4 (He.ga K "as_fraction") (spF K (aCons (rp (rNum K)) aNil) (fun d => qAs d.1) (rp (rFrac K)))
theorem ok_as_fraction {P : Program} {w : World} {K : PySem.W.Frag} {mg : Str → Option Value} {base : Heap} (T : Txt w K mg) (c_Fraction_1 : C_Fraction_1 P w K mg base) {fd : FuncData} (F : FunD K "as_fraction" "as_fraction" (defArgs s_as_fraction) (defBody s_as_fraction) (defScope s_as_fraction) [] [] (He.ga K "as_fraction") fd) : FnOk P w K mg base (L2N.CX P w) 4 (He.ga K "as_fraction") fd ["number"] (spF K (aCons (rp (rNum K)) aNil) (fun d => m_as_fraction d.1) (rp (rFrac K))) := by
  refine FunD.fn (k := 3) (N := ["number"]) (ps := ["number"]) F sc_as_fraction (fun I H vs d h => ?_) (fun cdv A outer s I0 H0 E vs d hr sm h => ?_)
  · obtain ⟨v0, _, rfl, h0, rfl⟩ := h; rfl
  obtain ⟨v0, _, rfl, h0, rfl⟩ := h
  have hx : ∀ {ctx : List (Option SF)} {mem : List MF} (I H : Hp) (σ : St) (d : Option Addr), Stt I0 H0 ctx mem I H σ → Fr H0 d → bK I0 H0 I H σ d := fun _ _ _ _ s f => ⟨s.fm, f⟩
  have tk : L2N.Takes (bx P w K mg base ["number"] "as_fraction" (defScope s_as_fraction) (He.ga K "as_fraction") cdv A outer s H0 E) (bW E) := L2N.takes_of rfl rfl rfl rfl
  obtain ⟨p_number, _⟩ := d
  exact ⟨Stt I0 H0 [some (SF.mk (rNum K) p_number)] [], Stt.start sm ⟨h0, ini_nil rfl⟩ rfl (by simp), (JR.num (K := K) 0 (fun p_number_i => JR.at (c' := [some (SF.mk rInt p_number_i)]) (JR.ifR (JT.of (JE.isi (JE.var 0) (w_glob_at T.g_Fraction rfl (by decide)) (.own _) (tyr_intC T.kI_int_Fraction) T.n_isinstance)) JR.dead (JR.ret (JE.call (JA.cons (JE.var 0) JA.nil) (c_Fraction_1 _ _ rfl rfl rfl rfl rfl (hr.mono (by decide)) tk) T.g_Fraction T.mk_Fraction.kp) hx) hx)) (fun p_number_q => JR.at (c' := [some (SF.mk (rFrac K) p_number_q)]) (JR.ifR (JT.of (JE.isi (JE.var 0) (w_glob_at T.g_Fraction rfl (by decide)) (.own _) (tyr_ins T.o_Fraction insF T.kt_Fraction_Fraction) T.n_isinstance)) (JR.ret (JE.var 0) hx) JR.dead hx)))⟩
theorem fn_as_fraction {P : Program} {w : World} {K : PySem.W.Frag} {mg : Str → Option Value} {base : Heap} (T : Txt w K mg) (c_Fraction_1 : C_Fraction_1 P w K mg base) : FnR P w K mg base (L2N.CX P w) 4 (He.ga K "as_fraction") (spF K (aCons (rp (rNum K)) aNil) (fun d => m_as_fraction d.1) (rp (rFrac K))) := by
  obtain ⟨fd, F⟩ := T.F_as_fraction
  exact FnOk.fr0 (ok_as_fraction T c_Fraction_1 F) (F.bindsN fun _ _ _ _ _ _ us hl => match us, hl with | [_], _ => rfl)
theorem nice_as_fraction : ∀ d : Num × Unit, qAs d.1 = .stuck ∨ qAs d.1 = m_as_fraction d.1 := fun ⟨y, _⟩ => by
  right
  cases y with
  | i n => rfl
  | q y => rfl
theorem sc_Fraction_eq : FnScope ["self", "other"] ["self", "other"] (defScope s_Fraction_eq) := ⟨rfl, rfl, rfl, by decide +kernel, rfl, by decide +kernel, by decide +kernel⟩
def m_Fraction_eq (p_self : Rat) (p_other : Num) : Res Bool :=
  (match p_other with | .i p_other_i => (((Res.ok p_other_i).bind fun a896 => .ok true).bind fun x897 => if x897 = true then ((((Res.ok p_self).bind fun a898 => .ok (a898.den : Int)).bind fun a899 => (Res.ok (1 : Int)).bind fun b900 => .ok (decide (a899 = b900))).bind fun a904 => if a904 = true then (((Res.ok p_self).bind fun a901 => .ok a901.num).bind fun a902 => (Res.ok p_other_i).bind fun b903 => .ok (decide (a902 = b903))) else .ok false) else .stuck) | .q p_other_q => (((Res.ok p_other_q).bind fun a906 => .ok false).bind fun x907 => if x907 = true then .stuck else ((((Res.ok p_other_q).bind fun a908 => .ok true).bind fun a909 => .ok (!a909)).bind fun x910 => if x910 = true then .stuck else ((((Res.ok p_self).bind fun a911 => .ok a911.num).bind fun a913 => ((Res.ok p_other_q).bind fun a912 => .ok a912.num).bind fun b914 => .ok (decide (a913 = b914))).bind fun a919 => if a919 = true then (((Res.ok p_self).bind fun a915 => .ok (a915.den : Int)).bind fun a917 => ((Res.ok p_other_q).bind fun a916 => .ok (a916.den : Int)).bind fun b918 => .ok (decide (a917 = b918))) else .ok false))))
abbrev C_Fraction_eq (P : Program) (w : World) (K : PySem.W.Frag) (mg : Str → Option Value) (base : Heap) : Prop := FnR P w K mg base (L2N.CX P w) 1 (He.ma K (He.ga K "Fraction") "__eq__") (spF K (aCons (rp (rFrac K)) (aCons (rp (rNum K)) aNil)) (fun d => qEq d.1 d.2.1) (rp rBl))
theorem ok_Fraction_eq {P : Program} {w : World} {K : PySem.W.Frag} {mg : Str → Option Value} {base : Heap} (T : Txt w K mg) {fd : FuncData} (F : FunD K "__eq__" "Fraction.__eq__" (defArgs s_Fraction_eq) (defBody s_Fraction_eq) (defScope s_Fraction_eq) [] [] (He.ma K (He.ga K "Fraction") "__eq__") fd) : FnOk P w K mg base (L2N.CX P w) 1 (He.ma K (He.ga K "Fraction") "__eq__") fd ["self", "other"] (spF K (aCons (rp (rFrac K)) (aCons (rp (rNum K)) aNil)) (fun d => m_Fraction_eq d.1 d.2.1) (rp rBl)) := by
  refine FunD.fn (k := 0) (N := ["self", "other"]) (ps := ["self", "other"]) F sc_Fraction_eq (fun I H vs d h => ?_) (fun cdv A outer s I0 H0 E vs d hr sm h => ?_)
  · obtain ⟨v0, _, rfl, h0, v1, _, rfl, h1, rfl⟩ := h; rfl
  obtain ⟨v0, _, rfl, h0, v1, _, rfl, h1, rfl⟩ := h
  have hx : ∀ {ctx : List (Option SF)} {mem : List MF} (I H : Hp) (σ : St) (d : Option Addr), Stt I0 H0 ctx mem I H σ → Fr H0 d → bK I0 H0 I H σ d := fun _ _ _ _ s f => ⟨s.fm, f⟩
  have tk : L2N.Takes (bx P w K mg base ["self", "other"] "Fraction.__eq__" (defScope s_Fraction_eq) (He.ma K (He.ga K "Fraction") "__eq__") cdv A outer s H0 E) (bW E) := L2N.takes_of rfl rfl rfl rfl
  obtain ⟨p_self, p_other, _⟩ := d
  exact ⟨Stt I0 H0 [some (SF.mk (rFrac K) p_self), some (SF.mk (rNum K) p_other)] [], Stt.start sm ⟨h0, h1, ini_nil rfl⟩ rfl (by simp), (JR.num (K := K) 1 (fun p_other_i => JR.at (c' := [some (SF.mk (rFrac K) p_self), some (SF.mk rInt p_other_i)]) (JR.ifR (JT.of (JE.isi (JE.var 1) (w_type_at T.n_int (by decide +kernel) rfl (by decide) (by decide)) (.ty _) (tyr_int (t := "int") (by decide +kernel)) T.n_isinstance)) (JR.ret (JE.and (JE.cmp (JE.fld (JE.var 0) fld_bottom T.o_Fraction.cl T.na_Fraction_bottom) JE.int opj_eq) (JE.one (JE.cmp (JE.fld (JE.var 0) fld_top T.o_Fraction.cl T.na_Fraction_top) (JE.var 1) opj_eq))) hx) JR.dead hx)) (fun p_other_q => JR.at (c' := [some (SF.mk (rFrac K) p_self), some (SF.mk (rFrac K) p_other_q)]) (JR.ifR (JT.of (JE.isi (JE.var 1) (w_type_at T.n_int (by decide +kernel) rfl (by decide) (by decide)) (.ty _) (tyr_ins T.o_Fraction insF T.kT_Fraction_int) T.n_isinstance)) JR.dead (JR.ifR (JT.not (JT.of (JE.isi (JE.var 1) (w_glob_at T.g_Fraction rfl (by decide)) (.own _) (tyr_ins T.o_Fraction insF T.kt_Fraction_Fraction) T.n_isinstance))) JR.dead (JR.ret (JE.and (JE.cmp (JE.fld (JE.var 0) fld_top T.o_Fraction.cl T.na_Fraction_top) (JE.fld (JE.var 1) fld_top T.o_Fraction.cl T.na_Fraction_top) opj_eq) (JE.one (JE.cmp (JE.fld (JE.var 0) fld_bottom T.o_Fraction.cl T.na_Fraction_bottom) (JE.fld (JE.var 1) fld_bottom T.o_Fraction.cl T.na_Fraction_bottom) opj_eq))) hx) hx) hx)))⟩
theorem fn_Fraction_eq {P : Program} {w : World} {K : PySem.W.Frag} {mg : Str → Option Value} {base : Heap} (T : Txt w K mg) : FnR P w K mg base (L2N.CX P w) 1 (He.ma K (He.ga K "Fraction") "__eq__") (spF K (aCons (rp (rFrac K)) (aCons (rp (rNum K)) aNil)) (fun d => m_Fraction_eq d.1 d.2.1) (rp rBl)) := by
  obtain ⟨fd, F⟩ := T.F_Fraction_eq
  exact FnOk.fr0 (ok_Fraction_eq T F) (F.bindsN fun _ _ _ _ _ _ us hl => match us, hl with | [_, _], _ => rfl)
theorem nice_Fraction_eq : ∀ d : Rat × Num × Unit, qEq d.1 d.2.1 = .stuck ∨ qEq d.1 d.2.1 = m_Fraction_eq d.1 d.2.1 := fun ⟨x, y, _⟩ => by
  right
  cases y with
  | i n =>
      simp only [m_Fraction_eq, Res.ok_bind, Bool.not_true, Bool.not_false, Bool.false_eq_true, if_true, if_false]
      exact (eq_dec1 x n).symm
  | q y =>
      simp only [m_Fraction_eq, Res.ok_bind, Bool.not_true, Bool.not_false, Bool.false_eq_true, if_true, if_false]
      exact (eq_dec x y).symm
theorem sc_Fraction_add : FnScope ["self", "other"] ["self", "other"] (defScope s_Fraction_add) := ⟨rfl, rfl, rfl, by decide +kernel, rfl, by decide +kernel, by decide +kernel⟩
def m_Fraction_add (p_self : Rat) (p_other : Num) : Res Rat :=
  (match p_other with | .i p_other_i => (((Res.ok p_other_i).bind fun a947 => .ok true).bind fun x948 => if x948 = true then (((((Res.ok p_self).bind fun a949 => .ok a949.num).bind fun a953 => ((Res.ok p_other_i).bind fun a951 => ((Res.ok p_self).bind fun a950 => .ok (a950.den : Int)).bind fun b952 => mulI a951 b952).bind fun b954 => .ok (a953 + b954)).bind fun a960 => (((Res.ok p_self).bind fun a956 => .ok (a956.den : Int)).bind fun a958 => (Res.ok ()).bind fun b959 => .ok (a958, b959)).bind fun b961 => .ok (a960, b961)).bind (fun d => qMk d.1 d.2.1)) else .stuck) | .q p_other_q => (((Res.ok p_other_q).bind fun a963 => .ok false).bind fun x964 => if x964 = true then .stuck else ((((Res.ok p_other_q).bind fun a965 => .ok true).bind fun a966 => .ok (!a966)).bind fun x967 => if x967 = true then .stuck else ((((((Res.ok p_self).bind fun a968 => .ok a968.num).bind fun a970 => ((Res.ok p_other_q).bind fun a969 => .ok (a969.den : Int)).bind fun b971 => mulI a970 b971).bind fun a976 => (((Res.ok p_other_q).bind fun a972 => .ok a972.num).bind fun a974 => ((Res.ok p_self).bind fun a973 => .ok (a973.den : Int)).bind fun b975 => mulI a974 b975).bind fun b977 => .ok (a976 + b977)).bind fun a986 => ((((Res.ok p_self).bind fun a979 => .ok (a979.den : Int)).bind fun a981 => ((Res.ok p_other_q).bind fun a980 => .ok (a980.den : Int)).bind fun b982 => mulI a981 b982).bind fun a984 => (Res.ok ()).bind fun b985 => .ok (a984, b985)).bind fun b987 => .ok (a986, b987)).bind (fun d => qMk d.1 d.2.1)))))
abbrev C_Fraction_add (P : Program) (w : World) (K : PySem.W.Frag) (mg : Str → Option Value) (base : Heap) : Prop := FnR P w K mg base (L2N.CX P w) 4 (He.ma K (He.ga K "Fraction") "__add__") (spF K (aCons (rp (rFrac K)) (aCons (rp (rNum K)) aNil)) (fun d => qAdd d.1 d.2.1) (rp (rFrac K)))
theorem ok_Fraction_add {P : Program} {w : World} {K : PySem.W.Frag} {mg : Str → Option Value} {base : Heap} (T : Txt w K mg) (c_Fraction_2 : C_Fraction_2 P w K mg base) {fd : FuncData} (F : FunD K "__add__" "Fraction.__add__" (defArgs s_Fraction_add) (defBody s_Fraction_add) (defScope s_Fraction_add) [] [] (He.ma K (He.ga K "Fraction") "__add__") fd) : FnOk P w K mg base (L2N.CX P w) 4 (He.ma K (He.ga K "Fraction") "__add__") fd ["self", "other"] (spF K (aCons (rp (rFrac K)) (aCons (rp (rNum K)) aNil)) (fun d => m_Fraction_add d.1 d.2.1) (rp (rFrac K))) := by
  refine FunD.fn (k := 3) (N := ["self", "other"]) (ps := ["self", "other"]) F sc_Fraction_add (fun I H vs d h => ?_) (fun cdv A outer s I0 H0 E vs d hr sm h => ?_)
  · obtain ⟨v0, _, rfl, h0, v1, _, rfl, h1, rfl⟩ := h; rfl
  obtain ⟨v0, _, rfl, h0, v1, _, rfl, h1, rfl⟩ := h
  have hx : ∀ {ctx : List (Option SF)} {mem : List MF} (I H : Hp) (σ : St) (d : Option Addr), Stt I0 H0 ctx mem I H σ → Fr H0 d → bK I0 H0 I H σ d := fun _ _ _ _ s f => ⟨s.fm, f⟩
  have tk : L2N.Takes (bx P w K mg base ["self", "other"] "Fraction.__add__" (defScope s_Fraction_add) (He.ma K (He.ga K "Fraction") "__add__") cdv A outer s H0 E) (bW E) := L2N.takes_of rfl rfl rfl rfl
  obtain ⟨p_self, p_other, _⟩ := d
  exact ⟨Stt I0 H0 [some (SF.mk (rFrac K) p_self), some (SF.mk (rNum K) p_other)] [], Stt.start sm ⟨h0, h1, ini_nil rfl⟩ rfl (by simp), (JR.num (K := K) 1 (fun p_other_i => JR.at (c' := [some (SF.mk (rFrac K) p_self), some (SF.mk rInt p_other_i)]) (JR.ifR (JT.of (JE.isi (JE.var 1) (w_type_at T.n_int (by decide +kernel) rfl (by decide) (by decide)) (.ty _) (tyr_int (t := "int") (by decide +kernel)) T.n_isinstance)) (JR.ret (JE.call (JA.cons (JE.bin (JE.fld (JE.var 0) fld_top T.o_Fraction.cl T.na_Fraction_top) (JE.bin (JE.var 1) (JE.fld (JE.var 0) fld_bottom T.o_Fraction.cl T.na_Fraction_bottom) opj_mul) opj_add) (JA.cons (JE.fld (JE.var 0) fld_bottom T.o_Fraction.cl T.na_Fraction_bottom) JA.nil)) (c_Fraction_2 _ _ rfl rfl rfl rfl rfl (hr.mono (by decide)) tk) T.g_Fraction T.mk_Fraction.kp) hx) JR.dead hx)) (fun p_other_q => JR.at (c' := [some (SF.mk (rFrac K) p_self), some (SF.mk (rFrac K) p_other_q)]) (JR.ifR (JT.of (JE.isi (JE.var 1) (w_type_at T.n_int (by decide +kernel) rfl (by decide) (by decide)) (.ty _) (tyr_ins T.o_Fraction insF T.kT_Fraction_int) T.n_isinstance)) JR.dead (JR.ifR (JT.not (JT.of (JE.isi (JE.var 1) (w_glob_at T.g_Fraction rfl (by decide)) (.own _) (tyr_ins T.o_Fraction insF T.kt_Fraction_Fraction) T.n_isinstance))) JR.dead (JR.ret (JE.call (JA.cons (JE.bin (JE.bin (JE.fld (JE.var 0) fld_top T.o_Fraction.cl T.na_Fraction_top) (JE.fld (JE.var 1) fld_bottom T.o_Fraction.cl T.na_Fraction_bottom) opj_mul) (JE.bin (JE.fld (JE.var 1) fld_top T.o_Fraction.cl T.na_Fraction_top) (JE.fld (JE.var 0) fld_bottom T.o_Fraction.cl T.na_Fraction_bottom) opj_mul) opj_add) (JA.cons (JE.bin (JE.fld (JE.var 0) fld_bottom T.o_Fraction.cl T.na_Fraction_bottom) (JE.fld (JE.var 1) fld_bottom T.o_Fraction.cl T.na_Fraction_bottom) opj_mul) JA.nil)) (c_Fraction_2 _ _ rfl rfl rfl rfl rfl (hr.mono (by decide)) tk) T.g_Fraction T.mk_Fraction.kp) hx) hx) hx)))⟩
theorem fn_Fraction_add {P : Program} {w : World} {K : PySem.W.Frag} {mg : Str → Option Value} {base : Heap} (T : Txt w K mg) (c_Fraction_2 : C_Fraction_2 P w K mg base) : FnR P w K mg base (L2N.CX P w) 4 (He.ma K (He.ga K "Fraction") "__add__") (spF K (aCons (rp (rFrac K)) (aCons (rp (rNum K)) aNil)) (fun d => m_Fraction_add d.1 d.2.1) (rp (rFrac K))) := by
  obtain ⟨fd, F⟩ := T.F_Fraction_add
  exact FnOk.fr0 (ok_Fraction_add T c_Fraction_2 F) (F.bindsN fun _ _ _ _ _ _ us hl => match us, hl with | [_, _], _ => rfl)
theorem nice_Fraction_add : ∀ d : Rat × Num × Unit, qAdd d.1 d.2.1 = .stuck ∨ qAdd d.1 d.2.1 = m_Fraction_add d.1 d.2.1 := fun ⟨x, y, _⟩ => by
  cases y with
  | i n =>
      refine stuck_or fun h => ?_
      obtain ⟨hx, hn⟩ := h
      dsimp only at hx ⊢
      have hn := fits_int.mp hn
      simp only [m_Fraction_add, Res.ok_bind, Bool.not_true, Bool.not_false, Bool.false_eq_true, if_true, if_false, mul_fit hn (fd hx), mul_fit hx.1 hn, qMk_d hx, add_div1]
      rfl
  | q y =>
      refine stuck_or fun h => ?_
      obtain ⟨hx, hy⟩ := h
      dsimp only at hx ⊢
      have hy : fits y := hy
      simp only [m_Fraction_add, Res.ok_bind, Bool.not_true, Bool.not_false, Bool.false_eq_true, if_true, if_false, mul_fit hx.1 (fd hy), mul_fit hy.1 (fd hx), mul_fit (fd hx) (fd hy), mul_fit hx.1 hy.1, qMk_dd hx hy, add_divs]
      rfl
theorem sc_Fraction_lt : FnScope ["self", "other"] ["self", "other"] (defScope s_Fraction_lt) := ⟨rfl, rfl, rfl, by decide +kernel, rfl, by decide +kernel, by decide +kernel⟩
def m_Fraction_lt (p_self : Rat) (p_other : Num) : Res Bool :=
  (match p_other with | .i p_other_i => (((Res.ok p_other_i).bind fun a989 => .ok true).bind fun x990 => if x990 = true then (((Res.ok p_self).bind fun a991 => .ok a991.num).bind fun a995 => ((Res.ok p_other_i).bind fun a993 => ((Res.ok p_self).bind fun a992 => .ok (a992.den : Int)).bind fun b994 => mulI a993 b994).bind fun b996 => .ok (decide (a995 < b996))) else .stuck) | .q p_other_q => (((Res.ok p_other_q).bind fun a998 => .ok false).bind fun x999 => if x999 = true then .stuck else ((((Res.ok p_other_q).bind fun a1000 => .ok true).bind fun a1001 => .ok (!a1001)).bind fun x1002 => if x1002 = true then .stuck else ((((Res.ok p_self).bind fun a1003 => .ok a1003.num).bind fun a1005 => ((Res.ok p_other_q).bind fun a1004 => .ok (a1004.den : Int)).bind fun b1006 => mulI a1005 b1006).bind fun a1011 => (((Res.ok p_other_q).bind fun a1007 => .ok a1007.num).bind fun a1009 => ((Res.ok p_self).bind fun a1008 => .ok (a1008.den : Int)).bind fun b1010 => mulI a1009 b1010).bind fun b1012 => .ok (decide (a1011 < b1012))))))
abbrev C_Fraction_lt (P : Program) (w : World) (K : PySem.W.Frag) (mg : Str → Option Value) (base : Heap) : Prop := FnR P w K mg base (L2N.CX P w) 1 (He.ma K (He.ga K "Fraction") "__lt__") (spF K (aCons (rp (rFrac K)) (aCons (rp (rNum K)) aNil)) (fun d => qLt d.1 d.2.1) (rp rBl))
theorem ok_Fraction_lt {P : Program} {w : World} {K : PySem.W.Frag} {mg : Str → Option Value} {base : Heap} (T : Txt w K mg) {fd : FuncData} (F : FunD K "__lt__" "Fraction.__lt__" (defArgs s_Fraction_lt) (defBody s_Fraction_lt) (defScope s_Fraction_lt) [] [] (He.ma K (He.ga K "Fraction") "__lt__") fd) : FnOk P w K mg base (L2N.CX P w) 1 (He.ma K (He.ga K "Fraction") "__lt__") fd ["self", "other"] (spF K (aCons (rp (rFrac K)) (aCons (rp (rNum K)) aNil)) (fun d => m_Fraction_lt d.1 d.2.1) (rp rBl)) := by
  refine FunD.fn (k := 0) (N := ["self", "other"]) (ps := ["self", "other"]) F sc_Fraction_lt (fun I H vs d h => ?_) (fun cdv A outer s I0 H0 E vs d hr sm h => ?_)
  · obtain ⟨v0, _, rfl, h0, v1, _, rfl, h1, rfl⟩ := h; rfl
  obtain ⟨v0, _, rfl, h0, v1, _, rfl, h1, rfl⟩ := h
  have hx : ∀ {ctx : List (Option SF)} {mem : List MF} (I H : Hp) (σ : St) (d : Option Addr), Stt I0 H0 ctx mem I H σ → Fr H0 d → bK I0 H0 I H σ d := fun _ _ _ _ s f => ⟨s.fm, f⟩
  have tk : L2N.Takes (bx P w K mg base ["self", "other"] "Fraction.__lt__" (defScope s_Fraction_lt) (He.ma K (He.ga K "Fraction") "__lt__") cdv A outer s H0 E) (bW E) := L2N.takes_of rfl rfl rfl rfl
  obtain ⟨p_self, p_other, _⟩ := d
  exact ⟨Stt I0 H0 [some (SF.mk (rFrac K) p_self), some (SF.mk (rNum K) p_other)] [], Stt.start sm ⟨h0, h1, ini_nil rfl⟩ rfl (by simp), (JR.num (K := K) 1 (fun p_other_i => JR.at (c' := [some (SF.mk (rFrac K) p_self), some (SF.mk rInt p_other_i)]) (JR.ifR (JT.of (JE.isi (JE.var 1) (w_type_at T.n_int (by decide +kernel) rfl (by decide) (by decide)) (.ty _) (tyr_int (t := "int") (by decide +kernel)) T.n_isinstance)) (JR.ret (JE.cmp (JE.fld (JE.var 0) fld_top T.o_Fraction.cl T.na_Fraction_top) (JE.bin (JE.var 1) (JE.fld (JE.var 0) fld_bottom T.o_Fraction.cl T.na_Fraction_bottom) opj_mul) opj_lt) hx) JR.dead hx)) (fun p_other_q => JR.at (c' := [some (SF.mk (rFrac K) p_self), some (SF.mk (rFrac K) p_other_q)]) (JR.ifR (JT.of (JE.isi (JE.var 1) (w_type_at T.n_int (by decide +kernel) rfl (by decide) (by decide)) (.ty _) (tyr_ins T.o_Fraction insF T.kT_Fraction_int) T.n_isinstance)) JR.dead (JR.ifR (JT.not (JT.of (JE.isi (JE.var 1) (w_glob_at T.g_Fraction rfl (by decide)) (.own _) (tyr_ins T.o_Fraction insF T.kt_Fraction_Fraction) T.n_isinstance))) JR.dead (JR.ret (JE.cmp (JE.bin (JE.fld (JE.var 0) fld_top T.o_Fraction.cl T.na_Fraction_top) (JE.fld (JE.var 1) fld_bottom T.o_Fraction.cl T.na_Fraction_bottom) opj_mul) (JE.bin (JE.fld (JE.var 1) fld_top T.o_Fraction.cl T.na_Fraction_top) (JE.fld (JE.var 0) fld_bottom T.o_Fraction.cl T.na_Fraction_bottom) opj_mul) opj_lt) hx) hx) hx)))⟩
theorem fn_Fraction_lt {P : Program} {w : World} {K : PySem.W.Frag} {mg : Str → Option Value} {base : Heap} (T : Txt w K mg) : FnR P w K mg base (L2N.CX P w) 1 (He.ma K (He.ga K "Fraction") "__lt__") (spF K (aCons (rp (rFrac K)) (aCons (rp (rNum K)) aNil)) (fun d => m_Fraction_lt d.1 d.2.1) (rp rBl)) := by
  obtain ⟨fd, F⟩ := T.F_Fraction_lt
  exact FnOk.fr0 (ok_Fraction_lt T F) (F.bindsN fun _ _ _ _ _ _ us hl => match us, hl with | [_, _], _ => rfl)
theorem nice_Fraction_lt : ∀ d : Rat × Num × Unit, qLt d.1 d.2.1 = .stuck ∨ qLt d.1 d.2.1 = m_Fraction_lt d.1 d.2.1 := fun ⟨x, y, _⟩ => by
  cases y with
  | i n =>
      refine stuck_or fun h => ?_
      obtain ⟨hx, hn⟩ := h
      dsimp only at hx ⊢
      have hn := fits_int.mp hn
      simp only [m_Fraction_lt, Res.ok_bind, Bool.not_true, Bool.not_false, Bool.false_eq_true, if_true, if_false, mul_fit hn (fd hx)]
      exact congrArg Res.ok (decide_eq_decide.mpr (lt_int x n))
  | q y =>
      refine stuck_or fun h => ?_
      obtain ⟨hx, hy⟩ := h
      dsimp only at hx ⊢
      have hy : fits y := hy
      simp only [m_Fraction_lt, Res.ok_bind, Bool.not_true, Bool.not_false, Bool.false_eq_true, if_true, if_false, mul_fit hx.1 (fd hy), mul_fit hy.1 (fd hx)]
      exact congrArg Res.ok (decide_eq_decide.mpr (Rat.lt_iff x y))
theorem sc_Fraction_gt : FnScope ["self", "other"] ["self", "other"] (defScope s_Fraction_gt) := ⟨rfl, rfl, rfl, by decide +kernel, rfl, by decide +kernel, by decide +kernel⟩
def m_Fraction_gt (p_self : Rat) (p_other : Num) : Res Bool :=
  (match p_other with | .i p_other_i => (((Res.ok p_other_i).bind fun a1014 => .ok true).bind fun x1015 => if x1015 = true then (((Res.ok p_self).bind fun a1016 => .ok a1016.num).bind fun a1020 => ((Res.ok p_other_i).bind fun a1018 => ((Res.ok p_self).bind fun a1017 => .ok (a1017.den : Int)).bind fun b1019 => mulI a1018 b1019).bind fun b1021 => .ok (decide (a1020 > b1021))) else .stuck) | .q p_other_q => (((Res.ok p_other_q).bind fun a1023 => .ok false).bind fun x1024 => if x1024 = true then .stuck else ((((Res.ok p_other_q).bind fun a1025 => .ok true).bind fun a1026 => .ok (!a1026)).bind fun x1027 => if x1027 = true then .stuck else ((((Res.ok p_self).bind fun a1028 => .ok a1028.num).bind fun a1030 => ((Res.ok p_other_q).bind fun a1029 => .ok (a1029.den : Int)).bind fun b1031 => mulI a1030 b1031).bind fun a1036 => (((Res.ok p_other_q).bind fun a1032 => .ok a1032.num).bind fun a1034 => ((Res.ok p_self).bind fun a1033 => .ok (a1033.den : Int)).bind fun b1035 => mulI a1034 b1035).bind fun b1037 => .ok (decide (a1036 > b1037))))))
abbrev C_Fraction_gt (P : Program) (w : World) (K : PySem.W.Frag) (mg : Str → Option Value) (base : Heap) : Prop := FnR P w K mg base (L2N.CX P w) 1 (He.ma K (He.ga K "Fraction") "__gt__") (spF K (aCons (rp (rFrac K)) (aCons (rp (rNum K)) aNil)) (fun d => qGt d.1 d.2.1) (rp rBl))
theorem ok_Fraction_gt {P : Program} {w : World} {K : PySem.W.Frag} {mg : Str → Option Value} {base : Heap} (T : Txt w K mg) {fd : FuncData} (F : FunD K "__gt__" "Fraction.__gt__" (defArgs s_Fraction_gt) (defBody s_Fraction_gt) (defScope s_Fraction_gt) [] [] (He.ma K (He.ga K "Fraction") "__gt__") fd) : FnOk P w K mg base (L2N.CX P w) 1 (He.ma K (He.ga K "Fraction") "__gt__") fd ["self", "other"] (spF K (aCons (rp (rFrac K)) (aCons (rp (rNum K)) aNil)) (fun d => m_Fraction_gt d.1 d.2.1) (rp rBl)) := by
  refine FunD.fn (k := 0) (N := ["self", "other"]) (ps := ["self", "other"]) F sc_Fraction_gt (fun I H vs d h => ?_) (fun cdv A outer s I0 H0 E vs d hr sm h => ?_)
  · obtain ⟨v0, _, rfl, h0, v1, _, rfl, h1, rfl⟩ := h; rfl
  obtain ⟨v0, _, rfl, h0, v1, _, rfl, h1, rfl⟩ := h
  have hx : ∀ {ctx : List (Option SF)} {mem : List MF} (I H : Hp) (σ : St) (d : Option Addr), Stt I0 H0 ctx mem I H σ → Fr H0 d → bK I0 H0 I H σ d := fun _ _ _ _ s f => ⟨s.fm, f⟩
  have tk : L2N.Takes (bx P w K mg base ["self", "other"] "Fraction.__gt__" (defScope s_Fraction_gt) (He.ma K (He.ga K "Fraction") "__gt__") cdv A outer s H0 E) (bW E) := L2N.takes_of rfl rfl rfl rfl
  obtain ⟨p_self, p_other, _⟩ := d
  exact ⟨Stt I0 H0 [some (SF.mk (rFrac K) p_self), some (SF.mk (rNum K) p_other)] [], Stt.start sm ⟨h0, h1, ini_nil rfl⟩ rfl (by simp), (JR.num (K := K) 1 (fun p_other_i => JR.at (c' := [some (SF.mk (rFrac K) p_self), some (SF.mk rInt p_other_i)]) (JR.ifR (JT.of (JE.isi (JE.var 1) (w_type_at T.n_int (by decide +kernel) rfl (by decide) (by decide)) (.ty _) (tyr_int (t := "int") (by decide +kernel)) T.n_isinstance)) (JR.ret (JE.cmp (JE.fld (JE.var 0) fld_top T.o_Fraction.cl T.na_Fraction_top) (JE.bin (JE.var 1) (JE.fld (JE.var 0) fld_bottom T.o_Fraction.cl T.na_Fraction_bottom) opj_mul) opj_gt) hx) JR.dead hx)) (fun p_other_q => JR.at (c' := [some (SF.mk (rFrac K) p_self), some (SF.mk (rFrac K) p_other_q)]) (JR.ifR (JT.of (JE.isi (JE.var 1) (w_type_at T.n_int (by decide +kernel) rfl (by decide) (by decide)) (.ty _) (tyr_ins T.o_Fraction insF T.kT_Fraction_int) T.n_isinstance)) JR.dead (JR.ifR (JT.not (JT.of (JE.isi (JE.var 1) (w_glob_at T.g_Fraction rfl (by decide)) (.own _) (tyr_ins T.o_Fraction insF T.kt_Fraction_Fraction) T.n_isinstance))) JR.dead (JR.ret (JE.cmp (JE.bin (JE.fld (JE.var 0) fld_top T.o_Fraction.cl T.na_Fraction_top) (JE.fld (JE.var 1) fld_bottom T.o_Fraction.cl T.na_Fraction_bottom) opj_mul) (JE.bin (JE.fld (JE.var 1) fld_top T.o_Fraction.cl T.na_Fraction_top) (JE.fld (JE.var 0) fld_bottom T.o_Fraction.cl T.na_Fraction_bottom) opj_mul) opj_gt) hx) hx) hx)))⟩
theorem fn_Fraction_gt {P : Program} {w : World} {K : PySem.W.Frag} {mg : Str → Option Value} {base : Heap} (T : Txt w K mg) : FnR P w K mg base (L2N.CX P w) 1 (He.ma K (He.ga K "Fraction") "__gt__") (spF K (aCons (rp (rFrac K)) (aCons (rp (rNum K)) aNil)) (fun d => m_Fraction_gt d.1 d.2.1) (rp rBl)) := by
  obtain ⟨fd, F⟩ := T.F_Fraction_gt
  exact FnOk.fr0 (ok_Fraction_gt T F) (F.bindsN fun _ _ _ _ _ _ us hl => match us, hl with | [_, _], _ => rfl)
theorem nice_Fraction_gt : ∀ d : Rat × Num × Unit, qGt d.1 d.2.1 = .stuck ∨ qGt d.1 d.2.1 = m_Fraction_gt d.1 d.2.1 := fun ⟨x, y, _⟩ => by
  cases y with
  | i n =>
      refine stuck_or fun h => ?_
      obtain ⟨hx, hn⟩ := h
      dsimp only at hx ⊢
      have hn := fits_int.mp hn
      simp only [m_Fraction_gt, Res.ok_bind, Bool.not_true, Bool.not_false, Bool.false_eq_true, if_true, if_false, mul_fit hn (fd hx)]
      exact congrArg Res.ok (decide_eq_decide.mpr (gt_int x n))
  | q y =>
      refine stuck_or fun h => ?_
      obtain ⟨hx, hy⟩ := h
      dsimp only at hx ⊢
      have hy : fits y := hy
      simp only [m_Fraction_gt, Res.ok_bind, Bool.not_true, Bool.not_false, Bool.false_eq_true, if_true, if_false, mul_fit hx.1 (fd hy), mul_fit hy.1 (fd hx)]
      exact congrArg Res.ok (decide_eq_decide.mpr (Rat.lt_iff y x))
theorem sc_NoWeb_init : FnScope ["self", "tick"] ["self", "tick"] (defScope s_NoWeb_init) := ⟨rfl, rfl, rfl, by decide +kernel, rfl, by decide +kernel, by decide +kernel⟩
abbrev C_err_NoWeb (P : Program) (w : World) (K : PySem.W.Frag) (mg : Str → Option Value) (base : Heap) : Prop := ErR1 P w K mg base "NoWeb" "tick"
theorem fn_err_NoWeb {P : Program} {w : World} {K : PySem.W.Frag} {mg : Str → Option Value} {base : Heap} (T : Txt w K mg) : C_err_NoWeb P w K mg base := by
  obtain ⟨fd, F⟩ := T.F_NoWeb_init
  exact ⟨T.ev_NoWeb, fd, ["self", "tick"], init1 F sc_NoWeb_init rfl T.ev_NoWeb.oex (T.ev_NoWeb.no _ (by simp)) (by first | exact Or.inl rfl | exact Or.inr (Or.inl rfl) | exact Or.inr (Or.inr rfl)) (by first | exact Or.inl rfl | exact Or.inr (Or.inl rfl) | exact Or.inr (Or.inr rfl)) (by decide) (by decide), F.bindsN fun _ _ _ _ _ _ us hl => match us, hl with | [_, _], _ => rfl⟩
theorem sc_check_returns : FnScope ["returns", "total", "t"] ["returns"] (defScope s_check_returns) := ⟨rfl, rfl, rfl, by decide +kernel, rfl, by decide +kernel, by decide +kernel⟩
def m_check_returns (p_returns : (List Num)) : Res Unit :=
  ((((Res.ok (0 : Int)).bind fun a923 => (Res.ok ()).bind fun b924 => .ok (a923, b924)).bind (fun d => qInt d.1)).bind fun v_total_921 => ((((((Res.ok p_returns).bind fun a927 => (Res.ok ()).bind fun b928 => .ok (a927, b928)).bind (fun d => .ok (d.1.length : Int))).bind fun a929 => rangeM1 a929).bind fun l946 => forS (fun (i930 : Int) (s925 : Rat) => (((Res.ok s925).bind fun a934 => ((Res.ok p_returns).bind fun a932 => (Res.ok i930).bind fun b933 => atM a932 b933).bind fun b935 => qAdd a934 b935).bind fun v_total_931 => (((((Res.ok p_returns).bind fun a936 => (Res.ok i930).bind fun b937 => atM a936 b937).bind fun a938 => (Res.ok (0 : Int)).bind fun b939 => nxM (fun a b => .ok (decide (a < b))) (fun a b => qLt a (.i b)) a938 b939).bind fun a942 => if a942 = true then .ok true else ((Res.ok v_total_931).bind fun a940 => (Res.ok (1 : Int)).bind fun b941 => qGt a940 (.i b941))).bind fun x943 => if x943 = true then (((Res.ok i930).bind fun y945 => Res.err ⟨"NoWeb", [("tick", Pay.int y945)]⟩)) else (Res.ok v_total_931)))) l946 v_total_921).bind fun s925 => (Res.ok ())))
abbrev C_check_returns (P : Program) (w : World) (K : PySem.W.Frag) (mg : Str → Option Value) (base : Heap) : Prop := FnR P w K mg base (L2N.CX P w) 5 (He.ga K "check_returns") (spF K (aCons (rdL K (rp (rNum K))) aNil) (fun d => m_check_returns d.1) (rp rNon))
theorem ok_check_returns {P : Program} {w : World} {K : PySem.W.Frag} {mg : Str → Option Value} {base : Heap} (T : Txt w K mg) (c_Fraction_1 : C_Fraction_1 P w K mg base) (c_Fraction_add : C_Fraction_add P w K mg base) (c_Fraction_lt : C_Fraction_lt P w K mg base) (c_Fraction_gt : C_Fraction_gt P w K mg base) (c_err_NoWeb : C_err_NoWeb P w K mg base) {fd : FuncData} (F : FunD K "check_returns" "check_returns" (defArgs s_check_returns) (defBody s_check_returns) (defScope s_check_returns) [] [] (He.ga K "check_returns") fd) : FnOk P w K mg base (L2N.CX P w) 5 (He.ga K "check_returns") fd ["returns"] (spF K (aCons (rdL K (rp (rNum K))) aNil) (fun d => m_check_returns d.1) (rp rNon)) := by
  refine FunD.fnE (k := 4) (N := ["returns", "total", "t"]) (ps := ["returns"]) F sc_check_returns (fun I H vs d h => ?_) (fun cdv A outer s I0 H0 E vs d hr sm h => ?_)
  · obtain ⟨v0, _, rfl, h0, rfl⟩ := h; rfl
  obtain ⟨v0, _, rfl, h0, rfl⟩ := h
  have hx : ∀ {ctx : List (Option SF)} {mem : List MF} (I H : Hp) (σ : St) (d : Option Addr), Stt I0 H0 ctx mem I H σ → Fr H0 d → bK I0 H0 I H σ d := fun _ _ _ _ s f => ⟨s.fm, f⟩
  have tk : L2N.Takes (bx P w K mg base ["returns", "total", "t"] "check_returns" (defScope s_check_returns) (He.ga K "check_returns") cdv A outer s H0 E) (bW E) := L2N.takes_of rfl rfl rfl rfl
  have hp : PassesOwn (model P w) (bx P w K mg base ["returns", "total", "t"] "check_returns" (defScope s_check_returns) (He.ga K "check_returns") cdv A outer s H0 E).A (bx P w K mg base ["returns", "total", "t"] "check_returns" (defScope s_check_returns) (He.ga K "check_returns") cdv A outer s H0 E).env (bx P w K mg base ["returns", "total", "t"] "check_returns" (defScope s_check_returns) (He.ga K "check_returns") cdv A outer s H0 E).xe := passes_of rfl
  obtain ⟨p_returns, _⟩ := d
  exact ⟨Stt I0 H0 [some (SF.mk (fun I v x => (rdL K (rp (rNum K))) I H0 v x) p_returns), none, none] [], Stt.start sm ⟨h0, ini_nil rfl⟩ rfl (by simp), (JN.seq (J1.cx (c' := fun v_total_921 => [some (SF.mk (fun I v x => (rdL K (rp (rNum K))) I H0 v x) p_returns), some (SF.mk (rFrac K) v_total_921), none]) (J1.set 1 (JE.call (JA.cons JE.int JA.nil) (c_Fraction_1 _ _ rfl rfl rfl rfl rfl (hr.mono (by decide)) tk) T.g_Fraction T.mk_Fraction.kp) hx sc_check_returns.nd)) fun v_total_921 => (JN.seq (J1.forS (S := Rat) (cx := fun s925 => [some (SF.mk (fun I v x => (rdL K (rp (rNum K))) I H0 v x) p_returns), some (SF.mk (rFrac K) s925), none]) (me := fun s925 => []) (s0 := v_total_921) 2 hp (JI.range1 (JE.callB (JA.cons (JE.varP 0 (r := (rdL K (rp (rNum K))))) JA.nil) cj_len T.n_len boot_len) T.n_range) (fun i930 s925 => JN.at (c' := [some (SF.mk (fun I v x => (rdL K (rp (rNum K))) I H0 v x) p_returns), some (SF.mk (rFrac K) s925), some (SF.mk rInt i930)]) (JN.seq (J1.cx (c' := fun v_total_931 => [some (SF.mk (fun I v x => (rdL K (rp (rNum K))) I H0 v x) p_returns), some (SF.mk (rFrac K) v_total_931), some (SF.mk rInt i930)]) (J1.set 1 (JE.bin (JE.var 1) (JE.ix (JE.varP 0 (r := (rdL K (rp (rNum K))))) (JE.var 2)) (opj_qn (g := fun d => qAdd d.1 d.2.1) (opj_qq (op := .Add) (g := fun d => qAdd d.1 d.2.1) T.o_Fraction T.om_Fraction_add c_Fraction_add (hr.mono (by decide)) tk) (opj_qi (op := .Add) (g := fun d => qAdd d.1 d.2.1) T.o_Fraction T.om_Fraction_add T.om_Fraction_radd T.im_add.choose_spec T.im_radd.choose_spec c_Fraction_add (hr.mono (by decide)) tk))) hx sc_check_returns.nd)) fun v_total_931 => (JN.ifT (JT.bool (JW.or (JT.cmp (JE.ix (JE.varP 0 (r := (rdL K (rp (rNum K))))) (JE.var 2)) JE.int (opj_nx opj_lt (opj_cqi (op := .Lt) (g := fun d => qLt d.1 d.2.1) (fun _ _ => rfl) T.o_Fraction T.om_Fraction_lt T.nf_Fraction.2 c_Fraction_lt (hr.mono (by decide)) tk))) (JW.or1 (JT.cmp (JE.var 1) JE.int (opj_cqi (op := .Gt) (g := fun d => qGt d.1 d.2.1) (fun _ _ => rfl) T.o_Fraction T.om_Fraction_gt T.nf_Fraction.2 c_Fraction_gt (hr.mono (by decide)) tk))))) (JN.raise1 (pay := Pay.int) rfl tk c_err_NoWeb (hr.mono (by decide)) (JE.var 2) pay_int hx) (JN.nil (fun _ _ _ h => (Stt.weak h (weak_some (weak_some (weak_none weak_nil)))))) hx))) hx (weak_some (weak_some (weak_none weak_nil))) sc_check_returns.nd) fun s925 => (JN.nil fun _ _ _ h => ⟨_, _, h⟩)))⟩
theorem fn_check_returns {P : Program} {w : World} {K : PySem.W.Frag} {mg : Str → Option Value} {base : Heap} (T : Txt w K mg) (c_Fraction_1 : C_Fraction_1 P w K mg base) (c_Fraction_add : C_Fraction_add P w K mg base) (c_Fraction_lt : C_Fraction_lt P w K mg base) (c_Fraction_gt : C_Fraction_gt P w K mg base) (c_err_NoWeb : C_err_NoWeb P w K mg base) : FnR P w K mg base (L2N.CX P w) 5 (He.ga K "check_returns") (spF K (aCons (rdL K (rp (rNum K))) aNil) (fun d => m_check_returns d.1) (rp rNon)) := by
  obtain ⟨fd, F⟩ := T.F_check_returns
  exact FnOk.fr0 (ok_check_returns T c_Fraction_1 c_Fraction_add c_Fraction_lt c_Fraction_gt c_err_NoWeb F) (F.bindsN fun _ _ _ _ _ _ us hl => match us, hl with | [_], _ => rfl)
theorem sc_BadWeb_init : FnScope ["self", "reason"] ["self", "reason"] (defScope s_BadWeb_init) := ⟨rfl, rfl, rfl, by decide +kernel, rfl, by decide +kernel, by decide +kernel⟩
abbrev C_err_BadWeb (P : Program) (w : World) (K : PySem.W.Frag) (mg : Str → Option Value) (base : Heap) : Prop := ErR1 P w K mg base "BadWeb" "reason"
theorem fn_err_BadWeb {P : Program} {w : World} {K : PySem.W.Frag} {mg : Str → Option Value} {base : Heap} (T : Txt w K mg) : C_err_BadWeb P w K mg base := by
  obtain ⟨fd, F⟩ := T.F_BadWeb_init
  exact ⟨T.ev_BadWeb, fd, ["self", "reason"], init1 F sc_BadWeb_init rfl T.ev_BadWeb.oex (T.ev_BadWeb.no _ (by simp)) (by first | exact Or.inl rfl | exact Or.inr (Or.inl rfl) | exact Or.inr (Or.inr rfl)) (by first | exact Or.inl rfl | exact Or.inr (Or.inl rfl) | exact Or.inr (Or.inr rfl)) (by decide) (by decide), F.bindsN fun _ _ _ _ _ _ us hl => match us, hl with | [_, _], _ => rfl⟩
theorem sc_total_of : FnScope ["numbers", "total", "number"] ["numbers"] (defScope s_total_of) := ⟨rfl, rfl, rfl, by decide +kernel, rfl, by decide +kernel, by decide +kernel⟩
def m_total_of (p_numbers : (List Rat)) : Res Rat :=
  ((((Res.ok (0 : Int)).bind fun a1114 => (Res.ok ()).bind fun b1115 => .ok (a1114, b1115)).bind (fun d => qInt d.1)).bind fun v_total_1112 => (((Res.ok p_numbers).bind fun l1121 => forS (fun (i1117 : Rat) (s1116 : Rat) => (((Res.ok s1116).bind fun a1119 => (Res.ok i1117).bind fun b1120 => qAdd a1119 (.q b1120)).bind fun v_total_1118 => (Res.ok v_total_1118))) l1121 v_total_1112).bind fun s1116 => (Res.ok s1116)))
abbrev C_total_of (P : Program) (w : World) (K : PySem.W.Frag) (mg : Str → Option Value) (base : Heap) : Prop := FnR P w K mg base (L2N.CX P w) 5 (He.ga K "total_of") (spF K (aCons (rdL K (rp (rFrac K))) aNil) (fun d => m_total_of d.1) (rp (rFrac K)))
theorem ok_total_of {P : Program} {w : World} {K : PySem.W.Frag} {mg : Str → Option Value} {base : Heap} (T : Txt w K mg) (c_Fraction_1 : C_Fraction_1 P w K mg base) (c_Fraction_add : C_Fraction_add P w K mg base) {fd : FuncData} (F : FunD K "total_of" "total_of" (defArgs s_total_of) (defBody s_total_of) (defScope s_total_of) [] [] (He.ga K "total_of") fd) : FnOk P w K mg base (L2N.CX P w) 5 (He.ga K "total_of") fd ["numbers"] (spF K (aCons (rdL K (rp (rFrac K))) aNil) (fun d => m_total_of d.1) (rp (rFrac K))) := by
  refine FunD.fn (k := 4) (N := ["numbers", "total", "number"]) (ps := ["numbers"]) F sc_total_of (fun I H vs d h => ?_) (fun cdv A outer s I0 H0 E vs d hr sm h => ?_)
  · obtain ⟨v0, _, rfl, h0, rfl⟩ := h; rfl
  obtain ⟨v0, _, rfl, h0, rfl⟩ := h
  have hx : ∀ {ctx : List (Option SF)} {mem : List MF} (I H : Hp) (σ : St) (d : Option Addr), Stt I0 H0 ctx mem I H σ → Fr H0 d → bK I0 H0 I H σ d := fun _ _ _ _ s f => ⟨s.fm, f⟩
  have tk : L2N.Takes (bx P w K mg base ["numbers", "total", "number"] "total_of" (defScope s_total_of) (He.ga K "total_of") cdv A outer s H0 E) (bW E) := L2N.takes_of rfl rfl rfl rfl
  have hp : PassesOwn (model P w) (bx P w K mg base ["numbers", "total", "number"] "total_of" (defScope s_total_of) (He.ga K "total_of") cdv A outer s H0 E).A (bx P w K mg base ["numbers", "total", "number"] "total_of" (defScope s_total_of) (He.ga K "total_of") cdv A outer s H0 E).env (bx P w K mg base ["numbers", "total", "number"] "total_of" (defScope s_total_of) (He.ga K "total_of") cdv A outer s H0 E).xe := passes_of rfl
  obtain ⟨p_numbers, _⟩ := d
  exact ⟨Stt I0 H0 [some (SF.mk (fun I v x => (rdL K (rp (rFrac K))) I H0 v x) p_numbers), none, none] [], Stt.start sm ⟨h0, ini_nil rfl⟩ rfl (by simp), (JR.seq (J1.cx (c' := fun v_total_1112 => [some (SF.mk (fun I v x => (rdL K (rp (rFrac K))) I H0 v x) p_numbers), some (SF.mk (rFrac K) v_total_1112), none]) (J1.set 1 (JE.call (JA.cons JE.int JA.nil) (c_Fraction_1 _ _ rfl rfl rfl rfl rfl (hr.mono (by decide)) tk) T.g_Fraction T.mk_Fraction.kp) hx sc_total_of.nd)) fun v_total_1112 => (JR.seq (J1.forS (S := Rat) (cx := fun s1116 => [some (SF.mk (fun I v x => (rdL K (rp (rFrac K))) I H0 v x) p_numbers), some (SF.mk (rFrac K) s1116), none]) (me := fun s1116 => []) (s0 := v_total_1112) 2 hp (JI.par 0) (fun i1117 s1116 => JN.at (c' := [some (SF.mk (fun I v x => (rdL K (rp (rFrac K))) I H0 v x) p_numbers), some (SF.mk (rFrac K) s1116), some (SF.mk (rFrac K) i1117)]) (JN.seq (J1.cx (c' := fun v_total_1118 => [some (SF.mk (fun I v x => (rdL K (rp (rFrac K))) I H0 v x) p_numbers), some (SF.mk (rFrac K) v_total_1118), some (SF.mk (rFrac K) i1117)]) (J1.set 1 (JE.bin (JE.var 1) (JE.var 2) (opj_qq (op := .Add) (g := fun d => qAdd d.1 d.2.1) T.o_Fraction T.om_Fraction_add c_Fraction_add (hr.mono (by decide)) tk)) hx sc_total_of.nd)) fun v_total_1118 => (JN.nil (fun _ _ _ h => (Stt.weak h (weak_some (weak_some (weak_none weak_nil)))))))) hx (weak_some (weak_some (weak_none weak_nil))) sc_total_of.nd) fun s1116 => (JR.ret (JE.var 1) hx)))⟩
theorem fn_total_of {P : Program} {w : World} {K : PySem.W.Frag} {mg : Str → Option Value} {base : Heap} (T : Txt w K mg) (c_Fraction_1 : C_Fraction_1 P w K mg base) (c_Fraction_add : C_Fraction_add P w K mg base) : FnR P w K mg base (L2N.CX P w) 5 (He.ga K "total_of") (spF K (aCons (rdL K (rp (rFrac K))) aNil) (fun d => m_total_of d.1) (rp (rFrac K))) := by
  obtain ⟨fd, F⟩ := T.F_total_of
  exact FnOk.fr0 (ok_total_of T c_Fraction_1 c_Fraction_add F) (F.bindsN fun _ _ _ _ _ _ us hl => match us, hl with | [_], _ => rfl)
theorem sc_OneWay_init : FnScope ["self", "table", "rows", "share", "row"] ["self", "table"] (defScope s_OneWay_init) := ⟨rfl, rfl, rfl, by decide +kernel, rfl, by decide +kernel, by decide +kernel⟩
def m_OneWay_init (p_table : (List (List Rat))) : Res O_OneWay :=
  (((((Res.ok p_table).bind fun a1040 => (Res.ok ()).bind fun b1041 => .ok (a1040, b1041)).bind (fun d => .ok (d.1.length : Int))).bind fun a1042 => (Res.ok (0 : Int)).bind fun b1043 => .ok (decide (a1042 = b1043))).bind fun x1044 => if x1044 = true then (((Res.ok ("rooms" : Str)).bind fun y1046 => Res.err ⟨"BadWeb", [("reason", Pay.str y1046)]⟩)) else (((Res.ok p_table).bind fun l1058 => lcR (fun (i1048 : (List Rat)) => ((Res.ok i1048).bind fun l1056 => lcR (fun (i1050 : Rat) => ((((Res.ok i1050).bind fun a1052 => .ok (Num.q a1052)).bind fun a1053 => (Res.ok ()).bind fun b1054 => .ok (a1053, b1054)).bind (fun d => qAs d.1))) l1056)) l1058).bind fun v_rows_1047 => (((((Res.ok v_rows_1047).bind fun l1070 => lcR (fun (i1059 : (List Rat)) => ((((Res.ok i1059).bind fun a1062 => (Res.ok ()).bind fun b1063 => .ok (a1062, b1063)).bind (fun d => .ok (d.1.length : Int))).bind fun a1067 => (((Res.ok v_rows_1047).bind fun a1065 => (Res.ok ()).bind fun b1066 => .ok (a1065, b1066)).bind (fun d => .ok (d.1.length : Int))).bind fun b1068 => .ok (!decide (a1067 = b1068)))) l1070).bind fun a1072 => (Res.ok ()).bind fun b1073 => .ok (a1072, b1073)).bind (fun d => .ok (d.1.any id))).bind fun x1074 => if x1074 = true then (((Res.ok ("uneven" : Str)).bind fun y1076 => Res.err ⟨"BadWeb", [("reason", Pay.str y1076)]⟩)) else (((((Res.ok v_rows_1047).bind fun l1083 => lcR2 (fun (i1077 : (List Rat)) => (Res.ok i1077)) (fun (i1077 : (List Rat)) (i1078 : Rat) => ((Res.ok i1078).bind fun a1080 => (Res.ok (0 : Int)).bind fun b1081 => qLt a1080 (.i b1081))) l1083).bind fun a1085 => (Res.ok ()).bind fun b1086 => .ok (a1085, b1086)).bind (fun d => .ok (d.1.any id))).bind fun x1087 => if x1087 = true then (((Res.ok ("negative" : Str)).bind fun y1089 => Res.err ⟨"BadWeb", [("reason", Pay.str y1089)]⟩)) else (((((Res.ok v_rows_1047).bind fun l1098 => lcR (fun (i1090 : (List Rat)) => ((((Res.ok i1090).bind fun a1093 => (Res.ok ()).bind fun b1094 => .ok (a1093, b1094)).bind (fun d => m_total_of d.1)).bind fun a1095 => (Res.ok (1 : Int)).bind fun b1096 => qGt a1095 (.i b1096))) l1098).bind fun a1100 => (Res.ok ()).bind fun b1101 => .ok (a1100, b1101)).bind (fun d => .ok (d.1.any id))).bind fun x1102 => if x1102 = true then (((Res.ok ("sum" : Str)).bind fun y1104 => Res.err ⟨"BadWeb", [("reason", Pay.str y1104)]⟩)) else ((Res.ok v_rows_1047).bind fun v_rows_1106 => ((((Res.ok v_rows_1047).bind fun a1108 => (Res.ok ()).bind fun b1109 => .ok (a1108, b1109)).bind (fun d => .ok (d.1.length : Int))).bind fun v_rooms_1111 => (Res.ok (O_OneWay.mk v_rows_1106 v_rooms_1111)))))))))
theorem in_OneWay {P : Program} {w : World} {K : PySem.W.Frag} {mg : Str → Option Value} {base : Heap} (T : Txt w K mg) (c_err_BadWeb : C_err_BadWeb P w K mg base) (c_as_fraction : C_as_fraction P w K mg base) (c_Fraction_lt : C_Fraction_lt P w K mg base) (c_total_of : C_total_of P w K mg base) (c_Fraction_gt : C_Fraction_gt P w K mg base) {fd : FuncData} (F : FunD K "__init__" "OneWay.__init__" (defArgs s_OneWay_init) (defBody s_OneWay_init) (defScope s_OneWay_init) [] [] (He.ma K (He.ga K "OneWay") "__init__") fd) : FnOk P w K mg base (L2N.CX P w) 6 (He.ma K (He.ga K "OneWay") "__init__") fd ["self", "table"] (spI K (He.ga K "OneWay") (aCons (rp (rL (rL (rFrac K)))) aNil) (fun d => m_OneWay_init d.1) (rp (r_OneWay K))) := by
  refine FunD.initI (k := 5) (N := ["self", "table", "rows", "share", "row"]) (ps := ["self", "table"]) F sc_OneWay_init (fun I H vs d h => ?_) (fun cdv A outer s I0 H0 H1 E vs d y dx hr sm h eH => ?_)
  · obtain ⟨v0, _, rfl, h0, rfl⟩ := h; rfl
  obtain ⟨v0, _, rfl, h0, rfl⟩ := h
  have hx : ∀ {ctx : List (Option SF)} {mem : List MF} (I H : Hp) (σ : St) (d : Option Addr), Stt I0 H0 ctx mem I H σ → Fr H0 d → bK I0 H0 I H σ d := fun _ _ _ _ s f => ⟨s.fm, f⟩
  have tk : L2N.Takes (bx P w K mg base ["self", "table", "rows", "share", "row"] "OneWay.__init__" (defScope s_OneWay_init) (He.ma K (He.ga K "OneWay") "__init__") cdv A outer s H1 E) (bW E) := L2N.takes_of rfl rfl rfl rfl
  obtain ⟨p_table, _⟩ := d
  exact ⟨[some (SF.mk (rRef y) ()), some (SF.mk (rL (rL (rFrac K))) p_table), none, none, none], rfl, by simp, ⟨rfl, h0, ini_nil rfl⟩, (JN.ifT (JT.cmp (JE.callB (JA.cons (JE.rd (JE.var 1)) JA.nil) cj_len T.n_len boot_len) JE.int opj_eq) (JN.raise1 (pay := Pay.str) rfl tk c_err_BadWeb (hr.mono (by decide)) JE.str pay_str hx) (JN.seq (J1.cx (c' := fun v_rows_1047 => [some (SF.mk (rRef y) ()), some (SF.mk (rL (rL (rFrac K))) p_table), some (SF.mk (rL (rL (rFrac K))) v_rows_1047), none, none]) (J1.set 2 (JE.ofM (JM.lcT (r := (rL (rFrac K))) 4 (JI.list (JE.var 1)) (fun _ _ _ _ _ D acc i1048 tk1049 => (JE.at (c' := [some (SF.mk (rRef y) ()), some (SF.mk (rL (rL (rFrac K))) p_table), none, none, some (SF.mk (rL (rFrac K)) i1048)]) (JE.ofM (JM.lcT (r := (rFrac K)) 3 (JI.list (JE.var 4)) (fun _ _ _ _ _ D acc i1050 tk1051 => (JE.at (c' := [some (SF.mk (rRef y) ()), some (SF.mk (rL (rL (rFrac K))) p_table), none, some (SF.mk (rFrac K) i1050), some (SF.mk (rL (rFrac K)) i1048)]) (JE.call (JA.cons (JE.numq (JE.var 3)) JA.nil) (cj_of c_as_fraction (hr.mono (by decide)) tk1051) T.g_as_fraction T.k_as_fraction))) sc_OneWay_init.nd (blkok_of (by kernel_rfl)))))) sc_OneWay_init.nd (blkok_of (by kernel_rfl)))) hx sc_OneWay_init.nd)) fun v_rows_1047 => (JN.ifT (JT.of (JE.callB (JA.cons (JE.rd (JE.ofM (JM.lcT (r := rBl) 4 (JI.list (JE.var 2)) (fun _ _ _ _ _ D acc i1059 tk1060 => (JE.at (c' := [some (SF.mk (rRef y) ()), some (SF.mk (rL (rL (rFrac K))) p_table), some (SF.mk (rL (rL (rFrac K))) v_rows_1047), none, some (SF.mk (rL (rFrac K)) i1059)]) (JE.cmp (JE.callB (JA.cons (JE.rd (JE.var 4)) JA.nil) cj_len T.n_len boot_len) (JE.callB (JA.cons (JE.rd (JE.var 2)) JA.nil) cj_len T.n_len boot_len) opj_ne))) sc_OneWay_init.nd (blkok_of (by kernel_rfl))))) JA.nil) (cj_any rfl) T.n_any boot_any)) (JN.raise1 (pay := Pay.str) rfl tk c_err_BadWeb (hr.mono (by decide)) JE.str pay_str hx) (JN.ifT (JT.of (JE.callB (JA.cons (JE.rd (JE.ofM (JM.lc2T (r := rBl) 4 3 (JI.list (JE.var 2)) (fun _ _ _ _ _ D acc i1077 tk1079 => JI.at (c' := [some (SF.mk (rRef y) ()), some (SF.mk (rL (rL (rFrac K))) p_table), some (SF.mk (rL (rL (rFrac K))) v_rows_1047), none, some (SF.mk (rL (rFrac K)) i1077)]) (JI.list (JE.var 4))) (fun _ _ _ _ _ D acc i1077 i1078 tk1079 => JE.at (c' := [some (SF.mk (rRef y) ()), some (SF.mk (rL (rL (rFrac K))) p_table), some (SF.mk (rL (rL (rFrac K))) v_rows_1047), some (SF.mk (rFrac K) i1078), some (SF.mk (rL (rFrac K)) i1077)]) (JE.cmp (JE.var 3) JE.int (opj_cqi (op := .Lt) (g := fun d => qLt d.1 d.2.1) (fun _ _ => rfl) T.o_Fraction T.om_Fraction_lt T.nf_Fraction.2 c_Fraction_lt (hr.mono (by decide)) tk1079))) sc_OneWay_init.nd (blkok_of (by kernel_rfl))))) JA.nil) (cj_any rfl) T.n_any boot_any)) (JN.raise1 (pay := Pay.str) rfl tk c_err_BadWeb (hr.mono (by decide)) JE.str pay_str hx) (JN.ifT (JT.of (JE.callB (JA.cons (JE.rd (JE.ofM (JM.lcT (r := rBl) 4 (JI.list (JE.var 2)) (fun _ _ _ _ _ D acc i1090 tk1091 => (JE.at (c' := [some (SF.mk (rRef y) ()), some (SF.mk (rL (rL (rFrac K))) p_table), some (SF.mk (rL (rL (rFrac K))) v_rows_1047), none, some (SF.mk (rL (rFrac K)) i1090)]) (JE.cmp (JE.call (JA.cons (JE.rd (JE.var 4)) JA.nil) (cj_of c_total_of (hr.mono (by decide)) tk1091) T.g_total_of T.k_total_of) JE.int (opj_cqi (op := .Gt) (g := fun d => qGt d.1 d.2.1) (fun _ _ => rfl) T.o_Fraction T.om_Fraction_gt T.nf_Fraction.2 c_Fraction_gt (hr.mono (by decide)) tk1091)))) sc_OneWay_init.nd (blkok_of (by kernel_rfl))))) JA.nil) (cj_any rfl) T.n_any boot_any)) (JN.raise1 (pay := Pay.str) rfl tk c_err_BadWeb (hr.mono (by decide)) JE.str pay_str hx) (JN.seq (J1.cm (c' := fun v_rows_1106 => [some (SF.mk (rRef y) ()), some (SF.mk (rL (rL (rFrac K))) p_table), some (SF.mk (rL (rL (rFrac K))) v_rows_1047), none, none]) (me' := fun v_rows_1106 => [MF.ins y (He.ga K "OneWay") dx [("rows", SF.mk (rL (rL (rFrac K))) v_rows_1106)]]) (J1.sfldJ 0 0 (gs := []) (JE.var 2) T.o_OneWay.cl T.na_OneWay_rows (by simp) hx)) fun v_rows_1106 => (JN.seq (J1.cm (c' := fun v_rooms_1111 => [some (SF.mk (rRef y) ()), some (SF.mk (rL (rL (rFrac K))) p_table), some (SF.mk (rL (rL (rFrac K))) v_rows_1047), none, none]) (me' := fun v_rooms_1111 => [MF.ins y (He.ga K "OneWay") dx [("rows", SF.mk (rL (rL (rFrac K))) v_rows_1106), ("rooms", SF.mk rInt v_rooms_1111)]]) (J1.sfldJ 0 0 (gs := [("rows", SF.mk (rL (rL (rFrac K))) v_rows_1106)]) (JE.callB (JA.cons (JE.rd (JE.var 2)) JA.nil) cj_len T.n_len boot_len) T.o_OneWay.cl T.na_OneWay_rooms (by simp) hx)) fun v_rooms_1111 => (JN.nil fun _ _ _ h => ⟨_, h⟩))) hx) hx) hx)) hx)⟩
def m_OneWay_1 (x0 : (List (List Rat))) : Res O_OneWay := m_OneWay_init x0
abbrev C_OneWay_1 (P : Program) (w : World) (K : PySem.W.Frag) (mg : Str → Option Value) (base : Heap) : Prop := MkR P w K mg base 7 (He.ga K "OneWay") (aCons (rp (rL (rL (rFrac K)))) aNil) (fun (d : (List (List Rat)) × Unit) => m_OneWay_1 d.1) (rp (r_OneWay K))
theorem fn_OneWay_1 {P : Program} {w : World} {K : PySem.W.Frag} {mg : Str → Option Value} {base : Heap} (T : Txt w K mg) (c_err_BadWeb : C_err_BadWeb P w K mg base) (c_as_fraction : C_as_fraction P w K mg base) (c_Fraction_lt : C_Fraction_lt P w K mg base) (c_total_of : C_total_of P w K mg base) (c_Fraction_gt : C_Fraction_gt P w K mg base) : MkR P w K mg base 7 (He.ga K "OneWay") (aCons (rp (rL (rL (rFrac K)))) aNil) (fun (d : (List (List Rat)) × Unit) => m_OneWay_1 d.1) (rp (r_OneWay K)) := by
  obtain ⟨fd, F⟩ := T.F_OneWay_init
  exact mkR_of (h := (fun (d : (List (List Rat)) × Unit) => (d.1, ()))) T.mk_OneWay (in_OneWay T c_err_BadWeb c_as_fraction c_Fraction_lt c_total_of c_Fraction_gt F) (F.bindsN fun _ _ _ _ _ _ us hl => match us, hl with | [_, _], _ => rfl) .nil fun I H vs d h => by rw [List.append_nil]; exact h
theorem sc_delay_row : FnScope ["returns", "rooms", "table", "room", "k"] ["returns"] (defScope s_delay_row) := ⟨rfl, rfl, rfl, by decide +kernel, rfl, by decide +kernel, by decide +kernel⟩
def m_delay_row (p_returns : (List Num)) : Res O_OneWay :=
  ((((((Res.ok p_returns).bind fun a805 => (Res.ok ()).bind fun b806 => .ok (a805, b806)).bind (fun d => .ok (d.1.length : Int))).bind fun a807 => (Res.ok (0 : Int)).bind fun b808 => .ok (decide (a807 = b808))).bind fun a816 => if a816 = true then .ok true else (((((Res.ok p_returns).bind fun a809 => (Res.ok (0 : Int)).bind fun b810 => atM a809 b810).bind fun a812 => (Res.ok ()).bind fun b813 => .ok (a812, b813)).bind (fun d => qAs d.1)).bind fun a814 => (Res.ok (0 : Int)).bind fun b815 => (qEq a814 (.i b815)).bind fun z => .ok (!z))).bind fun x817 => if x817 = true then (Res.err ⟨"BadReadings", []⟩) else ((((Res.ok p_returns).bind fun a819 => (Res.ok ()).bind fun b820 => .ok (a819, b820)).bind (fun d => m_check_returns d.1)).bind fun u821 => ((((Res.ok (1 : Int)).bind fun a830 => (((((Res.ok p_returns).bind fun a824 => (Res.ok ()).bind fun b825 => .ok (a824, b825)).bind (fun d => .ok (d.1.length : Int))).bind fun a826 => (Res.ok (1 : Int)).bind fun b827 => .ok (a826 - b827)).bind fun a828 => (Res.ok ()).bind fun b829 => .ok (a828, b829)).bind fun b831 => .ok (a830, b831)).bind (fun d => .ok (if d.2.1 > d.1 then d.2.1 else d.1))).bind fun v_rooms_822 => ((((Res.ok v_rooms_822).bind fun a832 => rangeM1 a832).bind fun l844 => lcR (fun (i833 : Int) => (((((Res.ok (0 : Int)).bind fun a836 => (Res.ok ()).bind fun b837 => .ok (a836, b837)).bind (fun d => qInt d.1)).bind fun a839 => (Res.ok []).bind fun b840 => .ok (a839 :: b840)).bind fun a841 => (Res.ok v_rooms_822).bind fun b842 => repM a841 b842)) l844).bind fun v_table_843 => ((((Res.ok (1 : Int)).bind fun a850 => (((Res.ok p_returns).bind fun a848 => (Res.ok ()).bind fun b849 => .ok (a848, b849)).bind (fun d => .ok (d.1.length : Int))).bind fun b851 => rangeM a850 b851).bind fun l866 => forS (fun (i852 : Int) (s846 : (List (List Rat))) => ((((((Res.ok p_returns).bind fun a853 => (Res.ok i852).bind fun b854 => atM a853 b854).bind fun a856 => (Res.ok ()).bind fun b857 => .ok (a856, b857)).bind (fun d => qAs d.1)).bind fun y862 => (Res.ok (0 : Int)).bind fun k863 => (rowT s846 k863).bind fun q864 => ((Res.ok i852).bind fun a859 => (Res.ok (1 : Int)).bind fun b860 => .ok (a859 - b860)).bind fun k865 => L2.Tr.putT s846 q864 k865 y862).bind fun v_table_861 => (Res.ok v_table_861))) l866 v_table_843).bind fun s846 => ((((Res.ok (1 : Int)).bind fun a868 => (Res.ok v_rooms_822).bind fun b869 => rangeM a868 b869).bind fun l882 => forS (fun (i870 : Int) (s867 : (List (List Rat))) => (((((Res.ok (1 : Int)).bind fun a872 => (Res.ok ()).bind fun b873 => .ok (a872, b873)).bind (fun d => qInt d.1)).bind fun y878 => (Res.ok i870).bind fun k879 => (rowT s867 k879).bind fun q880 => ((Res.ok i870).bind fun a875 => (Res.ok (1 : Int)).bind fun b876 => .ok (a875 - b876)).bind fun k881 => L2.Tr.putT s867 q880 k881 y878).bind fun v_table_877 => (Res.ok v_table_877))) l882 s846).bind fun s867 => (((Res.ok s867).bind fun a884 => (Res.ok ()).bind fun b885 => .ok (a884, b885)).bind (fun d => m_OneWay_1 d.1))))))))
abbrev C_delay_row (P : Program) (w : World) (K : PySem.W.Frag) (mg : Str → Option Value) (base : Heap) : Prop := FnR P w K mg base (L2N.CX P w) 9 (He.ga K "delay_row") (spF K (aCons (rdL K (rp (rNum K))) aNil) (fun d => m_delay_row d.1) (rp (r_OneWay K)))
theorem ok_delay_row {P : Program} {w : World} {K : PySem.W.Frag} {mg : Str → Option Value} {base : Heap} (T : Txt w K mg) (c_as_fraction : C_as_fraction P w K mg base) (c_Fraction_eq : C_Fraction_eq P w K mg base) (c_check_returns : C_check_returns P w K mg base) (c_Fraction_1 : C_Fraction_1 P w K mg base) (c_OneWay_1 : C_OneWay_1 P w K mg base) {fd : FuncData} (F : FunD K "delay_row" "delay_row" (defArgs s_delay_row) (defBody s_delay_row) (defScope s_delay_row) [] [] (He.ga K "delay_row") fd) : FnOk P w K mg base (L2N.CX P w) 9 (He.ga K "delay_row") fd ["returns"] (spF K (aCons (rdL K (rp (rNum K))) aNil) (fun d => m_delay_row d.1) (rp (r_OneWay K))) := by
  refine FunD.fn (k := 8) (N := ["returns", "rooms", "table", "room", "k"]) (ps := ["returns"]) F sc_delay_row (fun I H vs d h => ?_) (fun cdv A outer s I0 H0 E vs d hr sm h => ?_)
  · obtain ⟨v0, _, rfl, h0, rfl⟩ := h; rfl
  obtain ⟨v0, _, rfl, h0, rfl⟩ := h
  have hx : ∀ {ctx : List (Option SF)} {mem : List MF} (I H : Hp) (σ : St) (d : Option Addr), Stt I0 H0 ctx mem I H σ → Fr H0 d → bK I0 H0 I H σ d := fun _ _ _ _ s f => ⟨s.fm, f⟩
  have tk : L2N.Takes (bx P w K mg base ["returns", "rooms", "table", "room", "k"] "delay_row" (defScope s_delay_row) (He.ga K "delay_row") cdv A outer s H0 E) (bW E) := L2N.takes_of rfl rfl rfl rfl
  have hp : PassesOwn (model P w) (bx P w K mg base ["returns", "rooms", "table", "room", "k"] "delay_row" (defScope s_delay_row) (He.ga K "delay_row") cdv A outer s H0 E).A (bx P w K mg base ["returns", "rooms", "table", "room", "k"] "delay_row" (defScope s_delay_row) (He.ga K "delay_row") cdv A outer s H0 E).env (bx P w K mg base ["returns", "rooms", "table", "room", "k"] "delay_row" (defScope s_delay_row) (He.ga K "delay_row") cdv A outer s H0 E).xe := passes_of rfl
  obtain ⟨p_returns, _⟩ := d
  exact ⟨Stt I0 H0 [some (SF.mk (fun I v x => (rdL K (rp (rNum K))) I H0 v x) p_returns), none, none, none, none] [], Stt.start sm ⟨h0, ini_nil rfl⟩ rfl (by simp), (JR.ifR (JT.bool (JW.or (JT.cmp (JE.callB (JA.cons (JE.varP 0 (r := (rdL K (rp (rNum K))))) JA.nil) cj_len T.n_len boot_len) JE.int opj_eq) (JW.or1 (JT.cmp (JE.call (JA.cons (JE.ix (JE.varP 0 (r := (rdL K (rp (rNum K))))) JE.int) JA.nil) (cj_of c_as_fraction (hr.mono (by decide)) tk) T.g_as_fraction T.k_as_fraction) JE.int (opj_neqi (gb := fun d => qEq d.1 d.2.1) T.o_Fraction T.om_Fraction_eq T.nf_Fraction.2 c_Fraction_eq (hr.mono (by decide)) tk))))) (JR.raiseP rfl tk T.ex_BadReadings hx) (JR.seq (J1.expr (JE.call (JA.cons (JE.varP 0 (r := (rdL K (rp (rNum K))))) JA.nil) (cj_of c_check_returns (hr.mono (by decide)) tk) T.g_check_returns T.k_check_returns) hx) fun u821 => (JR.seq (J1.cx (c' := fun v_rooms_822 => [some (SF.mk (fun I v x => (rdL K (rp (rNum K))) I H0 v x) p_returns), some (SF.mk rInt v_rooms_822), none, none, none]) (J1.set 1 (JE.callB (JA.cons JE.int (JA.cons (JE.bin (JE.callB (JA.cons (JE.varP 0 (r := (rdL K (rp (rNum K))))) JA.nil) cj_len T.n_len boot_len) JE.int opj_sub) JA.nil)) (cj_max rfl) T.n_max boot_max) hx sc_delay_row.nd)) fun v_rooms_822 => (JR.seq (J1.cn (c' := fun v_table_843 l845 => [some (SF.mk (fun I v x => (rdL K (rp (rNum K))) I H0 v x) p_returns), some (SF.mk rInt v_rooms_822), some (SF.mk (rRef l845) ()), none, none]) (me' := fun v_table_843 l845 => [MF.tab l845 (rFrac K) v_table_843]) (J1.setTab (r := (rFrac K)) 2 3 (JI.range1 (JE.var 1) T.n_range) (fun _ _ _ _ _ D acc i833 tk834 => JM.at (c' := [some (SF.mk (fun I v x => (rdL K (rp (rNum K))) I H0 v x) p_returns), some (SF.mk rInt v_rooms_822), none, some (SF.mk rInt i833), none]) (JM.rep (JE.hp (JE.ofM (JM.lst (r := (rFrac K)) (JA.consL (JE.call (JA.cons JE.int JA.nil) (c_Fraction_1 _ _ rfl rfl rfl rfl rfl (hr.mono (by decide)) tk834) T.g_Fraction T.mk_Fraction.kp) JA.nilL)))) (JE.var 1))) hx sc_delay_row.nd (blkok_of (by kernel_rfl)))) fun v_table_843 => JR.ex fun l845 => (JR.seq (J1.forS (S := (List (List Rat))) (cx := fun s846 => [some (SF.mk (fun I v x => (rdL K (rp (rNum K))) I H0 v x) p_returns), some (SF.mk rInt v_rooms_822), some (SF.mk (rRef l845) ()), none, none]) (me := fun s846 => [MF.tab l845 (rFrac K) s846]) (s0 := v_table_843) 4 hp (JI.range2 JE.int (JE.callB (JA.cons (JE.varP 0 (r := (rdL K (rp (rNum K))))) JA.nil) cj_len T.n_len boot_len) T.n_range) (fun i852 s846 => JN.at (c' := [some (SF.mk (fun I v x => (rdL K (rp (rNum K))) I H0 v x) p_returns), some (SF.mk rInt v_rooms_822), some (SF.mk (rRef l845) ()), none, some (SF.mk rInt i852)]) (JN.seq (J1.cm (c' := fun v_table_861 => [some (SF.mk (fun I v x => (rdL K (rp (rNum K))) I H0 v x) p_returns), some (SF.mk rInt v_rooms_822), some (SF.mk (rRef l845) ()), none, some (SF.mk rInt i852)]) (me' := fun v_table_861 => [MF.tab l845 (rFrac K) v_table_861]) (J1.putT 2 0 (JE.call (JA.cons (JE.ix (JE.varP 0 (r := (rdL K (rp (rNum K))))) (JE.var 4)) JA.nil) (cj_of c_as_fraction (hr.mono (by decide)) tk) T.g_as_fraction T.k_as_fraction) JE.int (JE.bin (JE.var 4) JE.int opj_sub) hx)) fun v_table_861 => (JN.nil (fun _ _ _ h => (Stt.weak h (weak_some (weak_some (weak_some (weak_none (weak_none weak_nil)))))))))) hx (weak_some (weak_some (weak_some (weak_none (weak_none weak_nil))))) sc_delay_row.nd) fun s846 => (JR.seq (J1.forS (S := (List (List Rat))) (cx := fun s867 => [some (SF.mk (fun I v x => (rdL K (rp (rNum K))) I H0 v x) p_returns), some (SF.mk rInt v_rooms_822), some (SF.mk (rRef l845) ()), none, none]) (me := fun s867 => [MF.tab l845 (rFrac K) s867]) (s0 := s846) 3 hp (JI.range2 JE.int (JE.var 1) T.n_range) (fun i870 s867 => JN.at (c' := [some (SF.mk (fun I v x => (rdL K (rp (rNum K))) I H0 v x) p_returns), some (SF.mk rInt v_rooms_822), some (SF.mk (rRef l845) ()), some (SF.mk rInt i870), none]) (JN.seq (J1.cm (c' := fun v_table_877 => [some (SF.mk (fun I v x => (rdL K (rp (rNum K))) I H0 v x) p_returns), some (SF.mk rInt v_rooms_822), some (SF.mk (rRef l845) ()), some (SF.mk rInt i870), none]) (me' := fun v_table_877 => [MF.tab l845 (rFrac K) v_table_877]) (J1.putT 2 0 (JE.call (JA.cons JE.int JA.nil) (c_Fraction_1 _ _ rfl rfl rfl rfl rfl (hr.mono (by decide)) tk) T.g_Fraction T.mk_Fraction.kp) (JE.var 3) (JE.bin (JE.var 3) JE.int opj_sub) hx)) fun v_table_877 => (JN.nil (fun _ _ _ h => (Stt.weak h (weak_some (weak_some (weak_some (weak_none (weak_none weak_nil)))))))))) hx (weak_some (weak_some (weak_some (weak_none (weak_none weak_nil))))) sc_delay_row.nd) fun s867 => (JR.fzT 2 0 (ctx' := [some (SF.mk (fun I v x => (rdL K (rp (rNum K))) I H0 v x) p_returns), some (SF.mk rInt v_rooms_822), some (SF.mk (rL (rL (rFrac K))) s867), none, none]) (mem' := []) (JR.ret (JE.call (JA.cons (JE.var 2) JA.nil) (c_OneWay_1 _ _ rfl rfl rfl rfl rfl (hr.mono (by decide)) tk) T.g_OneWay T.mk_OneWay.kp) hx))))))) hx)⟩
theorem fn_delay_row {P : Program} {w : World} {K : PySem.W.Frag} {mg : Str → Option Value} {base : Heap} (T : Txt w K mg) (c_as_fraction : C_as_fraction P w K mg base) (c_Fraction_eq : C_Fraction_eq P w K mg base) (c_check_returns : C_check_returns P w K mg base) (c_Fraction_1 : C_Fraction_1 P w K mg base) (c_OneWay_1 : C_OneWay_1 P w K mg base) : FnR P w K mg base (L2N.CX P w) 9 (He.ga K "delay_row") (spF K (aCons (rdL K (rp (rNum K))) aNil) (fun d => m_delay_row d.1) (rp (r_OneWay K))) := by
  obtain ⟨fd, F⟩ := T.F_delay_row
  exact FnOk.fr0 (ok_delay_row T c_as_fraction c_Fraction_eq c_check_returns c_Fraction_1 c_OneWay_1 F) (F.bindsN fun _ _ _ _ _ _ us hl => match us, hl with | [_], _ => rfl)
abbrev C_delay_row_0_returns (P : Program) (w : World) (K : PySem.W.Frag) (mg : Str → Option Value) (base : Heap) : Prop := MkK P w K mg base 9 (He.ga K "delay_row") ["returns"] aNil (aCons (rdL K (rp (rNum K))) aNil) (fun (x : (Unit)) (y : ((List Num) × Unit)) => m_delay_row y.1) (rp (r_OneWay K))
theorem fn_delay_row_0_returns {P : Program} {w : World} {K : PySem.W.Frag} {mg : Str → Option Value} {base : Heap} (T : Txt w K mg) (c_as_fraction : C_as_fraction P w K mg base) (c_Fraction_eq : C_Fraction_eq P w K mg base) (c_check_returns : C_check_returns P w K mg base) (c_Fraction_1 : C_Fraction_1 P w K mg base) (c_OneWay_1 : C_OneWay_1 P w K mg base) : C_delay_row_0_returns P w K mg base := by
  obtain ⟨fd, F⟩ := T.F_delay_row
  have hb := kbindsN (ps := ["returns"]) F 0 ["returns"] (fun us ws => us ++ ws) (fun a c => a.append c) fun kV doc pm an cdv ct us ws hl hw => match us, hl, ws, hw with | [], _, [_], _ => rfl
  exact fun X W e1 e2 e3 e4 e5 hr tk => by
    subst e1; subst e2; subst e3; subst e4; subst e5
    exact cjk_fn (n := 0) (R := aNil) (R' := (aCons (rdL X.K (rp (rNum X.K))) aNil)) (m := (fun d => m_delay_row d.1)) (h := fun (x : (Unit)) (y : ((List Num) × Unit)) => (y.1, ())) (ok_delay_row T c_as_fraction c_Fraction_eq c_check_returns c_Fraction_1 c_OneWay_1 F) hr hb tk fun I H vs zs x y r r' => by
      obtain rfl := r
      obtain ⟨w0, _, rfl, k0, rfl⟩ := r'
      exact ⟨rfl, rfl, _, _, rfl, k0, rfl⟩
theorem sc_OneWay_table : FnScope ["self", "row"] ["self"] (defScope s_OneWay_table) := ⟨rfl, rfl, rfl, by decide +kernel, rfl, by decide +kernel, by decide +kernel⟩
def m_OneWay_table (p_self : O_OneWay) : Res (List (List Rat)) :=
  (((Res.ok p_self).bind fun a1190 => .ok a1190.f_rows).bind fun l1195 => lcR (fun (i1191 : (List Rat)) => ((Res.ok i1191).bind fun a1193 => .ok a1193)) l1195)
abbrev C_OneWay_table (P : Program) (w : World) (K : PySem.W.Frag) (mg : Str → Option Value) (base : Heap) : Prop := FnR P w K mg base (L2N.CX P w) 1 (He.ma K (He.ga K "OneWay") "table") (spN K (aCons (rp (r_OneWay K)) aNil) (fun d => m_OneWay_table d.1) (rL (rFrac K)))
theorem ok_OneWay_table {P : Program} {w : World} {K : PySem.W.Frag} {mg : Str → Option Value} {base : Heap} (T : Txt w K mg) {fd : FuncData} (F : FunD K "table" "OneWay.table" (defArgs s_OneWay_table) (defBody s_OneWay_table) (defScope s_OneWay_table) [] [] (He.ma K (He.ga K "OneWay") "table") fd) : FnOk P w K mg base (L2N.CX P w) 1 (He.ma K (He.ga K "OneWay") "table") fd ["self"] (spN K (aCons (rp (r_OneWay K)) aNil) (fun d => m_OneWay_table d.1) (rL (rFrac K))) := by
  refine FunD.fnN (k := 0) (N := ["self", "row"]) (ps := ["self"]) F sc_OneWay_table (fun I H vs d h => ?_) (fun cdv A outer s I0 H0 E vs d hr sm h => ?_)
  · obtain ⟨v0, _, rfl, h0, rfl⟩ := h; rfl
  obtain ⟨v0, _, rfl, h0, rfl⟩ := h
  have hx : ∀ {ctx : List (Option SF)} {mem : List MF} (I H : Hp) (σ : St) (d : Option Addr), Stt I0 H0 ctx mem I H σ → Fr H0 d → bK I0 H0 I H σ d := fun _ _ _ _ s f => ⟨s.fm, f⟩
  have tk : L2N.Takes (bx P w K mg base ["self", "row"] "OneWay.table" (defScope s_OneWay_table) (He.ma K (He.ga K "OneWay") "table") cdv A outer s H0 E) (bW E) := L2N.takes_of rfl rfl rfl rfl
  obtain ⟨p_self, _⟩ := d
  exact ⟨Stt I0 H0 [some (SF.mk (r_OneWay K) p_self), none] [], Stt.start sm ⟨h0, ini_nil rfl⟩ rfl (by simp), (JR.retM (JM.lcT (r := (rL (rFrac K))) 1 (JI.list (JE.fld (JE.var 0) (fldI (fl_OneWay_rows K)) T.o_OneWay.cl T.na_OneWay_rows)) (fun _ _ _ _ _ D acc i1191 tk1192 => (JE.at (c' := [some (SF.mk (r_OneWay K) p_self), some (SF.mk (rL (rFrac K)) i1191)]) (JE.ofM (JM.list (JE.rd (JE.var 1)) T.n_list)))) sc_OneWay_table.nd (blkok_of (by kernel_rfl))) hx)⟩
theorem fn_OneWay_table {P : Program} {w : World} {K : PySem.W.Frag} {mg : Str → Option Value} {base : Heap} (T : Txt w K mg) : FnR P w K mg base (L2N.CX P w) 1 (He.ma K (He.ga K "OneWay") "table") (spN K (aCons (rp (r_OneWay K)) aNil) (fun d => m_OneWay_table d.1) (rL (rFrac K))) := by
  obtain ⟨fd, F⟩ := T.F_OneWay_table
  exact FnOk.frN0 (ok_OneWay_table T F) (F.bindsN fun _ _ _ _ _ _ us hl => match us, hl with | [_], _ => rfl)
theorem sc_law_is : FnScope ["_law_actual", "_law_pair", "_law_part"] ["_law_actual", "_law_pair"] (defScope s_law_is) := ⟨rfl, rfl, rfl, by decide +kernel, rfl, by decide +kernel, by decide +kernel⟩
def m_law_is (p_law_actual : Rat) (p_law_pair : (Int × Int × Unit)) : Res Bool :=
  ((((Res.ok p_law_actual).bind fun a1196 => .ok true).bind fun a1197 => .ok (!a1197)).bind fun x1198 => if x1198 = true then .stuck else (((((Res.ok p_law_actual).bind fun a1200 => .ok a1200.num).bind fun a1206 => (((Res.ok p_law_actual).bind fun a1201 => .ok (a1201.den : Int)).bind fun a1203 => (Res.ok []).bind fun b1204 => .ok (a1203 :: b1204)).bind fun b1207 => .ok (a1206 :: b1207)).bind fun l1216 => (forG (fun (i1208 : Int) (s1199 : Unit) => ((((((Res.ok i1208).bind fun a1209 => .ok true).bind fun a1210 => .ok (!a1210)).bind fun a1212 => if a1212 = true then .ok true else ((Res.ok i1208).bind fun a1211 => .ok false)).bind fun x1213 => if x1213 = true then ((Res.ok false).bind fun r1215 => .ok (Fl.rt r1215)) else (Res.ok (Fl.nx ()))) : Res (Fl Unit Unit Bool))) l1216 () : Res (Fl Unit Unit Bool))).bind (Fl.out fun s1199 => ((((Res.ok p_law_actual).bind fun a1217 => .ok (a1217.den : Int)).bind fun a1218 => (Res.ok (1 : Int)).bind fun b1219 => .ok (decide (a1218 ≥ b1219))).bind fun a1230 => if a1230 = true then ((((Res.ok p_law_actual).bind fun a1220 => .ok a1220.num).bind fun a1222 => ((Res.ok p_law_pair).bind fun a1221 => .ok a1221.2.1).bind fun b1223 => mulI a1222 b1223).bind fun a1228 => (((Res.ok p_law_pair).bind fun a1224 => .ok a1224.1).bind fun a1226 => ((Res.ok p_law_actual).bind fun a1225 => .ok (a1225.den : Int)).bind fun b1227 => mulI a1226 b1227).bind fun b1229 => .ok (decide (a1228 = b1229))) else .ok false))))
abbrev C_law_is (P : Program) (w : World) (K : PySem.W.Frag) (mg : Str → Option Value) (base : Heap) : Prop := FnR P w K mg base (L2N.CX P w) 1 (He.ga K "_law_is") (spF K (aCons (rp (rFrac K)) (aCons (rp (rTu (aCons (rp rInt) (aCons (rp rInt) aNil)))) aNil)) (fun d => m_law_is d.1 d.2.1) (rp rBl))
theorem ok_law_is {P : Program} {w : World} {K : PySem.W.Frag} {mg : Str → Option Value} {base : Heap} (T : Txt w K mg) {fd : FuncData} (F : FunD K "_law_is" "_law_is" (defArgs s_law_is) (defBody s_law_is) (defScope s_law_is) [] [] (He.ga K "_law_is") fd) : FnOk P w K mg base (L2N.CX P w) 1 (He.ga K "_law_is") fd ["_law_actual", "_law_pair"] (spF K (aCons (rp (rFrac K)) (aCons (rp (rTu (aCons (rp rInt) (aCons (rp rInt) aNil)))) aNil)) (fun d => m_law_is d.1 d.2.1) (rp rBl)) := by
  refine FunD.fn (k := 0) (N := ["_law_actual", "_law_pair", "_law_part"]) (ps := ["_law_actual", "_law_pair"]) F sc_law_is (fun I H vs d h => ?_) (fun cdv A outer s I0 H0 E vs d hr sm h => ?_)
  · obtain ⟨v0, _, rfl, h0, v1, _, rfl, h1, rfl⟩ := h; rfl
  obtain ⟨v0, _, rfl, h0, v1, _, rfl, h1, rfl⟩ := h
  have hx : ∀ {ctx : List (Option SF)} {mem : List MF} (I H : Hp) (σ : St) (d : Option Addr), Stt I0 H0 ctx mem I H σ → Fr H0 d → bK I0 H0 I H σ d := fun _ _ _ _ s f => ⟨s.fm, f⟩
  have tk : L2N.Takes (bx P w K mg base ["_law_actual", "_law_pair", "_law_part"] "_law_is" (defScope s_law_is) (He.ga K "_law_is") cdv A outer s H0 E) (bW E) := L2N.takes_of rfl rfl rfl rfl
  have hp : PassesOwn (model P w) (bx P w K mg base ["_law_actual", "_law_pair", "_law_part"] "_law_is" (defScope s_law_is) (He.ga K "_law_is") cdv A outer s H0 E).A (bx P w K mg base ["_law_actual", "_law_pair", "_law_part"] "_law_is" (defScope s_law_is) (He.ga K "_law_is") cdv A outer s H0 E).env (bx P w K mg base ["_law_actual", "_law_pair", "_law_part"] "_law_is" (defScope s_law_is) (He.ga K "_law_is") cdv A outer s H0 E).xe := passes_of rfl
  obtain ⟨p_law_actual, p_law_pair, _⟩ := d
  exact ⟨Stt I0 H0 [some (SF.mk (rFrac K) p_law_actual), some (SF.mk (rTu (aCons (rp rInt) (aCons (rp rInt) aNil))) p_law_pair), none] [], Stt.start sm ⟨h0, h1, ini_nil rfl⟩ rfl (by simp), (JR.ifR (JT.not (JT.of (JE.isi (JE.var 0) (w_glob_at T.g_Fraction rfl (by decide)) (.own _) (tyr_ins T.o_Fraction insF T.kt_Fraction_Fraction) T.n_isinstance))) JR.dead (JR.seqG (GL := fun _ _ _ _ => False) (J1G.forG (S := Unit) (cx := fun s1199 => [some (SF.mk (rFrac K) p_law_actual), some (SF.mk (rTu (aCons (rp rInt) (aCons (rp rInt) aNil))) p_law_pair), none]) (me := fun s1199 => []) (s0 := ()) 2 hp (JI.list (JE.ofM (JM.lst (r := rInt) (JA.consL (JE.fld (JE.var 0) fld_top T.o_Fraction.cl T.na_Fraction_top) (JA.consL (JE.fld (JE.var 0) fld_bottom T.o_Fraction.cl T.na_Fraction_bottom) JA.nilL))))) (fun i1208 s1199 => JG.at (c' := [some (SF.mk (rFrac K) p_law_actual), some (SF.mk (rTu (aCons (rp rInt) (aCons (rp rInt) aNil))) p_law_pair), some (SF.mk rInt i1208)]) (JG.ifT (JT.bool (JW.or (JT.not (JT.of (JE.isi (JE.var 2) (w_type_at T.n_int (by decide +kernel) rfl (by decide) (by decide)) (.ty _) (tyr_int (t := "int") (by decide +kernel)) T.n_isinstance))) (JW.or1 (JT.of (JE.isi (JE.var 2) (w_type_at T.n_bool (by decide +kernel) rfl (by decide) (by decide)) (.ty _) (tyr_int (t := "bool") (by decide +kernel)) T.n_isinstance))))) (JG.rt (JR.ret JE.bl hx)) (JG.nil (fun _ _ _ h => (Stt.weak h (weak_some (weak_some (weak_none weak_nil)))))) hx)) hx (weak_some (weak_some (weak_none weak_nil))) sc_law_is.nd) fun s1199 => (JR.ret (JE.and (JE.cmp (JE.fld (JE.var 0) fld_bottom T.o_Fraction.cl T.na_Fraction_bottom) JE.int opj_ge) (JE.one (JE.cmp (JE.bin (JE.fld (JE.var 0) fld_top T.o_Fraction.cl T.na_Fraction_top) (JE.ixD 1 (JE.var 1) (AtR.succ AtR.zero)) opj_mul) (JE.bin (JE.ixD 0 (JE.var 1) AtR.zero) (JE.fld (JE.var 0) fld_bottom T.o_Fraction.cl T.na_Fraction_bottom) opj_mul) opj_eq))) hx)) hx)⟩
theorem fn_law_is {P : Program} {w : World} {K : PySem.W.Frag} {mg : Str → Option Value} {base : Heap} (T : Txt w K mg) : FnR P w K mg base (L2N.CX P w) 1 (He.ga K "_law_is") (spF K (aCons (rp (rFrac K)) (aCons (rp (rTu (aCons (rp rInt) (aCons (rp rInt) aNil)))) aNil)) (fun d => m_law_is d.1 d.2.1) (rp rBl)) := by
  obtain ⟨fd, F⟩ := T.F_law_is
  exact FnOk.fr0 (ok_law_is T F) (F.bindsN fun _ _ _ _ _ _ us hl => match us, hl with | [_, _], _ => rfl)
theorem sc_law_described : FnScope ["_law_oneway", "_law_tops_here", "_law_bottom", "_law_many", "_law_table", "_law_room", "_law_other", "_law_due_here"] ["_law_oneway", "_law_tops_here", "_law_bottom"] (defScope s_law_described) := ⟨rfl, rfl, rfl, by decide +kernel, rfl, by decide +kernel, by decide +kernel⟩
def m_law_described (p_law_oneway : O_OneWay) (p_law_tops_here : (List Int)) (p_law_bottom : Int) : Res Bool :=
  ((((Res.ok p_law_tops_here).bind fun a1124 => (Res.ok ([] : List Int)).bind fun b1125 => .ok (!decide (a1124 = b1125))).bind fun a1129 => if a1129 = true then (((Res.ok p_law_tops_here).bind fun a1127 => (Res.ok ()).bind fun b1128 => .ok (a1127, b1128)).bind (fun d => .ok (d.1.length : Int))) else (Res.ok (1 : Int))).bind fun v_law_many_1123 => (((((Res.ok p_law_oneway).bind fun a1130 => .ok true).bind fun a1131 => .ok (!a1131)).bind fun a1135 => if a1135 = true then .ok true else (((Res.ok p_law_oneway).bind fun a1132 => .ok a1132.f_rooms).bind fun a1133 => (Res.ok v_law_many_1123).bind fun b1134 => .ok (!decide (a1133 = b1134)))).bind fun x1136 => if x1136 = true then (Res.ok false) else (((Res.ok p_law_oneway).bind fun a1139 => (fun d => m_OneWay_table d.1) (a1139, ())).bind fun v_law_table_1138 => ((((Res.ok v_law_many_1123).bind fun a1141 => rangeM1 a1141).bind fun l1188 => (forG (fun (i1142 : Int) (s1140 : Unit) => (((((Res.ok v_law_many_1123).bind fun a1144 => rangeM1 a1144).bind fun l1187 => (forG (fun (i1145 : Int) (s1143 : Unit) => (((((Res.ok p_law_bottom).bind fun a1153 => ((((Res.ok i1145).bind fun a1149 => ((Res.ok i1142).bind fun a1147 => (Res.ok (1 : Int)).bind fun b1148 => .ok (a1147 - b1148)).bind fun b1150 => .ok (decide (a1149 = b1150))).bind fun a1151 => (Res.ok ()).bind fun b1152 => .ok (a1151, b1152)).bind (fun d => .ok (if d.1 = true then 1 else 0))).bind fun b1154 => mulI a1153 b1154).bind fun a1157 => ((Res.ok p_law_bottom).bind fun a1155 => (Res.ok ()).bind fun b1156 => .ok (a1155, b1156)).bind fun b1158 => .ok (a1157, b1158)).bind fun v_law_due_here_1146 => (((((Res.ok i1142).bind fun a1159 => (Res.ok (0 : Int)).bind fun b1160 => .ok (decide (a1159 = b1160))).bind fun a1163 => if a1163 = true then ((Res.ok p_law_tops_here).bind fun a1161 => (Res.ok ([] : List Int)).bind fun b1162 => .ok (!decide (a1161 = b1162))) else .ok false).bind fun x1172 => if x1172 = true then ((((Res.ok p_law_tops_here).bind fun a1165 => (Res.ok i1145).bind fun b1166 => atM a1165 b1166).bind fun a1169 => ((Res.ok p_law_bottom).bind fun a1167 => (Res.ok ()).bind fun b1168 => .ok (a1167, b1168)).bind fun b1170 => .ok (a1169, b1170)).bind fun v_law_due_here_1164 => (Res.ok v_law_due_here_1164)) else (Res.ok v_law_due_here_1146)).bind fun s1171 => (((((((Res.ok v_law_table_1138).bind fun a1173 => (Res.ok i1142).bind fun b1174 => atM a1173 b1174).bind fun a1175 => (Res.ok i1145).bind fun b1176 => atM a1175 b1176).bind fun a1181 => ((Res.ok s1171).bind fun a1179 => (Res.ok ()).bind fun b1180 => .ok (a1179, b1180)).bind fun b1182 => .ok (a1181, b1182)).bind (fun d => m_law_is d.1 d.2.1)).bind fun a1183 => .ok (!a1183)).bind fun x1184 => if x1184 = true then ((Res.ok false).bind fun r1186 => .ok (Fl.rt r1186)) else (Res.ok (Fl.nx ()))))) : Res (Fl Unit Unit Bool))) l1187 () : Res (Fl Unit Unit Bool))).bind (Fl.then fun s1143 => (Res.ok (Fl.nx ())))) : Res (Fl Unit Unit Bool))) l1188 () : Res (Fl Unit Unit Bool))).bind (Fl.out fun s1140 => (Res.ok true))))))
abbrev C_law_described (P : Program) (w : World) (K : PySem.W.Frag) (mg : Str → Option Value) (base : Heap) : Prop := FnR P w K mg base (L2N.CX P w) 2 (He.ga K "_law_described") (spF K (aCons (rp (r_OneWay K)) (aCons (rdL K (rp rInt)) (aCons (rp rInt) aNil))) (fun d => m_law_described d.1 d.2.1 d.2.2.1) (rp rBl))
theorem ok_law_described {P : Program} {w : World} {K : PySem.W.Frag} {mg : Str → Option Value} {base : Heap} (T : Txt w K mg) (c_OneWay_table : C_OneWay_table P w K mg base) (c_law_is : C_law_is P w K mg base) {fd : FuncData} (F : FunD K "_law_described" "_law_described" (defArgs s_law_described) (defBody s_law_described) (defScope s_law_described) [] [] (He.ga K "_law_described") fd) : FnOk P w K mg base (L2N.CX P w) 2 (He.ga K "_law_described") fd ["_law_oneway", "_law_tops_here", "_law_bottom"] (spF K (aCons (rp (r_OneWay K)) (aCons (rdL K (rp rInt)) (aCons (rp rInt) aNil))) (fun d => m_law_described d.1 d.2.1 d.2.2.1) (rp rBl)) := by
  refine FunD.fn (k := 1) (N := ["_law_oneway", "_law_tops_here", "_law_bottom", "_law_many", "_law_table", "_law_room", "_law_other", "_law_due_here"]) (ps := ["_law_oneway", "_law_tops_here", "_law_bottom"]) F sc_law_described (fun I H vs d h => ?_) (fun cdv A outer s I0 H0 E vs d hr sm h => ?_)
  · obtain ⟨v0, _, rfl, h0, v1, _, rfl, h1, v2, _, rfl, h2, rfl⟩ := h; rfl
  obtain ⟨v0, _, rfl, h0, v1, _, rfl, h1, v2, _, rfl, h2, rfl⟩ := h
  have hx : ∀ {ctx : List (Option SF)} {mem : List MF} (I H : Hp) (σ : St) (d : Option Addr), Stt I0 H0 ctx mem I H σ → Fr H0 d → bK I0 H0 I H σ d := fun _ _ _ _ s f => ⟨s.fm, f⟩
  have tk : L2N.Takes (bx P w K mg base ["_law_oneway", "_law_tops_here", "_law_bottom", "_law_many", "_law_table", "_law_room", "_law_other", "_law_due_here"] "_law_described" (defScope s_law_described) (He.ga K "_law_described") cdv A outer s H0 E) (bW E) := L2N.takes_of rfl rfl rfl rfl
  have hp : PassesOwn (model P w) (bx P w K mg base ["_law_oneway", "_law_tops_here", "_law_bottom", "_law_many", "_law_table", "_law_room", "_law_other", "_law_due_here"] "_law_described" (defScope s_law_described) (He.ga K "_law_described") cdv A outer s H0 E).A (bx P w K mg base ["_law_oneway", "_law_tops_here", "_law_bottom", "_law_many", "_law_table", "_law_room", "_law_other", "_law_due_here"] "_law_described" (defScope s_law_described) (He.ga K "_law_described") cdv A outer s H0 E).env (bx P w K mg base ["_law_oneway", "_law_tops_here", "_law_bottom", "_law_many", "_law_table", "_law_room", "_law_other", "_law_due_here"] "_law_described" (defScope s_law_described) (He.ga K "_law_described") cdv A outer s H0 E).xe := passes_of rfl
  obtain ⟨p_law_oneway, p_law_tops_here, p_law_bottom, _⟩ := d
  exact ⟨Stt I0 H0 [some (SF.mk (r_OneWay K) p_law_oneway), some (SF.mk (fun I v x => (rdL K (rp rInt)) I H0 v x) p_law_tops_here), some (SF.mk rInt p_law_bottom), none, none, none, none, none] [], Stt.start sm ⟨h0, h1, h2, ini_nil rfl⟩ rfl (by simp), (JR.seq (J1.cx (c' := fun v_law_many_1123 => [some (SF.mk (r_OneWay K) p_law_oneway), some (SF.mk (fun I v x => (rdL K (rp rInt)) I H0 v x) p_law_tops_here), some (SF.mk rInt p_law_bottom), some (SF.mk rInt v_law_many_1123), none, none, none, none]) (J1.set 3 (JE.ifx (JT.cmp (JE.varP 1 (r := (rdL K (rp rInt)))) (JE.rd (JE.ofM (JM.lst (r := rInt) JA.nilL))) (opj_neL hr.units)) (JE.callB (JA.cons (JE.varP 1 (r := (rdL K (rp rInt)))) JA.nil) cj_len T.n_len boot_len) JE.int) hx sc_law_described.nd)) fun v_law_many_1123 => (JR.ifR (JT.bool (JW.or (JT.not (JT.of (JE.isi (JE.var 0) (w_glob_at T.g_OneWay rfl (by decide)) (.own _) (tyr_ins T.o_OneWay insI T.kt_OneWay_OneWay) T.n_isinstance))) (JW.or1 (JT.cmp (JE.fld (JE.var 0) (fldI (fl_OneWay_rooms K)) T.o_OneWay.cl T.na_OneWay_rooms) (JE.var 3) opj_ne)))) (JR.ret JE.bl hx) (JR.seq (J1.cx (c' := fun v_law_table_1138 => [some (SF.mk (r_OneWay K) p_law_oneway), some (SF.mk (fun I v x => (rdL K (rp rInt)) I H0 v x) p_law_tops_here), some (SF.mk rInt p_law_bottom), some (SF.mk rInt v_law_many_1123), some (SF.mk (rL (rL (rFrac K))) v_law_table_1138), none, none, none]) (J1.set 4 (JE.ofM (JM.meth0 (JE.var 0) (insOfI fun _ => by kernel_rfl) (cn_of c_OneWay_table (hr.mono (by decide)) tk) T.o_OneWay.cl T.me_OneWay_table)) hx sc_law_described.nd)) fun v_law_table_1138 => (JR.seqG (GL := fun _ _ _ _ => False) (J1G.forG (S := Unit) (cx := fun s1140 => [some (SF.mk (r_OneWay K) p_law_oneway), some (SF.mk (fun I v x => (rdL K (rp rInt)) I H0 v x) p_law_tops_here), some (SF.mk rInt p_law_bottom), some (SF.mk rInt v_law_many_1123), some (SF.mk (rL (rL (rFrac K))) v_law_table_1138), none, none, none]) (me := fun s1140 => []) (s0 := ()) 5 hp (JI.range1 (JE.var 3) T.n_range) (fun i1142 s1140 => JG.at (c' := [some (SF.mk (r_OneWay K) p_law_oneway), some (SF.mk (fun I v x => (rdL K (rp rInt)) I H0 v x) p_law_tops_here), some (SF.mk rInt p_law_bottom), some (SF.mk rInt v_law_many_1123), some (SF.mk (rL (rL (rFrac K))) v_law_table_1138), some (SF.mk rInt i1142), none, none]) (JG.seqG (J1G.forG (S := Unit) (cx := fun s1143 => [some (SF.mk (r_OneWay K) p_law_oneway), some (SF.mk (fun I v x => (rdL K (rp rInt)) I H0 v x) p_law_tops_here), some (SF.mk rInt p_law_bottom), some (SF.mk rInt v_law_many_1123), some (SF.mk (rL (rL (rFrac K))) v_law_table_1138), some (SF.mk rInt i1142), none, none]) (me := fun s1143 => []) (s0 := ()) 6 hp (JI.range1 (JE.var 3) T.n_range) (fun i1145 s1143 => JG.at (c' := [some (SF.mk (r_OneWay K) p_law_oneway), some (SF.mk (fun I v x => (rdL K (rp rInt)) I H0 v x) p_law_tops_here), some (SF.mk rInt p_law_bottom), some (SF.mk rInt v_law_many_1123), some (SF.mk (rL (rL (rFrac K))) v_law_table_1138), some (SF.mk rInt i1142), some (SF.mk rInt i1145), none]) (JG.seq (J1.cx (c' := fun v_law_due_here_1146 => [some (SF.mk (r_OneWay K) p_law_oneway), some (SF.mk (fun I v x => (rdL K (rp rInt)) I H0 v x) p_law_tops_here), some (SF.mk rInt p_law_bottom), some (SF.mk rInt v_law_many_1123), some (SF.mk (rL (rL (rFrac K))) v_law_table_1138), some (SF.mk rInt i1142), some (SF.mk rInt i1145), some (SF.mk (rTu (aCons (rp rInt) (aCons (rp rInt) aNil))) v_law_due_here_1146)]) (J1.set 7 (JE.tupD (k := 2) (JA.cons (JE.bin (JE.var 2) (JE.callTy (JA.cons (JE.cmp (JE.var 6) (JE.bin (JE.var 5) JE.int opj_sub) opj_eq) JA.nil) cj_intB T.n_int boot_int) opj_mul) (JA.cons (JE.var 2) JA.nil)) (by rintro _ _ _ _ ⟨_, _, rfl, _, _, _, rfl, _, rfl⟩; rfl)) hx sc_law_described.nd)) fun v_law_due_here_1146 => (JG.seq (J1.if (S := (Int × Int × Unit)) (G' := fun s1171 => Stt I0 H0 [some (SF.mk (r_OneWay K) p_law_oneway), some (SF.mk (fun I v x => (rdL K (rp rInt)) I H0 v x) p_law_tops_here), some (SF.mk rInt p_law_bottom), some (SF.mk rInt v_law_many_1123), some (SF.mk (rL (rL (rFrac K))) v_law_table_1138), some (SF.mk rInt i1142), some (SF.mk rInt i1145), some (SF.mk (rTu (aCons (rp rInt) (aCons (rp rInt) aNil))) s1171)] []) (JT.bool (JW.and (JT.cmp (JE.var 5) JE.int opj_eq) (JW.and1 (JT.cmp (JE.varP 1 (r := (rdL K (rp rInt)))) (JE.rd (JE.ofM (JM.lst (r := rInt) JA.nilL))) (opj_neL hr.units))))) (JN.seq (J1.cx (c' := fun v_law_due_here_1164 => [some (SF.mk (r_OneWay K) p_law_oneway), some (SF.mk (fun I v x => (rdL K (rp rInt)) I H0 v x) p_law_tops_here), some (SF.mk rInt p_law_bottom), some (SF.mk rInt v_law_many_1123), some (SF.mk (rL (rL (rFrac K))) v_law_table_1138), some (SF.mk rInt i1142), some (SF.mk rInt i1145), some (SF.mk (rTu (aCons (rp rInt) (aCons (rp rInt) aNil))) v_law_due_here_1164)]) (J1.set 7 (JE.tupD (k := 2) (JA.cons (JE.ix (JE.varP 1 (r := (rdL K (rp rInt)))) (JE.var 6)) (JA.cons (JE.var 2) JA.nil)) (by rintro _ _ _ _ ⟨_, _, rfl, _, _, _, rfl, _, rfl⟩; rfl)) hx sc_law_described.nd)) fun v_law_due_here_1164 => (JN.nil (fun _ _ _ h => h))) (JN.nil (fun _ _ _ h => h)) hx) fun s1171 => (JG.ifT (JT.not (JT.of (JE.call (JA.cons (JE.ix (JE.rd (JE.ix (JE.rd (JE.var 4)) (JE.var 5))) (JE.var 6)) (JA.cons (JE.var 7) JA.nil)) (cj_of c_law_is (hr.mono (by decide)) tk) T.g_law_is T.k_law_is))) (JG.rt (JR.ret JE.bl hx)) (JG.nil (fun _ _ _ h => (Stt.weak h (weak_some (weak_some (weak_some (weak_some (weak_some (weak_some (weak_none (weak_none weak_nil))))))))))) hx)))) hx (weak_some (weak_some (weak_some (weak_some (weak_some (weak_some (weak_none (weak_none weak_nil)))))))) sc_law_described.nd) fun s1143 => (JG.nil (fun _ _ _ h => (Stt.weak h (weak_some (weak_some (weak_some (weak_some (weak_some (weak_none (weak_none (weak_none weak_nil))))))))))))) hx (weak_some (weak_some (weak_some (weak_some (weak_some (weak_none (weak_none (weak_none weak_nil)))))))) sc_law_described.nd) fun s1140 => (JR.ret JE.bl hx))) hx))⟩
theorem fn_law_described {P : Program} {w : World} {K : PySem.W.Frag} {mg : Str → Option Value} {base : Heap} (T : Txt w K mg) (c_OneWay_table : C_OneWay_table P w K mg base) (c_law_is : C_law_is P w K mg base) : FnR P w K mg base (L2N.CX P w) 2 (He.ga K "_law_described") (spF K (aCons (rp (r_OneWay K)) (aCons (rdL K (rp rInt)) (aCons (rp rInt) aNil))) (fun d => m_law_described d.1 d.2.1 d.2.2.1) (rp rBl)) := by
  obtain ⟨fd, F⟩ := T.F_law_described
  exact FnOk.fr0 (ok_law_described T c_OneWay_table c_law_is F) (F.bindsN fun _ _ _ _ _ _ us hl => match us, hl with | [_, _, _], _ => rfl)
theorem sc_BadTick_init : FnScope ["self", "tick"] ["self", "tick"] (defScope s_BadTick_init) := ⟨rfl, rfl, rfl, by decide +kernel, rfl, by decide +kernel, by decide +kernel⟩
abbrev C_err_BadTick (P : Program) (w : World) (K : PySem.W.Frag) (mg : Str → Option Value) (base : Heap) : Prop := ErR1 P w K mg base "BadTick" "tick"
theorem fn_err_BadTick {P : Program} {w : World} {K : PySem.W.Frag} {mg : Str → Option Value} {base : Heap} (T : Txt w K mg) : C_err_BadTick P w K mg base := by
  obtain ⟨fd, F⟩ := T.F_BadTick_init
  exact ⟨T.ev_BadTick, fd, ["self", "tick"], init1 F sc_BadTick_init rfl T.ev_BadTick.oex (T.ev_BadTick.no _ (by simp)) (by first | exact Or.inl rfl | exact Or.inr (Or.inl rfl) | exact Or.inr (Or.inr rfl)) (by first | exact Or.inl rfl | exact Or.inr (Or.inl rfl) | exact Or.inr (Or.inr rfl)) (by decide) (by decide), F.bindsN fun _ _ _ _ _ _ us hl => match us, hl with | [_, _], _ => rfl⟩
theorem sc_Fraction_mul : FnScope ["self", "other"] ["self", "other"] (defScope s_Fraction_mul) := ⟨rfl, rfl, rfl, by decide +kernel, rfl, by decide +kernel, by decide +kernel⟩
def m_Fraction_mul (p_self : Rat) (p_other : Num) : Res Rat :=
  (match p_other with | .i p_other_i => (((Res.ok p_other_i).bind fun a1299 => .ok true).bind fun x1300 => if x1300 = true then (((((Res.ok p_self).bind fun a1301 => .ok a1301.num).bind fun a1302 => (Res.ok p_other_i).bind fun b1303 => mulI a1302 b1303).bind fun a1309 => (((Res.ok p_self).bind fun a1305 => .ok (a1305.den : Int)).bind fun a1307 => (Res.ok ()).bind fun b1308 => .ok (a1307, b1308)).bind fun b1310 => .ok (a1309, b1310)).bind (fun d => qMk d.1 d.2.1)) else .stuck) | .q p_other_q => (((Res.ok p_other_q).bind fun a1312 => .ok false).bind fun x1313 => if x1313 = true then .stuck else ((((Res.ok p_other_q).bind fun a1314 => .ok true).bind fun a1315 => .ok (!a1315)).bind fun x1316 => if x1316 = true then .stuck else (((((Res.ok p_self).bind fun a1317 => .ok a1317.num).bind fun a1319 => ((Res.ok p_other_q).bind fun a1318 => .ok a1318.num).bind fun b1320 => mulI a1319 b1320).bind fun a1329 => ((((Res.ok p_self).bind fun a1322 => .ok (a1322.den : Int)).bind fun a1324 => ((Res.ok p_other_q).bind fun a1323 => .ok (a1323.den : Int)).bind fun b1325 => mulI a1324 b1325).bind fun a1327 => (Res.ok ()).bind fun b1328 => .ok (a1327, b1328)).bind fun b1330 => .ok (a1329, b1330)).bind (fun d => qMk d.1 d.2.1)))))
abbrev C_Fraction_mul (P : Program) (w : World) (K : PySem.W.Frag) (mg : Str → Option Value) (base : Heap) : Prop := FnR P w K mg base (L2N.CX P w) 4 (He.ma K (He.ga K "Fraction") "__mul__") (spF K (aCons (rp (rFrac K)) (aCons (rp (rNum K)) aNil)) (fun d => qMul d.1 d.2.1) (rp (rFrac K)))
theorem ok_Fraction_mul {P : Program} {w : World} {K : PySem.W.Frag} {mg : Str → Option Value} {base : Heap} (T : Txt w K mg) (c_Fraction_2 : C_Fraction_2 P w K mg base) {fd : FuncData} (F : FunD K "__mul__" "Fraction.__mul__" (defArgs s_Fraction_mul) (defBody s_Fraction_mul) (defScope s_Fraction_mul) [] [] (He.ma K (He.ga K "Fraction") "__mul__") fd) : FnOk P w K mg base (L2N.CX P w) 4 (He.ma K (He.ga K "Fraction") "__mul__") fd ["self", "other"] (spF K (aCons (rp (rFrac K)) (aCons (rp (rNum K)) aNil)) (fun d => m_Fraction_mul d.1 d.2.1) (rp (rFrac K))) := by
  refine FunD.fn (k := 3) (N := ["self", "other"]) (ps := ["self", "other"]) F sc_Fraction_mul (fun I H vs d h => ?_) (fun cdv A outer s I0 H0 E vs d hr sm h => ?_)
  · obtain ⟨v0, _, rfl, h0, v1, _, rfl, h1, rfl⟩ := h; rfl
  obtain ⟨v0, _, rfl, h0, v1, _, rfl, h1, rfl⟩ := h
  have hx : ∀ {ctx : List (Option SF)} {mem : List MF} (I H : Hp) (σ : St) (d : Option Addr), Stt I0 H0 ctx mem I H σ → Fr H0 d → bK I0 H0 I H σ d := fun _ _ _ _ s f => ⟨s.fm, f⟩
  have tk : L2N.Takes (bx P w K mg base ["self", "other"] "Fraction.__mul__" (defScope s_Fraction_mul) (He.ma K (He.ga K "Fraction") "__mul__") cdv A outer s H0 E) (bW E) := L2N.takes_of rfl rfl rfl rfl
  obtain ⟨p_self, p_other, _⟩ := d
  exact ⟨Stt I0 H0 [some (SF.mk (rFrac K) p_self), some (SF.mk (rNum K) p_other)] [], Stt.start sm ⟨h0, h1, ini_nil rfl⟩ rfl (by simp), (JR.num (K := K) 1 (fun p_other_i => JR.at (c' := [some (SF.mk (rFrac K) p_self), some (SF.mk rInt p_other_i)]) (JR.ifR (JT.of (JE.isi (JE.var 1) (w_type_at T.n_int (by decide +kernel) rfl (by decide) (by decide)) (.ty _) (tyr_int (t := "int") (by decide +kernel)) T.n_isinstance)) (JR.ret (JE.call (JA.cons (JE.bin (JE.fld (JE.var 0) fld_top T.o_Fraction.cl T.na_Fraction_top) (JE.var 1) opj_mul) (JA.cons (JE.fld (JE.var 0) fld_bottom T.o_Fraction.cl T.na_Fraction_bottom) JA.nil)) (c_Fraction_2 _ _ rfl rfl rfl rfl rfl (hr.mono (by decide)) tk) T.g_Fraction T.mk_Fraction.kp) hx) JR.dead hx)) (fun p_other_q => JR.at (c' := [some (SF.mk (rFrac K) p_self), some (SF.mk (rFrac K) p_other_q)]) (JR.ifR (JT.of (JE.isi (JE.var 1) (w_type_at T.n_int (by decide +kernel) rfl (by decide) (by decide)) (.ty _) (tyr_ins T.o_Fraction insF T.kT_Fraction_int) T.n_isinstance)) JR.dead (JR.ifR (JT.not (JT.of (JE.isi (JE.var 1) (w_glob_at T.g_Fraction rfl (by decide)) (.own _) (tyr_ins T.o_Fraction insF T.kt_Fraction_Fraction) T.n_isinstance))) JR.dead (JR.ret (JE.call (JA.cons (JE.bin (JE.fld (JE.var 0) fld_top T.o_Fraction.cl T.na_Fraction_top) (JE.fld (JE.var 1) fld_top T.o_Fraction.cl T.na_Fraction_top) opj_mul) (JA.cons (JE.bin (JE.fld (JE.var 0) fld_bottom T.o_Fraction.cl T.na_Fraction_bottom) (JE.fld (JE.var 1) fld_bottom T.o_Fraction.cl T.na_Fraction_bottom) opj_mul) JA.nil)) (c_Fraction_2 _ _ rfl rfl rfl rfl rfl (hr.mono (by decide)) tk) T.g_Fraction T.mk_Fraction.kp) hx) hx) hx)))⟩
theorem fn_Fraction_mul {P : Program} {w : World} {K : PySem.W.Frag} {mg : Str → Option Value} {base : Heap} (T : Txt w K mg) (c_Fraction_2 : C_Fraction_2 P w K mg base) : FnR P w K mg base (L2N.CX P w) 4 (He.ma K (He.ga K "Fraction") "__mul__") (spF K (aCons (rp (rFrac K)) (aCons (rp (rNum K)) aNil)) (fun d => m_Fraction_mul d.1 d.2.1) (rp (rFrac K))) := by
  obtain ⟨fd, F⟩ := T.F_Fraction_mul
  exact FnOk.fr0 (ok_Fraction_mul T c_Fraction_2 F) (F.bindsN fun _ _ _ _ _ _ us hl => match us, hl with | [_, _], _ => rfl)
theorem nice_Fraction_mul : ∀ d : Rat × Num × Unit, qMul d.1 d.2.1 = .stuck ∨ qMul d.1 d.2.1 = m_Fraction_mul d.1 d.2.1 := fun ⟨x, y, _⟩ => by
  cases y with
  | i n =>
      refine stuck_or fun h => ?_
      obtain ⟨hx, hn⟩ := h
      dsimp only at hx ⊢
      have hn := fits_int.mp hn
      simp only [m_Fraction_mul, Res.ok_bind, Bool.not_true, Bool.not_false, Bool.false_eq_true, if_true, if_false, mul_fit hn (fd hx), mul_fit hx.1 hn, qMk_d hx, mul_div1]
      rfl
  | q y =>
      refine stuck_or fun h => ?_
      obtain ⟨hx, hy⟩ := h
      dsimp only at hx ⊢
      have hy : fits y := hy
      simp only [m_Fraction_mul, Res.ok_bind, Bool.not_true, Bool.not_false, Bool.false_eq_true, if_true, if_false, mul_fit hx.1 (fd hy), mul_fit hy.1 (fd hx), mul_fit (fd hx) (fd hy), mul_fit hx.1 hy.1, qMk_dd hx hy, mul_divs]
      rfl
theorem sc_OneWay_readings : FnScope ["self", "ticks", "held", "result", "step", "i", "j"] ["self", "ticks"] (defScope s_OneWay_readings) := ⟨rfl, rfl, rfl, by decide +kernel, rfl, by decide +kernel, by decide +kernel⟩
def m_OneWay_readings (p_self : O_OneWay) (p_ticks : Int) : Res (List Rat) :=
  (((Res.ok p_ticks).bind fun a1232 => (Res.ok (0 : Int)).bind fun b1233 => .ok (decide (a1232 < b1233))).bind fun x1234 => if x1234 = true then (((Res.ok p_ticks).bind fun y1236 => Res.err ⟨"BadTick", [("tick", Pay.int y1236)]⟩)) else ((((((Res.ok (1 : Int)).bind fun a1239 => (Res.ok ()).bind fun b1240 => .ok (a1239, b1240)).bind (fun d => qInt d.1)).bind fun a1242 => (Res.ok []).bind fun b1243 => .ok (a1242 :: b1243)).bind fun a1255 => (((((Res.ok (0 : Int)).bind fun a1245 => (Res.ok ()).bind fun b1246 => .ok (a1245, b1246)).bind (fun d => qInt d.1)).bind fun a1248 => (Res.ok []).bind fun b1249 => .ok (a1248 :: b1249)).bind fun a1253 => (((Res.ok p_self).bind fun a1250 => .ok a1250.f_rooms).bind fun a1251 => (Res.ok (1 : Int)).bind fun b1252 => .ok (a1251 - b1252)).bind fun b1254 => repM a1253 b1254).bind fun b1256 => catM a1255 b1256).bind fun v_held_1237 => (((((Res.ok (1 : Int)).bind fun a1259 => (Res.ok ()).bind fun b1260 => .ok (a1259, b1260)).bind (fun d => qInt d.1)).bind fun a1262 => (Res.ok []).bind fun b1263 => .ok (a1262 :: b1263)).bind fun v_result_1257 => ((((Res.ok p_ticks).bind fun a1266 => rangeM1 a1266).bind fun l1298 => forS (fun (i1267 : Int) (s1265 : ((List Rat) × (List Rat))) => (((((Res.ok p_self).bind fun a1269 => .ok a1269.f_rooms).bind fun a1270 => rangeM1 a1270).bind fun l1292 => lcR (fun (i1271 : Int) => ((((((Res.ok p_self).bind fun a1273 => .ok a1273.f_rooms).bind fun a1274 => rangeM1 a1274).bind fun l1287 => lcR (fun (i1275 : Int) => (((Res.ok s1265.1).bind fun a1277 => (Res.ok i1275).bind fun b1278 => atM a1277 b1278).bind fun a1284 => ((((Res.ok p_self).bind fun a1279 => .ok a1279.f_rows).bind fun a1280 => (Res.ok i1275).bind fun b1281 => atM a1280 b1281).bind fun a1282 => (Res.ok i1271).bind fun b1283 => atM a1282 b1283).bind fun b1285 => qMul a1284 (.q b1285))) l1287).bind fun a1289 => (Res.ok ()).bind fun b1290 => .ok (a1289, b1290)).bind (fun d => m_total_of d.1))) l1292).bind fun v_held_1268 => ((((Res.ok v_held_1268).bind fun a1294 => (Res.ok (0 : Int)).bind fun b1295 => atM a1294 b1295).bind fun y1297 => appM s1265.2 y1297).bind fun v_result_1293 => (Res.ok (v_held_1268, v_result_1293))))) l1298 (v_held_1237, v_result_1257)).bind fun s1265 => (Res.ok s1265.2)))))
abbrev C_OneWay_readings (P : Program) (w : World) (K : PySem.W.Frag) (mg : Str → Option Value) (base : Heap) : Prop := FnR P w K mg base (L2N.CX P w) 6 (He.ma K (He.ga K "OneWay") "readings") (spN K (aCons (rp (r_OneWay K)) (aCons (rp rInt) aNil)) (fun d => m_OneWay_readings d.1 d.2.1) (rFrac K))
theorem ok_OneWay_readings {P : Program} {w : World} {K : PySem.W.Frag} {mg : Str → Option Value} {base : Heap} (T : Txt w K mg) (c_err_BadTick : C_err_BadTick P w K mg base) (c_Fraction_1 : C_Fraction_1 P w K mg base) (c_Fraction_mul : C_Fraction_mul P w K mg base) (c_total_of : C_total_of P w K mg base) {fd : FuncData} (F : FunD K "readings" "OneWay.readings" (defArgs s_OneWay_readings) (defBody s_OneWay_readings) (defScope s_OneWay_readings) [] [] (He.ma K (He.ga K "OneWay") "readings") fd) : FnOk P w K mg base (L2N.CX P w) 6 (He.ma K (He.ga K "OneWay") "readings") fd ["self", "ticks"] (spN K (aCons (rp (r_OneWay K)) (aCons (rp rInt) aNil)) (fun d => m_OneWay_readings d.1 d.2.1) (rFrac K)) := by
  refine FunD.fnN (k := 5) (N := ["self", "ticks", "held", "result", "step", "i", "j"]) (ps := ["self", "ticks"]) F sc_OneWay_readings (fun I H vs d h => ?_) (fun cdv A outer s I0 H0 E vs d hr sm h => ?_)
  · obtain ⟨v0, _, rfl, h0, v1, _, rfl, h1, rfl⟩ := h; rfl
  obtain ⟨v0, _, rfl, h0, v1, _, rfl, h1, rfl⟩ := h
  have hx : ∀ {ctx : List (Option SF)} {mem : List MF} (I H : Hp) (σ : St) (d : Option Addr), Stt I0 H0 ctx mem I H σ → Fr H0 d → bK I0 H0 I H σ d := fun _ _ _ _ s f => ⟨s.fm, f⟩
  have tk : L2N.Takes (bx P w K mg base ["self", "ticks", "held", "result", "step", "i", "j"] "OneWay.readings" (defScope s_OneWay_readings) (He.ma K (He.ga K "OneWay") "readings") cdv A outer s H0 E) (bW E) := L2N.takes_of rfl rfl rfl rfl
  have hp : PassesOwn (model P w) (bx P w K mg base ["self", "ticks", "held", "result", "step", "i", "j"] "OneWay.readings" (defScope s_OneWay_readings) (He.ma K (He.ga K "OneWay") "readings") cdv A outer s H0 E).A (bx P w K mg base ["self", "ticks", "held", "result", "step", "i", "j"] "OneWay.readings" (defScope s_OneWay_readings) (He.ma K (He.ga K "OneWay") "readings") cdv A outer s H0 E).env (bx P w K mg base ["self", "ticks", "held", "result", "step", "i", "j"] "OneWay.readings" (defScope s_OneWay_readings) (He.ma K (He.ga K "OneWay") "readings") cdv A outer s H0 E).xe := passes_of rfl
  obtain ⟨p_self, p_ticks, _⟩ := d
  exact ⟨Stt I0 H0 [some (SF.mk (r_OneWay K) p_self), some (SF.mk rInt p_ticks), none, none, none, none, none] [], Stt.start sm ⟨h0, h1, ini_nil rfl⟩ rfl (by simp), (JR.ifR (JT.cmp (JE.var 1) JE.int opj_lt) (JR.raise1 (pay := Pay.int) rfl tk c_err_BadTick (hr.mono (by decide)) (JE.var 1) pay_int hx) (JR.seq (J1.cx (c' := fun v_held_1237 => [some (SF.mk (r_OneWay K) p_self), some (SF.mk rInt p_ticks), some (SF.mk (rL (rFrac K)) v_held_1237), none, none, none, none]) (J1.set 2 (JE.ofM (JM.cat (JE.hp (JE.ofM (JM.lst (r := (rFrac K)) (JA.consL (JE.call (JA.cons JE.int JA.nil) (c_Fraction_1 _ _ rfl rfl rfl rfl rfl (hr.mono (by decide)) tk) T.g_Fraction T.mk_Fraction.kp) JA.nilL)))) (JE.hp (JE.ofM (JM.rep (JE.hp (JE.ofM (JM.lst (r := (rFrac K)) (JA.consL (JE.call (JA.cons JE.int JA.nil) (c_Fraction_1 _ _ rfl rfl rfl rfl rfl (hr.mono (by decide)) tk) T.g_Fraction T.mk_Fraction.kp) JA.nilL)))) (JE.bin (JE.fld (JE.var 0) (fldI (fl_OneWay_rooms K)) T.o_OneWay.cl T.na_OneWay_rooms) JE.int opj_sub)))))) hx sc_OneWay_readings.nd)) fun v_held_1237 => (JR.seq (J1.cn (c' := fun v_result_1257 l1264 => [some (SF.mk (r_OneWay K) p_self), some (SF.mk rInt p_ticks), some (SF.mk (rL (rFrac K)) v_held_1237), some (SF.mk (rRef l1264) ()), none, none, none]) (me' := fun v_result_1257 l1264 => [MF.lst l1264 (rFrac K) v_result_1257]) (J1.setM 3 (JM.lst (r := (rFrac K)) (JA.consL (JE.call (JA.cons JE.int JA.nil) (c_Fraction_1 _ _ rfl rfl rfl rfl rfl (hr.mono (by decide)) tk) T.g_Fraction T.mk_Fraction.kp) JA.nilL)) hx sc_OneWay_readings.nd)) fun v_result_1257 => JR.ex fun l1264 => (JR.seq (J1.forS (S := ((List Rat) × (List Rat))) (cx := fun s1265 => [some (SF.mk (r_OneWay K) p_self), some (SF.mk rInt p_ticks), some (SF.mk (rL (rFrac K)) s1265.1), some (SF.mk (rRef l1264) ()), none, none, none]) (me := fun s1265 => [MF.lst l1264 (rFrac K) s1265.2]) (s0 := (v_held_1237, v_result_1257)) 4 hp (JI.range1 (JE.var 1) T.n_range) (fun i1267 s1265 => JN.at (c' := [some (SF.mk (r_OneWay K) p_self), some (SF.mk rInt p_ticks), some (SF.mk (rL (rFrac K)) s1265.1), some (SF.mk (rRef l1264) ()), some (SF.mk rInt i1267), none, none]) (JN.seq (J1.cx (c' := fun v_held_1268 => [some (SF.mk (r_OneWay K) p_self), some (SF.mk rInt p_ticks), some (SF.mk (rL (rFrac K)) v_held_1268), some (SF.mk (rRef l1264) ()), some (SF.mk rInt i1267), none, none]) (J1.set 2 (JE.ofM (JM.lcT (r := (rFrac K)) 6 (JI.range1 (JE.fld (JE.var 0) (fldI (fl_OneWay_rooms K)) T.o_OneWay.cl T.na_OneWay_rooms) T.n_range) (fun _ _ _ _ _ D acc i1271 tk1272 => (JE.at (c' := [some (SF.mk (r_OneWay K) p_self), some (SF.mk rInt p_ticks), some (SF.mk (rL (rFrac K)) s1265.1), some (SF.mk (rRef l1264) ()), some (SF.mk rInt i1267), none, some (SF.mk rInt i1271)]) (JE.call (JA.cons (JE.rd (JE.ofM (JM.lcT (r := (rFrac K)) 5 (JI.range1 (JE.fld (JE.var 0) (fldI (fl_OneWay_rooms K)) T.o_OneWay.cl T.na_OneWay_rooms) T.n_range) (fun _ _ _ _ _ D acc i1275 tk1276 => (JE.at (c' := [some (SF.mk (r_OneWay K) p_self), some (SF.mk rInt p_ticks), some (SF.mk (rL (rFrac K)) s1265.1), some (SF.mk (rRef l1264) ()), some (SF.mk rInt i1267), some (SF.mk rInt i1275), some (SF.mk rInt i1271)]) (JE.bin (JE.ix (JE.rd (JE.var 2)) (JE.var 5)) (JE.ix (JE.rd (JE.ix (JE.rd (JE.fld (JE.var 0) (fldI (fl_OneWay_rows K)) T.o_OneWay.cl T.na_OneWay_rows)) (JE.var 5))) (JE.var 6)) (opj_qq (op := .Mult) (g := fun d => qMul d.1 d.2.1) T.o_Fraction T.om_Fraction_mul c_Fraction_mul (hr.mono (by decide)) tk1276)))) sc_OneWay_readings.nd (blkok_of (by kernel_rfl))))) JA.nil) (cj_of c_total_of (hr.mono (by decide)) tk1272) T.g_total_of T.k_total_of))) sc_OneWay_readings.nd (blkok_of (by kernel_rfl)))) hx sc_OneWay_readings.nd)) fun v_held_1268 => (JN.seq (J1.cm (c' := fun v_result_1293 => [some (SF.mk (r_OneWay K) p_self), some (SF.mk rInt p_ticks), some (SF.mk (rL (rFrac K)) v_held_1268), some (SF.mk (rRef l1264) ()), some (SF.mk rInt i1267), none, none]) (me' := fun v_result_1293 => [MF.lst l1264 (rFrac K) v_result_1293]) (J1.app 3 0 (JE.ix (JE.rd (JE.var 2)) JE.int) hx)) fun v_result_1293 => (JN.nil (fun _ _ _ h => (Stt.weak h (weak_some (weak_some (weak_some (weak_some (weak_none (weak_none (weak_none weak_nil))))))))))))) hx (weak_some (weak_some (weak_some (weak_some (weak_none (weak_none (weak_none weak_nil))))))) sc_OneWay_readings.nd) fun s1265 => (JR.retC 3 0)))) hx)⟩
theorem fn_OneWay_readings {P : Program} {w : World} {K : PySem.W.Frag} {mg : Str → Option Value} {base : Heap} (T : Txt w K mg) (c_err_BadTick : C_err_BadTick P w K mg base) (c_Fraction_1 : C_Fraction_1 P w K mg base) (c_Fraction_mul : C_Fraction_mul P w K mg base) (c_total_of : C_total_of P w K mg base) : FnR P w K mg base (L2N.CX P w) 6 (He.ma K (He.ga K "OneWay") "readings") (spN K (aCons (rp (r_OneWay K)) (aCons (rp rInt) aNil)) (fun d => m_OneWay_readings d.1 d.2.1) (rFrac K)) := by
  obtain ⟨fd, F⟩ := T.F_OneWay_readings
  exact FnOk.frN0 (ok_OneWay_readings T c_err_BadTick c_Fraction_1 c_Fraction_mul c_total_of F) (F.bindsN fun _ _ _ _ _ _ us hl => match us, hl with | [_, _], _ => rfl)
theorem sc_law_due : FnScope ["_law_tops_here", "_law_bottom", "_law_total", "_law_k"] ["_law_tops_here", "_law_bottom"] (defScope s_law_due) := ⟨rfl, rfl, rfl, by decide +kernel, rfl, by decide +kernel, by decide +kernel⟩
def m_law_due (p_law_tops_here : (List Int)) (p_law_bottom : Int) : Res Int :=
  ((Res.ok (0 : Int)).bind fun v_law_total_1332 => ((((((Res.ok p_law_tops_here).bind fun a1335 => (Res.ok ()).bind fun b1336 => .ok (a1335, b1336)).bind (fun d => .ok (d.1.length : Int))).bind fun a1337 => rangeM1 a1337).bind fun l1356 => (forG (fun (i1338 : Int) (s1333 : Int) => ((((Res.ok s1333).bind fun a1342 => ((Res.ok p_law_tops_here).bind fun a1340 => (Res.ok i1338).bind fun b1341 => atM a1340 b1341).bind fun b1343 => .ok (a1342 + b1343)).bind fun v_law_total_1339 => (((((Res.ok p_law_tops_here).bind fun a1344 => (Res.ok i1338).bind fun b1345 => atM a1344 b1345).bind fun a1346 => (Res.ok (0 : Int)).bind fun b1347 => .ok (decide (a1346 < b1347))).bind fun a1350 => if a1350 = true then .ok true else ((Res.ok v_law_total_1339).bind fun a1348 => (Res.ok p_law_bottom).bind fun b1349 => .ok (decide (a1348 > b1349)))).bind fun x1351 => if x1351 = true then (((Res.ok i1338).bind fun a1352 => (Res.ok (1 : Int)).bind fun b1353 => .ok (a1352 + b1353)).bind fun r1355 => .ok (Fl.rt r1355)) else (Res.ok (Fl.nx v_law_total_1339)))) : Res (Fl Int Int Int))) l1356 v_law_total_1332 : Res (Fl Int Unit Int))).bind (Fl.out fun s1333 => (Res.ok (0 : Int)))))
abbrev C_law_due (P : Program) (w : World) (K : PySem.W.Frag) (mg : Str → Option Value) (base : Heap) : Prop := FnR P w K mg base (L2N.CX P w) 1 (He.ga K "_law_due") (spF K (aCons (rdL K (rp rInt)) (aCons (rp rInt) aNil)) (fun d => m_law_due d.1 d.2.1) (rp rInt))
theorem ok_law_due {P : Program} {w : World} {K : PySem.W.Frag} {mg : Str → Option Value} {base : Heap} (T : Txt w K mg) {fd : FuncData} (F : FunD K "_law_due" "_law_due" (defArgs s_law_due) (defBody s_law_due) (defScope s_law_due) [] [] (He.ga K "_law_due") fd) : FnOk P w K mg base (L2N.CX P w) 1 (He.ga K "_law_due") fd ["_law_tops_here", "_law_bottom"] (spF K (aCons (rdL K (rp rInt)) (aCons (rp rInt) aNil)) (fun d => m_law_due d.1 d.2.1) (rp rInt)) := by
  refine FunD.fn (k := 0) (N := ["_law_tops_here", "_law_bottom", "_law_total", "_law_k"]) (ps := ["_law_tops_here", "_law_bottom"]) F sc_law_due (fun I H vs d h => ?_) (fun cdv A outer s I0 H0 E vs d hr sm h => ?_)
  · obtain ⟨v0, _, rfl, h0, v1, _, rfl, h1, rfl⟩ := h; rfl
  obtain ⟨v0, _, rfl, h0, v1, _, rfl, h1, rfl⟩ := h
  have hx : ∀ {ctx : List (Option SF)} {mem : List MF} (I H : Hp) (σ : St) (d : Option Addr), Stt I0 H0 ctx mem I H σ → Fr H0 d → bK I0 H0 I H σ d := fun _ _ _ _ s f => ⟨s.fm, f⟩
  have tk : L2N.Takes (bx P w K mg base ["_law_tops_here", "_law_bottom", "_law_total", "_law_k"] "_law_due" (defScope s_law_due) (He.ga K "_law_due") cdv A outer s H0 E) (bW E) := L2N.takes_of rfl rfl rfl rfl
  have hp : PassesOwn (model P w) (bx P w K mg base ["_law_tops_here", "_law_bottom", "_law_total", "_law_k"] "_law_due" (defScope s_law_due) (He.ga K "_law_due") cdv A outer s H0 E).A (bx P w K mg base ["_law_tops_here", "_law_bottom", "_law_total", "_law_k"] "_law_due" (defScope s_law_due) (He.ga K "_law_due") cdv A outer s H0 E).env (bx P w K mg base ["_law_tops_here", "_law_bottom", "_law_total", "_law_k"] "_law_due" (defScope s_law_due) (He.ga K "_law_due") cdv A outer s H0 E).xe := passes_of rfl
  obtain ⟨p_law_tops_here, p_law_bottom, _⟩ := d
  exact ⟨Stt I0 H0 [some (SF.mk (fun I v x => (rdL K (rp rInt)) I H0 v x) p_law_tops_here), some (SF.mk rInt p_law_bottom), none, none] [], Stt.start sm ⟨h0, h1, ini_nil rfl⟩ rfl (by simp), (JR.seq (J1.cx (c' := fun v_law_total_1332 => [some (SF.mk (fun I v x => (rdL K (rp rInt)) I H0 v x) p_law_tops_here), some (SF.mk rInt p_law_bottom), some (SF.mk rInt v_law_total_1332), none]) (J1.set 2 JE.int hx sc_law_due.nd)) fun v_law_total_1332 => (JR.seqG (GL := fun _ _ _ _ => False) (J1G.forG (S := Int) (cx := fun s1333 => [some (SF.mk (fun I v x => (rdL K (rp rInt)) I H0 v x) p_law_tops_here), some (SF.mk rInt p_law_bottom), some (SF.mk rInt s1333), none]) (me := fun s1333 => []) (s0 := v_law_total_1332) 3 hp (JI.range1 (JE.callB (JA.cons (JE.varP 0 (r := (rdL K (rp rInt)))) JA.nil) cj_len T.n_len boot_len) T.n_range) (fun i1338 s1333 => JG.at (c' := [some (SF.mk (fun I v x => (rdL K (rp rInt)) I H0 v x) p_law_tops_here), some (SF.mk rInt p_law_bottom), some (SF.mk rInt s1333), some (SF.mk rInt i1338)]) (JG.seq (J1.cx (c' := fun v_law_total_1339 => [some (SF.mk (fun I v x => (rdL K (rp rInt)) I H0 v x) p_law_tops_here), some (SF.mk rInt p_law_bottom), some (SF.mk rInt v_law_total_1339), some (SF.mk rInt i1338)]) (J1.set 2 (JE.bin (JE.var 2) (JE.ix (JE.varP 0 (r := (rdL K (rp rInt)))) (JE.var 3)) opj_add) hx sc_law_due.nd)) fun v_law_total_1339 => (JG.ifT (JT.bool (JW.or (JT.cmp (JE.ix (JE.varP 0 (r := (rdL K (rp rInt)))) (JE.var 3)) JE.int opj_lt) (JW.or1 (JT.cmp (JE.var 2) (JE.var 1) opj_gt)))) (JG.rt (JR.ret (JE.bin (JE.var 3) JE.int opj_add) hx)) (JG.nil (fun _ _ _ h => (Stt.weak h (weak_some (weak_some (weak_some (weak_none weak_nil))))))) hx))) hx (weak_some (weak_some (weak_some (weak_none weak_nil)))) sc_law_due.nd) fun s1333 => (JR.ret JE.int hx)))⟩
theorem fn_law_due {P : Program} {w : World} {K : PySem.W.Frag} {mg : Str → Option Value} {base : Heap} (T : Txt w K mg) : FnR P w K mg base (L2N.CX P w) 1 (He.ga K "_law_due") (spF K (aCons (rdL K (rp rInt)) (aCons (rp rInt) aNil)) (fun d => m_law_due d.1 d.2.1) (rp rInt)) := by
  obtain ⟨fd, F⟩ := T.F_law_due
  exact FnOk.fr0 (ok_law_due T F) (F.bindsN fun _ _ _ _ _ _ us hl => match us, hl with | [_, _], _ => rfl)
theorem sc_law_outcome : FnScope ["_law_entries", "e"] ["_law_entries"] (defScope s_law_outcome) := ⟨rfl, rfl, rfl, by decide +kernel, rfl, by decide +kernel, by decide +kernel⟩
def m_law_outcome (p_law_entries : (List Num)) : Res (Str × Int × Unit) :=
  ((tryN (((((Res.ok p_law_entries).bind fun a1360 => (Res.ok ()).bind fun b1361 => .ok (a1360, b1361)).bind (fun d => m_delay_row d.1)).bind fun u1362 => (Res.ok (Fl.nx ()))) : Res (Fl Unit Unit (Str × Int × Unit))) [([("NoWeb", true), ("BadReadings", false)], (fun ee => pay1 "tick" dInt (fun y1363 => (((Res.ok true).bind fun a1371 => if a1371 = true then ((Res.ok true).bind fun a1370 => if a1370 = true then ((Res.ok false).bind fun a1369 => .ok (!a1369)) else .ok false) else .ok false).bind fun x1372 => if x1372 = true then (((Res.ok ("web" : Str)).bind fun a1377 => ((Res.ok y1363).bind fun a1375 => (Res.ok ()).bind fun b1376 => .ok (a1375, b1376)).bind fun b1378 => .ok (a1377, b1378)).bind fun r1380 => .ok (Fl.rt r1380)) else (Res.ok (Fl.nx ())))) ee.pay)), ([("BadReadings", true)], (fun ee => if ee.pay.isEmpty = true then (((Res.ok true).bind fun a1383 => if a1383 = true then (Res.ok true) else .ok false).bind fun x1384 => if x1384 = true then (((Res.ok ("readings" : Str)).bind fun a1389 => ((Res.ok (0 : Int)).bind fun a1387 => (Res.ok ()).bind fun b1388 => .ok (a1387, b1388)).bind fun b1390 => .ok (a1389, b1390)).bind fun r1392 => .ok (Fl.rt r1392)) else (Res.ok (Fl.nx ()))) else .stuck))]).bind (Fl.out fun s1393 => ((Res.ok ("none" : Str)).bind fun a1398 => ((Res.ok (0 : Int)).bind fun a1396 => (Res.ok ()).bind fun b1397 => .ok (a1396, b1397)).bind fun b1399 => .ok (a1398, b1399))))
abbrev C_law_outcome (P : Program) (w : World) (K : PySem.W.Frag) (mg : Str → Option Value) (base : Heap) : Prop := FnR P w K mg base (L2N.CX P w) 10 (He.ga K "_law_outcome") (spF K (aCons (rdL K (rp (rNum K))) aNil) (fun d => m_law_outcome d.1) (rp (rTu (aCons (rp rStr) (aCons (rp rInt) aNil)))))
theorem ok_law_outcome {P : Program} {w : World} {K : PySem.W.Frag} {mg : Str → Option Value} {base : Heap} (T : Txt w K mg) (c_delay_row : C_delay_row P w K mg base) {fd : FuncData} (F : FunD K "_law_outcome" "_law_outcome" (defArgs s_law_outcome) (defBody s_law_outcome) (defScope s_law_outcome) [] [] (He.ga K "_law_outcome") fd) : FnOk P w K mg base (L2N.CX P w) 10 (He.ga K "_law_outcome") fd ["_law_entries"] (spF K (aCons (rdL K (rp (rNum K))) aNil) (fun d => m_law_outcome d.1) (rp (rTu (aCons (rp rStr) (aCons (rp rInt) aNil))))) := by
  refine FunD.fn (k := 9) (N := ["_law_entries", "e"]) (ps := ["_law_entries"]) F sc_law_outcome (fun I H vs d h => ?_) (fun cdv A outer s I0 H0 E vs d hr sm h => ?_)
  · obtain ⟨v0, _, rfl, h0, rfl⟩ := h; rfl
  obtain ⟨v0, _, rfl, h0, rfl⟩ := h
  have hx : ∀ {ctx : List (Option SF)} {mem : List MF} (I H : Hp) (σ : St) (d : Option Addr), Stt I0 H0 ctx mem I H σ → Fr H0 d → bK I0 H0 I H σ d := fun _ _ _ _ s f => ⟨s.fm, f⟩
  have tk : L2N.Takes (bx P w K mg base ["_law_entries", "e"] "_law_outcome" (defScope s_law_outcome) (He.ga K "_law_outcome") cdv A outer s H0 E) (bW E) := L2N.takes_of rfl rfl rfl rfl
  have hp : PassesOwn (model P w) (bx P w K mg base ["_law_entries", "e"] "_law_outcome" (defScope s_law_outcome) (He.ga K "_law_outcome") cdv A outer s H0 E).A (bx P w K mg base ["_law_entries", "e"] "_law_outcome" (defScope s_law_outcome) (He.ga K "_law_outcome") cdv A outer s H0 E).env (bx P w K mg base ["_law_entries", "e"] "_law_outcome" (defScope s_law_outcome) (He.ga K "_law_outcome") cdv A outer s H0 E).xe := passes_of rfl
  obtain ⟨p_law_entries, _⟩ := d
  exact ⟨Stt I0 H0 [some (SF.mk (fun I v x => (rdL K (rp (rNum K))) I H0 v x) p_law_entries), none] [], Stt.start sm ⟨h0, ini_nil rfl⟩ rfl (by simp), (JR.seqG (GL := fun _ _ _ _ => False) (J1G.tryN (S := Unit) (cw := [some (SF.mk (fun I v x => (rdL K (rp (rNum K))) I H0 v x) p_law_entries), none]) (me' := fun I1358 => [MF.same I1358]) (G' := fun s1393 => Stt I0 H0 [some (SF.mk (fun I v x => (rdL K (rp (rNum K))) I H0 v x) p_law_entries), none] []) tk (fun W' pn xe I1358 tk hp => (JG.seq (J1.expr (JE.call (JA.cons (JE.varP 0 (r := (rdL K (rp (rNum K))))) JA.nil) (cj_of c_delay_row (hr.mono (by decide)) tk) T.g_delay_row T.k_delay_row) (fun _ _ _ _ s f => ⟨s.weak (by repeat (first | exact weak_nil | apply weak_some | apply weak_none)), f⟩)) fun u1362 => (JG.nil (fun _ _ _ h => (Stt.forgetAt h 0 rfl))))) (JHds.as1 (mh := fun y1363 => (((Res.ok true).bind fun a1371 => if a1371 = true then ((Res.ok true).bind fun a1370 => if a1370 = true then ((Res.ok false).bind fun a1369 => .ok (!a1369)) else .ok false) else .ok false).bind fun x1372 => if x1372 = true then (((Res.ok ("web" : Str)).bind fun a1377 => ((Res.ok y1363).bind fun a1375 => (Res.ok ()).bind fun b1376 => .ok (a1375, b1376)).bind fun b1378 => .ok (a1377, b1378)).bind fun r1380 => .ok (Fl.rt r1380)) else (Res.ok (Fl.nx ())))) (cv := .ref (He.ga K "NoWeb")) (Ls := [("NoWeb", true), ("BadReadings", false)]) 1 "NoWeb" "tick" dInt (fun a oe dd pn p1364 y1363 hz hf hd1365 => (JG.ifT (JT.bool (JW.and (JT.of (JE.isV 0 hz hf T.xc_NoWeb T.kt_NoWeb_TracerError (JE.var 1) (w_glob_at T.g_TracerError rfl (by decide)) (.own _) T.n_isinstance)) (JW.and (JT.of (JE.isV 0 hz hf T.xc_NoWeb T.kT_NoWeb_ValueError (JE.var 1) (w_type_at T.n_ValueError (by decide +kernel) rfl (by decide) (by decide)) (.ty _) T.n_isinstance)) (JW.and1 (JT.not (JT.of (JE.isV 0 hz hf T.xc_NoWeb T.kt_NoWeb_BadReadings (JE.var 1) (w_glob_at T.g_BadReadings rfl (by decide)) (.own _) T.n_isinstance))))))) (JG.rt (JR.ret (JE.tupD (k := 2) (JA.cons JE.str (JA.cons (JE.xfld 1 0 (r := rInt) (dp := dInt) hz hf T.ev_NoWeb.xf (T.ev_NoWeb.no _ (by simp)) hd1365 rfl (JE.var 1)) JA.nil)) (by rintro _ _ _ _ ⟨_, _, rfl, _, _, _, rfl, _, rfl⟩; rfl)) (fun _ _ _ _ _ _ => True.intro))) (JG.nil (fun _ _ _ h => (Stt.weak (Stt.unset (Stt.forgetAt h 0 rfl) 1 (u := none)) (weak_some (weak_none weak_nil))))) (fun _ _ _ _ _ _ => True.intro))) (fun c h => by simpa using h) (fun y b h => by
        simp only [List.mem_cons, List.mem_nil_iff, or_false, Prod.mk.injEq] at h
        rcases h with ⟨rfl, rfl⟩ | h
        · exact T.xm_NoWeb_NoWeb
        obtain ⟨rfl, rfl⟩ := h
        exact T.xm_BadReadings_NoWeb) ⟨rfl, by decide, .inl T.g_NoWeb⟩ (JHds.as0 (mh := (((Res.ok true).bind fun a1383 => if a1383 = true then (Res.ok true) else .ok false).bind fun x1384 => if x1384 = true then (((Res.ok ("readings" : Str)).bind fun a1389 => ((Res.ok (0 : Int)).bind fun a1387 => (Res.ok ()).bind fun b1388 => .ok (a1387, b1388)).bind fun b1390 => .ok (a1389, b1390)).bind fun r1392 => .ok (Fl.rt r1392)) else (Res.ok (Fl.nx ())))) (cv := .ref (He.ga K "BadReadings")) (Ls := [("BadReadings", true)]) 1 "BadReadings" (fun a oe pn hz hf => (JG.ifT (JT.bool (JW.and (JT.of (JE.isE hz hf T.xc_BadReadings T.kt_BadReadings_TracerError (JE.var 1) (w_glob_at T.g_TracerError rfl (by decide)) (.own _) T.n_isinstance)) (JW.and1 (JT.of (JE.isE hz hf T.xc_BadReadings T.kT_BadReadings_ValueError (JE.var 1) (w_type_at T.n_ValueError (by decide +kernel) rfl (by decide) (by decide)) (.ty _) T.n_isinstance))))) (JG.rt (JR.ret (JE.tupD (k := 2) (JA.cons JE.str (JA.cons JE.int JA.nil)) (by rintro _ _ _ _ ⟨_, _, rfl, _, _, _, rfl, _, rfl⟩; rfl)) (fun _ _ _ _ _ _ => True.intro))) (JG.nil (fun _ _ _ h => (Stt.weak (Stt.unset h 1 (u := none)) (weak_some (weak_none weak_nil))))) (fun _ _ _ _ _ _ => True.intro))) (fun c h => by simpa using h) (fun y b h => by
        simp only [List.mem_cons, List.mem_nil_iff, or_false, Prod.mk.injEq] at h
        obtain ⟨rfl, rfl⟩ := h
        exact T.xm_BadReadings_BadReadings) ⟨rfl, by decide, .inl T.g_BadReadings⟩ JHds.nil)) hx sc_law_outcome.nd (hmx := (by repeat (first | exact True.intro | refine ⟨noxd_lst, ?_⟩ | refine ⟨noxd_ins, ?_⟩ | refine ⟨noxd_obj, ?_⟩)))) fun s1393 => (JR.ret (JE.tupD (k := 2) (JA.cons JE.str (JA.cons JE.int JA.nil)) (by rintro _ _ _ _ ⟨_, _, rfl, _, _, _, rfl, _, rfl⟩; rfl)) hx))⟩
theorem fn_law_outcome {P : Program} {w : World} {K : PySem.W.Frag} {mg : Str → Option Value} {base : Heap} (T : Txt w K mg) (c_delay_row : C_delay_row P w K mg base) : FnR P w K mg base (L2N.CX P w) 10 (He.ga K "_law_outcome") (spF K (aCons (rdL K (rp (rNum K))) aNil) (fun d => m_law_outcome d.1) (rp (rTu (aCons (rp rStr) (aCons (rp rInt) aNil))))) := by
  obtain ⟨fd, F⟩ := T.F_law_outcome
  exact FnOk.fr0 (ok_law_outcome T c_delay_row F) (F.bindsN fun _ _ _ _ _ _ us hl => match us, hl with | [_], _ => rfl)
theorem sc_law : FnScope ["_law_script", "_law_tape_here", "_law_many", "_law_bottom", "_law_places", "_law_changes", "_law_first_here", "_law_tops_here", "_law_entries", "_law_top", "_law_numbers", "_law_due_here", "_law_turn", "_law_oneway", "_law_told", "_law_k", "_law_tick", "_law_spoilt"] ["_law_script"] (defScope s_law) := ⟨rfl, rfl, rfl, by decide +kernel, rfl, by decide +kernel, by decide +kernel⟩
def m_law (p_law_script : (List Int)) : Res Bool :=
  ((((Res.ok p_law_script).bind fun a6 => ((Res.ok (0 : Int)).bind fun a4 => (Res.ok ()).bind fun b5 => .ok (a4, b5)).bind fun b7 => .ok (a6, b7)).bind (fun d => m_law_tape d.1 d.2.1)).bind fun v_law_tape_here_1 => ((((Res.ok ((), v_law_tape_here_1)).bindX fun x15 t16 => (((Res.ok (13 : Int)).bind fun a17 => Res.ok (a17, t16)).bindX fun x19 t20 => (Res.ok ((), t20)).bindX fun y21 t22 => Res.ok ((x19, y21), t22)).bindX fun y23 t24 => Res.ok ((x15, y23), t24)).bindX fun x11 t13 => (m_law_pick t13 x11.2.1).bindX fun z12 b14 => Res.ok (z12, b14)).bind fun v_law_many_10 => ((((((Res.ok (1 : Int)).bind fun a30 => Res.ok (a30, v_law_many_10.2)).bindX fun x31 t32 => (((Res.ok ((), t32)).bindX fun x37 t38 => (((Res.ok (12 : Int)).bind fun a39 => Res.ok (a39, t38)).bindX fun x41 t42 => (Res.ok ((), t42)).bindX fun y43 t44 => Res.ok ((x41, y43), t44)).bindX fun y45 t46 => Res.ok ((x37, y45), t46)).bindX fun x33 t35 => (m_law_pick t35 x33.2.1).bindX fun z34 b36 => Res.ok (z34, b36)).bindX fun y49 t51 => (.ok (x31 + y49) : Res Int).bind fun z50 => Res.ok (z50, t51)).bindX fun x53 t54 => (((((Res.ok (10 : Int)).bind fun a55 => (Res.ok (20 : Int)).bind fun b56 => powI a55 b56).bind fun a57 => (Res.ok (39 : Int)).bind fun b58 => .ok (a57 + b58)).bind fun a59 => Res.ok (a59, t54)).bindX fun x61 t62 => (Res.ok (([] : List Int), t62)).bindX fun y63 t64 => Res.ok (x61 :: y63, t64)).bindX fun y65 t66 => Res.ok (x53 :: y65, t66)).bindX fun x67 t68 => ((((Res.ok ((), t68)).bindX fun x73 t74 => (((Res.ok (4 : Int)).bind fun a75 => Res.ok (a75, t74)).bindX fun x77 t78 => (Res.ok ((), t78)).bindX fun y79 t80 => Res.ok ((x77, y79), t80)).bindX fun y81 t82 => Res.ok ((x73, y81), t82)).bindX fun x69 t71 => (m_law_pick t71 x69.2.1).bindX fun z70 b72 => Res.ok (z70, b72)).bindX fun x85 t86 => ((Res.ok (3 : Int)).bind fun a87 => Res.ok (a87, t86)).bindX fun y88 t90 => (fdivI x85 y88 : Res Int).bind fun z89 => Res.ok (z89, t90)).bindX fun y91 t93 => (atM x67 y91).bind fun z92 => Res.ok (z92, t93)).bind fun v_law_bottom_29 => (((((Res.ok ((), v_law_bottom_29.2)).bindX fun x101 t102 => (((Res.ok (12 : Int)).bind fun a103 => Res.ok (a103, t102)).bindX fun x105 t106 => (Res.ok ((), t106)).bindX fun y107 t108 => Res.ok ((x105, y107), t108)).bindX fun y109 t110 => Res.ok ((x101, y109), t110)).bindX fun x97 t99 => (m_law_pick t99 x97.2.1).bindX fun z98 b100 => Res.ok (z98, b100)).bindX fun x114 t115 => ((((Res.ok ((), t115)).bindX fun x120 t121 => (((Res.ok (12 : Int)).bind fun a122 => Res.ok (a122, t121)).bindX fun x124 t125 => (Res.ok ((), t125)).bindX fun y126 t127 => Res.ok ((x124, y126), t127)).bindX fun y128 t129 => Res.ok ((x120, y128), t129)).bindX fun x116 t118 => (m_law_pick t118 x116.2.1).bindX fun z117 b119 => Res.ok (z117, b119)).bindX fun x133 t134 => (Res.ok (([] : List Int), t134)).bindX fun y135 t136 => Res.ok (x133 :: y135, t136)).bindX fun y137 t138 => Res.ok (x114 :: y137, t138)).bind fun v_law_places_96 => ((((((Res.ok ((), v_law_places_96.2)).bindX fun x146 t147 => (((Res.ok (3 : Int)).bind fun a148 => Res.ok (a148, t147)).bindX fun x150 t151 => (Res.ok ((), t151)).bindX fun y152 t153 => Res.ok ((x150, y152), t153)).bindX fun y154 t155 => Res.ok ((x146, y154), t155)).bindX fun x142 t144 => (m_law_pick t144 x142.2.1).bindX fun z143 b145 => Res.ok (z143, b145)).bindX fun x158 t159 => ((((Res.ok (2 : Int)).bind fun a160 => Res.ok (a160, t159)).bindX fun x161 t162 => (((Res.ok ((), t162)).bindX fun x167 t168 => (((Res.ok (2 : Int)).bind fun a169 => Res.ok (a169, t168)).bindX fun x171 t172 => (Res.ok ((), t172)).bindX fun y173 t174 => Res.ok ((x171, y173), t174)).bindX fun y175 t176 => Res.ok ((x167, y175), t176)).bindX fun x163 t165 => (m_law_pick t165 x163.2.1).bindX fun z164 b166 => Res.ok (z164, b166)).bindX fun y179 t181 => (mulI x161 y179 : Res Int).bind fun z180 => Res.ok (z180, t181)).bindX fun x182 t183 => ((Res.ok (1 : Int)).bind fun a184 => Res.ok (a184, t183)).bindX fun y185 t187 => (.ok (x182 - y185) : Res Int).bind fun z186 => Res.ok (z186, t187)).bindX fun y188 t190 => (mulI x158 y188 : Res Int).bind fun z189 => Res.ok (z189, t190)).bindX fun x192 t193 => (((((Res.ok ((), t193)).bindX fun x198 t199 => (((Res.ok (3 : Int)).bind fun a200 => Res.ok (a200, t199)).bindX fun x202 t203 => (Res.ok ((), t203)).bindX fun y204 t205 => Res.ok ((x202, y204), t205)).bindX fun y206 t207 => Res.ok ((x198, y206), t207)).bindX fun x194 t196 => (m_law_pick t196 x194.2.1).bindX fun z195 b197 => Res.ok (z195, b197)).bindX fun x210 t211 => (((Res.ok v_law_bottom_29.1).bind fun a212 => (Res.ok (1 : Int)).bind fun b213 => .ok (a212 + b213)).bind fun a214 => Res.ok (a214, t211)).bindX fun y215 t217 => (mulI x210 y215 : Res Int).bind fun z216 => Res.ok (z216, t217)).bindX fun x219 t220 => (Res.ok (([] : List Int), t220)).bindX fun y221 t222 => Res.ok (x219 :: y221, t222)).bindX fun y223 t224 => Res.ok (x192 :: y223, t224)).bind fun v_law_changes_141 => ((((((Res.ok (1 : Int)).bind fun a244 => .ok (Num.i a244)).bind fun a245 => ((((Res.ok (1 : Int)).bind fun a228 => .ok (-a228)).bind fun a241 => .ok (Num.i a241)).bind fun a242 => (((((Res.ok (1 : Int)).bind fun a233 => ((Res.ok (3 : Int)).bind fun a231 => (Res.ok ()).bind fun b232 => .ok (a231, b232)).bind fun b234 => .ok (a233, b234)).bind (fun d => qMk d.1 d.2.1)).bind fun a238 => .ok (Num.q a238)).bind fun a239 => (((Res.ok (2 : Int)).bind fun a235 => .ok (Num.i a235)).bind fun a236 => (Res.ok []).bind fun b237 => .ok (a236 :: b237)).bind fun b240 => .ok (a239 :: b240)).bind fun b243 => .ok (a242 :: b243)).bind fun b246 => .ok (a245 :: b246)).bind fun a247 => Res.ok (a247, v_law_changes_141.2)).bindX fun x248 t249 => (((Res.ok ((), t249)).bindX fun x254 t255 => (((Res.ok (4 : Int)).bind fun a256 => Res.ok (a256, t255)).bindX fun x258 t259 => (Res.ok ((), t259)).bindX fun y260 t261 => Res.ok ((x258, y260), t261)).bindX fun y262 t263 => Res.ok ((x254, y262), t263)).bindX fun x250 t252 => (m_law_pick t252 x250.2.1).bindX fun z251 b253 => Res.ok (z251, b253)).bindX fun y266 t268 => (atM x248 y266).bind fun z267 => Res.ok (z267, t268)).bind fun v_law_first_here_227 => (((((Res.ok p_law_script).bind fun a275 => ((Res.ok (1 : Int)).bind fun a273 => (Res.ok ()).bind fun b274 => .ok (a273, b274)).bind fun b276 => .ok (a275, b276)).bind (fun d => m_law_tape d.1 d.2.1)).bind fun l283 => ((Res.ok v_law_bottom_29.1).bind fun a281 => ((Res.ok v_law_many_10.1).bind fun a279 => (Res.ok ()).bind fun b280 => .ok (a279, b280)).bind fun b282 => .ok (a281, b282)).bind fun d284 => (m_law_tops l283 d284.1 d284.2.1).bindX fun z285 _ => Res.ok z285).bind fun v_law_tops_here_270 => (((((Res.ok (0 : Int)).bind fun a288 => .ok (Num.i a288)).bind fun a289 => (Res.ok []).bind fun b290 => .ok (a289 :: b290)).bind fun a306 => ((Res.ok v_law_tops_here_270).bind fun l305 => lcR (fun (i291 : Int) => (((Res.ok i291).bind fun a293 => (Res.ok (0 : Int)).bind fun b294 => .ok (decide (a293 > b294))).bind fun a303 => if a303 = true then ((((Res.ok i291).bind fun a299 => ((Res.ok v_law_bottom_29.1).bind fun a297 => (Res.ok ()).bind fun b298 => .ok (a297, b298)).bind fun b300 => .ok (a299, b300)).bind (fun d => qMk d.1 d.2.1)).bind fun a301 => .ok (Num.q a301)) else ((Res.ok (0 : Int)).bind fun a302 => .ok (Num.i a302)))) l305).bind fun b307 => catM a306 b307).bind fun v_law_entries_287 => (((((((Res.ok v_law_tops_here_270).bind fun a318 => ((Res.ok (0 : Int)).bind fun a316 => ((Res.ok (0 : Int)).bind fun a313 => ((Res.ok (0 : Int)).bind fun a310 => (Res.ok []).bind fun b311 => .ok (a310 :: b311)).bind fun b314 => .ok (a313 :: b314)).bind fun b317 => .ok (a316 :: b317)).bind fun b319 => catM a318 b319).bind fun a327 => ((Res.ok v_law_bottom_29.1).bind fun a325 => ((Res.ok (0 : Int)).bind fun a323 => (Res.ok ()).bind fun b324 => .ok (a323, b324)).bind fun b326 => .ok (a325, b326)).bind fun b328 => .ok (a327, b328)).bind (fun d => m_law_raised d.1 d.2.1 d.2.2.1)).bind fun a330 => (Res.ok ()).bind fun b331 => .ok (a330, b331)).bind (fun d => m_law_again d.1)).bind fun v_law_numbers_308 => ((((Res.ok v_law_numbers_308).bind fun a337 => ((Res.ok v_law_bottom_29.1).bind fun a335 => (Res.ok ()).bind fun b336 => .ok (a335, b336)).bind fun b338 => .ok (a337, b338)).bind (fun d => m_law_over_powers d.1 d.2.1)).bind fun v_law_due_here_332 => ((((Res.ok (2 : Int)).bind fun a340 => rangeM1 a340).bind fun l404 => (forG (fun (i341 : Int) (s339 : Unit) => (((((Res.ok v_law_entries_287).bind fun a344 => (Res.ok ()).bind fun b345 => .ok (a344, b345)).bind fun y346 => (fun (x : (Unit)) (y : ((List Num) × Unit)) => m_delay_row y.1) () y346).bind fun v_law_oneway_342 => (((((Res.ok v_law_oneway_342).bind fun a355 => ((Res.ok v_law_tops_here_270).bind fun a353 => ((Res.ok v_law_bottom_29.1).bind fun a351 => (Res.ok ()).bind fun b352 => .ok (a351, b352)).bind fun b354 => .ok (a353, b354)).bind fun b356 => .ok (a355, b356)).bind (fun d => m_law_described d.1 d.2.1 d.2.2.1)).bind fun a357 => .ok (!a357)).bind fun x358 => if x358 = true then ((Res.ok false).bind fun r360 => .ok (Fl.rt r360)) else (((Res.ok v_law_oneway_342).bind fun a362 => (((Res.ok v_law_many_10.1).bind fun a363 => (Res.ok (3 : Int)).bind fun b364 => .ok (a363 + b364)).bind fun a366 => (Res.ok ()).bind fun b367 => .ok (a366, b367)).bind fun b368 => (fun d => m_OneWay_readings d.1 d.2.1) (a362, b368)).bind fun v_law_told_361 => (((((Res.ok v_law_told_361).bind fun a369 => .ok true).bind fun a370 => .ok (!a370)).bind fun a379 => if a379 = true then .ok true else ((((Res.ok v_law_told_361).bind fun a372 => (Res.ok ()).bind fun b373 => .ok (a372, b373)).bind (fun d => .ok (d.1.length : Int))).bind fun a377 => (((Res.ok v_law_due_here_332).bind fun a375 => (Res.ok ()).bind fun b376 => .ok (a375, b376)).bind (fun d => .ok (d.1.length : Int))).bind fun b378 => .ok (!decide (a377 = b378)))).bind fun x380 => if x380 = true then ((Res.ok false).bind fun r382 => .ok (Fl.rt r382)) else ((((((Res.ok v_law_due_here_332).bind fun a385 => (Res.ok ()).bind fun b386 => .ok (a385, b386)).bind (fun d => .ok (d.1.length : Int))).bind fun a387 => rangeM1 a387).bind fun l403 => (forG (fun (i388 : Int) (s383 : Unit) => (((((((Res.ok v_law_told_361).bind fun a389 => (Res.ok i388).bind fun b390 => atM a389 b390).bind fun a397 => (((Res.ok v_law_due_here_332).bind fun a392 => (Res.ok i388).bind fun b393 => atM a392 b393).bind fun a395 => (Res.ok ()).bind fun b396 => .ok (a395, b396)).bind fun b398 => .ok (a397, b398)).bind (fun d => m_law_is d.1 d.2.1)).bind fun a399 => .ok (!a399)).bind fun x400 => if x400 = true then ((Res.ok false).bind fun r402 => .ok (Fl.rt r402)) else (Res.ok (Fl.nx ()))) : Res (Fl Unit Unit Bool))) l403 () : Res (Fl Unit Unit Bool))).bind (Fl.then fun s383 => (Res.ok (Fl.nx ())))))))) : Res (Fl Unit Unit Bool))) l404 () : Res (Fl Unit Unit Bool))).bind (Fl.out fun s339 => (((Res.ok v_law_entries_287).bind fun a420 => ((((Res.ok (0 : Int)).bind fun a405 => .ok (Num.i a405)).bind fun a406 => (Res.ok []).bind fun b407 => .ok (a406 :: b407)).bind fun a418 => ((Res.ok v_law_tops_here_270).bind fun l417 => lcR (fun (i408 : Int) => ((((Res.ok i408).bind fun a414 => ((Res.ok v_law_bottom_29.1).bind fun a412 => (Res.ok ()).bind fun b413 => .ok (a412, b413)).bind fun b415 => .ok (a414, b415)).bind (fun d => qMk d.1 d.2.1)).bind fun a416 => .ok (Num.q a416))) l417).bind fun b419 => catM a418 b419).bind fun b421 => Res.guard (sameV a420 b421) (.ok false)).bind fun x422 => if x422 = true then (Res.ok false) else ((((Res.ok (2 : Int)).bind fun a425 => rangeM1 a425).bind fun l447 => forS (fun (i426 : Int) (s424 : (List Int)) => (((((Res.ok v_law_places_96.1).bind fun a427 => (Res.ok i426).bind fun b428 => atM a427 b428).bind fun a429 => (Res.ok v_law_many_10.1).bind fun b430 => .ok (decide (a429 < b430))).bind fun x446 => if x446 = true then (((((Res.ok s424).bind fun a433 => ((Res.ok v_law_places_96.1).bind fun a431 => (Res.ok i426).bind fun b432 => atM a431 b432).bind fun b434 => atM a433 b434).bind fun a437 => ((Res.ok v_law_changes_141.1).bind fun a435 => (Res.ok i426).bind fun b436 => atM a435 b436).bind fun b438 => .ok (a437 + b438)).bind fun y443 => ((Res.ok v_law_places_96.1).bind fun a440 => (Res.ok i426).bind fun b441 => atM a440 b441).bind fun k444 => putM s424 k444 y443).bind fun v_law_tops_here_442 => (Res.ok v_law_tops_here_442)) else (Res.ok s424)).bind fun s445 => (Res.ok s445))) l447 v_law_tops_here_270).bind fun s424 => ((((Res.ok s424).bind fun a453 => ((Res.ok v_law_bottom_29.1).bind fun a451 => (Res.ok ()).bind fun b452 => .ok (a451, b452)).bind fun b454 => .ok (a453, b454)).bind (fun d => m_law_due d.1 d.2.1)).bind fun v_law_tick_448 => (((Res.ok s424).bind fun l465 => lcR (fun (i456 : Int) => (((Res.ok i456).bind fun a462 => ((Res.ok v_law_bottom_29.1).bind fun a460 => (Res.ok ()).bind fun b461 => .ok (a460, b461)).bind fun b463 => .ok (a462, b463)).bind (fun d => qMk d.1 d.2.1))) l465).bind fun v_law_spoilt_455 => ((((((((Res.ok (0 : Int)).bind fun a467 => .ok (Num.i a467)).bind fun a468 => (Res.ok []).bind fun b469 => .ok (a468 :: b469)).bind fun a471 => ((Res.ok v_law_spoilt_455).bind fun a470 => .ok (a470.map Num.q)).bind fun b472 => catM a471 b472).bind fun a474 => (Res.ok ()).bind fun b475 => .ok (a474, b475)).bind (fun d => m_law_outcome d.1)).bind fun a487 => (((Res.ok v_law_tick_448).bind fun a476 => (Res.ok (0 : Int)).bind fun b477 => .ok (decide (a476 > b477))).bind fun a486 => if a486 = true then ((Res.ok ("web" : Str)).bind fun a480 => ((Res.ok v_law_tick_448).bind fun a478 => (Res.ok ()).bind fun b479 => .ok (a478, b479)).bind fun b481 => .ok (a480, b481)) else ((Res.ok ("none" : Str)).bind fun a484 => ((Res.ok (0 : Int)).bind fun a482 => (Res.ok ()).bind fun b483 => .ok (a482, b483)).bind fun b485 => .ok (a484, b485))).bind fun b488 => (eqD (rTu (aCons (rp rStr) (aCons (rp rInt) aNil))) a487 b488).bind fun z => .ok (!z)).bind fun x489 => if x489 = true then (Res.ok false) else (((((((Res.ok v_law_first_here_227.1).bind fun a492 => (Res.ok []).bind fun b493 => .ok (a492 :: b493)).bind fun a495 => ((Res.ok v_law_spoilt_455).bind fun a494 => .ok (a494.map Num.q)).bind fun b496 => catM a495 b496).bind fun a498 => (Res.ok ()).bind fun b499 => .ok (a498, b499)).bind (fun d => m_law_outcome d.1)).bind fun a504 => ((Res.ok ("readings" : Str)).bind fun a502 => ((Res.ok (0 : Int)).bind fun a500 => (Res.ok ()).bind fun b501 => .ok (a500, b501)).bind fun b503 => .ok (a502, b503)).bind fun b505 => eqD (rTu (aCons (rp rStr) (aCons (rp rInt) aNil))) a504 b505).bind fun a515 => if a515 = true then ((((Res.ok ([] : List Num)).bind fun a507 => (Res.ok ()).bind fun b508 => .ok (a507, b508)).bind (fun d => m_law_outcome d.1)).bind fun a513 => ((Res.ok ("readings" : Str)).bind fun a511 => ((Res.ok (0 : Int)).bind fun a509 => (Res.ok ()).bind fun b510 => .ok (a509, b510)).bind fun b512 => .ok (a511, b512)).bind fun b514 => eqD (rTu (aCons (rp rStr) (aCons (rp rInt) aNil))) a513 b514) else .ok false))))))))))))))))))
theorem fn_law {P : Program} {w : World} {K : PySem.W.Frag} {mg : Str → Option Value} {base : Heap} (T : Txt w K mg) (c_law_tape : C_law_tape P w K mg base) (c_law_pick : C_law_pick P w K mg base) (c_Fraction_2 : C_Fraction_2 P w K mg base) (c_law_tops : C_law_tops P w K mg base) (c_law_raised : C_law_raised P w K mg base) (c_law_again : C_law_again P w K mg base) (c_law_over_powers : C_law_over_powers P w K mg base) (c_delay_row_0_returns : C_delay_row_0_returns P w K mg base) (c_law_described : C_law_described P w K mg base) (c_OneWay_readings : C_OneWay_readings P w K mg base) (c_law_is : C_law_is P w K mg base) (c_Fraction_eq : C_Fraction_eq P w K mg base) (c_law_due : C_law_due P w K mg base) (c_law_outcome : C_law_outcome P w K mg base) {fd : FuncData} (F : FunD K "law" "law" (defArgs s_law) (defBody s_law) (defScope s_law) [] [] (He.ga K "law") fd) : FnOk P w K mg base (L2N.CX P w) 11 (He.ga K "law") fd ["_law_script"] (spF K (aCons (rdL K (rp rInt)) aNil) (fun d => m_law d.1) (rp rBl)) := by
  refine FunD.fn (k := 10) (N := ["_law_script", "_law_tape_here", "_law_many", "_law_bottom", "_law_places", "_law_changes", "_law_first_here", "_law_tops_here", "_law_entries", "_law_top", "_law_numbers", "_law_due_here", "_law_turn", "_law_oneway", "_law_told", "_law_k", "_law_tick", "_law_spoilt"]) (ps := ["_law_script"]) F sc_law (fun I H vs d h => ?_) (fun cdv A outer s I0 H0 E vs d hr sm h => ?_)
  · obtain ⟨v0, _, rfl, h0, rfl⟩ := h; rfl
  obtain ⟨v0, _, rfl, h0, rfl⟩ := h
  have hx : ∀ {ctx : List (Option SF)} {mem : List MF} (I H : Hp) (σ : St) (d : Option Addr), Stt I0 H0 ctx mem I H σ → Fr H0 d → bK I0 H0 I H σ d := fun _ _ _ _ s f => ⟨s.fm, f⟩
  have tk : L2N.Takes (bx P w K mg base ["_law_script", "_law_tape_here", "_law_many", "_law_bottom", "_law_places", "_law_changes", "_law_first_here", "_law_tops_here", "_law_entries", "_law_top", "_law_numbers", "_law_due_here", "_law_turn", "_law_oneway", "_law_told", "_law_k", "_law_tick", "_law_spoilt"] "law" (defScope s_law) (He.ga K "law") cdv A outer s H0 E) (bW E) := L2N.takes_of rfl rfl rfl rfl
  have hp : PassesOwn (model P w) (bx P w K mg base ["_law_script", "_law_tape_here", "_law_many", "_law_bottom", "_law_places", "_law_changes", "_law_first_here", "_law_tops_here", "_law_entries", "_law_top", "_law_numbers", "_law_due_here", "_law_turn", "_law_oneway", "_law_told", "_law_k", "_law_tick", "_law_spoilt"] "law" (defScope s_law) (He.ga K "law") cdv A outer s H0 E).A (bx P w K mg base ["_law_script", "_law_tape_here", "_law_many", "_law_bottom", "_law_places", "_law_changes", "_law_first_here", "_law_tops_here", "_law_entries", "_law_top", "_law_numbers", "_law_due_here", "_law_turn", "_law_oneway", "_law_told", "_law_k", "_law_tick", "_law_spoilt"] "law" (defScope s_law) (He.ga K "law") cdv A outer s H0 E).env (bx P w K mg base ["_law_script", "_law_tape_here", "_law_many", "_law_bottom", "_law_places", "_law_changes", "_law_first_here", "_law_tops_here", "_law_entries", "_law_top", "_law_numbers", "_law_due_here", "_law_turn", "_law_oneway", "_law_told", "_law_k", "_law_tick", "_law_spoilt"] "law" (defScope s_law) (He.ga K "law") cdv A outer s H0 E).xe := passes_of rfl
  obtain ⟨p_law_script, _⟩ := d
  exact ⟨Stt I0 H0 [some (SF.mk (fun I v x => (rdL K (rp rInt)) I H0 v x) p_law_script), none, none, none, none, none, none, none, none, none, none, none, none, none, none, none, none, none] [], Stt.start sm ⟨h0, ini_nil rfl⟩ rfl (by simp), (JR.seq (J1.cn (c' := fun v_law_tape_here_1 l8 => [some (SF.mk (fun I v x => (rdL K (rp rInt)) I H0 v x) p_law_script), some (SF.mk (rRef l8) ()), none, none, none, none, none, none, none, none, none, none, none, none, none, none, none, none]) (me' := fun v_law_tape_here_1 l8 => [MF.lst l8 rInt v_law_tape_here_1]) (J1.setM 1 (JM.call (JA.cons (JE.varP 0 (r := (rdL K (rp rInt)))) (JA.cons JE.int JA.nil)) (cn_of c_law_tape (hr.mono (by decide)) tk) T.g_law_tape T.k_law_tape) hx sc_law.nd)) fun v_law_tape_here_1 => JR.ex fun l8 => (JR.seq (J1.cm (c' := fun v_law_many_10 => [some (SF.mk (fun I v x => (rdL K (rp rInt)) I H0 v x) p_law_script), some (SF.mk (rRef l8) ()), some (SF.mk rInt v_law_many_10.1), none, none, none, none, none, none, none, none, none, none, none, none, none, none, none]) (me' := fun v_law_many_10 => [MF.lst l8 rInt v_law_many_10.2]) (J1.setX (C := (fun (t9 : (List Int)) => [MF.lst l8 rInt t9])) (t0 := v_law_tape_here_1) 2 (JX.callC 0 (fun (t25 : (List Int)) => t25) (fun (t25 : (List Int)) b26 => b26) (JXA.cons (JX.of (JE.var 1 (r := rRef l8)) (fun _ => hx)) (fun t16 => (JXA.cons (JX.of JE.int (fun _ => hx)) (fun t20 => JXA.nil)))) (cc_of c_law_pick (hr.mono (by decide)) tk) (fun _ => rfl) (fun _ _ => rfl) (fun _ _ _ _ f r => ⟨f, r⟩) T.g_law_pick T.k_law_pick) sc_law.nd)) fun v_law_many_10 => (JR.seq (J1.cm (c' := fun v_law_bottom_29 => [some (SF.mk (fun I v x => (rdL K (rp rInt)) I H0 v x) p_law_script), some (SF.mk (rRef l8) ()), some (SF.mk rInt v_law_many_10.1), some (SF.mk rInt v_law_bottom_29.1), none, none, none, none, none, none, none, none, none, none, none, none, none, none]) (me' := fun v_law_bottom_29 => [MF.lst l8 rInt v_law_bottom_29.2]) (J1.setX (C := (fun (t28 : (List Int)) => [MF.lst l8 rInt t28])) (t0 := v_law_many_10.2) 3 (JX.ix (JX.ofM (JXM.lst (r := rInt) (JXA.consL (JX.bin (JX.of JE.int (fun _ => hx)) (fun t32 => (JX.callC 0 (fun (t47 : (List Int)) => t47) (fun (t47 : (List Int)) b48 => b48) (JXA.cons (JX.of (JE.var 1 (r := rRef l8)) (fun _ => hx)) (fun t38 => (JXA.cons (JX.of JE.int (fun _ => hx)) (fun t42 => JXA.nil)))) (cc_of c_law_pick (hr.mono (by decide)) tk) (fun _ => rfl) (fun _ _ => rfl) (fun _ _ _ _ f r => ⟨f, r⟩) T.g_law_pick T.k_law_pick)) opj_add (fun _ => hx)) (fun t54 => (JXA.consL (JX.of (JE.bin (JE.bin JE.int JE.int opj_pow) JE.int opj_add) (fun _ => hx)) (fun t62 => JXA.nilL)))))) (fun t68 => (JX.bin (JX.callC 0 (fun (t83 : (List Int)) => t83) (fun (t83 : (List Int)) b84 => b84) (JXA.cons (JX.of (JE.var 1 (r := rRef l8)) (fun _ => hx)) (fun t74 => (JXA.cons (JX.of JE.int (fun _ => hx)) (fun t78 => JXA.nil)))) (cc_of c_law_pick (hr.mono (by decide)) tk) (fun _ => rfl) (fun _ _ => rfl) (fun _ _ _ _ f r => ⟨f, r⟩) T.g_law_pick T.k_law_pick) (fun t86 => (JX.of JE.int (fun _ => hx))) opj_fdiv (fun _ => hx)))) sc_law.nd)) fun v_law_bottom_29 => (JR.seq (J1.cm (c' := fun v_law_places_96 => [some (SF.mk (fun I v x => (rdL K (rp rInt)) I H0 v x) p_law_script), some (SF.mk (rRef l8) ()), some (SF.mk rInt v_law_many_10.1), some (SF.mk rInt v_law_bottom_29.1), some (SF.mk (rL rInt) v_law_places_96.1), none, none, none, none, none, none, none, none, none, none, none, none, none]) (me' := fun v_law_places_96 => [MF.lst l8 rInt v_law_places_96.2]) (J1.setX (C := (fun (t95 : (List Int)) => [MF.lst l8 rInt t95])) (t0 := v_law_bottom_29.2) 4 (JX.ofM (JXM.lst (r := rInt) (JXA.consL (JX.callC 0 (fun (t111 : (List Int)) => t111) (fun (t111 : (List Int)) b112 => b112) (JXA.cons (JX.of (JE.var 1 (r := rRef l8)) (fun _ => hx)) (fun t102 => (JXA.cons (JX.of JE.int (fun _ => hx)) (fun t106 => JXA.nil)))) (cc_of c_law_pick (hr.mono (by decide)) tk) (fun _ => rfl) (fun _ _ => rfl) (fun _ _ _ _ f r => ⟨f, r⟩) T.g_law_pick T.k_law_pick) (fun t115 => (JXA.consL (JX.callC 0 (fun (t130 : (List Int)) => t130) (fun (t130 : (List Int)) b131 => b131) (JXA.cons (JX.of (JE.var 1 (r := rRef l8)) (fun _ => hx)) (fun t121 => (JXA.cons (JX.of JE.int (fun _ => hx)) (fun t125 => JXA.nil)))) (cc_of c_law_pick (hr.mono (by decide)) tk) (fun _ => rfl) (fun _ _ => rfl) (fun _ _ _ _ f r => ⟨f, r⟩) T.g_law_pick T.k_law_pick) (fun t134 => JXA.nilL)))))) sc_law.nd)) fun v_law_places_96 => (JR.seq (J1.cm (c' := fun v_law_changes_141 => [some (SF.mk (fun I v x => (rdL K (rp rInt)) I H0 v x) p_law_script), some (SF.mk (rRef l8) ()), some (SF.mk rInt v_law_many_10.1), some (SF.mk rInt v_law_bottom_29.1), some (SF.mk (rL rInt) v_law_places_96.1), some (SF.mk (rL rInt) v_law_changes_141.1), none, none, none, none, none, none, none, none, none, none, none, none]) (me' := fun v_law_changes_141 => [MF.lst l8 rInt v_law_changes_141.2]) (J1.setX (C := (fun (t140 : (List Int)) => [MF.lst l8 rInt t140])) (t0 := v_law_places_96.2) 5 (JX.ofM (JXM.lst (r := rInt) (JXA.consL (JX.bin (JX.callC 0 (fun (t156 : (List Int)) => t156) (fun (t156 : (List Int)) b157 => b157) (JXA.cons (JX.of (JE.var 1 (r := rRef l8)) (fun _ => hx)) (fun t147 => (JXA.cons (JX.of JE.int (fun _ => hx)) (fun t151 => JXA.nil)))) (cc_of c_law_pick (hr.mono (by decide)) tk) (fun _ => rfl) (fun _ _ => rfl) (fun _ _ _ _ f r => ⟨f, r⟩) T.g_law_pick T.k_law_pick) (fun t159 => (JX.bin (JX.bin (JX.of JE.int (fun _ => hx)) (fun t162 => (JX.callC 0 (fun (t177 : (List Int)) => t177) (fun (t177 : (List Int)) b178 => b178) (JXA.cons (JX.of (JE.var 1 (r := rRef l8)) (fun _ => hx)) (fun t168 => (JXA.cons (JX.of JE.int (fun _ => hx)) (fun t172 => JXA.nil)))) (cc_of c_law_pick (hr.mono (by decide)) tk) (fun _ => rfl) (fun _ _ => rfl) (fun _ _ _ _ f r => ⟨f, r⟩) T.g_law_pick T.k_law_pick)) opj_mul (fun _ => hx)) (fun t183 => (JX.of JE.int (fun _ => hx))) opj_sub (fun _ => hx))) opj_mul (fun _ => hx)) (fun t193 => (JXA.consL (JX.bin (JX.callC 0 (fun (t208 : (List Int)) => t208) (fun (t208 : (List Int)) b209 => b209) (JXA.cons (JX.of (JE.var 1 (r := rRef l8)) (fun _ => hx)) (fun t199 => (JXA.cons (JX.of JE.int (fun _ => hx)) (fun t203 => JXA.nil)))) (cc_of c_law_pick (hr.mono (by decide)) tk) (fun _ => rfl) (fun _ _ => rfl) (fun _ _ _ _ f r => ⟨f, r⟩) T.g_law_pick T.k_law_pick) (fun t211 => (JX.of (JE.bin (JE.var 3) JE.int opj_add) (fun _ => hx))) opj_mul (fun _ => hx)) (fun t220 => JXA.nilL)))))) sc_law.nd)) fun v_law_changes_141 => (JR.seq (J1.cm (c' := fun v_law_first_here_227 => [some (SF.mk (fun I v x => (rdL K (rp rInt)) I H0 v x) p_law_script), some (SF.mk (rRef l8) ()), some (SF.mk rInt v_law_many_10.1), some (SF.mk rInt v_law_bottom_29.1), some (SF.mk (rL rInt) v_law_places_96.1), some (SF.mk (rL rInt) v_law_changes_141.1), some (SF.mk (rNum K) v_law_first_here_227.1), none, none, none, none, none, none, none, none, none, none, none]) (me' := fun v_law_first_here_227 => [MF.lst l8 rInt v_law_first_here_227.2]) (J1.setX (C := (fun (t226 : (List Int)) => [MF.lst l8 rInt t226])) (t0 := v_law_changes_141.2) 6 (JX.ix (JX.ofM (JXM.of (JM.lst (r := (rNum K)) (JA.consL (JE.num JE.int) (JA.consL (JE.num (JE.un JE.int unj_neg)) (JA.consL (JE.numq (JE.call (JA.cons JE.int (JA.cons JE.int JA.nil)) (c_Fraction_2 _ _ rfl rfl rfl rfl rfl (hr.mono (by decide)) tk) T.g_Fraction T.mk_Fraction.kp)) (JA.consL (JE.num JE.int) JA.nilL))))) (fun _ => hx))) (fun t249 => (JX.callC 0 (fun (t264 : (List Int)) => t264) (fun (t264 : (List Int)) b265 => b265) (JXA.cons (JX.of (JE.var 1 (r := rRef l8)) (fun _ => hx)) (fun t255 => (JXA.cons (JX.of JE.int (fun _ => hx)) (fun t259 => JXA.nil)))) (cc_of c_law_pick (hr.mono (by decide)) tk) (fun _ => rfl) (fun _ _ => rfl) (fun _ _ _ _ f r => ⟨f, r⟩) T.g_law_pick T.k_law_pick))) sc_law.nd)) fun v_law_first_here_227 => (JR.fz 1 0 (ctx' := [some (SF.mk (fun I v x => (rdL K (rp rInt)) I H0 v x) p_law_script), some (SF.mk (rL rInt) v_law_first_here_227.2), some (SF.mk rInt v_law_many_10.1), some (SF.mk rInt v_law_bottom_29.1), some (SF.mk (rL rInt) v_law_places_96.1), some (SF.mk (rL rInt) v_law_changes_141.1), some (SF.mk (rNum K) v_law_first_here_227.1), none, none, none, none, none, none, none, none, none, none, none]) (mem' := []) (JR.seq (J1.cn (c' := fun v_law_tops_here_270 l286 => [some (SF.mk (fun I v x => (rdL K (rp rInt)) I H0 v x) p_law_script), some (SF.mk (rL rInt) v_law_first_here_227.2), some (SF.mk rInt v_law_many_10.1), some (SF.mk rInt v_law_bottom_29.1), some (SF.mk (rL rInt) v_law_places_96.1), some (SF.mk (rL rInt) v_law_changes_141.1), some (SF.mk (rNum K) v_law_first_here_227.1), some (SF.mk (rRef l286) ()), none, none, none, none, none, none, none, none, none, none]) (me' := fun v_law_tops_here_270 l286 => [MF.lst l286 rInt v_law_tops_here_270]) (J1.setM 7 (JM.callXM (JM.call (JA.cons (JE.varP 0 (r := (rdL K (rp rInt)))) (JA.cons JE.int JA.nil)) (cn_of c_law_tape (hr.mono (by decide)) tk) T.g_law_tape T.k_law_tape) (JA.cons (JE.var 3) (JA.cons (JE.var 2) JA.nil)) (cm_of c_law_tops (hr.mono (by decide)) tk) (fun _ => rfl) T.g_law_tops T.k_law_tops) hx sc_law.nd)) fun v_law_tops_here_270 => JR.ex fun l286 => (JR.seq (J1.cx (c' := fun v_law_entries_287 => [some (SF.mk (fun I v x => (rdL K (rp rInt)) I H0 v x) p_law_script), some (SF.mk (rL rInt) v_law_first_here_227.2), some (SF.mk rInt v_law_many_10.1), some (SF.mk rInt v_law_bottom_29.1), some (SF.mk (rL rInt) v_law_places_96.1), some (SF.mk (rL rInt) v_law_changes_141.1), some (SF.mk (rNum K) v_law_first_here_227.1), some (SF.mk (rRef l286) ()), some (SF.mk (rL (rNum K)) v_law_entries_287), none, none, none, none, none, none, none, none, none]) (J1.set 8 (JE.ofM (JM.cat (JE.hp (JE.ofM (JM.lst (r := (rNum K)) (JA.consL (JE.num JE.int) JA.nilL)))) (JE.hp (JE.ofM (JM.lcMT (r := (rNum K)) 9 7 0 (fun _ _ _ _ _ D acc i291 tk292 => (JE.at (c' := [some (SF.mk (fun I v x => (rdL K (rp rInt)) I H0 v x) p_law_script), some (SF.mk (rL rInt) v_law_first_here_227.2), some (SF.mk rInt v_law_many_10.1), some (SF.mk rInt v_law_bottom_29.1), some (SF.mk (rL rInt) v_law_places_96.1), some (SF.mk (rL rInt) v_law_changes_141.1), some (SF.mk (rNum K) v_law_first_here_227.1), some (SF.mk (rRef l286) ()), none, some (SF.mk rInt i291), none, none, none, none, none, none, none, none]) (JE.ifx (JT.cmp (JE.var 9) JE.int opj_gt) (JE.numq (JE.call (JA.cons (JE.var 9) (JA.cons (JE.var 3) JA.nil)) (c_Fraction_2 _ _ rfl rfl rfl rfl rfl (hr.mono (by decide)) tk292) T.g_Fraction T.mk_Fraction.kp)) (JE.num JE.int)))) sc_law.nd (blkok_of (by kernel_rfl))))))) hx sc_law.nd)) fun v_law_entries_287 => (JR.seq (J1.cx (c' := fun v_law_numbers_308 => [some (SF.mk (fun I v x => (rdL K (rp rInt)) I H0 v x) p_law_script), some (SF.mk (rL rInt) v_law_first_here_227.2), some (SF.mk rInt v_law_many_10.1), some (SF.mk rInt v_law_bottom_29.1), some (SF.mk (rL rInt) v_law_places_96.1), some (SF.mk (rL rInt) v_law_changes_141.1), some (SF.mk (rNum K) v_law_first_here_227.1), some (SF.mk (rRef l286) ()), some (SF.mk (rL (rNum K)) v_law_entries_287), none, some (SF.mk (rL rInt) v_law_numbers_308), none, none, none, none, none, none, none]) (J1.set 10 (JE.ofM (JM.call (JA.cons (JE.rd (JE.ofM (JM.call (JA.cons (JE.rd (JE.ofM (JM.cat (JE.hM 7 0) (JE.hp (JE.ofM (JM.lst (r := rInt) (JA.consL JE.int (JA.consL JE.int (JA.consL JE.int JA.nilL))))))))) (JA.cons (JE.var 3) (JA.cons JE.int JA.nil))) (cn_of c_law_raised (hr.mono (by decide)) tk) T.g_law_raised T.k_law_raised))) JA.nil) (cn_of c_law_again (hr.mono (by decide)) tk) T.g_law_again T.k_law_again)) hx sc_law.nd)) fun v_law_numbers_308 => (JR.seq (J1.cx (c' := fun v_law_due_here_332 => [some (SF.mk (fun I v x => (rdL K (rp rInt)) I H0 v x) p_law_script), some (SF.mk (rL rInt) v_law_first_here_227.2), some (SF.mk rInt v_law_many_10.1), some (SF.mk rInt v_law_bottom_29.1), some (SF.mk (rL rInt) v_law_places_96.1), some (SF.mk (rL rInt) v_law_changes_141.1), some (SF.mk (rNum K) v_law_first_here_227.1), some (SF.mk (rRef l286) ()), some (SF.mk (rL (rNum K)) v_law_entries_287), none, some (SF.mk (rL rInt) v_law_numbers_308), some (SF.mk (rL (rTu (aCons (rp rInt) (aCons (rp rInt) aNil)))) v_law_due_here_332), none, none, none, none, none, none]) (J1.set 11 (JE.ofM (JM.call (JA.cons (JE.rd (JE.var 10)) (JA.cons (JE.var 3) JA.nil)) (cn_of c_law_over_powers (hr.mono (by decide)) tk) T.g_law_over_powers T.k_law_over_powers)) hx sc_law.nd)) fun v_law_due_here_332 => (JR.seqG (GL := fun _ _ _ _ => False) (J1G.forG (S := Unit) (cx := fun s339 => [some (SF.mk (fun I v x => (rdL K (rp rInt)) I H0 v x) p_law_script), some (SF.mk (rL rInt) v_law_first_here_227.2), some (SF.mk rInt v_law_many_10.1), some (SF.mk rInt v_law_bottom_29.1), some (SF.mk (rL rInt) v_law_places_96.1), some (SF.mk (rL rInt) v_law_changes_141.1), some (SF.mk (rNum K) v_law_first_here_227.1), some (SF.mk (rRef l286) ()), some (SF.mk (rL (rNum K)) v_law_entries_287), none, some (SF.mk (rL rInt) v_law_numbers_308), some (SF.mk (rL (rTu (aCons (rp rInt) (aCons (rp rInt) aNil)))) v_law_due_here_332), none, none, none, none, none, none]) (me := fun s339 => [MF.lst l286 rInt v_law_tops_here_270]) (s0 := ()) 12 hp (JI.range1 JE.int T.n_range) (fun i341 s339 => JG.at (c' := [some (SF.mk (fun I v x => (rdL K (rp rInt)) I H0 v x) p_law_script), some (SF.mk (rL rInt) v_law_first_here_227.2), some (SF.mk rInt v_law_many_10.1), some (SF.mk rInt v_law_bottom_29.1), some (SF.mk (rL rInt) v_law_places_96.1), some (SF.mk (rL rInt) v_law_changes_141.1), some (SF.mk (rNum K) v_law_first_here_227.1), some (SF.mk (rRef l286) ()), some (SF.mk (rL (rNum K)) v_law_entries_287), none, some (SF.mk (rL rInt) v_law_numbers_308), some (SF.mk (rL (rTu (aCons (rp rInt) (aCons (rp rInt) aNil)))) v_law_due_here_332), some (SF.mk rInt i341), none, none, none, none, none]) (JG.seq (J1.cx (c' := fun v_law_oneway_342 => [some (SF.mk (fun I v x => (rdL K (rp rInt)) I H0 v x) p_law_script), some (SF.mk (rL rInt) v_law_first_here_227.2), some (SF.mk rInt v_law_many_10.1), some (SF.mk rInt v_law_bottom_29.1), some (SF.mk (rL rInt) v_law_places_96.1), some (SF.mk (rL rInt) v_law_changes_141.1), some (SF.mk (rNum K) v_law_first_here_227.1), some (SF.mk (rRef l286) ()), some (SF.mk (rL (rNum K)) v_law_entries_287), none, some (SF.mk (rL rInt) v_law_numbers_308), some (SF.mk (rL (rTu (aCons (rp rInt) (aCons (rp rInt) aNil)))) v_law_due_here_332), some (SF.mk rInt i341), some (SF.mk (r_OneWay K) v_law_oneway_342), none, none, none, none]) (J1.set 13 (JE.callK0 (g := (fun (x : (Unit)) (y : ((List Num) × Unit)) => m_delay_row y.1)) (JK.cons (JE.rd (JE.var 8)) JK.nil) (c_delay_row_0_returns _ _ rfl rfl rfl rfl rfl (hr.mono (by decide)) tk) T.g_delay_row T.k_delay_row) hx sc_law.nd)) fun v_law_oneway_342 => (JG.ifT (JT.not (JT.of (JE.call (JA.cons (JE.var 13) (JA.cons (JE.rdM 7 0) (JA.cons (JE.var 3) JA.nil))) (cj_of c_law_described (hr.mono (by decide)) tk) T.g_law_described T.k_law_described))) (JG.rt (JR.ret JE.bl hx)) (JG.seq (J1.cx (c' := fun v_law_told_361 => [some (SF.mk (fun I v x => (rdL K (rp rInt)) I H0 v x) p_law_script), some (SF.mk (rL rInt) v_law_first_here_227.2), some (SF.mk rInt v_law_many_10.1), some (SF.mk rInt v_law_bottom_29.1), some (SF.mk (rL rInt) v_law_places_96.1), some (SF.mk (rL rInt) v_law_changes_141.1), some (SF.mk (rNum K) v_law_first_here_227.1), some (SF.mk (rRef l286) ()), some (SF.mk (rL (rNum K)) v_law_entries_287), none, some (SF.mk (rL rInt) v_law_numbers_308), some (SF.mk (rL (rTu (aCons (rp rInt) (aCons (rp rInt) aNil)))) v_law_due_here_332), some (SF.mk rInt i341), some (SF.mk (r_OneWay K) v_law_oneway_342), some (SF.mk (rL (rFrac K)) v_law_told_361), none, none, none]) (J1.set 14 (JE.ofM (JM.meth (JE.var 13) (insOfI fun _ => by kernel_rfl) (JA.cons (JE.bin (JE.var 2) JE.int opj_add) JA.nil) (cn_of c_OneWay_readings (hr.mono (by decide)) tk) T.o_OneWay.cl T.me_OneWay_readings)) hx sc_law.nd)) fun v_law_told_361 => (JG.ifT (JT.bool (JW.or (JT.not (JT.of (JE.isi (JE.var 14) (w_type_at T.n_list (by decide +kernel) rfl (by decide) (by decide)) (.ty _) (tyr_list (t := "list") (by decide +kernel)) T.n_isinstance))) (JW.or1 (JT.cmp (JE.callB (JA.cons (JE.rd (JE.var 14)) JA.nil) cj_len T.n_len boot_len) (JE.callB (JA.cons (JE.rd (JE.var 11)) JA.nil) cj_len T.n_len boot_len) opj_ne)))) (JG.rt (JR.ret JE.bl hx)) (JG.seqG (J1G.forG (S := Unit) (cx := fun s383 => [some (SF.mk (fun I v x => (rdL K (rp rInt)) I H0 v x) p_law_script), some (SF.mk (rL rInt) v_law_first_here_227.2), some (SF.mk rInt v_law_many_10.1), some (SF.mk rInt v_law_bottom_29.1), some (SF.mk (rL rInt) v_law_places_96.1), some (SF.mk (rL rInt) v_law_changes_141.1), some (SF.mk (rNum K) v_law_first_here_227.1), some (SF.mk (rRef l286) ()), some (SF.mk (rL (rNum K)) v_law_entries_287), none, some (SF.mk (rL rInt) v_law_numbers_308), some (SF.mk (rL (rTu (aCons (rp rInt) (aCons (rp rInt) aNil)))) v_law_due_here_332), some (SF.mk rInt i341), some (SF.mk (r_OneWay K) v_law_oneway_342), some (SF.mk (rL (rFrac K)) v_law_told_361), none, none, none]) (me := fun s383 => [MF.lst l286 rInt v_law_tops_here_270]) (s0 := ()) 15 hp (JI.range1 (JE.callB (JA.cons (JE.rd (JE.var 11)) JA.nil) cj_len T.n_len boot_len) T.n_range) (fun i388 s383 => JG.at (c' := [some (SF.mk (fun I v x => (rdL K (rp rInt)) I H0 v x) p_law_script), some (SF.mk (rL rInt) v_law_first_here_227.2), some (SF.mk rInt v_law_many_10.1), some (SF.mk rInt v_law_bottom_29.1), some (SF.mk (rL rInt) v_law_places_96.1), some (SF.mk (rL rInt) v_law_changes_141.1), some (SF.mk (rNum K) v_law_first_here_227.1), some (SF.mk (rRef l286) ()), some (SF.mk (rL (rNum K)) v_law_entries_287), none, some (SF.mk (rL rInt) v_law_numbers_308), some (SF.mk (rL (rTu (aCons (rp rInt) (aCons (rp rInt) aNil)))) v_law_due_here_332), some (SF.mk rInt i341), some (SF.mk (r_OneWay K) v_law_oneway_342), some (SF.mk (rL (rFrac K)) v_law_told_361), some (SF.mk rInt i388), none, none]) (JG.ifT (JT.not (JT.of (JE.call (JA.cons (JE.ix (JE.rd (JE.var 14)) (JE.var 15)) (JA.cons (JE.ix (JE.rd (JE.var 11)) (JE.var 15)) JA.nil)) (cj_of c_law_is (hr.mono (by decide)) tk) T.g_law_is T.k_law_is))) (JG.rt (JR.ret JE.bl hx)) (JG.nil (fun _ _ _ h => (Stt.weak h (weak_some (weak_some (weak_some (weak_some (weak_some (weak_some (weak_some (weak_some (weak_some (weak_none (weak_some (weak_some (weak_some (weak_some (weak_some (weak_none (weak_none (weak_none weak_nil))))))))))))))))))))) hx)) hx (weak_some (weak_some (weak_some (weak_some (weak_some (weak_some (weak_some (weak_some (weak_some (weak_none (weak_some (weak_some (weak_some (weak_some (weak_some (weak_none (weak_none (weak_none weak_nil)))))))))))))))))) sc_law.nd) fun s383 => (JG.nil (fun _ _ _ h => (Stt.weak h (weak_some (weak_some (weak_some (weak_some (weak_some (weak_some (weak_some (weak_some (weak_some (weak_none (weak_some (weak_some (weak_none (weak_none (weak_none (weak_none (weak_none (weak_none weak_nil)))))))))))))))))))))) hx)) hx))) hx (weak_some (weak_some (weak_some (weak_some (weak_some (weak_some (weak_some (weak_some (weak_some (weak_none (weak_some (weak_some (weak_none (weak_none (weak_none (weak_none (weak_none (weak_none weak_nil)))))))))))))))))) sc_law.nd) fun s339 => (JR.ifR (JT.cmp (JE.hp (JE.var 8)) (JE.hp (JE.ofM (JM.cat (JE.hp (JE.ofM (JM.lst (r := (rNum K)) (JA.consL (JE.num JE.int) JA.nilL)))) (JE.hp (JE.ofM (JM.lcMT (r := (rNum K)) 9 7 0 (fun _ _ _ _ _ D acc i408 tk409 => (JE.at (c' := [some (SF.mk (fun I v x => (rdL K (rp rInt)) I H0 v x) p_law_script), some (SF.mk (rL rInt) v_law_first_here_227.2), some (SF.mk rInt v_law_many_10.1), some (SF.mk rInt v_law_bottom_29.1), some (SF.mk (rL rInt) v_law_places_96.1), some (SF.mk (rL rInt) v_law_changes_141.1), some (SF.mk (rNum K) v_law_first_here_227.1), some (SF.mk (rRef l286) ()), some (SF.mk (rL (rNum K)) v_law_entries_287), some (SF.mk rInt i408), some (SF.mk (rL rInt) v_law_numbers_308), some (SF.mk (rL (rTu (aCons (rp rInt) (aCons (rp rInt) aNil)))) v_law_due_here_332), none, none, none, none, none, none]) (JE.numq (JE.call (JA.cons (JE.var 9) (JA.cons (JE.var 3) JA.nil)) (c_Fraction_2 _ _ rfl rfl rfl rfl rfl (hr.mono (by decide)) tk409) T.g_Fraction T.mk_Fraction.kp)))) sc_law.nd (blkok_of (by kernel_rfl)))))))) (opj_neNV (gb := fun d => qEq d.1 d.2.1) T.o_Fraction T.nf_Fraction.2 T.om_Fraction_eq c_Fraction_eq tk qEq_refl qEq_int (hr.mono (by decide)))) (JR.ret JE.bl hx) (JR.seq (J1.forS (S := (List Int)) (cx := fun s424 => [some (SF.mk (fun I v x => (rdL K (rp rInt)) I H0 v x) p_law_script), some (SF.mk (rL rInt) v_law_first_here_227.2), some (SF.mk rInt v_law_many_10.1), some (SF.mk rInt v_law_bottom_29.1), some (SF.mk (rL rInt) v_law_places_96.1), some (SF.mk (rL rInt) v_law_changes_141.1), some (SF.mk (rNum K) v_law_first_here_227.1), some (SF.mk (rRef l286) ()), some (SF.mk (rL (rNum K)) v_law_entries_287), none, some (SF.mk (rL rInt) v_law_numbers_308), some (SF.mk (rL (rTu (aCons (rp rInt) (aCons (rp rInt) aNil)))) v_law_due_here_332), none, none, none, none, none, none]) (me := fun s424 => [MF.lst l286 rInt s424]) (s0 := v_law_tops_here_270) 15 hp (JI.range1 JE.int T.n_range) (fun i426 s424 => JN.at (c' := [some (SF.mk (fun I v x => (rdL K (rp rInt)) I H0 v x) p_law_script), some (SF.mk (rL rInt) v_law_first_here_227.2), some (SF.mk rInt v_law_many_10.1), some (SF.mk rInt v_law_bottom_29.1), some (SF.mk (rL rInt) v_law_places_96.1), some (SF.mk (rL rInt) v_law_changes_141.1), some (SF.mk (rNum K) v_law_first_here_227.1), some (SF.mk (rRef l286) ()), some (SF.mk (rL (rNum K)) v_law_entries_287), none, some (SF.mk (rL rInt) v_law_numbers_308), some (SF.mk (rL (rTu (aCons (rp rInt) (aCons (rp rInt) aNil)))) v_law_due_here_332), none, none, none, some (SF.mk rInt i426), none, none]) (JN.seq (J1.if (S := (List Int)) (G' := fun s445 => Stt I0 H0 [some (SF.mk (fun I v x => (rdL K (rp rInt)) I H0 v x) p_law_script), some (SF.mk (rL rInt) v_law_first_here_227.2), some (SF.mk rInt v_law_many_10.1), some (SF.mk rInt v_law_bottom_29.1), some (SF.mk (rL rInt) v_law_places_96.1), some (SF.mk (rL rInt) v_law_changes_141.1), some (SF.mk (rNum K) v_law_first_here_227.1), some (SF.mk (rRef l286) ()), some (SF.mk (rL (rNum K)) v_law_entries_287), none, some (SF.mk (rL rInt) v_law_numbers_308), some (SF.mk (rL (rTu (aCons (rp rInt) (aCons (rp rInt) aNil)))) v_law_due_here_332), none, none, none, some (SF.mk rInt i426), none, none] [MF.lst l286 rInt s445]) (JT.cmp (JE.ix (JE.rd (JE.var 4)) (JE.var 15)) (JE.var 2) opj_lt) (JN.seq (J1.cm (c' := fun v_law_tops_here_442 => [some (SF.mk (fun I v x => (rdL K (rp rInt)) I H0 v x) p_law_script), some (SF.mk (rL rInt) v_law_first_here_227.2), some (SF.mk rInt v_law_many_10.1), some (SF.mk rInt v_law_bottom_29.1), some (SF.mk (rL rInt) v_law_places_96.1), some (SF.mk (rL rInt) v_law_changes_141.1), some (SF.mk (rNum K) v_law_first_here_227.1), some (SF.mk (rRef l286) ()), some (SF.mk (rL (rNum K)) v_law_entries_287), none, some (SF.mk (rL rInt) v_law_numbers_308), some (SF.mk (rL (rTu (aCons (rp rInt) (aCons (rp rInt) aNil)))) v_law_due_here_332), none, none, none, some (SF.mk rInt i426), none, none]) (me' := fun v_law_tops_here_442 => [MF.lst l286 rInt v_law_tops_here_442]) (J1.put 7 0 (JE.bin (JE.ix (JE.rdM 7 0) (JE.ix (JE.rd (JE.var 4)) (JE.var 15))) (JE.ix (JE.rd (JE.var 5)) (JE.var 15)) opj_add) (JE.ix (JE.rd (JE.var 4)) (JE.var 15)) hx)) fun v_law_tops_here_442 => (JN.nil (fun _ _ _ h => h))) (JN.nil (fun _ _ _ h => h)) hx) fun s445 => (JN.nil (fun _ _ _ h => (Stt.weak h (weak_some (weak_some (weak_some (weak_some (weak_some (weak_some (weak_some (weak_some (weak_some (weak_none (weak_some (weak_some (weak_none (weak_none (weak_none (weak_none (weak_none (weak_none weak_nil))))))))))))))))))))))) hx (weak_some (weak_some (weak_some (weak_some (weak_some (weak_some (weak_some (weak_some (weak_some (weak_none (weak_some (weak_some (weak_none (weak_none (weak_none (weak_none (weak_none (weak_none weak_nil)))))))))))))))))) sc_law.nd) fun s424 => (JR.fz 7 0 (ctx' := [some (SF.mk (fun I v x => (rdL K (rp rInt)) I H0 v x) p_law_script), some (SF.mk (rL rInt) v_law_first_here_227.2), some (SF.mk rInt v_law_many_10.1), some (SF.mk rInt v_law_bottom_29.1), some (SF.mk (rL rInt) v_law_places_96.1), some (SF.mk (rL rInt) v_law_changes_141.1), some (SF.mk (rNum K) v_law_first_here_227.1), some (SF.mk (rL rInt) s424), some (SF.mk (rL (rNum K)) v_law_entries_287), none, some (SF.mk (rL rInt) v_law_numbers_308), some (SF.mk (rL (rTu (aCons (rp rInt) (aCons (rp rInt) aNil)))) v_law_due_here_332), none, none, none, none, none, none]) (mem' := []) (JR.seq (J1.cx (c' := fun v_law_tick_448 => [some (SF.mk (fun I v x => (rdL K (rp rInt)) I H0 v x) p_law_script), some (SF.mk (rL rInt) v_law_first_here_227.2), some (SF.mk rInt v_law_many_10.1), some (SF.mk rInt v_law_bottom_29.1), some (SF.mk (rL rInt) v_law_places_96.1), some (SF.mk (rL rInt) v_law_changes_141.1), some (SF.mk (rNum K) v_law_first_here_227.1), some (SF.mk (rL rInt) s424), some (SF.mk (rL (rNum K)) v_law_entries_287), none, some (SF.mk (rL rInt) v_law_numbers_308), some (SF.mk (rL (rTu (aCons (rp rInt) (aCons (rp rInt) aNil)))) v_law_due_here_332), none, none, none, none, some (SF.mk rInt v_law_tick_448), none]) (J1.set 16 (JE.call (JA.cons (JE.rd (JE.var 7)) (JA.cons (JE.var 3) JA.nil)) (cj_of c_law_due (hr.mono (by decide)) tk) T.g_law_due T.k_law_due) hx sc_law.nd)) fun v_law_tick_448 => (JR.seq (J1.cn (c' := fun v_law_spoilt_455 l466 => [some (SF.mk (fun I v x => (rdL K (rp rInt)) I H0 v x) p_law_script), some (SF.mk (rL rInt) v_law_first_here_227.2), some (SF.mk rInt v_law_many_10.1), some (SF.mk rInt v_law_bottom_29.1), some (SF.mk (rL rInt) v_law_places_96.1), some (SF.mk (rL rInt) v_law_changes_141.1), some (SF.mk (rNum K) v_law_first_here_227.1), some (SF.mk (rL rInt) s424), some (SF.mk (rL (rNum K)) v_law_entries_287), none, some (SF.mk (rL rInt) v_law_numbers_308), some (SF.mk (rL (rTu (aCons (rp rInt) (aCons (rp rInt) aNil)))) v_law_due_here_332), none, none, none, none, some (SF.mk rInt v_law_tick_448), some (SF.mk (rRef l466) ())]) (me' := fun v_law_spoilt_455 l466 => [MF.lst l466 (rFrac K) v_law_spoilt_455]) (J1.setLcT (r := (rFrac K)) 17 9 (JI.list (JE.var 7)) (fun _ _ _ _ _ D acc i456 tk457 => (JE.at (c' := [some (SF.mk (fun I v x => (rdL K (rp rInt)) I H0 v x) p_law_script), some (SF.mk (rL rInt) v_law_first_here_227.2), some (SF.mk rInt v_law_many_10.1), some (SF.mk rInt v_law_bottom_29.1), some (SF.mk (rL rInt) v_law_places_96.1), some (SF.mk (rL rInt) v_law_changes_141.1), some (SF.mk (rNum K) v_law_first_here_227.1), some (SF.mk (rL rInt) s424), some (SF.mk (rL (rNum K)) v_law_entries_287), some (SF.mk rInt i456), some (SF.mk (rL rInt) v_law_numbers_308), some (SF.mk (rL (rTu (aCons (rp rInt) (aCons (rp rInt) aNil)))) v_law_due_here_332), none, none, none, none, some (SF.mk rInt v_law_tick_448), none]) (JE.call (JA.cons (JE.var 9) (JA.cons (JE.var 3) JA.nil)) (c_Fraction_2 _ _ rfl rfl rfl rfl rfl (hr.mono (by decide)) tk457) T.g_Fraction T.mk_Fraction.kp))) hx sc_law.nd (blkok_of (by kernel_rfl)))) fun v_law_spoilt_455 => JR.ex fun l466 => (JR.fz 17 0 (ctx' := [some (SF.mk (fun I v x => (rdL K (rp rInt)) I H0 v x) p_law_script), some (SF.mk (rL rInt) v_law_first_here_227.2), some (SF.mk rInt v_law_many_10.1), some (SF.mk rInt v_law_bottom_29.1), some (SF.mk (rL rInt) v_law_places_96.1), some (SF.mk (rL rInt) v_law_changes_141.1), some (SF.mk (rNum K) v_law_first_here_227.1), some (SF.mk (rL rInt) s424), some (SF.mk (rL (rNum K)) v_law_entries_287), none, some (SF.mk (rL rInt) v_law_numbers_308), some (SF.mk (rL (rTu (aCons (rp rInt) (aCons (rp rInt) aNil)))) v_law_due_here_332), none, none, none, none, some (SF.mk rInt v_law_tick_448), some (SF.mk (rL (rFrac K)) v_law_spoilt_455)]) (mem' := []) (JR.ifR (JT.cmp (JE.call (JA.cons (JE.rd (JE.ofM (JM.cat (JE.hp (JE.ofM (JM.lst (r := (rNum K)) (JA.consL (JE.num JE.int) JA.nilL)))) (JE.hMap (JE.hp (JE.var 17)) co_qN)))) JA.nil) (cj_of c_law_outcome (hr.mono (by decide)) tk) T.g_law_outcome T.k_law_outcome) (JE.ifx (JT.cmp (JE.var 16) JE.int opj_gt) (JE.tupD (k := 2) (JA.cons JE.str (JA.cons (JE.var 16) JA.nil)) (by rintro _ _ _ _ ⟨_, _, rfl, _, _, _, rfl, _, rfl⟩; rfl)) (JE.tupD (k := 2) (JA.cons JE.str (JA.cons JE.int JA.nil)) (by rintro _ _ _ _ ⟨_, _, rfl, _, _, _, rfl, _, rfl⟩; rfl))) (opj_neDp (r := (rTu (aCons (rp rStr) (aCons (rp rInt) aNil)))) hr.units)) (JR.ret JE.bl hx) (JR.ret (JE.and (JE.cmp (JE.call (JA.cons (JE.rd (JE.ofM (JM.cat (JE.hp (JE.ofM (JM.lst (r := (rNum K)) (JA.consL (JE.var 6) JA.nilL)))) (JE.hMap (JE.hp (JE.var 17)) co_qN)))) JA.nil) (cj_of c_law_outcome (hr.mono (by decide)) tk) T.g_law_outcome T.k_law_outcome) (JE.tupD (k := 2) (JA.cons JE.str (JA.cons JE.int JA.nil)) (by rintro _ _ _ _ ⟨_, _, rfl, _, _, _, rfl, _, rfl⟩; rfl)) (opj_eqDp (r := (rTu (aCons (rp rStr) (aCons (rp rInt) aNil)))) hr.units)) (JE.one (JE.cmp (JE.call (JA.cons (JE.rd (JE.ofM (JM.lst (r := (rNum K)) JA.nilL))) JA.nil) (cj_of c_law_outcome (hr.mono (by decide)) tk) T.g_law_outcome T.k_law_outcome) (JE.tupD (k := 2) (JA.cons JE.str (JA.cons JE.int JA.nil)) (by rintro _ _ _ _ ⟨_, _, rfl, _, _, _, rfl, _, rfl⟩; rfl)) (opj_eqDp (r := (rTu (aCons (rp rStr) (aCons (rp rInt) aNil)))) hr.units)))) hx) hx)))))) hx)))))))))))))⟩
end L2.Tr

namespace L2.Tr
open PySem PySem.Spec PyProof.Rows
theorem tape_ok (ns : List Int) {k : Int} (h0 : 0 ≤ k) (h1 : k ≤ 1000) : Ok (m_law_tape ns k) TP := by
  unfold m_law_tape
  simp only [Res.okb, Res.bind_assoc, Res.bind_ok]
  refine Ok.bind (P := fun _ => True) ?_ fun x _ => ?_
  · by_cases h : k < (ns.length : Int)
    · rw [if_pos (by rw [decide_eq_true_eq]; exact h), atM_lt h0 (by omega)]
      exact .ok True.intro
    · rw [if_neg (by rw [decide_eq_true_eq]; exact h)]
      exact .ok True.intro
  · rw [mulI_le (s := 13) (t := 10) (by decide) (by omega) (by decide), Res.okb, mulI_le (s := 21) (t := 10) (by decide) (by omega) (by decide)]
    simp only [Res.okb]
    exact .ok ⟨_, _, _, rfl, by split <;> omega, by omega, by omega⟩
theorem pick_ok {t : List Int} {m : Int} (ht : TP t) (h0 : 0 < m) (h1 : m < 2 ^ 4000) : Ok (m_law_pick t m) fun x => TP x.2 ∧ 0 ≤ x.1 ∧ x.1 < m := by
  obtain ⟨a, b, c, rfl, ha, hb, hc⟩ := ht
  unfold m_law_pick
  simp only [Res.okb, Res.bind_assoc, Res.bind_ok]
  rw [show atM [a, b, c] 0 = .ok a from rfl, show powI 10 18 = .ok (10 ^ 18) from powI_le (x := 10) (y := 18) (s := 4) (by decide) (by decide), Res.okb, Res.okb]
  by_cases h : a ≥ 10 ^ 18
  · rw [if_pos (by rw [decide_eq_true_eq]; exact h), Res.okb, modI_pos h0, Res.okb, Res.okb, fdivI_pos h0 h1, Res.okb, show putM [a, b, c] 0 (a / m) = .ok [a / m, b, c] from rfl, Res.okb]
    exact .ok ⟨⟨_, _, _, rfl, Int.ediv_nonneg ha (by omega), hb, hc⟩, Int.emod_nonneg _ (by omega), Int.emod_lt_of_pos _ h0⟩
  · have e1 : mulI b 69069 = .ok (b * 69069) := mulI_le (s := 40) (t := 17) (by omega) (by decide) (by decide)
    have e2 : mulI a 7177 = .ok (a * 7177) := mulI_le (s := 60) (t := 13) (by omega) (by decide) (by decide)
    have e3 : mulI c 40014 = .ok (c * 40014) := mulI_le (s := 40) (t := 17) (by omega) (by decide) (by decide)
    have e4 : mulI a 3571 = .ok (a * 3571) := mulI_le (s := 60) (t := 13) (by omega) (by decide) (by decide)
    rw [if_neg (by rw [decide_eq_true_eq]; exact h), show atM [a, b, c] 1 = .ok b from rfl, Res.okb, e1, Res.okb, Res.okb, e2, Res.okb, modI_pos (by decide), Res.okb]
    have hB : 0 ≤ (b * 69069 + a * 7177 + 12345) % 2147483629 ∧ (b * 69069 + a * 7177 + 12345) % 2147483629 < 2147483629 := ⟨Int.emod_nonneg _ (by decide), Int.emod_lt_of_pos _ (by decide)⟩
    generalize (b * 69069 + a * 7177 + 12345) % 2147483629 = B at *
    rw [show putM [a, b, c] 1 B = .ok [a, B, c] from rfl, Res.okb, show atM [a, B, c] 2 = .ok c from rfl, Res.okb, e3, Res.okb, show atM [a, B, c] 0 = .ok a from rfl, Res.okb, e4, Res.okb, modI_pos (by decide), Res.okb]
    have hC : 0 ≤ (c * 40014 + a * 3571 + 97) % 2147483563 ∧ (c * 40014 + a * 3571 + 97) % 2147483563 < 2147483563 := ⟨Int.emod_nonneg _ (by decide), Int.emod_lt_of_pos _ (by decide)⟩
    generalize (c * 40014 + a * 3571 + 97) % 2147483563 = D at *
    rw [show putM [a, B, c] 2 D = .ok [a, B, D] from rfl, Res.okb, show atM [a, B, D] 1 = .ok B from rfl, Res.okb, show atM [a, B, D] 2 = .ok D from rfl, Res.okb, mulI_le (s := 40) (t := 40) (by omega) (by omega) (by decide), Res.okb, modI_pos (by decide), Res.okb, fdivI_pos (by decide) (by decide), Res.okb, modI_pos h0, Res.okb]
    exact .ok ⟨⟨_, _, _, rfl, ha, by omega, by omega⟩, Int.emod_nonneg _ (by omega), Int.emod_lt_of_pos _ h0⟩

theorem lawis_ok {q : Rat} {p : Pr} (hq : fits q) (hp : p.1.natAbs ≤ 2 ^ 8000) (hb : p.2.1.natAbs ≤ 2 ^ 8000) (h0 : 0 < p.2.1) : m_law_is q p = .ok (decide (q = (p.1 : Rat) / (p.2.1 : Rat))) := by
  unfold m_law_is
  simp only [Res.okb, Res.bind_assoc, Res.bind_ok]
  have hd := q.den_pos
  have e1 : mulI q.num p.2.1 = .ok (q.num * p.2.1) := mulI_le (s := 4000) hq.1 hb (by decide)
  have e2 : mulI p.1 (q.den : Int) = .ok (p.1 * (q.den : Int)) := mulI_le (t := 4000) hp (by rw [Int.natAbs_natCast]; exact hq.2) (by decide)
  rw [if_neg (by decide), forG_all fun x hx => by rfl, Res.okb, Fl.okb_out, if_pos (by rw [decide_eq_true_eq]; omega), e1, Res.okb, e2, Res.okb]
  congr 1
  exact decide_eq_decide.mpr (cross_iff h0)

theorem tryN_ok' {S L γ : Type} {x : Fl S L γ} {hs : List (List (Str × Bool) × (Exn → Res (Fl S L γ)))} : tryN (.ok x) hs = .ok x := by
  have k : ∀ m : Res (Fl S L γ), m = .ok x → tryN m hs = .ok x := fun m e => by subst e; rfl
  exact k _ rfl
theorem tryN_err' {S L γ : Type} {e : Exn} {hs : List (List (Str × Bool) × (Exn → Res (Fl S L γ)))} : tryN (.err e) hs = hdsM hs e := by
  have k : ∀ m : Res (Fl S L γ), m = .err e → tryN m hs = hdsM hs e := fun m e => by subst e; rfl
  exact k _ rfl
theorem hds_hit {S L γ : Type} {e : Exn} {Ls : List (Str × Bool)} {h : Exn → Res (Fl S L γ)} {r : List (List (Str × Bool) × (Exn → Res (Fl S L γ)))} {y : Fl S L γ} (h1 : Ls.lookup e.cls = some true) (h2 : h e = .ok y) : hdsM ((Ls, h) :: r) e = .ok y := by
  simp only [hdsM, h1, h2]
theorem pay1_hit {α δ : Type} {f : Str} {dp : Pay → Option α} {h : α → Res δ} {p : Pay} {y : α} (e : dp p = some y) : pay1 f dp h [(f, p)] = h y := by
  unfold pay1
  show (if f = f then _ else _) = _
  rw [if_pos rfl, e]

theorem find_some {q : Nat → Bool} {n k : Nat} (h : (List.range n).find? q = some k) : k < n ∧ q k = true ∧ ∀ i, i < k → q i = false := by
  rw [List.find?_range_eq_some] at h
  exact ⟨List.mem_range.mp h.2.1, h.1, fun i hi => by simpa using h.2.2 i hi⟩
theorem find_none {q : Nat → Bool} {n : Nat} (h : (List.range n).find? q = none) : ∀ i, i < n → q i = false := fun i hi => by
  have := List.find?_eq_none.mp h i (List.mem_range.mpr hi)
  simpa using this

def gRD (f : Nat → Rat) (t : Nat) (l : List Rat) : Rat := if t = 0 then 1 else smQ (fun j => l.getD (t - 1 - j) 0 * f (j + 1)) t
def rdsQ (f : Nat → Rat) (t : Nat) : Rat := gRD f t (cvl (gRD f) t)
theorem rdsQ_eq (f : Nat → Rat) (t : Nat) : rdsQ f t = if t = 0 then 1 else smQ (fun j => rdsQ f (t - 1 - j) * f (j + 1)) t := by
  show gRD f t (cvl (gRD f) t) = _
  unfold gRD
  by_cases h : t = 0
  · rw [if_pos h, if_pos h]
  · rw [if_neg h, if_neg h]
    refine smQ_congr fun j hj => ?_
    rw [cvl_vec, vec_getD, if_pos (by omega)]
    rfl
def gRI (f : Nat → Int) (t : Nat) (l : List Int) : Int := if t = 0 then 1 else sm (fun j => f (j + 1) * l.getD (t - 1 - j) 0) t
def rdsI (f : Nat → Int) (t : Nat) : Int := gRI f t (cvl (gRI f) t)
theorem vec_getDI {n k : Nat} {f : Nat → Int} : (vec n f).getD k 0 = if k < n then f k else 0 := by
  rw [List.getD_eq_getElem?_getD]
  by_cases h : k < n
  · rw [if_pos h, vec_get h]; rfl
  · rw [if_neg h, vec_none (by omega)]; rfl
theorem rdsI_eq (f : Nat → Int) (t : Nat) : rdsI f t = if t = 0 then 1 else sm (fun j => f (j + 1) * rdsI f (t - 1 - j)) t := by
  show gRI f t (cvl (gRI f) t) = _
  unfold gRI
  by_cases h : t = 0
  · rw [if_pos h, if_pos h]
  · rw [if_neg h, if_neg h]
    refine sm_congr fun j hj => ?_
    rw [cvl_vec, vec_getDI, if_pos (by omega)]
    rfl
def ovp (b : Nat) (R : Nat → Int) (k : Nat) : Rat := (R k : Rat) / ((b : Rat) ^ k)
theorem ratpow_add (x : Rat) (i : Nat) : ∀ j, x ^ (i + j) = x ^ i * x ^ j
  | 0 => by rw [Rat.pow_zero, Rat.mul_one]; rfl
  | j + 1 => by rw [← Nat.add_assoc, Rat.pow_succ, ratpow_add x i j, Rat.pow_succ, Rat.mul_assoc]
theorem ovp_mul {b : Nat} {R S : Nat → Int} {i j : Nat} : ovp b R i * ovp b S j = ((R i * S j : Int) : Rat) / ((b : Rat) ^ (i + j)) := by
  unfold ovp
  rw [ratpow_add, Rat.intCast_mul, Rat.div_def, Rat.div_def, Rat.div_def, Rat.inv_mul_rev]
  grind
theorem ovp_sum {c : Rat} {F : Nat → Int} : ∀ n, smQ (fun j => ((F j : Int) : Rat) / c) n = ((sm F n : Int) : Rat) / c
  | 0 => by show (0 : Rat) = ((0 : Int) : Rat) / c; rw [Rat.div_def]; have : ((0 : Int) : Rat) = 0 := rfl; rw [this]; grind
  | n + 1 => by rw [smQ_succ, sm_succ, ovp_sum n, Rat.intCast_add, Rat.div_def, Rat.div_def, Rat.div_def]; grind
theorem rds_ovp (b : Nat) (F : Nat → Int) (t : Nat) : rdsQ (ovp b F) t = ovp b (rdsI F) t := by
  induction t using Nat.strongRecOn with
  | ind t ih =>
    rw [rdsQ_eq]
    show _ = ((rdsI F t : Int) : Rat) / _
    rw [rdsI_eq F t]
    by_cases h : t = 0
    · rw [if_pos h, if_pos h, h]; have : ((1 : Int) : Rat) = 1 := rfl; rw [this, Rat.pow_zero, Rat.div_def]; grind
    · rw [if_neg h, if_neg h, ← ovp_sum]
      refine smQ_congr fun j hj => ?_
      rw [ih (t - 1 - j) (by omega), ovp_mul, show t - 1 - j + (j + 1) = t by omega, Int.mul_comm]
/-! ### the walks -/
theorem for_vec {α S : Type} {F : α → S → Res S} {n : Nat} {f : Nat → α} {s0 : S} (st : Nat → S) (h0 : st 0 = s0) (hF : ∀ i : Nat, i < n → F (f i) (st i) = .ok (st (i + 1))) : forS F (vec n f) s0 = .ok (st n) := by
  refine Ok.eq ?_
  refine (Ok.forS (fun i s => s = st i) h0.symm fun i x s ex hs => ?_).mono fun s h => by rw [vec_len] at h; exact h
  have hi : i < n := by
    have := (List.getElem?_eq_some_iff.mp ex).1; rw [vec_len] at this; exact this
  rw [vec_get hi] at ex
  cases ex
  rw [hs]
  exact .of (hF i hi) rfl
theorem rngI_vec (lo : Int) (n : Nat) : rngI lo n = vec n fun i => lo + (i : Int) := rfl
theorem qInt_z : qInt 0 = .ok 0 := rfl
theorem qInt_1 : qInt 1 = .ok 1 := rfl
theorem total_ok {n D M : Nat} {f : Nat → Rat} (hD : D ≤ 2 ^ 1400) (hM : M ≤ 2 ^ 210) (h0 : 0 < D) (hn : n ≤ 20) (hf : ∀ i, i < n → Fx D M (f i)) : m_total_of (vec n f) = .ok (smQ f n) := by
  unfold m_total_of
  simp only [Res.okb, Res.bind_assoc, Res.bind_ok]
  rw [qInt_z, Res.okb]
  refine for_vec (smQ f) rfl fun i hi => ?_
  have h1 : fits (smQ f i) := (Fx.sum h0 (M := M) fun k hk => hf k (by omega)).fits hD (Nat.le_trans (Nat.mul_le_mul (show i ≤ 2 ^ 5 by omega) hM) (by rw [← Nat.pow_add]; exact Nat.le_refl _)) (by decide)
  have h2 : fits (f i) := (hf i hi).fits hD hM (by decide)
  rw [qAddq h1 h2]
  rfl
def GP (b M n : Nat) (r : Nat → Rat) : Prop := ∀ k, k < n → Fx (b ^ k) M (r k)
structure Bnd (b M n : Nat) : Prop where
  b0 : 0 < b
  hb : b ^ n ≤ 2 ^ 1400
  hM : M ≤ 2 ^ 105
  hn : n ≤ 14
theorem Bnd.pow {b M n k : Nat} (g : Bnd b M n) (hk : k ≤ n) : b ^ k ≤ 2 ^ 1400 := Nat.le_trans (Nat.pow_le_pow_right g.b0 hk) g.hb
theorem Bnd.fits {b M n k : Nat} {r : Nat → Rat} (g : Bnd b M n) (hr : GP b M n r) (hk : k < n) : Tr.fits (r k) := (hr k hk).fits (g.pow (by omega)) g.hM (by decide)
theorem raised_ok {b : Nat} {n : Nat} {tp : Nat → Int} (s : Int) (hb : b ^ n ≤ 2 ^ 1400) (b0 : 0 < b) (hn : n ≤ 16) (ht : ∀ i, i < n → (tp i).natAbs ≤ 5 * b) : m_law_raised (vec n tp) (b : Int) s = .ok (vec (n + 1) fun k => if k = 0 then s else tp (k - 1) * (b : Int) ^ (k - 1)) := by
  unfold m_law_raised
  simp only [Res.okb, Res.bind_assoc, Res.bind_ok]
  have hb1 : ∀ k, k ≤ n → ((b : Int) ^ k).natAbs ≤ 2 ^ 1400 := fun k hk => by
    rw [Int.natAbs_pow, Int.natAbs_natCast]; exact Nat.le_trans (Nat.pow_le_pow_right b0 hk) hb
  have key := for_vec (n := n) (f := tp) (F := fun (i : Int) (s : Int × List Int) => (mulI i s.1).bind fun y => (appM s.2 y).bind fun o => (mulI s.1 (b : Int)).bind fun p => .ok (p, o)) (s0 := (1, [s])) (fun i => ((b : Int) ^ i, vec (i + 1) fun k => if k = 0 then s else tp (k - 1) * (b : Int) ^ (k - 1))) rfl fun i hi => by
    have hbb : b ≤ 2 ^ 1400 := by
      have := hb1 1 (by omega)
      rw [Int.pow_one] at this
      simpa using this
    have h5 : (tp i).natAbs ≤ 2 ^ 1403 := Nat.le_trans (ht i hi) (Nat.le_trans (Nat.mul_le_mul_left 5 hbb) (by decide))
    show (mulI (tp i) ((b : Int) ^ i)).bind _ = _
    rw [mulI_le h5 (hb1 i (by omega)) (by decide), Res.okb]
    show (appM (vec (i + 1) _) _).bind _ = _
    rw [appM_ok (by rw [vec_len]; omega), Res.okb, mulI_le (hb1 i (by omega)) (t := 1400) (by rw [Int.natAbs_natCast]; exact hbb) (by decide), Res.okb]
    show _ = Res.ok ((b : Int) ^ (i + 1), vec (i + 1 + 1) _)
    rw [vec_succ (n := i + 1), if_neg (by omega)]
    rfl
  exact congrArg (fun m => m.bind fun s => Res.ok s.2) key
theorem over_ok {b n : Nat} {R : Nat → Int} (hb : b ^ n ≤ 2 ^ 1400) (b0 : 0 < b) (h0 : 0 < n) (hn : n ≤ 20) : m_law_over_powers (vec n R) (b : Int) = .ok (vec n fun k => (R k, (b : Int) ^ k, ())) := by
  unfold m_law_over_powers
  simp only [Res.okb, Res.bind_assoc, Res.bind_ok]
  have hb1 : ∀ k, k ≤ n → ((b : Int) ^ k).natAbs ≤ 2 ^ 1400 := fun k hk => by
    rw [Int.natAbs_pow, Int.natAbs_natCast]; exact Nat.le_trans (Nat.pow_le_pow_right b0 hk) hb
  have key := for_vec (n := n) (f := R) (F := fun (i : Int) (s : Int × List Pr) => (appM s.2 (i, s.1, ())).bind fun o => (mulI s.1 (b : Int)).bind fun p => .ok (p, o)) (s0 := (1, [])) (fun i => ((b : Int) ^ i, vec i fun k => (R k, (b : Int) ^ k, ()))) rfl fun i hi => by
    have hbb : b ≤ 2 ^ 1400 := by
      have := hb1 1 (by omega)
      rw [Int.pow_one] at this
      simpa using this
    show (appM (vec i _) _).bind _ = _
    rw [appM_ok (by rw [vec_len]; omega), Res.okb, mulI_le (hb1 i (by omega)) (t := 1400) (by rw [Int.natAbs_natCast]; exact hbb) (by decide), Res.okb]
    show _ = Res.ok ((b : Int) ^ (i + 1), vec (i + 1) _)
    rw [vec_succ (n := i)]
    rfl
  exact congrArg (fun m => m.bind fun s => Res.ok s.2) key
theorem lawagain_ok {n : Nat} {F : Nat → Int} (h0 : 0 < n) (hn : n ≤ 18) (hF : ∀ k, k < n → (F k).natAbs ≤ 2 ^ 1600) (hR : ∀ k, k < n → (rdsI F k).natAbs ≤ 2 ^ 1600) : m_law_again (vec n F) = .ok (vec n (rdsI F)) := by
  unfold m_law_again
  simp only [Res.okb, Res.bind_assoc, Res.bind_ok]
  rw [vec_len, rangeM_ok ⟨by decide, by decide, by omega, by omega⟩, Res.okb, rngI_vec]
  have key := for_vec (F := fun (i : Int) (s : List Int) => (rangeM 1 (i + 1)).bind fun l => (lcR (fun (k : Int) => (atM (vec n F) k).bind fun a => (atM s (i - k)).bind fun b => mulI a b) l).bind fun a => appM s a.sum) (n := n - 1) (f := fun i => 1 + (i : Int)) (s0 := [1]) (fun i => vec (i + 1) (rdsI F)) (by show [rdsI F 0] = [1]; rw [rdsI_eq, if_pos rfl]) fun i hi => ?_
  · rw [show ((n : Int) - 1).toNat = n - 1 by omega]
    have e : n - 1 + 1 = n := by omega
    rw [e] at key
    exact key
  · show (rangeM 1 (1 + (i : Int) + 1)).bind _ = _
    rw [rangeM_ok ⟨by decide, by decide, by omega, by omega⟩, Res.okb, show (1 + (i : Int) + 1 - 1).toNat = i + 1 by omega, rngI_vec]
    rw [lcR_vec (h := fun j => F (j + 1) * rdsI F (i - j)) (by omega) fun j hj => by
      rw [show (1 : Int) + (j : Int) = ((j + 1 : Nat) : Int) by omega, vec_atN (show j + 1 < n by omega), Res.okb, show (1 : Int) + (i : Int) - ((j + 1 : Nat) : Int) = ((i - j : Nat) : Int) by omega, vec_atN (show i - j < i + 1 by omega), Res.okb]
      exact mulI_le (hF _ (by omega)) (hR _ (by omega)) (by decide), Res.okb, sum_vec, appM_ok (by rw [vec_len]; omega), vec_succ (n := i + 1), rdsI_eq F (i + 1), if_neg (by omega), show i + 1 - 1 = i by omega]
theorem ovp_fx {b k M : Nat} {R : Nat → Int} (b0 : 0 < b) (h : (R k).natAbs ≤ M * b ^ k) : Fx (b ^ k) M (ovp b R k) := by
  refine ⟨Nat.pow_pos b0, R k, ?_, h⟩
  unfold ovp
  rw [Rat.divInt_eq_div]
  congr 1
  rw [Int.natCast_pow, Rat.intCast_pow]; rfl
theorem vec_cons {α : Type} {n : Nat} {x : α} {f : Nat → α} : [x] ++ vec n f = vec (n + 1) fun k => if k = 0 then x else f (k - 1) := by
  apply List.ext_getElem?
  intro i
  cases i with
  | zero => rw [vec_get (by omega)]; rfl
  | succ i =>
    show (vec n f)[i]? = _
    by_cases h : i < n
    · rw [vec_get h, vec_get (show i + 1 < n + 1 by omega), if_neg (by omega)]; rfl
    · rw [vec_none (by omega), vec_none (by omega)]
structure TD (b n : Nat) (tp : Nat → Int) : Prop where
  b0 : 0 < b
  hb : b ≤ 2 ^ 100
  hn : n ≤ 12
  ht : ∀ i, i < n → (tp i).natAbs ≤ 5 * b
def ris (b : Nat) (tp : Nat → Int) (s : Int) (k : Nat) : Int := if k = 0 then s else tp (k - 1) * (b : Int) ^ (k - 1)
variable {b n : Nat} {tp : Nat → Int}
theorem TD.p (g : TD b n tp) {k : Nat} (hk : k ≤ 14) : b ^ k ≤ 2 ^ 1400 := by
  refine Nat.le_trans (Nat.pow_le_pow_right g.b0 hk) (Nat.le_trans (Nat.pow_le_pow_left g.hb 14) ?_)
  rw [← Nat.pow_mul]; exact Nat.le_refl _
theorem TD.ris5 (g : TD b n tp) {s : Int} (hs : s.natAbs ≤ 1) : ∀ k, k < n + 1 → (ris b tp s k).natAbs ≤ 5 * b ^ k := fun k hk => by
  unfold ris
  by_cases h : k = 0
  · rw [if_pos h, h]; simp; omega
  · rw [if_neg h, Int.natAbs_mul, Int.natAbs_pow, Int.natAbs_natCast]
    refine Nat.le_trans (Nat.mul_le_mul_right _ (g.ht (k - 1) (by omega))) ?_
    rw [Nat.mul_assoc, ← Nat.pow_succ', show (k - 1).succ = k by omega]
    exact Nat.le_refl _
theorem TD.bnd (g : TD b n tp) : Bnd b (60 ^ 13) (n + 1) := ⟨g.b0, g.p (by have := g.hn; omega), by decide, by have := g.hn; omega⟩
theorem TD.g5 (g : TD b n tp) {s : Int} (hs : s.natAbs ≤ 1) : GP b (60 ^ 13) (n + 1) (ovp b (ris b tp s)) := fun k hk => ovp_fx g.b0 (Nat.le_trans (g.ris5 hs k hk) (Nat.mul_le_mul_right _ (by decide)))
theorem TD.big (g : TD b n tp) {R : Nat → Int} (h : ∀ k, k < n + 1 → (R k).natAbs ≤ 60 ^ 13 * b ^ k) : ∀ k, k < n + 1 → (R k).natAbs ≤ 2 ^ 1600 := fun k hk => by
  have := g.hn
  exact Nat.le_trans (h k hk) (Nat.le_trans (Nat.mul_le_mul (show 60 ^ 13 ≤ 2 ^ 80 by decide) (g.p (k := k) (by omega))) (by rw [← Nat.pow_add]; exact Nat.pow_le_pow_right (by decide) (by decide)))
/-! ### the table of first returns -/
theorem smQ_head {f : Nat → Rat} : ∀ n, smQ f (n + 1) = f 0 + smQ (fun i => f (i + 1)) n
  | 0 => by rw [smQ_succ]; show smQ f 0 + f 0 = f 0 + 0; show (0 : Rat) + f 0 = f 0 + 0; grind
  | n + 1 => by rw [smQ_succ, smQ_head n, smQ_succ]; grind
theorem smQ_if {f : Nat → Rat} {k m : Nat} : smQ (fun c => if c = k then f c else 0) m = if k < m then f k else 0 := by
  by_cases h : k < m
  · rw [if_pos h, smQ_one (k := k) h fun i _ hi => if_neg hi, if_pos rfl]
  · rw [if_neg h]; exact smQ_null fun i hi => if_neg (by omega)
structure TB (n b : Nat) (tp : Nat → Int) : Prop where
  hn : n ≤ 12
  b0 : 0 < b
  bB : b ≤ 2 ^ 67
  t0 : ∀ i, i < n → 0 ≤ tp i
  sb : sm tp n ≤ (b : Int)
/-- the first returns, by ticks -/
def fR (n b : Nat) (tp : Nat → Int) (k : Nat) : Rat := if 0 < k ∧ k ≤ n then ((tp (k - 1) : Int) : Rat) / ((b : Nat) : Rat) else 0
section
variable {n b : Nat} {tp : Nat → Int}
theorem fR_out {k : Nat} (h : n < k) : fR n b tp k = 0 := if_neg (by omega)
theorem fR_in {i : Nat} (h : i < n) : fR n b tp (i + 1) = ((tp i : Int) : Rat) / ((b : Nat) : Rat) := by
  unfold fR; rw [if_pos (by omega), Nat.add_sub_cancel]
theorem TB.bq (g : TB n b tp) : (0 : Rat) < ((b : Nat) : Rat) := by have := g.b0; exact_mod_cast this
theorem TB.f0 (g : TB n b tp) (k : Nat) : 0 ≤ fR n b tp k := by
  unfold fR
  split
  · have h := g.t0 (k - 1) (by omega)
    rw [Rat.div_def]
    exact Rat.mul_nonneg (by exact_mod_cast h) (Rat.le_of_lt (Rat.inv_pos.mpr g.bq))
  · exact Rat.le_refl
theorem fR_sum : ∀ m, smQ (fun j => fR n b tp (j + 1)) m = ((sm tp (min m n) : Int) : Rat) / ((b : Nat) : Rat)
  | 0 => by
    rw [Nat.zero_min]
    show (0 : Rat) = ((0 : Int) : Rat) / _
    rw [Rat.div_def, show ((0 : Int) : Rat) = 0 from rfl, Rat.zero_mul]
  | m + 1 => by
    rw [smQ_succ, fR_sum m]
    by_cases h : m < n
    · rw [fR_in h, Nat.min_eq_left (by omega), Nat.min_eq_left (by omega), sm_succ, Rat.intCast_add, Rat.div_def, Rat.div_def, Rat.div_def]
      grind
    · rw [fR_out (by omega), Nat.min_eq_right (by omega), Nat.min_eq_right (by omega)]
      grind
theorem TB.sm_mono (g : TB n b tp) : ∀ m, m ≤ n → sm tp m ≤ (b : Int) := fun m hm => by
  have key : ∀ d, m + d ≤ n → sm tp m ≤ sm tp (m + d) := fun d => by
    induction d with
    | zero => exact fun _ => Int.le_refl _
    | succ d ih =>
      intro h
      have h1 := ih (by omega)
      have h2 := g.t0 (m + d) (by omega)
      rw [← Nat.add_assoc, sm_succ]
      omega
  have := key (n - m) (by omega)
  rw [show m + (n - m) = n by omega] at this
  exact Int.le_trans this g.sb
theorem TB.f1 (g : TB n b tp) (m : Nat) : smQ (fun j => fR n b tp (j + 1)) m ≤ 1 := by
  rw [fR_sum]
  have h := g.sm_mono (min m n) (Nat.min_le_right _ _)
  have h2 : ((sm tp (min m n) : Int) : Rat) ≤ ((b : Nat) : Rat) := by exact_mod_cast h
  have e : ((sm tp (min m n) : Int) : Rat) / ((b : Nat) : Rat) * ((b : Nat) : Rat) = ((sm tp (min m n) : Int) : Rat) := Rat.div_mul_cancel (by have := g.bq; grind)
  have b0 := g.bq
  generalize ((sm tp (min m n) : Int) : Rat) / ((b : Nat) : Rat) = x at *
  rw [← e] at h2
  have h3 : ((b : Nat) : Rat) * x ≤ ((b : Nat) : Rat) * 1 := by grind
  exact Rat.le_of_mul_le_mul_left h3 b0
/-- the readings lie between 0 and 1 -/
theorem TB.r01 (g : TB n b tp) (t : Nat) : 0 ≤ rdsQ (fR n b tp) t ∧ rdsQ (fR n b tp) t ≤ 1 := by
  induction t using Nat.strongRecOn with
  | ind t ih =>
    rw [rdsQ_eq]
    by_cases h : t = 0
    · rw [if_pos h]; exact ⟨by decide, Rat.le_refl⟩
    · rw [if_neg h]
      refine ⟨smQ_nonneg fun j hj => Rat.mul_nonneg (ih (t - 1 - j) (by omega)).1 (g.f0 _), ?_⟩
      refine Rat.le_trans (smQ_le (g := fun j => fR n b tp (j + 1)) fun j hj => ?_) (g.f1 t)
      have h1 := (ih (t - 1 - j) (by omega)).2
      have h2 := Rat.mul_le_mul_of_nonneg_right h1 (g.f0 (j + 1))
      rwa [Rat.one_mul] at h2
/-- the numerators that the law writes -/
def tZ (n : Nat) (tp : Nat → Int) (i : Nat) : Int := if i < n then tp i else 0
theorem fR_ovp (g : TB n b tp) (k : Nat) : fR n b tp k = ovp b (ris b (tZ n tp) 0) k := by
  unfold fR ovp ris tZ
  have b0 := g.bq
  by_cases h : k = 0
  · rw [if_neg (by omega), if_pos h, Rat.div_def, show ((0 : Int) : Rat) = 0 from rfl, Rat.zero_mul]
  · rw [if_neg h]
    by_cases h2 : k ≤ n
    · rw [if_pos ⟨by omega, h2⟩, if_pos (by omega)]
      obtain ⟨j, rfl⟩ : ∃ j, k = j + 1 := ⟨k - 1, by omega⟩
      rw [Nat.add_sub_cancel, Rat.intCast_mul, Rat.pow_succ]
      have e1 : (((b : Int) ^ j : Int) : Rat) = ((b : Nat) : Rat) ^ j := by push_cast; rfl
      have p0 : (0 : Rat) < ((b : Nat) : Rat) ^ j := Rat.pow_pos b0
      rw [e1]
      generalize ((b : Nat) : Rat) ^ j = z at *
      generalize ((b : Nat) : Rat) = y at *
      generalize ((tp j : Int) : Rat) = x
      have e2 : x / y * y = x := Rat.div_mul_cancel (by grind)
      have z0 : z * y ≠ 0 := fun h => by rcases Rat.mul_eq_zero.mp h with h | h <;> grind
      have e3 : x * z / (z * y) * (z * y) = x * z := Rat.div_mul_cancel z0
      generalize x / y = u at *
      generalize x * z / (z * y) = v at *
      have : (u - v) * (z * y) = 0 := by rw [← e2] at e3; grind
      rcases Rat.mul_eq_zero.mp this with h | h
      · grind
      · exact absurd h z0
    · rw [if_neg (by omega), if_neg (by omega), Int.zero_mul, Rat.div_def, show ((0 : Int) : Rat) = 0 from rfl, Rat.zero_mul]
theorem rds_fR (g : TB n b tp) (t : Nat) : rdsQ (fR n b tp) t = ovp b (rdsI (ris b (tZ n tp) 0)) t := by
  rw [show fR n b tp = ovp b (ris b (tZ n tp) 0) from funext fun k => fR_ovp g k, rds_ovp]
theorem TB.rI (g : TB n b tp) (t : Nat) : (rdsI (ris b (tZ n tp) 0) t).natAbs ≤ b ^ t := by
  have h := g.r01 t
  rw [rds_fR g] at h
  unfold ovp at h
  have p0 : (0 : Rat) < ((b : Nat) : Rat) ^ t := Rat.pow_pos g.bq
  have e : ((rdsI (ris b (tZ n tp) 0) t : Int) : Rat) / ((b : Nat) : Rat) ^ t * ((b : Nat) : Rat) ^ t = ((rdsI (ris b (tZ n tp) 0) t : Int) : Rat) := Rat.div_mul_cancel (by grind)
  have e1 : ((b ^ t : Nat) : Rat) = ((b : Nat) : Rat) ^ t := by push_cast; rfl
  generalize ((rdsI (ris b (tZ n tp) 0) t : Int) : Rat) / ((b : Nat) : Rat) ^ t = x at *
  have h1 : (0 : Rat) ≤ ((rdsI (ris b (tZ n tp) 0) t : Int) : Rat) := by rw [← e]; exact Rat.mul_nonneg h.1 (Rat.le_of_lt p0)
  have h2 : ((rdsI (ris b (tZ n tp) 0) t : Int) : Rat) ≤ ((b ^ t : Nat) : Rat) := by
    rw [← e, e1]
    have := Rat.mul_le_mul_of_nonneg_right h.2 (Rat.le_of_lt p0)
    rwa [Rat.one_mul] at this
  have h3 : 0 ≤ rdsI (ris b (tZ n tp) 0) t := by exact_mod_cast h1
  have h4 : rdsI (ris b (tZ n tp) 0) t ≤ ((b ^ t : Nat) : Int) := by exact_mod_cast h2
  omega
theorem TB.rfx (g : TB n b tp) (t : Nat) : Fx (b ^ t) 1 (rdsQ (fR n b tp) t) := by
  rw [rds_fR g]
  exact ovp_fx g.b0 (by rw [Nat.one_mul]; exact g.rI t)
theorem TB.ffx (g : TB n b tp) (k : Nat) : Fx b 1 (fR n b tp k) := by
  unfold fR
  split
  · have h := g.t0 (k - 1) (by omega)
    have h2 : tp (k - 1) ≤ (b : Int) := by
      have := g.sm_mono k (by omega)
      have h3 : ∀ m, m < k → 0 ≤ sm tp m := fun m hm => sm_nonneg fun i hi => g.t0 i (by omega)
      have h4 := h3 (k - 1) (by omega)
      obtain ⟨j, rfl⟩ : ∃ j, k = j + 1 := ⟨k - 1, by omega⟩
      rw [sm_succ] at this
      rw [Nat.add_sub_cancel] at h4 ⊢
      omega
    have := DB.mk (t := tp (k - 1)) (b := (b : Int)) (by have := g.b0; omega)
    rw [Rat.divInt_eq_div] at this
    exact (show DB b _ _ from this).mono (by omega)
  · exact Fx.zero g.b0
theorem TB.bp (g : TB n b tp) {t : Nat} (ht : t ≤ 16) : b ^ t ≤ 2 ^ 1400 := by
  refine Nat.le_trans (Nat.pow_le_pow_right g.b0 ht) (Nat.le_trans (Nat.pow_le_pow_left g.bB 16) ?_)
  rw [← Nat.pow_mul]
  exact Nat.pow_le_pow_right (by decide) (by decide)
/-- what the rooms hold -/
def hd (n b : Nat) (tp : Nat → Int) (t j : Nat) : Rat := if t = 0 then (if j = 0 then 1 else 0) else smQ (fun i => rdsQ (fR n b tp) (t - 1 - i) * fR n b tp (j + i + 1)) t
def aT (n b : Nat) (tp : Nat → Int) (i j : Nat) : Rat := if i = 0 then fR n b tp (j + 1) else if i = j + 1 then 1 else 0
theorem hd_zero (t : Nat) : hd n b tp t 0 = rdsQ (fR n b tp) t := by
  unfold hd
  rw [rdsQ_eq]
  by_cases h : t = 0
  · rw [if_pos h, if_pos h, if_pos rfl]
  · rw [if_neg h, if_neg h]
    exact smQ_congr fun i _ => by rw [Nat.zero_add]
theorem hd_succ (t j : Nat) : hd n b tp (t + 1) j = rdsQ (fR n b tp) t * fR n b tp (j + 1) + hd n b tp t (j + 1) := by
  unfold hd
  rw [if_neg (by omega), smQ_head]
  congr 1
  by_cases h : t = 0
  · subst h
    rw [if_pos rfl, if_neg (by omega)]; rfl
  · rw [if_neg h]
    exact smQ_congr fun i hi => by rw [show t + 1 - 1 - (i + 1) = t - 1 - i by omega, show j + (i + 1) + 1 = j + 1 + i + 1 by omega]
theorem hd_out {t j R : Nat} (hR : n ≤ R) (h0 : 0 < j) (hj : R ≤ j) : hd n b tp t j = 0 := by
  unfold hd
  split
  · rw [if_neg (by omega)]
  · exact smQ_null fun i _ => by rw [fR_out (by omega), Rat.mul_zero]
theorem hd_step {t j R : Nat} (hR : n ≤ R) (h0 : 0 < R) (hj : j < R) : smQ (fun i => hd n b tp t i * aT n b tp i j) R = hd n b tp (t + 1) j := by
  have e : smQ (fun i => hd n b tp t i * aT n b tp i j) R = smQ (fun i => if i = 0 then hd n b tp t i * fR n b tp (j + 1) else 0) R + smQ (fun i => if i = j + 1 then hd n b tp t i else 0) R := by
    rw [← smQ_add]
    refine smQ_congr fun i _ => ?_
    unfold aT
    by_cases h1 : i = 0
    · rw [if_pos h1, if_pos h1, if_neg (by omega)]; grind
    · rw [if_neg h1, if_neg h1]
      by_cases h2 : i = j + 1
      · rw [if_pos h2, if_pos h2]; grind
      · rw [if_neg h2, if_neg h2]; grind
  rw [e, smQ_if, smQ_if, if_pos h0, hd_succ, hd_zero]
  congr 1
  by_cases h : j + 1 < R
  · rw [if_pos h]
  · rw [if_neg h, hd_out hR (by omega) (by omega)]
theorem TB.hfx (g : TB n b tp) {t : Nat} (ht : t ≤ 16) (j : Nat) : Fx (b ^ t) 16 (hd n b tp t j) := by
  have bp : 0 < b ^ t := Nat.pow_pos g.b0
  unfold hd
  split
  · split
    · exact (Fx.one bp).mono (by decide)
    · exact Fx.zero bp
  · refine (Fx.sum bp (M := 1) fun i hi => ?_).mono (by omega)
    have h := (g.rfx (t - 1 - i)).mul (g.ffx (j + i + 1))
    refine (h.mono (by decide)).up ?_ bp
    rw [← Nat.pow_succ]
    exact Nat.pow_dvd_pow b (by omega)
theorem TB.afx (g : TB n b tp) (i j : Nat) : Fx b 1 (aT n b tp i j) := by
  unfold aT
  split
  · exact g.ffx _
  · split
    · exact Fx.one g.b0
    · exact Fx.zero g.b0
end
/-! ### the walks -/
theorem lc2_false {α : Type} {R C : Nat} {f : Nat → Nat → α} {G : List α → α → Res Bool} (h : ∀ i c, i < R → c < C → G (vec C (f i)) (f i c) = .ok false) (hR : R ≤ 20) (hC : C ≤ 20) : Ok (lcR2 (fun a : List α => Res.ok a) G (vec R fun i => vec C (f i))) fun l => l.any id = false := by
  have key : ∀ xs : List Nat, (∀ i ∈ xs, i < R) → ∃ l : List Bool, lcM2 (fun a : List α => Res.ok a) G (xs.map fun i => vec C (f i)) = .ok l ∧ l.length = xs.length * C ∧ ∀ y ∈ l, y = false := fun xs => by
    induction xs with
    | nil => exact fun _ => ⟨[], rfl, by simp, by simp⟩
    | cons x xs ih =>
      intro hx
      obtain ⟨l, e, e2, e3⟩ := ih fun i hi => hx i (List.mem_cons_of_mem _ hi)
      have el : lcM (G (vec C (f x))) (vec C (f x)) = .ok (vec C fun _ => false) := by
        have := lcR_vec (F := G (vec C (f x))) (f := f x) (h := fun _ => false) (n := C) (by omega) fun c hc => h x c (hx x List.mem_cons_self) hc
        unfold lcR at this
        rwa [Res.guard_pos (size_le (by rw [vec_len]; omega))] at this
      refine ⟨vec C (fun _ => false) ++ l, ?_, by rw [List.length_append, vec_len, e2, List.length_cons, Nat.succ_mul]; omega, fun y hy => ?_⟩
      · rw [List.map_cons]
        unfold lcM2
        dsimp only
        rw [el, e]
      · rcases List.mem_append.mp hy with z | z
        · obtain ⟨_, _, e⟩ := vec_mem z; exact e
        · exact e3 y z
  obtain ⟨l, e, e2, e3⟩ := key (List.range R) fun i hi => List.mem_range.mp hi
  refine ⟨l, ?_, ?_⟩
  · unfold lcR2
    rw [show (vec R fun i => vec C (f i)) = (List.range R).map fun i => vec C (f i) from rfl, e]
    dsimp only
    rw [Res.guard_pos (size_le (by rw [e2, List.length_range]; exact Nat.le_trans (Nat.mul_le_mul hR hC) (by decide)))]
  · show l.any id = false
    rw [Bool.eq_false_iff]
    intro z
    obtain ⟨y, hy, ey⟩ := List.any_eq_true.mp z
    rw [e3 y hy] at ey; cases ey
theorem lcR_rng' {α : Type} {F : Int → Res α} {n : Nat} {f : Nat → α} (h : n ≤ 1000000) (hF : ∀ i : Nat, i < n → F (i : Int) = .ok (f i)) : lcR F (rngI 0 n) = .ok (vec n f) := by
  have := lcR_rng (F := F) (f := f) (hi := (n : Int)) (by omega) (by omega) fun i hi => hF i (by rwa [Int.toNat_natCast] at hi)
  rwa [Int.toNat_natCast] at this
theorem any_vec {n : Nat} : ((vec n fun _ => false).any id) = false := by
  rw [Bool.eq_false_iff]
  intro z
  obtain ⟨y, hy, e⟩ := List.any_eq_true.mp z
  obtain ⟨_, _, rfl⟩ := vec_mem hy
  cases e
theorem vec_set {α : Type} {n q : Nat} {f : Nat → α} {y : α} (h : q < n) : (vec n f).set q y = vec n fun k => if k = q then y else f k := by
  have h1 := vec_put (n := n) (f := f) (i := (q : Int)) (y := y) (by omega) (by omega)
  rw [putM_ok (by omega) (by rw [vec_len]; omega), Int.toNat_natCast] at h1
  injection h1
theorem rowT_vec {α : Type} {n q : Nat} {f : Nat → List α} (h : q < n) : rowT (vec n f) (q : Int) = .ok q := by
  unfold rowT ixN
  rw [vec_len, if_pos (by omega), if_pos (by omega), Int.toNat_natCast]
theorem vec_getL {α : Type} {n q : Nat} {f : Nat → List α} (h : q < n) : (vec n f).getD q [] = f q := by
  rw [List.getD_eq_getElem?_getD, vec_get h]; rfl
section
variable {n b : Nat} {tp : Nat → Int}
theorem TB.afit (g : TB n b tp) (i j : Nat) : fits (aT n b tp i j) := (g.afx i j).fits (a := 67) (b := 0) g.bB (by decide) (by decide)
theorem TB.rowsum (g : TB n b tp) {i R : Nat} (hi : i < R) : smQ (fun j => aT n b tp i j) R ≤ 1 := by
  unfold aT
  by_cases h : i = 0
  · subst h
    have e : smQ (fun j => if (0 : Nat) = 0 then fR n b tp (j + 1) else if 0 = j + 1 then (1 : Rat) else 0) R = smQ (fun j => fR n b tp (j + 1)) R := smQ_congr fun j _ => if_pos rfl
    rw [e]
    exact g.f1 R
  · have e : smQ (fun j => if i = 0 then fR n b tp (j + 1) else if i = j + 1 then (1 : Rat) else 0) R = 1 := by
      rw [smQ_one (k := i - 1) (by omega) fun j _ hj => by rw [if_neg h, if_neg (by omega)], if_neg h, if_pos (by omega)]
    rw [e]; exact Rat.le_refl
theorem init_ok (g : TB n b tp) {R : Nat} (h0 : 0 < R) (hR : R ≤ 12) : m_OneWay_init (vec R fun i => vec R (aT n b tp i)) = .ok ⟨vec R fun i => vec R (aT n b tp i), (R : Int)⟩ := by
  unfold m_OneWay_init
  simp only [Res.okb, Res.bind_assoc, Res.bind_ok, vec_len]
  rw [if_neg (by simp; omega), lcR_vec (F := fun l : List Rat => lcR (fun x => qAs (.q x)) l) (f := fun i => vec R (aT n b tp i)) (h := fun i => vec R (aT n b tp i)) (by omega) fun i _ => lcR_vec (F := fun x : Rat => qAs (.q x)) (f := aT n b tp i) (h := aT n b tp i) (by omega) fun j _ => rfl, Res.okb]
  rw [lcR_vec (h := fun _ => false) (by omega) fun i _ => by simp [vec_len], Res.okb, any_vec, if_neg (by decide)]
  refine Ok.eq ?_
  refine Ok.bind (lc2_false (G := fun _ x => qLt x (.i 0)) (fun i j hi hj => ?_) (by omega) (by omega)) fun l hl => ?_
  · rw [qLt_ok (y := .i 0) (g.afit i j) fits_0]
    congr 1
    rw [decide_eq_false_iff_not]
    show ¬ aT n b tp i j < 0
    have : 0 ≤ aT n b tp i j := by
      unfold aT
      split
      · exact g.f0 _
      · split <;> decide
    grind
  · rw [hl, if_neg (by decide)]
    rw [lcR_vec (h := fun _ => false) (by omega) fun i hi => by
      rw [total_ok (D := b) (M := 1) (Nat.le_trans g.bB (Nat.pow_le_pow_right (by decide) (by decide))) (by decide) g.b0 (by omega) fun j _ => g.afx i j, Res.okb]
      have fx : Fx b (R * 1) (smQ (aT n b tp i) R) := Fx.sum g.b0 fun j _ => g.afx i j
      rw [qGt_ok (y := .i 1) (fx.fits (a := 67) (b := 4) g.bB (by omega) (by decide)) fits_1]
      congr 1
      rw [decide_eq_false_iff_not]
      show ¬ 1 < smQ (aT n b tp i) R
      have := g.rowsum hi
      grind, Res.okb, any_vec, if_neg (by decide), vec_len]
    exact .ok rfl
theorem readings1_ok (g : TB n b tp) {R m : Nat} (h0 : 0 < R) (hR : R ≤ 12) (hn : n ≤ R) (hm : m ≤ 15) : m_OneWay_readings ⟨vec R fun i => vec R (aT n b tp i), (R : Int)⟩ (m : Int) = .ok (vec (m + 1) (rdsQ (fR n b tp))) := by
  unfold m_OneWay_readings
  simp only [Res.okb, Res.bind_assoc, Res.bind_ok]
  rw [if_neg (by simp), qInt_1, Res.okb, qInt_z, Res.okb, rep_vec (by omega) (by omega), Res.okb, catM_ok (by rw [vec_len]; simp; omega), Res.okb, Res.okb, rangeM1_ok ⟨by omega, by omega⟩, Res.okb]
  have e0 : [(1 : Rat)] ++ vec ((R : Int) - 1).toNat (fun _ => (0 : Rat)) = vec R (hd n b tp 0) := by
    obtain ⟨r, rfl⟩ : ∃ r, R = r + 1 := ⟨R - 1, by omega⟩
    rw [show (((r + 1 : Nat) : Int) - 1).toNat = r by omega]
    rw [vec_cons]
    refine vec_ext fun j hj => ?_
    unfold hd
    rw [if_pos rfl]
  rw [e0]
  have key := for_rng (hi := (m : Int)) (S := List Rat × List Rat) (s0 := (vec R (hd n b tp 0), [(1 : Rat)]))
    (F := fun _ st => (rangeM1 (R : Int)).bind fun l => (lcR (fun j => (rangeM1 (R : Int)).bind fun l2 => (lcR (fun i => (atM st.1 i).bind fun a => (atM (vec R fun i => vec R (aT n b tp i)) i).bind fun r => (atM r j).bind fun c => qMul a (.q c)) l2).bind fun xs => m_total_of xs) l).bind fun h => (atM h 0).bind fun y => (appM st.2 y).bind fun o => .ok (h, o))
    (fun t => (vec R (hd n b tp t), vec (t + 1) (rdsQ (fR n b tp)))) (by
      show (_, [rdsQ (fR n b tp) 0]) = _
      rw [rdsQ_eq, if_pos rfl]) fun t ht => by
        rw [Int.toNat_natCast] at ht
        dsimp only
        have bp := g.bp (t := t + 1) (by omega)
        have hf : ∀ i, fits (hd n b tp t i) := fun i => (g.hfx (by omega) i).fits (a := 1400) (b := 4) (g.bp (by omega)) (by decide) (by decide)
        rw [rangeM1_ok ⟨by omega, by omega⟩, Res.okb, Int.toNat_natCast, lcR_rng' (f := hd n b tp (t + 1)) (by omega) fun j hj => by
          rw [Res.okb, lcR_rng' (f := fun i => hd n b tp t i * aT n b tp i j) (by omega) fun i hi => by
            rw [vec_atN hi, Res.okb, vec_atN hi, Res.okb, vec_atN hj, Res.okb]
            exact qMul_ok (hf i) (g.afit i j), Res.okb]
          rw [total_ok (D := b ^ (t + 1)) (M := 16) bp (by decide) (Nat.pow_pos g.b0) (by omega) fun i hi => ?_, hd_step hn h0 hj]
          rw [Nat.pow_succ]
          exact ((g.hfx (by omega) i).mul (g.afx i j)).mono (by decide), Res.okb]
        rw [show (0 : Int) = ((0 : Nat) : Int) from rfl, vec_atN h0, Res.okb, vec_app (by omega), Res.okb, hd_zero]
        congr 2
        refine vec_ext fun i hi => ?_
        by_cases h : i = t + 1
        · rw [if_pos h, h]
        · rw [if_neg h]
  rw [key, Res.okb]
  simp only [Int.toNat_natCast]
end
/-! ### loops that end within -/
theorem vec_head1 {α : Type} {n : Nat} {f : Nat → α} : vec (n + 1) f = f 0 :: vec n fun k => f (k + 1) := by
  unfold vec
  rw [List.range_succ_eq_map, List.map_cons, List.map_map]
  rfl
theorem forS_err {S β : Type} {F : β → S → Res S} {e : Exn} : ∀ {k n : Nat} {f : Nat → β} {st : Nat → S} {s0 : S}, k < n → st 0 = s0 → (∀ i, i < k → F (f i) (st i) = .ok (st (i + 1))) → F (f k) (st k) = .err e → forS F (vec n f) s0 = .err e
  | k, 0, _, _, _, h, _, _, _ => absurd h (Nat.not_lt_zero _)
  | 0, n + 1, f, st, s0, _, h0, _, he => by
    rw [vec_head1]
    unfold forS
    rw [← h0, he]; rfl
  | k + 1, n + 1, f, st, s0, hk, h0, hF, he => by
    rw [vec_head1]
    unfold forS
    rw [← h0, hF 0 (by omega), Res.okb]
    exact forS_err (k := k) (n := n) (f := fun i => f (i + 1)) (st := fun i => st (i + 1)) (by omega) rfl (fun i hi => hF (i + 1) (by omega)) he
theorem forG_nx {S β γ L : Type} {F : β → S → Res (Fl S S γ)} : ∀ {n : Nat} {f : Nat → β} {st : Nat → S} {s0 : S}, st 0 = s0 → (∀ i, i < n → F (f i) (st i) = .ok (.nx (st (i + 1)))) → (forG F (vec n f) s0 : Res (Fl S L γ)) = .ok (.nx (st n))
  | 0, f, st, s0, h0, _ => by rw [← h0]; rfl
  | n + 1, f, st, s0, h0, hF => by
    rw [vec_head1]
    unfold forG
    rw [← h0, hF 0 (by omega)]
    exact forG_nx (n := n) (f := fun i => f (i + 1)) (st := fun i => st (i + 1)) rfl fun i hi => hF (i + 1) (by omega)
theorem forG_rt {S β γ L : Type} {F : β → S → Res (Fl S S γ)} {r : γ} : ∀ {k n : Nat} {f : Nat → β} {st : Nat → S} {s0 : S}, k < n → st 0 = s0 → (∀ i, i < k → F (f i) (st i) = .ok (.nx (st (i + 1)))) → F (f k) (st k) = .ok (.rt r) → (forG F (vec n f) s0 : Res (Fl S L γ)) = .ok (.rt r)
  | k, 0, _, _, _, h, _, _, _ => absurd h (Nat.not_lt_zero _)
  | 0, n + 1, f, st, s0, _, h0, _, he => by
    rw [vec_head1]
    unfold forG
    rw [← h0, he]
    rfl
  | k + 1, n + 1, f, st, s0, hk, h0, hF, he => by
    rw [vec_head1]
    unfold forG
    rw [← h0, hF 0 (by omega)]
    exact forG_rt (k := k) (n := n) (f := fun i => f (i + 1)) (st := fun i => st (i + 1)) (by omega) rfl (fun i hi => hF (i + 1) (by omega)) he
/-! ### what is refused -/
/-- the first return at k is wrong -/
def badK (b : Nat) (tp : Nat → Int) (k : Nat) : Bool := decide (tp k < 0 ∨ (b : Int) < sm tp (k + 1))
section
variable {n b : Nat} {tp : Nat → Int} {ν : Nat → Num}
def gV (b : Nat) (tp : Nat → Int) (k : Nat) : Rat := if k = 0 then 0 else ((tp (k - 1) : Int) : Rat) / ((b : Nat) : Rat)
theorem gV_sum : ∀ k, smQ (gV b tp) (k + 1) = ((sm tp k : Int) : Rat) / ((b : Nat) : Rat)
  | 0 => by
    rw [smQ_succ]
    show (0 : Rat) + gV b tp 0 = ((0 : Int) : Rat) / _
    unfold gV
    rw [if_pos rfl, Rat.div_def, show ((0 : Int) : Rat) = 0 from rfl, Rat.zero_mul, Rat.zero_add]
  | k + 1 => by
    rw [smQ_succ, gV_sum k, sm_succ, Rat.intCast_add]
    unfold gV
    rw [if_neg (by omega), Nat.add_sub_cancel, Rat.div_def, Rat.div_def, Rat.div_def]
    grind
theorem div_neg (h0 : 0 < b) {x : Int} : ((x : Int) : Rat) / ((b : Nat) : Rat) < 0 ↔ x < 0 := by
  have hb : (0 : Rat) < ((b : Nat) : Rat) := by exact_mod_cast h0
  have e : ((x : Int) : Rat) / ((b : Nat) : Rat) * ((b : Nat) : Rat) = ((x : Int) : Rat) := Rat.div_mul_cancel (by grind)
  generalize ((x : Int) : Rat) / ((b : Nat) : Rat) = q at *
  constructor
  · intro h
    have : q * ((b : Nat) : Rat) < 0 * ((b : Nat) : Rat) := Rat.mul_lt_mul_of_pos_right h hb
    rw [e, Rat.zero_mul] at this
    exact_mod_cast this
  · intro h
    have h2 : ((x : Int) : Rat) < 0 := by exact_mod_cast h
    rw [← e] at h2
    rcases Rat.le_total (a := 0) (b := q) with z | z
    · have := Rat.mul_nonneg z (Rat.le_of_lt hb); grind
    · rcases Rat.le_iff_lt_or_eq.mp z with z | z
      · exact z
      · subst z; grind
theorem div_one_lt (h0 : 0 < b) {x : Int} : 1 < ((x : Int) : Rat) / ((b : Nat) : Rat) ↔ (b : Int) < x := by
  have hb : (0 : Rat) < ((b : Nat) : Rat) := by exact_mod_cast h0
  have h := div_neg h0 (x := (b : Int) - x)
  have e : (((b : Int) - x : Int) : Rat) / ((b : Nat) : Rat) = 1 - ((x : Int) : Rat) / ((b : Nat) : Rat) := by
    rw [Rat.intCast_sub, Rat.div_def, Rat.div_def]
    have : ((b : Nat) : Rat) * ((b : Nat) : Rat)⁻¹ = 1 := Rat.mul_inv_cancel _ (by grind)
    have c : (((b : Nat) : Int) : Rat) = ((b : Nat) : Rat) := by exact_mod_cast rfl
    rw [c]
    grind
  rw [e] at h
  constructor
  · intro z
    have := h.mp (by grind)
    omega
  · intro z
    have := h.mpr (by omega)
    grind
theorem nx_lt {x : Num} (h : fits x.val) : nxM (fun a c => Res.ok (decide (a < c))) (fun a c => qLt a (.i c)) x 0 = .ok (decide (x.val < 0)) := by
  cases x with
  | i k =>
    show Res.ok (decide (k < 0)) = .ok (decide (((k : Int) : Rat) < 0))
    congr 1
    have : k < 0 ↔ ((k : Int) : Rat) < 0 := by constructor <;> intro h <;> exact_mod_cast h
    exact decide_eq_decide.mpr this
  | q r => exact qLt_ok (y := .i 0) h fits_0
structure SP (n b : Nat) (tp : Nat → Int) : Prop where
  hn : n ≤ 12
  b0 : 0 < b
  bB : b ≤ 2 ^ 67
  tB : ∀ i, i < n → (tp i).natAbs ≤ 2 ^ 72
theorem SP.smB (g : SP n b tp) : ∀ k, k ≤ n → (sm tp k).natAbs ≤ k * 2 ^ 72
  | 0, _ => by show (0 : Int).natAbs ≤ _; simp
  | k + 1, h => by
    rw [sm_succ]
    have h1 := g.smB k (by omega)
    have h2 := g.tB k (by omega)
    have : (sm tp k + tp k).natAbs ≤ (sm tp k).natAbs + (tp k).natAbs := Int.natAbs_add_le _ _
    rw [Nat.succ_mul]
    omega
theorem div_fits {b : Nat} {x : Int} (h0 : 0 < b) (hb : b ≤ 2 ^ 67) (hx : x.natAbs ≤ 2 ^ 80) : fits (((x : Int) : Rat) / ((b : Nat) : Rat)) := by
  have := DB.mk (t := x) (b := (b : Int)) (by omega)
  rw [Rat.divInt_eq_div] at this
  have h : DB b x.natAbs (((x : Int) : Rat) / (((b : Nat) : Int) : Rat)) := this
  exact h.fits (Nat.le_trans hb (Nat.pow_le_pow_right (by decide) (by decide))) (Nat.le_trans hx (Nat.pow_le_pow_right (by decide) (by decide)))
theorem SP.gfit (g : SP n b tp) {k : Nat} (hk : k ≤ n) : fits (gV b tp k) := by
  unfold gV
  split
  · exact fits_0
  · exact div_fits g.b0 g.bB (Nat.le_trans (g.tB (k - 1) (by omega)) (Nat.pow_le_pow_right (by decide) (by decide)))
theorem SP.sfit (g : SP n b tp) {k : Nat} (hk : k ≤ n) : fits (smQ (gV b tp) (k + 1)) := by
  rw [gV_sum]
  refine div_fits g.b0 g.bB (Nat.le_trans (g.smB k hk) ?_)
  have := g.hn
  exact Nat.le_trans (Nat.mul_le_mul_right _ (show k ≤ 12 by omega)) (by decide)
theorem SP.sfit' (g : SP n b tp) {k : Nat} (hk : k ≤ n + 1) : fits (smQ (gV b tp) k) := by
  cases k with
  | zero => exact fits_0
  | succ k => exact g.sfit (by omega)
/-- one turn of check_returns -/
theorem check_step (g : SP n b tp) (hν : ∀ k, k < n + 1 → (ν k).val = gV b tp k) {k : Nat} (hk : k < n + 1) (hk0 : k = 0 ∨ badK b tp (k - 1) = false ∨ True) : ((qAdd (smQ (gV b tp) k) (ν k)).bind fun v => (nxM (fun a c => Res.ok (decide (a < c))) (fun a c => qLt a (.i c)) (ν k) 0).bind fun a => (if a = true then Res.ok true else qGt v (.i 1)).bind fun x => if x = true then (Res.err ⟨"NoWeb", [("tick", Pay.int (k : Int))]⟩ : Res Rat) else Res.ok v) = if 0 < k ∧ badK b tp (k - 1) = true then .err ⟨"NoWeb", [("tick", Pay.int (k : Int))]⟩ else .ok (smQ (gV b tp) (k + 1)) := by
  have f1 := g.sfit' (k := k) (by omega)
  have f2 := g.gfit (k := k) (by omega)
  rw [show qAdd (smQ (gV b tp) k) (ν k) = .ok (smQ (gV b tp) k + (ν k).val) from qAdd_ok f1 (by rw [hν k hk]; exact f2), Res.okb, nx_lt (by rw [hν k hk]; exact f2), Res.okb, hν k hk, ← smQ_succ]
  rw [show qGt (smQ (gV b tp) (k + 1)) (.i 1) = .ok (decide (1 < smQ (gV b tp) (k + 1))) from qGt_ok (g.sfit (by omega)) fits_1]
  cases k with
  | zero =>
    rw [if_neg (show ¬ (0 < 0 ∧ _) by omega), gV_sum]
    have e : gV b tp 0 = 0 := if_pos rfl
    rw [e, if_neg (by decide), Res.okb]
    have : ¬ (1 < ((sm tp 0 : Int) : Rat) / ((b : Nat) : Rat)) := by
      rw [div_one_lt g.b0]
      show ¬ (b : Int) < 0
      omega
    rw [if_neg (by rw [decide_eq_true_eq]; exact this)]
  | succ k =>
    have e : gV b tp (k + 1) = ((tp k : Int) : Rat) / ((b : Nat) : Rat) := by unfold gV; rw [if_neg (by omega), Nat.add_sub_cancel]
    rw [gV_sum (k + 1), e, Nat.add_sub_cancel]
    have h1 := div_neg g.b0 (x := tp k)
    have h2 := div_one_lt g.b0 (x := sm tp (k + 1))
    by_cases c1 : tp k < 0
    · rw [if_pos (by rw [decide_eq_true_eq]; exact h1.mpr c1), Res.okb, if_pos rfl, if_pos ⟨by omega, by unfold badK; rw [decide_eq_true_eq]; exact .inl c1⟩]
    · rw [if_neg (by rw [decide_eq_true_eq]; exact fun z => c1 (h1.mp z)), Res.okb]
      by_cases c2 : (b : Int) < sm tp (k + 1)
      · rw [if_pos (by rw [decide_eq_true_eq]; exact h2.mpr c2), if_pos ⟨by omega, by unfold badK; rw [decide_eq_true_eq]; exact .inr c2⟩]
      · rw [if_neg (by rw [decide_eq_true_eq]; exact fun z => c2 (h2.mp z)), if_neg (by
          unfold badK
          rw [decide_eq_true_eq]
          rintro ⟨_, z | z⟩
          · exact c1 z
          · exact c2 z)]
theorem check_ok (g : SP n b tp) (hν : ∀ k, k < n + 1 → (ν k).val = gV b tp k) (h : ∀ k, k < n → badK b tp k = false) : m_check_returns (vec (n + 1) ν) = .ok () := by
  unfold m_check_returns
  simp only [Res.okb, Res.bind_assoc, Res.bind_ok]
  rw [qInt_z, Res.okb, vec_len, rangeM1_ok ⟨by omega, by have := g.hn; omega⟩, Res.okb, Int.toNat_natCast, rngI_vec]
  rw [for_vec (S := Rat) (s0 := 0) (smQ (gV b tp)) rfl fun k hk => ?_, Res.okb]
  have := check_step g hν hk (.inr (.inr trivial))
  rw [if_neg (by rintro ⟨z, w⟩; rw [h (k - 1) (by omega)] at w; cases w)] at this
  rw [show (0 : Int) + (k : Int) = (k : Int) by omega, vec_atN hk]
  simp only [Res.okb]
  exact this
theorem check_err (g : SP n b tp) (hν : ∀ k, k < n + 1 → (ν k).val = gV b tp k) {k : Nat} (hk : k < n) (hb : badK b tp k = true) (h : ∀ j, j < k → badK b tp j = false) : m_check_returns (vec (n + 1) ν) = .err ⟨"NoWeb", [("tick", Pay.int ((k : Int) + 1))]⟩ := by
  unfold m_check_returns
  simp only [Res.okb, Res.bind_assoc, Res.bind_ok]
  rw [qInt_z, Res.okb, vec_len, rangeM1_ok ⟨by omega, by have := g.hn; omega⟩, Res.okb, Int.toNat_natCast, rngI_vec]
  rw [forS_err (k := k + 1) (S := Rat) (s0 := 0) (st := smQ (gV b tp)) (e := ⟨"NoWeb", [("tick", Pay.int ((k : Int) + 1))]⟩) (by omega) rfl (fun j hj => ?_) ?_]
  · rfl
  · have := check_step g hν (k := k + 1) (by omega) (.inr (.inr trivial))
    rw [if_pos ⟨by omega, hb⟩] at this
    rw [show (0 : Int) + ((k + 1 : Nat) : Int) = ((k + 1 : Nat) : Int) by omega, vec_atN (show k + 1 < n + 1 by omega)]
    simp only [Res.okb]
    exact this
  · have := check_step g hν (k := j) (by omega) (.inr (.inr trivial))
    rw [if_neg (by rintro ⟨z, w⟩; rw [h (j - 1) (by omega)] at w; cases w)] at this
    rw [show (0 : Int) + (j : Int) = (j : Int) by omega, vec_atN (show j < n + 1 by omega)]
    simp only [Res.okb]
    exact this
theorem due_step {k : Nat} (hk : k < n) : ((atM (vec n tp) (k : Int)).bind fun y => (atM (vec n tp) (k : Int)).bind fun z => (if decide (z < 0) = true then Res.ok true else Res.ok (decide (sm tp k + y > (b : Int)))).bind fun x => if x = true then Res.ok (Fl.rt ((k : Int) + 1) : Fl Int Int Int) else Res.ok (Fl.nx (sm tp k + y))) = .ok (if badK b tp k = true then Fl.rt ((k : Int) + 1) else Fl.nx (sm tp (k + 1))) := by
  rw [vec_atN hk, Res.okb, Res.okb, ← sm_succ]
  unfold badK
  by_cases c1 : tp k < 0
  · rw [if_pos (by rw [decide_eq_true_eq]; exact c1), Res.okb, if_pos rfl, if_pos (by rw [decide_eq_true_eq]; exact .inl c1)]
  · rw [if_neg (by rw [decide_eq_true_eq]; exact c1), Res.okb]
    by_cases c2 : (b : Int) < sm tp (k + 1)
    · rw [if_pos (by rw [decide_eq_true_eq]; exact c2), if_pos (by rw [decide_eq_true_eq]; exact .inr c2)]
    · rw [if_neg (by rw [decide_eq_true_eq]; exact c2), if_neg (by rw [decide_eq_true_eq]; rintro (z | z); exact c1 z; exact c2 z)]
theorem due_ok (hn : n ≤ 12) (h : ∀ k, k < n → badK b tp k = false) : m_law_due (vec n tp) (b : Int) = .ok 0 := by
  unfold m_law_due
  simp only [Res.okb, Res.bind_assoc, Res.bind_ok]
  rw [vec_len, rangeM1_ok ⟨by omega, by omega⟩, Res.okb, Int.toNat_natCast, rngI_vec]
  rw [forG_nx (S := Int) (s0 := 0) (st := sm tp) rfl fun k hk => ?_, Res.okb, Fl.okb_out]
  rw [show (0 : Int) + (k : Int) = (k : Int) by omega]
  have := due_step (b := b) (tp := tp) hk
  rw [h k hk, if_neg (by decide)] at this
  exact this
theorem due_hit (hn : n ≤ 12) {k : Nat} (hk : k < n) (hb : badK b tp k = true) (h : ∀ j, j < k → badK b tp j = false) : m_law_due (vec n tp) (b : Int) = .ok ((k : Int) + 1) := by
  unfold m_law_due
  simp only [Res.okb, Res.bind_assoc, Res.bind_ok]
  rw [vec_len, rangeM1_ok ⟨by omega, by omega⟩, Res.okb, Int.toNat_natCast, rngI_vec]
  rw [forG_rt (k := k) (S := Int) (s0 := 0) (st := sm tp) (r := (k : Int) + 1) hk rfl (fun j hj => ?_) ?_, Res.okb]
  · rfl
  · rw [show (0 : Int) + (k : Int) = (k : Int) by omega]
    have := due_step (b := b) (tp := tp) hk
    rw [hb, if_pos rfl] at this
    exact this
  · rw [show (0 : Int) + (j : Int) = (j : Int) by omega]
    have := due_step (b := b) (tp := tp) (show j < n by omega)
    rw [h j hj, if_neg (by decide)] at this
    exact this
end
theorem hds_skip {S L γ : Type} {e : Exn} {Ls : List (Str × Bool)} {h : Exn → Res (Fl S L γ)} {r : List (List (Str × Bool) × (Exn → Res (Fl S L γ)))} (h1 : Ls.lookup e.cls = some false) : hdsM ((Ls, h) :: r) e = hdsM r e := by
  simp only [hdsM, h1]
theorem errb1 {α β : Type} (e : Exn) (f : α → Res β) : (Res.err e).bind f = .err e := by
  have h : ∀ m : Res α, m = .err e → m.bind f = .err e := fun m q => by subst q; rfl
  exact h _ rfl
theorem qAs_val (x : Num) : qAs x = .ok x.val := by cases x <;> rfl
theorem start_ok {xs : List Num} (h : xs = [] ∨ ∃ x ys, xs = x :: ys ∧ x.val ≠ 0) : m_delay_row xs = .err ⟨"BadReadings", []⟩ := by
  unfold m_delay_row
  simp only [Res.okb, Res.bind_assoc, Res.bind_ok]
  rcases h with rfl | ⟨x, ys, rfl, hx⟩
  · rw [if_pos (by simp), Res.okb, if_pos rfl]
  · rw [if_neg (by simp; omega), show atM (x :: ys) 0 = .ok x from atM_get (by decide) rfl, Res.okb, qAs_val, Res.okb]
    unfold qEq
    simp only [Res.okb]
    rw [show (Num.i 0).val = 0 from rfl, decide_eq_false hx, if_pos (by rfl)]
section
variable {n b : Nat} {tp : Nat → Int} {ν : Nat → Num}
theorem TB.sp (g : TB n b tp) : SP n b tp := ⟨g.hn, g.b0, g.bB, fun i hi => by
  have h1 := g.t0 i hi
  have h2 := g.sm_mono (i + 1) (by omega)
  have h3 : 0 ≤ sm tp i := sm_nonneg fun j hj => g.t0 j (by omega)
  rw [sm_succ] at h2
  have h4 := g.bB
  have h5 : (2 : Nat) ^ 67 ≤ 2 ^ 72 := by decide
  omega⟩
theorem TB.nb (g : TB n b tp) : ∀ k, k < n → badK b tp k = false := fun k hk => by
  unfold badK
  rw [decide_eq_false_iff_not]
  have h1 := g.t0 k hk
  have h2 := g.sm_mono (k + 1) (by omega)
  omega
theorem tb_of (s : SP n b tp) (h : ∀ k, k < n → badK b tp k = false) : TB n b tp := by
  have h' : ∀ k, k < n → 0 ≤ tp k ∧ sm tp (k + 1) ≤ (b : Int) := fun k hk => by
    have := h k hk
    unfold badK at this
    rw [decide_eq_false_iff_not] at this
    omega
  refine ⟨s.hn, s.b0, s.bB, fun i hi => (h' i hi).1, ?_⟩
  cases n with
  | zero => show (0 : Int) ≤ _; omega
  | succ m => exact (h' m (by omega)).2
theorem gV_fR {k : Nat} (h : k ≤ n) : gV b tp k = fR n b tp k := by
  unfold gV fR
  by_cases h0 : k = 0
  · rw [if_pos h0, if_neg (by omega)]
  · rw [if_neg h0, if_pos ⟨by omega, h⟩]
theorem delay_ok (g : TB n b tp) (hν : ∀ k, k < n + 1 → (ν k).val = gV b tp k) : m_delay_row (vec (n + 1) ν) = .ok ⟨vec (max 1 n) fun i => vec (max 1 n) (aT n b tp i), ((max 1 n : Nat) : Int)⟩ := by
  have hn := g.hn
  unfold m_delay_row
  simp only [Res.okb, Res.bind_assoc, Res.bind_ok, vec_len]
  have a0 : atM (vec (n + 1) ν) 0 = .ok (ν 0) := vec_atN (i := 0) (by omega)
  have v0 : (ν 0).val = 0 := by rw [hν 0 (by omega)]; exact if_pos rfl
  rw [if_neg (by simp; omega), a0, Res.okb, qAs_val, Res.okb, v0, show qEq 0 (.i 0) = .ok true from rfl, Res.okb, Res.okb, if_neg (by decide), check_ok g.sp hν g.nb, Res.okb]
  have er : (if ((n + 1 : Nat) : Int) - 1 > 1 then ((n + 1 : Nat) : Int) - 1 else 1) = ((max 1 n : Nat) : Int) := by split <;> omega
  rw [er]
  generalize hR : max 1 n = R
  have R0 : 0 < R := by omega
  have R12 : R ≤ 12 := by omega
  have nR : n ≤ R := by omega
  rw [rangeM1_ok ⟨by omega, by omega⟩, Res.okb, Int.toNat_natCast, lcR_rng' (f := fun _ => vec R fun _ => (0 : Rat)) (by omega) fun i hi => by rw [qInt_z, Res.okb, rep_vec (by omega) (by omega), Int.toNat_natCast], Res.okb]
  rw [rangeM_ok ⟨by decide, by decide, by omega, by omega⟩, Res.okb, show (((n + 1 : Nat) : Int) - 1).toNat = n by omega, rngI_vec]
  rw [for_vec (S := List (List Rat)) (s0 := vec R fun _ => vec R fun _ => (0 : Rat)) (fun i => vec R fun r => vec R fun c => if r = 0 ∧ c < i then fR n b tp (c + 1) else 0) (vec_ext fun r _ => vec_ext fun c _ => by rw [if_neg (by omega)]) fun i hi => ?_, Res.okb]
  · rw [rangeM_ok ⟨by decide, by decide, by omega, by omega⟩, Res.okb, show ((R : Int) - 1).toNat = R - 1 by omega, rngI_vec]
    rw [for_vec (S := List (List Rat)) (fun i => vec R fun r => vec R fun c => if r = 0 then fR n b tp (c + 1) else if r = c + 1 ∧ r ≤ i then 1 else 0) (vec_ext fun r _ => vec_ext fun c _ => by
      by_cases h : r = 0
      · rw [if_pos h]
        by_cases h2 : c < n
        · rw [if_pos ⟨h, h2⟩]
        · rw [if_neg (by omega), fR_out (by omega)]
      · rw [if_neg h, if_neg (by omega), if_neg (by omega)]) fun i hi => ?_, Res.okb]
    · unfold m_OneWay_1
      have e : (vec R fun r => vec R fun c => if r = 0 then fR n b tp (c + 1) else if r = c + 1 ∧ r ≤ R - 1 then (1 : Rat) else 0) = vec R fun i => vec R (aT n b tp i) := vec_ext fun r hr => vec_ext fun c hc => by
        unfold aT
        by_cases h : r = 0
        · rw [if_pos h, if_pos h]
        · rw [if_neg h, if_neg h]
          by_cases h2 : r = c + 1
          · rw [if_pos ⟨h2, by omega⟩, if_pos h2]
          · rw [if_neg (by omega), if_neg h2]
      rw [e]
      exact init_ok g R0 R12
    · rw [qInt_1, Res.okb, show (1 : Int) + (i : Int) = ((i + 1 : Nat) : Int) by omega, rowT_vec (by omega), Res.okb]
      unfold Tr.putT
      rw [vec_getL (by omega), show ((i + 1 : Nat) : Int) - 1 = (i : Int) by omega, vec_put (by omega) (by omega), Res.okb, Int.toNat_natCast, vec_set (by omega)]
      congr 1
      refine vec_ext fun r hr => ?_
      by_cases h : r = i + 1
      · rw [if_pos h]
        refine vec_ext fun c hc => ?_
        by_cases h2 : c = i
        · rw [if_pos h2, if_neg (by omega), if_pos (by omega)]
        · rw [if_neg h2, if_neg (by omega), if_neg (by omega), if_neg (by omega), if_neg (by omega)]
      · rw [if_neg h]
        refine vec_ext fun c hc => ?_
        by_cases h3 : r = 0
        · rw [if_pos h3, if_pos h3]
        · rw [if_neg h3, if_neg h3]
          by_cases h4 : r = c + 1 ∧ r ≤ i
          · rw [if_pos h4, if_pos (by omega)]
          · rw [if_neg h4, if_neg (by omega)]
  · rw [show (1 : Int) + (i : Int) = ((i + 1 : Nat) : Int) by omega, vec_atN (by omega), Res.okb, qAs_val, Res.okb, show (0 : Int) = ((0 : Nat) : Int) from rfl, rowT_vec R0, Res.okb]
    unfold Tr.putT
    rw [vec_getL R0, show ((i + 1 : Nat) : Int) - 1 = (i : Int) by omega, vec_put (by omega) (by omega), Res.okb, Int.toNat_natCast, vec_set R0, hν (i + 1) (by omega), gV_fR (n := n) (by omega)]
    congr 1
    refine vec_ext fun r hr => ?_
    by_cases h : r = 0
    · rw [if_pos h]
      refine vec_ext fun c hc => ?_
      by_cases h2 : c = i
      · rw [if_pos h2, if_pos (by omega), h2]
      · rw [if_neg h2]
        by_cases h3 : c < i
        · rw [if_pos ⟨rfl, h3⟩, if_pos (by omega)]
        · rw [if_neg (by omega), if_neg (by omega)]
    · rw [if_neg h]
      exact vec_ext fun c hc => by rw [if_neg (by omega), if_neg (by omega)]
theorem delay_err (g : SP n b tp) (hν : ∀ k, k < n + 1 → (ν k).val = gV b tp k) {k : Nat} (hk : k < n) (hb : badK b tp k = true) (h : ∀ j, j < k → badK b tp j = false) : m_delay_row (vec (n + 1) ν) = .err ⟨"NoWeb", [("tick", Pay.int ((k : Int) + 1))]⟩ := by
  unfold m_delay_row
  simp only [Res.okb, Res.bind_assoc, Res.bind_ok, vec_len]
  have a0 : atM (vec (n + 1) ν) 0 = .ok (ν 0) := vec_atN (i := 0) (by omega)
  have v0 : (ν 0).val = 0 := by rw [hν 0 (by omega)]; exact if_pos rfl
  rw [if_neg (by simp; omega), a0, Res.okb, qAs_val, Res.okb, v0, show qEq 0 (.i 0) = .ok true from rfl, Res.okb, Res.okb, if_neg (by decide), check_err g hν hk hb h, errb1]
theorem out_none {xs : List Num} {o : O_OneWay} (h : m_delay_row xs = .ok o) : m_law_outcome xs = .ok ("none", 0, ()) := by
  unfold m_law_outcome
  simp only [Res.okb, Res.bind_assoc, Res.bind_ok]
  rw [h, Res.okb, tryN_ok', Res.okb, Fl.okb_out]
theorem out_web {xs : List Num} {k : Int} (h : m_delay_row xs = .err ⟨"NoWeb", [("tick", Pay.int k)]⟩) : m_law_outcome xs = .ok ("web", k, ()) := by
  unfold m_law_outcome
  simp only [Res.okb, Res.bind_assoc, Res.bind_ok]
  rw [h, errb1, tryN_err', hds_hit (S := Unit) (L := Unit) (y := Fl.rt (("web" : Str), k, ())) ?_ ?_, Res.okb]
  · rfl
  · rfl
  · dsimp only
    rw [pay1_hit (y := k) rfl]
    rfl
theorem out_read {xs : List Num} (h : m_delay_row xs = .err ⟨"BadReadings", []⟩) : m_law_outcome xs = .ok ("readings", 0, ()) := by
  unfold m_law_outcome
  simp only [Res.okb, Res.bind_assoc, Res.bind_ok]
  rw [h, errb1, tryN_err', hds_skip ?_, hds_hit (S := Unit) (L := Unit) (y := Fl.rt (("readings" : Str), (0 : Int), ())) ?_ ?_, Res.okb]
  · rfl
  · rfl
  · rfl
  · rfl
end
theorem sm_congr1 {f g : Nat → Int} : ∀ {n : Nat}, (∀ i, i < n → f i = g i) → sm f n = sm g n
  | 0, _ => rfl
  | n + 1, h => by rw [sm_succ, sm_succ, sm_congr1 (n := n) fun i hi => h i (by omega), h n (by omega)]
theorem tops_ok {t : List Int} {b m : Nat} (ht : TP t) (hb : b ≤ 2 ^ 67) (hm : m ≤ 12) : Ok (m_law_tops t (b : Int) (m : Int)) fun x => ∃ tp : Nat → Int, x.1 = vec m tp ∧ (∀ i, i < m → 0 ≤ tp i) ∧ sm tp m ≤ (b : Int) := by
  unfold m_law_tops
  simp only [Res.okb, Res.okbX, Res.bind_assoc, Res.bind_ok, Res.bindX_ok, Res.bindX_bind, Res.bind_bindX, Res.bindX_bindX]
  rw [rangeM1_ok ⟨by omega, by omega⟩, Res.okb, Int.toNat_natCast]
  refine Ok.bind (Ok.forS (fun i (st : Int × List Int × List Int) => 0 ≤ st.1 ∧ TP st.2.1 ∧ ∃ f : Nat → Int, st.2.2 = vec i f ∧ (∀ j, j < i → 0 ≤ f j) ∧ st.1 + sm f i = (b : Int)) ⟨Int.natCast_nonneg _, ht, fun _ => 0, rfl, fun j hj => absurd hj (Nat.not_lt_zero _), by show (b : Int) + 0 = b; omega⟩ fun i x st ex ⟨h0, ht, f, e, f0, hs⟩ => ?_) fun st ⟨h0, ht, f, e, f0, hs⟩ => ?_
  · obtain ⟨left, tape, out⟩ := st
    dsimp only at h0 ht e hs ⊢
    subst e
    have i12 : i < 12 := by
      have := (List.getElem?_eq_some_iff.mp ex).1
      rw [rngI_len] at this; omega
    have lb : left ≤ (b : Int) := by
      have : 0 ≤ sm f i := sm_nonneg fun j hj => f0 j hj
      omega
    have bb : (b : Int) ≤ 2 ^ 67 := by exact_mod_cast hb
    refine Ok.bind (pick_ok ht (m := left + 1) (by omega) (by omega)) fun x ⟨ht, a0, a1⟩ => ?_
    obtain ⟨top, tape⟩ := x
    dsimp only at ht a0 a1 ⊢
    refine (pick_ok ht (m := 4) (by decide) (by decide)).bindX fun p t' ⟨ht, _, _⟩ => ?_
    dsimp only at ht ⊢
    refine Ok.bind (P := fun y : Int × List Int => TP y.2 ∧ 0 ≤ y.1 ∧ y.1 ≤ left) ?_ fun y ⟨ht, c0, c1⟩ => ?_
    · split
      · exact .ok ⟨ht, h0, Int.le_refl _⟩
      · exact .ok ⟨ht, a0, by dsimp only; omega⟩
    obtain ⟨top, tape⟩ := y
    dsimp only at ht c0 c1 ⊢
    refine (pick_ok ht (m := 3) (by decide) (by decide)).bindX fun p t' ⟨ht, _, _⟩ => ?_
    dsimp only at ht ⊢
    refine Ok.bind (P := fun y : Int × List Int => TP y.2 ∧ 0 ≤ y.1 ∧ y.1 ≤ left) ?_ fun y ⟨ht, c0, c1⟩ => ?_
    · split
      · exact .ok ⟨ht, Int.le_refl _, h0⟩
      · exact .ok ⟨ht, c0, c1⟩
    obtain ⟨top, tape⟩ := y
    dsimp only at ht c0 c1 ⊢
    rw [vec_app (by omega), Res.okb]
    refine .ok ⟨by dsimp only; omega, ht, _, rfl, fun j hj => ?_, ?_⟩
    · split
      · exact c0
      · exact f0 j (by omega)
    · dsimp only
      rw [sm_succ, if_pos rfl, sm_congr1 (g := f) fun j hj => if_neg (by omega)]
      omega
  · rw [rngI_len] at e f0 hs
    exact .ok ⟨f, e, f0, by omega⟩
section
variable {n b : Nat} {tp : Nat → Int}
theorem described_ok (g : TB n b tp) : m_law_described ⟨vec (max 1 n) fun i => vec (max 1 n) (aT n b tp i), ((max 1 n : Nat) : Int)⟩ (vec n tp) (b : Int) = .ok true := by
  have hn := g.hn
  unfold m_law_described m_OneWay_table
  simp only [Res.okb, Res.bind_assoc, Res.bind_ok, vec_len]
  have e0 : (if (!decide (vec n tp = [])) = true then (Res.ok (n : Int) : Res Int) else Res.ok 1) = .ok ((max 1 n : Nat) : Int) := by
    by_cases h : n = 0
    · subst h; rfl
    · have : vec n tp ≠ [] := fun z => by
        have := congrArg List.length z
        rw [vec_len] at this
        exact h this
      rw [decide_eq_false this, if_pos (by rfl)]
      congr 1; omega
  rw [e0, Res.okb]
  generalize hR : max 1 n = R
  have R0 : 0 < R := by omega
  rw [if_neg (by decide), Res.okb, if_neg (by simp), lcR_vec (F := fun x : List Rat => Res.ok x) (f := fun i => vec R (aT n b tp i)) (h := fun i => vec R (aT n b tp i)) (by omega) fun i _ => rfl, Res.okb, rangeM1_ok ⟨by omega, by omega⟩, Res.okb]
  rw [forG_all (L := Unit) (γ := Bool) fun x hx => ?_, Res.okb, Fl.okb_out]
  obtain ⟨x1, x2⟩ := rngI_mem hx
  obtain ⟨i, rfl⟩ := Int.eq_ofNat_of_zero_le x1
  rw [Res.okb, forG_all (L := Unit) (γ := Bool) fun y hy => ?_, Res.okb, Fl.okb_nx]
  obtain ⟨y1, y2⟩ := rngI_mem hy
  obtain ⟨j, rfl⟩ := Int.eq_ofNat_of_zero_le y1
  have hi : i < R := by omega
  have hj : j < R := by omega
  have bb : ((b : Int)).natAbs ≤ 2 ^ 67 := by rw [Int.natAbs_natCast]; exact g.bB
  have b0 := g.b0
  have mi : ∀ z : Int, z = 0 ∨ z = 1 → mulI (b : Int) z = .ok ((b : Int) * z) := fun z hz => mulI_le (s := 67) (t := 1) bb (by omega) (by decide)
  rw [mi _ (by split <;> simp), Res.okb]
  have cb : (((b : Nat) : Int) : Rat) = ((b : Nat) : Rat) := by exact_mod_cast rfl
  have bq := g.bq
  have fin : ∀ p : Int, p.natAbs ≤ 2 ^ 80 → aT n b tp i j = (p : Rat) / ((b : Nat) : Rat) → m_law_is (aT n b tp i j) (p, (b : Int), ()) = .ok true := fun p pB pe => by
    rw [lawis_ok (g.afit i j) (Nat.le_trans pB (Nat.pow_le_pow_right (by decide) (by decide))) (Nat.le_trans bb (Nat.pow_le_pow_right (by decide) (by decide))) (by show (0 : Int) < (b : Int); omega)]
    dsimp only
    rw [cb, ← pe, decide_eq_true rfl]
  by_cases h : i = 0 ∧ n ≠ 0
  · have hv : vec n tp ≠ [] := fun z => by
      have := congrArg List.length z
      rw [vec_len] at this
      exact h.2 this
    have hjn : j < n := by omega
    rw [if_pos (show decide ((i : Int) = 0) = true by rw [decide_eq_true_eq]; omega), decide_eq_false hv, Res.okb, if_pos (by rfl), vec_atN hjn, Res.okb, Res.okb, vec_atN hi, Res.okb, vec_atN hj, Res.okb]
    rw [fin _ (Nat.le_trans (g.sp.tB j hjn) (by decide)) (by unfold aT; rw [if_pos h.1, fR_in hjn]), Res.okb, if_neg (by decide)]
  · have e1 : (if decide ((i : Int) = 0) = true then Res.ok (!decide (vec n tp = [])) else Res.ok false : Res Bool) = .ok false := by
      by_cases h0 : i = 0
      · have hn0 : n = 0 := by omega
        subst hn0
        rw [if_pos (by rw [decide_eq_true_eq]; omega)]
        rfl
      · rw [if_neg (by rw [decide_eq_true_eq]; omega)]
    rw [e1, Res.okb, if_neg (by decide), Res.okb, vec_atN hi, Res.okb, vec_atN hj, Res.okb]
    rw [fin _ ?_ ?_, Res.okb, if_neg (by decide)]
    · rw [Int.natAbs_mul]
      refine Nat.le_trans (Nat.mul_le_mul bb (show (if decide ((j : Int) = (i : Int) - 1) = true then (1 : Int) else 0).natAbs ≤ 1 by split <;> decide)) (by decide)
    · unfold aT
      by_cases h0 : i = 0
      · have hn0 : n = 0 := by omega
        rw [if_pos h0, fR_out (by omega), if_neg (by rw [decide_eq_true_eq]; omega), Int.mul_zero, Rat.div_def, show ((0 : Int) : Rat) = 0 from rfl, Rat.zero_mul]
      · rw [if_neg h0]
        by_cases h1 : i = j + 1
        · rw [if_pos h1, if_pos (by rw [decide_eq_true_eq]; omega), Int.mul_one, cb, Rat.div_def, Rat.mul_inv_cancel _ (by grind)]
        · rw [if_neg h1, if_neg (by rw [decide_eq_true_eq]; omega), Int.mul_zero, Rat.div_def, show ((0 : Int) : Rat) = 0 from rfl, Rat.zero_mul]
end
theorem eqD_sp {s : Str} {i : Int} (h : s = "web" ∨ s = "none" ∨ s = "readings") : eqD (rTu (aCons (rp rStr) (aCons (rp rInt) aNil))) (s, i, ()) (s, i, ()) = .ok true := by
  rcases h with rfl | rfl | rfl
  all_goals
    unfold eqD
    rw [Res.guard_pos ⟨by kernel_rfl, by kernel_rfl⟩, decide_eq_true rfl]
theorem tail3 {n : Nat} {tp : Nat → Int} : vec n tp ++ [0, 0, 0] = vec (n + 3) (tZ n tp) := by
  rw [vec_succ, vec_succ, vec_succ]
  unfold tZ
  rw [if_neg (by omega), if_neg (by omega), if_neg (by omega), List.append_assoc, List.append_assoc]
  congr 1
  exact vec_ext fun i hi => (if_pos hi).symm
theorem law_ok (ns : List Int) (hl : ns.length ≤ 63) : m_law ns = .ok true := by
  refine Ok.eq ?_
  unfold m_law
  simp only [Res.okb, Res.okbX, Res.bind_assoc, Res.bind_ok, Res.bindX_ok, Res.bindX_bind, Res.bind_bindX, Res.bindX_bindX]
  refine (tape_ok ns (by decide) (by decide)).bind fun t ht => ?_
  refine (pick_ok ht (m := 13) (by decide) (by decide)).bind fun x ⟨ht, hm0, hm1⟩ => ?_
  obtain ⟨many, t⟩ := x
  dsimp only at ht hm0 hm1 ⊢
  refine (pick_ok ht (m := 12) (by decide) (by decide)).bindX fun b1 t ⟨ht, hb0, hb1⟩ => ?_
  dsimp only at ht hb0 hb1
  rw [show powI 10 20 = .ok (10 ^ 20) from powI_le (x := 10) (y := 20) (s := 4) (by decide) (by decide), Res.okb]
  refine (pick_ok ht (m := 4) (by decide) (by decide)).bindX fun b2 t ⟨ht, hc0, hc1⟩ => ?_
  dsimp only at ht hc0 hc1
  rw [fdivI_pos (by decide) (by decide), Res.okb]
  refine Ok.bind (P := fun x : Int => ∃ b : Nat, x = (b : Int) ∧ 0 < b ∧ b ≤ 2 ^ 67) ?_ fun x ⟨b, eb, b0, hb⟩ => ?_
  · have h3 : b2 / 3 = 0 ∨ b2 / 3 = 1 := by omega
    rcases h3 with h | h
    · rw [h]; exact .of (atM_get (by decide) rfl) ⟨(1 + b1).toNat, by omega, by omega, by omega⟩
    · rw [h]; exact .of (atM_get (by decide) rfl) ⟨10 ^ 20 + 39, by decide, by decide, by decide⟩
  subst eb
  have bb : ((b : Int)).natAbs ≤ 2 ^ 67 := by rw [Int.natAbs_natCast]; exact hb
  refine (pick_ok ht (m := 12) (by decide) (by decide)).bindX fun p1 t ⟨ht, hp0, hp1⟩ => ?_
  dsimp only at ht hp0 hp1
  refine (pick_ok ht (m := 12) (by decide) (by decide)).bindX fun p2 t ⟨ht, hq0, hq1⟩ => ?_
  dsimp only at ht hq0 hq1
  refine (pick_ok ht (m := 3) (by decide) (by decide)).bindX fun c1 t ⟨ht, hd0, hd1⟩ => ?_
  dsimp only at ht hd0 hd1
  refine (pick_ok ht (m := 2) (by decide) (by decide)).bindX fun c2 t ⟨ht, he0, he1⟩ => ?_
  dsimp only at ht he0 he1
  rw [mulI_le (s := 2) (t := 2) (by decide) (by omega) (by decide), Res.okb, mulI_le (s := 2) (t := 3) (by omega) (by omega) (by decide), Res.okb]
  refine (pick_ok ht (m := 3) (by decide) (by decide)).bindX fun c3 t ⟨ht, hf0, hf1⟩ => ?_
  dsimp only at ht hf0 hf1
  rw [mulI_le (s := 2) (t := 68) (by omega) (by omega) (by decide), Res.okb]
  have ch : ∀ k : Int, k = 0 ∨ k = 1 → Ok (atM [c1 * (2 * c2 - 1), c3 * ((b : Int) + 1)] k) fun z => z.natAbs ≤ 2 ^ 70 := fun k hk => by
    rcases hk with rfl | rfl
    · refine .of (atM_get (by decide) rfl) ?_
      rw [Int.natAbs_mul]
      exact Nat.le_trans (Nat.mul_le_mul (show c1.natAbs ≤ 2 by omega) (show (2 * c2 - 1).natAbs ≤ 1 by omega)) (by decide)
    · refine .of (atM_get (by decide) rfl) ?_
      rw [Int.natAbs_mul]
      exact Nat.le_trans (Nat.mul_le_mul (show c3.natAbs ≤ 2 by omega) (show ((b : Int) + 1).natAbs ≤ 2 ^ 68 by omega)) (by decide)
  generalize [c1 * (2 * c2 - 1), c3 * ((b : Int) + 1)] = chs at ch ⊢
  rw [qMk_ok (by decide) (by decide), Res.okb]
  refine (pick_ok ht (m := 4) (by decide) (by decide)).bindX fun b3 t ⟨ht, hg0, hg1⟩ => ?_
  dsimp only at ht hg0 hg1
  refine Ok.bind (P := fun x : Num => x.val ≠ 0) ?_ fun odd o0 => ?_
  · have h3 : b3 = 0 ∨ b3 = 1 ∨ b3 = 2 ∨ b3 = 3 := by omega
    rcases h3 with rfl | rfl | rfl | rfl
    · exact .of (atM_get (by decide) rfl) (by decide)
    · exact .of (atM_get (by decide) rfl) (by decide)
    · exact .of (atM_get (by decide) rfl) (by decide +kernel)
    · exact .of (atM_get (by decide) rfl) (by decide)
  refine (tape_ok ns (k := 1) (by decide) (by decide)).bind fun t1 ht1 => ?_
  obtain ⟨n, rfl⟩ : ∃ n : Nat, many = (n : Int) := ⟨many.toNat, by omega⟩
  have hn : n ≤ 12 := by omega
  refine (tops_ok ht1 hb hn).bindX fun tops _ ⟨tp, et, t0, ts⟩ => ?_
  dsimp only at et
  subst et
  have g : TB n b tp := ⟨hn, b0, hb, t0, ts⟩
  have sp := g.sp
  have mk : ∀ z : Int, qMk z (b : Int) = .ok (Rat.divInt z (b : Int)) := fun z => qMk_ok (by omega) (by
    have := log2_mono bb
    rw [Nat.log2_two_pow] at this
    omega)
  have cb : (((b : Nat) : Int) : Rat) = ((b : Nat) : Rat) := by exact_mod_cast rfl
  rw [lcR_vec (h := fun i => if decide (tp i > 0) = true then Num.q (Rat.divInt (tp i) (b : Int)) else Num.i 0) (by omega) fun i hi => by
    split
    · rw [mk, Res.okb]
    · rfl, Res.okb, catM_ok (by rw [vec_len]; simp; omega), Res.okb]
  rw [vec_cons]
  obtain ⟨ν, eν⟩ : ∃ ν : Nat → Num, ν = fun k => if k = 0 then Num.i 0 else if decide (tp (k - 1) > 0) = true then Num.q (Rat.divInt (tp (k - 1)) (b : Int)) else Num.i 0 := ⟨_, rfl⟩
  rw [← eν]
  have hν : ∀ k, k < n + 1 → (ν k).val = gV b tp k := fun k hk => by
    rw [eν]
    unfold gV
    dsimp only
    by_cases h : k = 0
    · rw [if_pos h, if_pos h]; rfl
    · rw [if_neg h, if_neg h]
      by_cases h2 : tp (k - 1) > 0
      · rw [if_pos (by rw [decide_eq_true_eq]; exact h2)]
        show Rat.divInt (tp (k - 1)) (b : Int) = _
        rw [Rat.divInt_eq_div, cb]
      · rw [if_neg (by rw [decide_eq_true_eq]; exact h2)]
        have := t0 (k - 1) (by omega)
        rw [show tp (k - 1) = 0 by omega, Rat.div_def, show ((0 : Int) : Rat) = 0 from rfl, Rat.zero_mul]
        rfl
  have dl := delay_ok g hν
  rw [catM_ok (by rw [vec_len]; simp; omega), Res.okb, tail3]
  have zb : ∀ i, i < n + 3 → (tZ n tp i).natAbs ≤ b := fun i _ => by
    unfold tZ
    split
    · rename_i hi
      have h1 := t0 i hi
      have h2 := g.sm_mono (i + 1) (by omega)
      have h3 : 0 ≤ sm tp i := sm_nonneg fun j hj => t0 j (by omega)
      rw [sm_succ] at h2
      omega
    · simp
  rw [raised_ok (n := n + 3) 0 (g.bp (by omega)) b0 (by omega) fun i hi => Nat.le_trans (zb i hi) (by omega), Res.okb]
  have er : (vec (n + 3 + 1) fun k => if k = 0 then (0 : Int) else tZ n tp (k - 1) * (b : Int) ^ (k - 1)) = vec (n + 4) (ris b (tZ n tp) 0) := rfl
  rw [er, lawagain_ok (n := n + 4) (by omega) (by omega) (fun k hk => ?_) (fun k hk => Nat.le_trans (g.rI k) (Nat.le_trans (g.bp (by omega)) (Nat.pow_le_pow_right (by decide) (by decide)))), Res.okb, over_ok (n := n + 4) (g.bp (by omega)) b0 (by omega) (by omega), Res.okb]
  · rw [rangeM1_ok ⟨by decide, by decide⟩, Res.okb]
    rw [forG_all (L := Unit) (γ := Bool) fun x hx => ?_, Res.okb, Fl.okb_out]
    · -- the entries stay, then what is spoilt
      rw [lcR_vec (h := fun i => Num.q (Rat.divInt (tp i) (b : Int))) (by omega) fun i hi => by rw [mk, Res.okb], Res.okb, catM_ok (by rw [vec_len]; simp; omega), Res.okb, vec_cons]
      have sv : sameV (vec (n + 1) ν) (vec (n + 1) fun k => if k = 0 then Num.i 0 else Num.q (Rat.divInt (tp (k - 1)) (b : Int))) := by
        unfold sameV
        rw [vec_map, vec_map]
        refine vec_ext fun k hk => ?_
        rw [hν k hk]
        unfold gV
        by_cases h : k = 0
        · rw [if_pos h, if_pos h]; rfl
        · rw [if_neg h, if_neg h]
          show _ = Rat.divInt (tp (k - 1)) (b : Int)
          rw [Rat.divInt_eq_div, cb]
      rw [Res.guard_pos sv, Res.okb, if_neg (by decide), Res.okb]
      obtain ⟨A, eA⟩ : ∃ A : Nat, A = 2 ^ 67 := ⟨_, rfl⟩
      obtain ⟨L, eL⟩ : ∃ L : Nat, L = 2 ^ 70 := ⟨_, rfl⟩
      have bA : b ≤ A := by rw [eA]; exact hb
      rw [← eL] at ch
      have AL : A + 2 * L ≤ 2 ^ 72 := by rw [eA, eL]; decide
      clear eA eL
      refine Ok.bind (Ok.forS (fun i (st : List Int) => ∃ f : Nat → Int, st = vec n f ∧ ∀ j, j < n → (f j).natAbs ≤ A + i * L) ⟨tp, rfl, fun j hj => ?_⟩ fun i x st ex ⟨f, e, hf⟩ => ?_) fun st ⟨tq, e, hf⟩ => ?_
      · have := zb j (by omega)
        unfold tZ at this
        rw [if_pos hj] at this
        omega
      · subst e
        have hx : x = 0 ∨ x = 1 := by
          have := rngI_mem (List.mem_of_getElem? ex)
          have h2 : ((2 : Int).toNat : Int) = 2 := rfl
          omega
        have pl : ∃ p : Int, atM [p1, p2] x = .ok p ∧ 0 ≤ p := by
          rcases hx with rfl | rfl
          · exact ⟨p1, atM_get (by decide) rfl, hp0⟩
          · exact ⟨p2, atM_get (by decide) rfl, hq0⟩
        obtain ⟨p, ep, p0⟩ := pl
        rw [ep, Res.okb]
        by_cases hpn : p < (n : Int)
        · obtain ⟨q, rfl⟩ := Int.eq_ofNat_of_zero_le p0
          rw [if_pos (by rw [decide_eq_true_eq]; exact hpn), Res.okb, vec_atN (by omega), Res.okb]
          refine Ok.bind (ch x hx) fun z hz => ?_
          rw [Res.okb, vec_put (by omega) (by omega)]
          refine .ok ⟨_, rfl, fun j hj => ?_⟩
          split
          · have := hf q (by omega)
            have := Int.natAbs_add_le (f q) z
            rw [Nat.succ_mul]
            omega
          · have := hf j hj
            rw [Nat.succ_mul]
            omega
        · rw [if_neg (by rw [decide_eq_true_eq]; exact hpn)]
          exact .ok ⟨f, rfl, fun j hj => by have := hf j hj; rw [Nat.succ_mul]; omega⟩
      · subst e
        have s2 : SP n b tq := ⟨hn, b0, hb, fun i hi => Nat.le_trans (hf i hi) (by rw [rngI_len]; exact AL)⟩
        have spl : ∀ (x : Num), m_law_outcome ([x] ++ (vec n fun i => Num.q (Rat.divInt (tq i) (b : Int)))) = m_law_outcome (vec (n + 1) fun k => if k = 0 then x else Num.q (Rat.divInt (tq (k - 1)) (b : Int))) := fun x => by rw [vec_cons]
        have h0 : ∀ k, k < n + 1 → ((fun k => if k = 0 then Num.i 0 else Num.q (Rat.divInt (tq (k - 1)) (b : Int))) k).val = gV b tq k := fun k hk => by
          unfold gV
          dsimp only
          by_cases h : k = 0
          · rw [if_pos h, if_pos h]; rfl
          · rw [if_neg h, if_neg h]
            show Rat.divInt (tq (k - 1)) (b : Int) = _
            rw [Rat.divInt_eq_div, cb]
        have main : ∃ (s : Str) (i : Int), m_law_due (vec n tq) (b : Int) = .ok (if s = ("web" : Str) then i else 0) ∧ m_law_outcome (vec (n + 1) fun k => if k = 0 then Num.i 0 else Num.q (Rat.divInt (tq (k - 1)) (b : Int))) = .ok (s, i, ()) ∧ ((s = ("web" : Str) ∧ 0 < i) ∨ (s = ("none" : Str) ∧ i = 0)) := by
          cases hq : (List.range n).find? (badK b tq) with
          | some k =>
            obtain ⟨k1, k2, k3⟩ := find_some hq
            exact ⟨"web", (k : Int) + 1, by rw [due_hit hn k1 k2 k3, if_pos rfl], out_web (delay_err s2 h0 k1 k2 k3), .inl ⟨rfl, by omega⟩⟩
          | none =>
            have nb := find_none hq
            exact ⟨"none", 0, by rw [due_ok hn nb]; rfl, out_none (delay_ok (tb_of s2 nb) h0), .inr ⟨rfl, rfl⟩⟩
        obtain ⟨s, i, e1, e2, e3⟩ := main
        rw [e1, Res.okb, lcR_vec (h := fun i => Rat.divInt (tq i) (b : Int)) (by omega) fun i hi => mk _, Res.okb]
        have em : (vec n fun i => Rat.divInt (tq i) (b : Int)).map Num.q = vec n fun i => Num.q (Rat.divInt (tq i) (b : Int)) := vec_map _
        rw [em, catM_ok (by rw [vec_len]; simp; omega), Res.okb, spl, e2, Res.okb]
        have e4 : (if decide ((if s = ("web" : Str) then i else 0) > 0) = true then Res.ok (("web" : Str), (if s = ("web" : Str) then i else 0), ()) else Res.ok (("none" : Str), (0 : Int), ()) : Res (Str × Int × Unit)) = .ok (s, i, ()) := by
          rcases e3 with ⟨rfl, h⟩ | ⟨rfl, rfl⟩
          · rw [if_pos rfl, if_pos (by rw [decide_eq_true_eq]; exact h)]
          · rfl
        rw [e4, Res.okb, eqD_sp (by rcases e3 with ⟨h, _⟩ | ⟨h, _⟩ <;> simp [h]), Res.okb, if_neg (by decide)]
        rw [catM_ok (by rw [vec_len]; simp; omega), Res.okb, spl, out_read (start_ok (.inr ⟨odd, _, vec_head1, o0⟩)), Res.okb, eqD_sp (.inr (.inr rfl)), Res.okb, if_pos rfl, out_read (start_ok (.inl rfl)), Res.okb, eqD_sp (.inr (.inr rfl))]
        exact .ok rfl
    · rw [dl, Res.okb, described_ok g, Res.okb, if_neg (by decide)]
      rw [show (n : Int) + 3 = ((n + 3 : Nat) : Int) by omega, readings1_ok g (by omega) (by omega) (by omega) (by omega), Res.okb, if_neg (by decide), Res.okb, vec_len, vec_len, if_neg (by simp; omega), rangeM1_ok ⟨by omega, by omega⟩, Res.okb]
      rw [forG_all (L := Unit) (γ := Bool) fun y hy => ?_, Res.okb, Fl.okb_nx]
      obtain ⟨y1, y2⟩ := rngI_mem hy
      obtain ⟨k, rfl⟩ := Int.eq_ofNat_of_zero_le y1
      have hk : k < n + 4 := by omega
      have bk := g.bp (t := k) (by omega)
      rw [vec_atN (show k < n + 3 + 1 by omega), Res.okb, vec_atN hk, Res.okb]
      have bk' : ((b : Int) ^ k).natAbs ≤ 2 ^ 1400 := by rw [Int.natAbs_pow, Int.natAbs_natCast]; exact bk
      rw [lawis_ok ((g.rfx k).fits (a := 1400) (b := 0) bk (by decide) (by decide)) (Nat.le_trans (g.rI k) (Nat.le_trans bk (Nat.pow_le_pow_right (by decide) (by decide)))) (Nat.le_trans bk' (Nat.pow_le_pow_right (by decide) (by decide))) (Int.pow_pos (by omega)), Res.okb]
      have ek : decide (rdsQ (fR n b tp) k = ((rdsI (ris b (tZ n tp) 0) k : Int) : Rat) / (((b : Int) ^ k : Int) : Rat)) = true := by
        rw [decide_eq_true_eq, rds_fR g]
        unfold ovp
        congr 1
        push_cast; rfl
      rw [ek, if_neg (by decide)]
  · unfold ris
    split
    · simp
    · rw [Int.natAbs_mul, Int.natAbs_pow, Int.natAbs_natCast]
      refine Nat.le_trans (Nat.mul_le_mul (zb (k - 1) (by omega)) (g.bp (t := k - 1) (by omega))) ?_
      refine Nat.le_trans (Nat.mul_le_mul_right _ hb) ?_
      rw [← Nat.pow_add]
      exact Nat.pow_le_pow_right (by decide) (by decide)
end L2.Tr

namespace L2.Tr
open PySem PySem.Spec PyProof.Rows He
def fs : List FB := [fGlo "_law_tape", fKeep "_law_tape", fGlo "_law_pick", fKeep "_law_pick", fGlo "Fraction", fMkr "Fraction", fGlo "_law_tops", fKeep "_law_tops", fGlo "_law_raised", fKeep "_law_raised", fGlo "_law_again", fKeep "_law_again", fGlo "_law_over_powers", fKeep "_law_over_powers", fFree "range", fGlo "delay_row", fKeep "delay_row", fGlo "_law_described", fKeep "_law_described", fOcl "OneWay", fMeth "OneWay" "readings", fFree "list", fFree "isinstance", fFree "len", fGlo "_law_is", fKeep "_law_is", fOcl "Fraction", fNf "Fraction", fOMet "Fraction" "__eq__", fGlo "_law_due", fKeep "_law_due", fGlo "_law_outcome", fKeep "_law_outcome", fFree "abs", fFree "int", fFree "sum", fGlo "as_fraction", fKeep "as_fraction", fExc "BadReadings", fGlo "check_returns", fKeep "check_returns", fFree "max", fGlo "OneWay", fMkr "OneWay", fKitI "int" "Fraction" false, fKit "Fraction" "Fraction" true, fNoat "Fraction" "bottom", fNoat "Fraction" "top", fKitT "Fraction" "int" false, fOMet "Fraction" "__add__", fOMet "Fraction" "__radd__", fIntM "__add__", fIntM "__radd__", fOMet "Fraction" "__lt__", fOMet "Fraction" "__gt__", fExcV "NoWeb" ["tick"], fFree "any", fGlo "total_of", fKeep "total_of", fNoat "OneWay" "rows", fNoat "OneWay" "rooms", fExcV "BadWeb" ["reason"], fKit "OneWay" "OneWay" true, fMeth "OneWay" "table", fFree "bool", fOMet "Fraction" "__mul__", fExcV "BadTick" ["tick"], fExm "NoWeb" "NoWeb" true, fExm "BadReadings" "NoWeb" false, fGlo "NoWeb", fGlo "TracerError", fKit "NoWeb" "TracerError" true, fExcC "NoWeb", fFree "ValueError", fKitT "NoWeb" "ValueError" true, fGlo "BadReadings", fKit "NoWeb" "BadReadings" false, fExm "BadReadings" "BadReadings" true, fKit "BadReadings" "TracerError" true, fExcC "BadReadings", fKitT "BadReadings" "ValueError" true, fGlo "law", fExc "BadFraction", fGlo "common_divisor", fKeep "common_divisor"]
def fnl : List DX := [⟨fun K => (He.ga K "_law_tape"), "_law_tape", "_law_tape", defArgs s_law_tape, defBody s_law_tape, defScope s_law_tape, [], []⟩,
  ⟨fun K => (He.ga K "_law_pick"), "_law_pick", "_law_pick", defArgs s_law_pick, defBody s_law_pick, defScope s_law_pick, [], []⟩,
  ⟨fun K => (He.ga K "common_divisor"), "common_divisor", "common_divisor", defArgs s_common_divisor, defBody s_common_divisor, defScope s_common_divisor, [], []⟩,
  ⟨fun K => (He.ga K "_law_tops"), "_law_tops", "_law_tops", defArgs s_law_tops, defBody s_law_tops, defScope s_law_tops, [], []⟩,
  ⟨fun K => (He.ga K "_law_raised"), "_law_raised", "_law_raised", defArgs s_law_raised, defBody s_law_raised, defScope s_law_raised, [], []⟩,
  ⟨fun K => (He.ga K "_law_again"), "_law_again", "_law_again", defArgs s_law_again, defBody s_law_again, defScope s_law_again, [], []⟩,
  ⟨fun K => (He.ga K "_law_over_powers"), "_law_over_powers", "_law_over_powers", defArgs s_law_over_powers, defBody s_law_over_powers, defScope s_law_over_powers, [], []⟩,
  ⟨fun K => (He.ga K "as_fraction"), "as_fraction", "as_fraction", defArgs s_as_fraction, defBody s_as_fraction, defScope s_as_fraction, [], []⟩,
  ⟨fun K => (He.ma K (He.ga K "Fraction") "__eq__"), "__eq__", "Fraction.__eq__", defArgs s_Fraction_eq, defBody s_Fraction_eq, defScope s_Fraction_eq, [], []⟩,
  ⟨fun K => (He.ma K (He.ga K "Fraction") "__add__"), "__add__", "Fraction.__add__", defArgs s_Fraction_add, defBody s_Fraction_add, defScope s_Fraction_add, [], []⟩,
  ⟨fun K => (He.ma K (He.ga K "Fraction") "__lt__"), "__lt__", "Fraction.__lt__", defArgs s_Fraction_lt, defBody s_Fraction_lt, defScope s_Fraction_lt, [], []⟩,
  ⟨fun K => (He.ma K (He.ga K "Fraction") "__gt__"), "__gt__", "Fraction.__gt__", defArgs s_Fraction_gt, defBody s_Fraction_gt, defScope s_Fraction_gt, [], []⟩,
  ⟨fun K => (He.ma K (He.ga K "NoWeb") "__init__"), "__init__", "NoWeb.__init__", defArgs s_NoWeb_init, defBody s_NoWeb_init, defScope s_NoWeb_init, [], []⟩,
  ⟨fun K => (He.ga K "check_returns"), "check_returns", "check_returns", defArgs s_check_returns, defBody s_check_returns, defScope s_check_returns, [], []⟩,
  ⟨fun K => (He.ma K (He.ga K "BadWeb") "__init__"), "__init__", "BadWeb.__init__", defArgs s_BadWeb_init, defBody s_BadWeb_init, defScope s_BadWeb_init, [], []⟩,
  ⟨fun K => (He.ga K "total_of"), "total_of", "total_of", defArgs s_total_of, defBody s_total_of, defScope s_total_of, [], []⟩,
  ⟨fun K => (He.ma K (He.ga K "OneWay") "__init__"), "__init__", "OneWay.__init__", defArgs s_OneWay_init, defBody s_OneWay_init, defScope s_OneWay_init, [], []⟩,
  ⟨fun K => (He.ga K "delay_row"), "delay_row", "delay_row", defArgs s_delay_row, defBody s_delay_row, defScope s_delay_row, [], []⟩,
  ⟨fun K => (He.ma K (He.ga K "OneWay") "table"), "table", "OneWay.table", defArgs s_OneWay_table, defBody s_OneWay_table, defScope s_OneWay_table, [], []⟩,
  ⟨fun K => (He.ga K "_law_is"), "_law_is", "_law_is", defArgs s_law_is, defBody s_law_is, defScope s_law_is, [], []⟩,
  ⟨fun K => (He.ga K "_law_described"), "_law_described", "_law_described", defArgs s_law_described, defBody s_law_described, defScope s_law_described, [], []⟩,
  ⟨fun K => (He.ma K (He.ga K "BadTick") "__init__"), "__init__", "BadTick.__init__", defArgs s_BadTick_init, defBody s_BadTick_init, defScope s_BadTick_init, [], []⟩,
  ⟨fun K => (He.ma K (He.ga K "Fraction") "__mul__"), "__mul__", "Fraction.__mul__", defArgs s_Fraction_mul, defBody s_Fraction_mul, defScope s_Fraction_mul, [], []⟩,
  ⟨fun K => (He.ma K (He.ga K "OneWay") "readings"), "readings", "OneWay.readings", defArgs s_OneWay_readings, defBody s_OneWay_readings, defScope s_OneWay_readings, [], []⟩,
  ⟨fun K => (He.ga K "_law_due"), "_law_due", "_law_due", defArgs s_law_due, defBody s_law_due, defScope s_law_due, [], []⟩,
  ⟨fun K => (He.ga K "_law_outcome"), "_law_outcome", "_law_outcome", defArgs s_law_outcome, defBody s_law_outcome, defScope s_law_outcome, [], []⟩,
  ⟨fun K => (He.ga K "law"), "law", "law", defArgs s_law, defBody s_law, defScope s_law, [], []⟩,
  ⟨fun K => (He.ma K (He.ga K "Fraction") "__init__"), "__init__", "Fraction.__init__", defArgs s_Fraction_init, defBody s_Fraction_init, defScope s_Fraction_init, [.int 1], []⟩]
def tbs : List He.Tab := []
theorem txt_of {w : World} {K : PySem.W.Frag} {mg : Str → Option Value} {h : Heap} (KX : K.In h) (G : h.Ns mainGlobals mg) (c : SaysZ fs fnl tbs w K) : Txt w K mg where
  g_law_tape := glo_of KX G (c.fact 0)
  k_law_tape := (c.fact 1)
  g_law_pick := glo_of KX G (c.fact 2)
  k_law_pick := (c.fact 3)
  g_Fraction := glo_of KX G (c.fact 4)
  mk_Fraction := mkr_of (c.fact 5)
  g_law_tops := glo_of KX G (c.fact 6)
  k_law_tops := (c.fact 7)
  g_law_raised := glo_of KX G (c.fact 8)
  k_law_raised := (c.fact 9)
  g_law_again := glo_of KX G (c.fact 10)
  k_law_again := (c.fact 11)
  g_law_over_powers := glo_of KX G (c.fact 12)
  k_law_over_powers := (c.fact 13)
  n_range := free_of KX G (c.fact 14)
  g_delay_row := glo_of KX G (c.fact 15)
  k_delay_row := (c.fact 16)
  g_law_described := glo_of KX G (c.fact 17)
  k_law_described := (c.fact 18)
  o_OneWay := ocl_of (c.fact 19)
  me_OneWay_readings := meth_of (c.fact 20)
  n_list := free_of KX G (c.fact 21)
  n_isinstance := free_of KX G (c.fact 22)
  n_len := free_of KX G (c.fact 23)
  g_law_is := glo_of KX G (c.fact 24)
  k_law_is := (c.fact 25)
  o_Fraction := ocl_of (c.fact 26)
  nf_Fraction := nf_of (c.fact 27)
  om_Fraction_eq := omet_of (c.fact 28)
  g_law_due := glo_of KX G (c.fact 29)
  k_law_due := (c.fact 30)
  g_law_outcome := glo_of KX G (c.fact 31)
  k_law_outcome := (c.fact 32)
  n_abs := free_of KX G (c.fact 33)
  F_law_tape := c.def_ 0
  n_int := free_of KX G (c.fact 34)
  F_law_pick := c.def_ 1
  F_common_divisor := c.def_ 2
  F_law_tops := c.def_ 3
  F_law_raised := c.def_ 4
  n_sum := free_of KX G (c.fact 35)
  F_law_again := c.def_ 5
  F_law_over_powers := c.def_ 6
  g_as_fraction := glo_of KX G (c.fact 36)
  k_as_fraction := (c.fact 37)
  ex_BadReadings := exc_of KX G (c.fact 38)
  g_check_returns := glo_of KX G (c.fact 39)
  k_check_returns := (c.fact 40)
  n_max := free_of KX G (c.fact 41)
  g_OneWay := glo_of KX G (c.fact 42)
  mk_OneWay := mkr_of (c.fact 43)
  kI_int_Fraction := kitI_of (c.fact 44)
  kt_Fraction_Fraction := kit_of' (c.fact 45)
  F_as_fraction := c.def_ 7
  na_Fraction_bottom := noat_of (c.fact 46)
  na_Fraction_top := noat_of (c.fact 47)
  kT_Fraction_int := kitT_of (c.fact 48)
  F_Fraction_eq := c.def_ 8
  om_Fraction_add := omet_of (c.fact 49)
  om_Fraction_radd := omet_of (c.fact 50)
  im_add := intM_of (c.fact 51)
  im_radd := intM_of (c.fact 52)
  om_Fraction_lt := omet_of (c.fact 53)
  om_Fraction_gt := omet_of (c.fact 54)
  F_Fraction_add := c.def_ 9
  F_Fraction_lt := c.def_ 10
  F_Fraction_gt := c.def_ 11
  F_NoWeb_init := c.def_ 12
  ev_NoWeb := excV_of KX G (c.fact 55)
  F_check_returns := c.def_ 13
  n_any := free_of KX G (c.fact 56)
  g_total_of := glo_of KX G (c.fact 57)
  k_total_of := (c.fact 58)
  na_OneWay_rows := noat_of (c.fact 59)
  na_OneWay_rooms := noat_of (c.fact 60)
  F_BadWeb_init := c.def_ 14
  ev_BadWeb := excV_of KX G (c.fact 61)
  F_total_of := c.def_ 15
  F_OneWay_init := c.def_ 16
  F_delay_row := c.def_ 17
  kt_OneWay_OneWay := kit_of' (c.fact 62)
  me_OneWay_table := meth_of (c.fact 63)
  F_OneWay_table := c.def_ 18
  n_bool := free_of KX G (c.fact 64)
  F_law_is := c.def_ 19
  F_law_described := c.def_ 20
  om_Fraction_mul := omet_of (c.fact 65)
  F_BadTick_init := c.def_ 21
  ev_BadTick := excV_of KX G (c.fact 66)
  F_Fraction_mul := c.def_ 22
  F_OneWay_readings := c.def_ 23
  F_law_due := c.def_ 24
  xm_NoWeb_NoWeb := exm_of (c.fact 67)
  xm_BadReadings_NoWeb := exm_of (c.fact 68)
  g_NoWeb := glo_of KX G (c.fact 69)
  g_TracerError := glo_of KX G (c.fact 70)
  kt_NoWeb_TracerError := kit_of' (c.fact 71)
  xc_NoWeb := excC_of (c.fact 72)
  n_ValueError := free_of KX G (c.fact 73)
  kT_NoWeb_ValueError := kitT_of (c.fact 74)
  g_BadReadings := glo_of KX G (c.fact 75)
  kt_NoWeb_BadReadings := kit_of' (c.fact 76)
  xm_BadReadings_BadReadings := exm_of (c.fact 77)
  kt_BadReadings_TracerError := kit_of' (c.fact 78)
  xc_BadReadings := excC_of (c.fact 79)
  kT_BadReadings_ValueError := kitT_of (c.fact 80)
  F_law_outcome := c.def_ 25
  F_law := c.def_ 26
  g_law := glo_of KX G (c.fact 81)
  F_Fraction_init := c.def_ 27
  ex_BadFraction := exc_of KX G (c.fact 82)
  g_common_divisor := glo_of KX G (c.fact 83)
  k_common_divisor := (c.fact 84)
theorem all_of {P : Program} {w : World} {K : PySem.W.Frag} {mg : Str → Option Value} {base : Heap} (T : Txt w K mg) {fd : FuncData} (F : FunD K "law" "law" (defArgs s_law) (defBody s_law) (defScope s_law) [] [] (He.ga K "law") fd) : FnOk P w K mg base (L2N.CX P w) 11 (He.ga K "law") fd ["_law_script"] (spF K (aCons (rdL K (rp rInt)) aNil) (fun d => m_law d.1) (rp rBl)) := by
  have c_law_tape : C_law_tape P w K mg base := fn_law_tape T
  have c_law_pick : C_law_pick P w K mg base := fn_law_pick T
  have c_common_divisor : C_common_divisor P w K mg base := FnR.nice (fn_common_divisor T) nice_common_divisor
  have c_Fraction_2 : C_Fraction_2 P w K mg base := fn_Fraction_2 T c_common_divisor
  have c_law_tops : C_law_tops P w K mg base := fn_law_tops T c_law_pick
  have c_law_raised : C_law_raised P w K mg base := fn_law_raised T
  have c_law_again : C_law_again P w K mg base := fn_law_again T
  have c_law_over_powers : C_law_over_powers P w K mg base := fn_law_over_powers T
  have c_Fraction_1 : C_Fraction_1 P w K mg base := fn_Fraction_1 T c_common_divisor
  have c_as_fraction : C_as_fraction P w K mg base := FnR.nice (fn_as_fraction T c_Fraction_1) nice_as_fraction
  have c_Fraction_eq : C_Fraction_eq P w K mg base := FnR.nice (fn_Fraction_eq T) nice_Fraction_eq
  have c_Fraction_add : C_Fraction_add P w K mg base := FnR.nice (fn_Fraction_add T c_Fraction_2) nice_Fraction_add
  have c_Fraction_lt : C_Fraction_lt P w K mg base := FnR.nice (fn_Fraction_lt T) nice_Fraction_lt
  have c_Fraction_gt : C_Fraction_gt P w K mg base := FnR.nice (fn_Fraction_gt T) nice_Fraction_gt
  have c_err_NoWeb : C_err_NoWeb P w K mg base := fn_err_NoWeb T
  have c_check_returns : C_check_returns P w K mg base := fn_check_returns T c_Fraction_1 c_Fraction_add c_Fraction_lt c_Fraction_gt c_err_NoWeb
  have c_err_BadWeb : C_err_BadWeb P w K mg base := fn_err_BadWeb T
  have c_total_of : C_total_of P w K mg base := fn_total_of T c_Fraction_1 c_Fraction_add
  have c_OneWay_1 : C_OneWay_1 P w K mg base := fn_OneWay_1 T c_err_BadWeb c_as_fraction c_Fraction_lt c_total_of c_Fraction_gt
  have c_delay_row : C_delay_row P w K mg base := fn_delay_row T c_as_fraction c_Fraction_eq c_check_returns c_Fraction_1 c_OneWay_1
  have c_delay_row_0_returns : C_delay_row_0_returns P w K mg base := fn_delay_row_0_returns T c_as_fraction c_Fraction_eq c_check_returns c_Fraction_1 c_OneWay_1
  have c_OneWay_table : C_OneWay_table P w K mg base := fn_OneWay_table T
  have c_law_is : C_law_is P w K mg base := fn_law_is T
  have c_law_described : C_law_described P w K mg base := fn_law_described T c_OneWay_table c_law_is
  have c_err_BadTick : C_err_BadTick P w K mg base := fn_err_BadTick T
  have c_Fraction_mul : C_Fraction_mul P w K mg base := FnR.nice (fn_Fraction_mul T c_Fraction_2) nice_Fraction_mul
  have c_OneWay_readings : C_OneWay_readings P w K mg base := fn_OneWay_readings T c_err_BadTick c_Fraction_1 c_Fraction_mul c_total_of
  have c_law_due : C_law_due P w K mg base := fn_law_due T
  have c_law_outcome : C_law_outcome P w K mg base := fn_law_outcome T c_delay_row
  exact fn_law T c_law_tape c_law_pick c_Fraction_2 c_law_tops c_law_raised c_law_again c_law_over_powers c_delay_row_0_returns c_law_described c_OneWay_readings c_law_is c_Fraction_eq c_law_due c_law_outcome F
theorem law_end {P : Program} {w : World} {K : PySem.W.Frag} {mg : Str → Option Value} {h : Heap} {fa : Addr} (KX : K.In h) (hmg : mg ("law" : Str) = some (.ref fa)) (T : Txt w K mg) :
    ∃ (K : PySem.W.Frag) (fd : FuncData) (sp : Sp), K.In h ∧ (∀ (s : Shared) (u : Value), BindsTo s fd ⟨[u], []⟩ [(("_law_script" : Str), u)]) ∧
        (∀ (H : Hp) (a : Addr) (ns : List Int), ns.length ≤ 63 → Only H → SqL K H a (ns.map V.int) → sp [.ref a] H (fun v _ => v = .bl true) fun _ _ _ => False) ∧
        ∀ base : Heap, K.In base → base.Ns mainGlobals mg → FnOk P w K mg base CX0 11 fa fd ["_law_script"] sp := by
  obtain ⟨fd, F⟩ := T.F_law
  have e := hmg.symm.trans T.g_law
  cases e
  have b := FunD.bindsA (ps := ["_law_script"]) F fun _ _ _ _ _ _ us hl => match us, hl with | [_], _ => rfl
  refine ⟨K, fd, (fun vs H Q _ => spF K (aCons (rdL K (rp rInt)) aNil) (fun d => m_law d.1) (rp rBl) vs H Q fun _ _ _ => False), KX, fun s u => b s [u] rfl, fun H a ns hl _ hS => ⟨fun _ => none, (ns, ()), (fun b o e => nomatch e), ⟨.ref a, [], rfl, ⟨a, ns.map V.int, rfl, hS, paired_ints _ _ ns⟩, rfl⟩, ?_⟩, fun base _ _ => FnOk.no (all_of T F)⟩
  show PostE K (m_law ns) _ _ _ _ _
  rw [law_ok ns hl]
  exact fun I' H' v _ r => r
abbrev RR : PySem.W.OpenRow := PySem.W.OpenLaw.row PySem.Challenge.rw_tracerline_k79_delay_rows
abbrev hk : PySem.W.Hook := hookA [3, 31, 44, 56, 75, 94, 113, 122, 252, 263, 270, 295, 306, 311, 318, 325, 332, 344, 351, 361, 368, 375, 382, 389, 394, 30, 43, 55, 74, 93, 112, 121, 251, 262, 269, 294, 305, 310, 317, 324, 331, 343, 350, 360, 367, 374, 381, 388, 393, 72, 91, 110, 137, 144, 151, 172, 207, 214, 228, 282, 287, 292, 71, 90, 109, 136, 130, 143, 171, 206, 213, 227, 281, 286, 291] fs fnl tbs
def ob (s : PySem.W.SharedT) : AlZ := obsZ fs fnl tbs (frG (HandSHeadRun.getT s) [3, 31, 44, 56, 75, 94, 113, 122, 252, 263, 270, 295, 306, 311, 318, 325, 332, 344, 351, 361, 368, 375, 382, 389, 394, 30, 43, 55, 74, 93, 112, 121, 251, 262, 269, 294, 305, 310, 317, 324, 331, 343, 350, 360, 367, 374, 381, 388, 393, 72, 91, 110, 137, 144, 151, 172, 207, 214, 228, 282, 287, 292, 71, 90, 109, 136, 130, 143, 171, 206, 213, 227, 281, 286, 291])
theorem ob_eq (s : PySem.W.SharedT) : ob s = hk.obs s.abs := obsA_eq (HandSHeadRun.getT_eq s)
def names : List PySem.Str := ((["_wall", "__name__", "TracerError", "BadFraction", "BadReadings", "BadTick", "BadWeb", "NoWeb", "common_divisor", "Fraction", "as_fraction", "total_of", "OneWay", "check_returns", "delay_row", "_law_tape", "_law_pick", "_law_is", "_law_flat", "_law_raised", "_law_over_powers", "_law_first", "_law_again", "_law_tops", "_law_described", "_law_outcome", "_law_due"] : List PySem.Str))
set_option maxHeartbeats 0 in
theorem run (w : World) : HandSHeadRun.RunEq RR (PySem.W.view RR.prog [30]) hk ob 20000 names w := by
  intro os
  kernel_rfl
end L2.Tr
open PySem PySem.W PySem.Calls PyProof.Rows
set_option maxHeartbeats 0 in
theorem PySem.Challenge.cw_tracerline_k79_delay_rows_holds : PySem.Challenge.rw_tracerline_k79_delay_rows.Holds := by
  w_on; o_law
  refine HandSHeadRun.head_any (r := OpenLaw.row PySem.Challenge.rw_tracerline_k79_delay_rows) (q := view (OpenLaw.row PySem.Challenge.rw_tracerline_k79_delay_rows).prog [30]) (H := L2.Tr.hk) (ob := L2.Tr.ob) (M := 20000) (loose := L2.Tr.names) (d := HandSHeadRun.topDef (OpenLaw.row PySem.Challenge.rw_tracerline_k79_delay_rows).prog 30) (kwd := []) L2.Tr.ob_eq
    (by kernel_rfl) (fun s => by kernel_rfl) L2.Tr.run (by kernel_rfl) (by kernel_rfl) (by kernel_rfl) (by rfl) (by first | assumption | decide +kernel) (by decide +kernel) ⟨rfl, rfl, rfl, rfl, rfl, by decide +kernel⟩ ?hw ?hc
  case hw => w_witness2
  case hc =>
    refine L2.walk_ofE (l := PySem.Challenge.rw_tracerline_k79_delay_rows) (n := 63) (k := 11) (x := "_law_script") (CX := L2.CX0) rfl (by decide) (by kernel_rfl) ⟨rfl, by decide, by decide⟩ ?F (fun _ _ _ _ z => z)
    intro w mg fa h Y G hmg0
    obtain ⟨K, KX, c⟩ := Y
    have hmg : mg ("law" : PySem.Str) = some (.ref fa) := by
      have e : (HandSHeadRun.topDef (OpenLaw.row PySem.Challenge.rw_tracerline_k79_delay_rows).prog 30).name = ("law" : PySem.Str) := by kernel_rfl
      rw [← e]
      exact hmg0
    have T := L2.Tr.txt_of KX G c
    exact L2.Tr.law_end (P := (PySem.Challenge.rw_tracerline_k79_delay_rows).prog) (w := w) KX hmg T

