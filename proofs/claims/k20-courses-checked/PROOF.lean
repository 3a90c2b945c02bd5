import PyProof.Rows.All
import Wide.All
import OpenK.AllK
import Wide.FinOn
import HandS.Wide
import HandS.TupAny
import HandS.Style
import KE.KRevSl
import PyProof.Rows.IntBool
import HandS.TryMany
import HandS.ExcIs
import HandS.ForMost
import HandS.IsInst
import HandS.Defaults
import HandS.AnyAll
import HandS.TupLe
import HandS.TupMul
import HandS.Deep
import HandS.WordsDict
import HandS.More
import HandS.GenList
import HandS.HeadHook4
import HandS.ExcField
import HandS.Exc
import HandS.ExcInit
import HandS.NoneIn
import HandS.Zip
import HandS.Conv
import HandS.TryOnly
import HandS.Head0
import HandS.Head1
import HandS.Head2
import HandS.HeadEnd
import HandS.HeadWalk
import KE.KStateDown
import PySem.Challenge.RW_earlyback_k20_courses_checked
set_option Elab.async false
set_option linter.all false
set_option maxRecDepth 100000
set_option maxHeartbeats 4000000
namespace Ev
open PySem PySem.Spec PyProof.Rows L2 HT
/-! ## tuple[::-1] -/
theorem places_back (n : Nat) : Builtin.Slice.slicePlaces ((n : Int) - 1) (-1) (-1) = n := by
  unfold Builtin.Slice.slicePlaces
  have h1 : ¬ ((-1 : Int) > 0) := by omega
  simp only [h1, if_false]
  have e : (- -1 : Int) = 1 := by decide
  rw [e, Int.ediv_one]
  split <;> omega
theorem pick_back (xs : Array Value) : ((List.range xs.size).filterMap fun (m : Nat) => xs[((xs.size : Int) - 1 + (m : Int) * (-1)).toNat]?).toArray = xs.toList.reverse.toArray := by
  have e : (fun (m : Nat) => xs[((xs.size : Int) - 1 + (m : Int) * (-1)).toNat]?) = fun m => xs[(xs.size - 1 - m : Nat)]? := by
    funext m
    by_cases h : m < xs.size
    · have : ((xs.size : Int) - 1 + (m : Int) * (-1)).toNat = xs.size - 1 - m := by omega
      rw [this]
    · have : ((xs.size : Int) - 1 + (m : Int) * (-1)).toNat = xs.size - 1 - m := by omega
      rw [this]
  have f : (fun m => xs[(xs.size - 1 - m : Nat)]?) = (xs[·]?) ∘ fun k => xs.size - 1 - k := rfl
  rw [e, f, ← List.filterMap_map, PySem.W.krv_range, List.filterMap_reverse, PySem.W.krv_all]
section
variable {prog : Program} {w : World} {A : Around} {E : Value → Shared → Prop} {s : Shared}
theorem sliceApplied_back {sl : Addr} {vs : Value} {n : Nat} {Q : Int × Int × Nat → Shared → Prop} (hs : s.heap.IsSliceOf sl .none .none vs) (ps : IsPart vs (some (-1)))
    (h : Q ((n : Int) - 1, -1, n) s) : wpAny (model prog w) A (Builtin.Slice.sliceApplied (.ref sl) (pure (n : Int))) Q E s := by
  obtain ⟨os, hos, hcs, hds⟩ := id hs
  unfold Builtin.Slice.sliceApplied Builtin.Slice.sliceFields
  refine wpAny_bind (wpAny_bind (wpAny_field hos hds (x := .none) rfl (wpAny_bind (wpAny_field hos hds (x := .none) rfl (wpAny_bind (wpAny_field hos hds (x := vs) rfl (wpAny_pure ?_)))))))
  refine wpAny_bind (slicePart_ ps ?_)
  show wpAny _ _ (if ((-1 : Int) == 0) = true then _ else _) _ _ s
  rw [if_neg (by decide)]
  refine wpAny_bind (slicePart_none (wpAny_bind (slicePart_none (wpAny_bind (wpAny_pure ?_)))))
  show wpAny _ _ (pure ((n : Int) - 1, (-1 : Int), Builtin.Slice.slicePlaces ((n : Int) - 1) (-1) (-1))) _ _ s
  rw [places_back]
  exact wpAny_pure h
theorem getItem_tuple_rev {t sl : Addr} {items : Array Value} {vs : Value} {Q : Value → Shared → Prop} (ht : IsTup s.heap t items) (hs : s.heap.IsSliceOf sl .none .none vs) (ps : IsPart vs (some (-1)))
    (h : Q (.ref s.heap.objs.size) { s with heap := s.heap.push { cls := .type "tuple", data := .seq items.toList.reverse.toArray } })
    (hsz : items.size ≤ sizeLine) : wpAny (model prog w) A (getItem (.ref t) (.ref sl)) Q E s := by
  have htake : sizeOk (.seq items.toList.reverse.toArray) := by
    show items.toList.reverse.toArray.size ≤ sizeLine
    rw [List.size_toArray, List.length_reverse, Array.length_toList]
    omega
  obtain ⟨os, hos, hcs, hds⟩ := id hs
  have hTs : s.TypeIs (.ref sl) "slice" := ⟨os, hos, hcs⟩
  unfold getItem
  try with_reducible refine wpAny_holding ?_
  first | refine wpAny_bind (wpAny_pure ?_) | skip
  refine wpAny_bind (wpAny_sequenceKey ht.typeIs (by decide) ?_)
  refine wpAny_bind (wpAny_callSpecial?_slot (name := Str.ofString "__getitem__") ht.typeIs PyProof.Rows.slot_tuple_getitem
    (wpAny_call_entry PyProof.Rows.slot_tuple_getitem ht.typeIs entry_tuple_getitem ?_ (args_tuple_getitem _ _)))
  show wpAny _ _ (Builtin.Tuple.tupleItemsOf (.ref t) >>= _) _ _ s
  refine wpAny_bind (tupleItemsOf_ ht ?_)
  refine wpAny_bind (wpAny_typeOf hTs ?_)
  rw [if_pos (by decide)]
  refine wpAny_bind (sliceApplied_back hs ps ?_)
  have hno : ¬ ((((items.size : Int) - 1) == 0 && (-1 : Int) == 1 && items.size == items.size) = true) := by
    intro q
    rw [Bool.and_eq_true, Bool.and_eq_true] at q
    exact absurd q.1.2 (by decide)
  show wpAny _ _ (if (((items.size : Int) - 1) == 0 && (-1 : Int) == 1 && items.size == items.size) = true then _ else _) _ _ s
  rw [if_neg hno, pick_back]
  first
    | exact wpAny_bind (m := Builtin.Tuple.tupleExact _) (wpAny_newObj_type (wpAny_pure ⟨_, rfl, wpAny_pure h⟩) htake)
    | exact wpAny_bind (m := Builtin.Tuple.tupleExact _) (wpAny_newObj_type (wpAny_bind (wpAny_pure (wpAny_pure ⟨_, rfl, wpAny_pure h⟩))) htake)
    | exact wpAny_bind (wpAny_bind (m := Builtin.Tuple.tupleExact _) (wpAny_newObj_type (wpAny_pure (wpAny_pure ⟨_, rfl, wpAny_pure h⟩)) htake))
    | exact wpAny_bind (wpAny_bind (m := Builtin.Tuple.tupleExact _) (wpAny_newObj_type (wpAny_pure ⟨_, rfl, wpAny_pure h⟩) htake))
end
section
variable {X : Cx}
def tRevT (K : PySem.W.Frag) (te : TE) : TE := fun σ H Q => te σ H fun x H1 => ∃ a xs, x = .ref a ∧ SqT K H1 a xs ∧ ∀ p, H1 p = none → Q (.ref p) (upd H1 p (.tup xs.reverse))
theorem pe_revT {e : Expr} {te : TE} {k : Nat} {p1 p2 p3 pos : Pos} (he : PE X e te) : PE X (.Subscript e (.Slice none none (some (.UnaryOp .USub (.Constant (.int 1) k p1) p2)) p3) pos) (tRevT X.K te) := by
  refine ⟨fun pins s σ H Q I h => ?_⟩
  refine Subscript_ (thn (he.run pins s σ H _ I h) fun v s1 ⟨x, H1, I1, r1, q1⟩ => ?_)
  obtain ⟨a, xs, ex, hx, q⟩ := q1
  subst ex
  cases r1
  have hst : PO X (some (.UnaryOp .USub (.Constant (.int 1) k p1) p2)) (tPart (tUn (rU fun i => .int (-i)) (tC (.int 1)))) := po_some (pe_un un_neg pe_int)
  refine wpAny_Slice (thn (po_none.run pins s1 σ H1 (fun o H2 => o = none ∧ H2 = H1) I1 ⟨rfl, rfl⟩) fun vl s2 ⟨l, H2, I2, pl, el, e2⟩ => ?_)
  subst el e2
  refine thn (po_none.run pins s2 σ H2 (fun o H3 => o = none ∧ H3 = H2) I2 ⟨rfl, rfl⟩) fun vu s3 ⟨u, H3, I3, pu, eu, e3⟩ => ?_
  subst eu e3
  refine thn (hst.run pins s3 σ H3 (fun o H4 => o = some (-1) ∧ H4 = H3) I3 ⟨1, rfl, -1, rfl, rfl, rfl⟩) fun vs s4 ⟨o, H4, I4, ps, eo, e4⟩ => ?_
  subst eo e4
  have I5 : Inv X pins σ H4 { s4 with heap := s4.heap.push { cls := .type "slice", data := .fields #[vl, vu, vs] } } := I4.kept (t' := s4.toks) fun b ob q => Heap.get?_push_of_some _ q
  obtain ⟨its, r, ht, hz⟩ := I5.tuple hx
  have hlen := r.length
  cases pl
  cases pu
  show wpAny (model X.prog X.w) X.A (subscriptTail e (.Slice none none (some (.UnaryOp .USub (.Constant (.int 1) k p1) p2)) p3) (.ref a) (.ref s4.heap.objs.size)) (EP X pins σ Q) X.xe { s4 with heap := s4.heap.push { cls := .type "slice", data := .fields #[.none, .none, vs] } }
  refine tail_any (ops := [.ref a, .ref s4.heap.objs.size]) ht.typeIs (PyProof.Rows.slot_tuple_getitem.lookup) ?_ (by with_unfolding_all rfl)
  refine getItem_tuple_rev ht (Heap.IsSliceOf.new _ .none .none vs) ps ?_ (by rw [List.size_toArray]; omega)
  refine ⟨.ref _, _, I5.laid (t' := s4.toks) (o := .tup xs.reverse) (fun b ob q => Heap.get?_push_of_some _ q) (Nat.le_refl _) ?_, rfl, q _ (I5.hok.fresh (Nat.le_refl _))⟩
  exact ⟨by rw [List.length_reverse]; exact hz, _, r.reverse, IsTup.new _ _⟩
end
/-! ## bools in arithmetic, str(bool), text * int -/
def b2n (b : Bool) : Int := if b = true then 1 else 0
theorem gives_neg_bool (p : Bool) : Gives (Builtin.«int.__neg__» ⟨[.bool p], []⟩) (.int (-b2n p)) :=
  .of_wp fun M A E s Q h => by obtain ⟨hp, g, d, tk, os⟩ := s; unfold b2n at h; wp_walk; exact ⟨_, rfl, h⟩
section
variable {prog : Program} {w : World} {A : Around} {E : Value → Shared → Prop} {s : Shared}
theorem neg_bool {p : Bool} {Q : Value → Shared → Prop} (h : Q (.int (-b2n p) s.toks) { s with toks := s.toks + 1 }) : wpAny (model prog w) A (unaryOp .USub (.bool p)) Q E s :=
  unaryOp_gives (op := .USub) (PySem.typeIs_bool s p) rfl PySem.F.slot_bool_neg PySem.F.entry_int_neg (PySem.F.args_int_neg_1 _) (gives_neg_bool p) h
theorem str_of_bool {b : Bool} {Q : Value → Shared → Prop} (h : Q (.str (if b then "True" else "False") s.toks) { s with toks := s.toks + 1 }) : wpAny (model prog w) A (call (.type "str") [.bool b]) Q E s :=
  callType_new F.called_str (by decide) (F.typeCall_str_1 _) (F.newCall_str_1 _) (fun obj => F.args_object_init_2 obj _) F.entry_str_new
    (meets_str_new (S := fun _ R s => R (.ok (.ret (.str (if b then "True" else "False") s.toks))) { s with toks := s.toks + 1 }) fun _ _ _ _ s hq =>
      wpAny_strOf_gives rfl (PySem.typeIs_bool s b) F.slot_bool_str F.slot_bool_repr F.entry_bool_repr (F.args_bool_repr_1 _) (gives_bool_repr b) hq (hsz := by cases b <;> decide)) ⟨typeIs_str _ _ _, h⟩
end
section
variable {X : Cx}
theorem op_addB : OpR X (binaryOp .Add) (fun x y H Q => ∃ b i, x = .bl b ∧ y = .int i ∧ Q (.int (b2n b + i)) H) := by
  intro pins s σ H x y v u Q I rx ry h
  obtain ⟨b, i, rfl, rfl, q⟩ := h
  cases rx
  obtain ⟨t, rfl⟩ := ry
  exact IntBool.add_bool_int ⟨.int _, H, I.tok _, ⟨_, rfl⟩, q⟩
theorem op_subB : OpR X (binaryOp .Sub) (fun x y H Q => ∃ b i, x = .bl b ∧ y = .int i ∧ Q (.int (b2n b - i)) H) := by
  intro pins s σ H x y v u Q I rx ry h
  obtain ⟨b, i, rfl, rfl, q⟩ := h
  cases rx
  obtain ⟨t, rfl⟩ := ry
  exact IntBool.sub_bool_int ⟨.int _, H, I.tok _, ⟨_, rfl⟩, q⟩
theorem op_repS : OpR X (binaryOp .Mult) (fun x y H Q => ∃ z i, x = .str z ∧ y = .int i ∧ z.length ≤ 16 ∧ -(2 ^ 63 : Int) ≤ i ∧ i ≤ 1048576 ∧ Q (.str (Txt.mul z i)) H) := by
  intro pins s σ H x y v u Q I rx ry h
  obtain ⟨z, i, rfl, rfl, hz, h0, h1, q⟩ := h
  obtain ⟨t, rfl⟩ := rx
  obtain ⟨t', rfl⟩ := ry
  exact SB.mul (mulOk_of 16 1048576 hz h1 h0 (by decide) (by decide)) fun t' k => ⟨.str _, H, I.tok _, ⟨_, rfl⟩, q⟩
theorem un_negB : UnR X (unaryOp .USub) (fun x H Q => ∃ b, x = .bl b ∧ Q (.int (-b2n b)) H) := by
  intro pins s σ H x v Q I rx h
  obtain ⟨b, rfl, q⟩ := h
  cases rx
  exact neg_bool ⟨.int _, H, I.tok _, ⟨_, rfl⟩, q⟩
theorem call_str_bool : CallR X (.type "str") (fun xs H Q => ∃ b : Bool, xs = [.bl b] ∧ Q (.str (if b then "True" else "False")) H) := by
  intro pins s σ H xs us Q I r h
  obtain ⟨b, rfl, q⟩ := h
  obtain ⟨u, rfl, ru⟩ := vals1 r
  cases ru
  exact str_of_bool ⟨.str _, H, I.tok _, ⟨_, rfl⟩, q⟩
end
end Ev
set_option Elab.async false
set_option linter.all false
set_option maxRecDepth 100000
set_option maxHeartbeats 4000000
namespace Ev
open PySem PySem.Spec PyProof.Rows L2
/-! ## several except clauses with names -/
/-- what the clauses wish of an exception of the body, one after the other -/
def wManyAs (K : PySem.W.Frag) (Wout : WX) (D : Ends) : List (Value × Nat × (Addr → Value → Option Addr → TS)) → WX
  | [] => Wout
  | (c, i, ts) :: r => fun cls d σ H => ∃ b, PySem.W.exmOne K cls c = some b ∧ (b = true → ∀ a, H a = none → ts a cls d { nx := fun σ' H' => D.nx (σ'.set i none) H', rt := D.rt, bk := fun σ' H' => D.bk (σ'.set i none) H', ct := fun σ' H' => D.ct (σ'.set i none) H' } (σ.set i (some (.ref a))) H) ∧
    (b = false → wManyAs K Wout D r cls d σ H)
inductive HdsAs (X : Cx) : List ExceptHandler → List (Value × Nat × (Addr → Value → Option Addr → TS)) → Prop
  | nil : HdsAs X [] []
  | cons {x n : Str} {i : Nat} {c : Value} {ts : Addr → Value → Option Addr → TS} {b₀ : Stmt} {suite : List Stmt} {np pos' : Pos} {hds : List ExceptHandler} {l : List (Value × Nat × (Addr → Value → Option Addr → TS))} (hc : Names X x c) (hi : X.N[i]? = some n) (hln : X.env.kindOf n = some .local)
      (hsu : ∀ (a : Addr) (oe : Obj) (cls : Value) (d : Option Addr) (pn : List (Addr × Obj)), Zc cls d oe → (∃ vs, oe.data = .fields vs) → PSs (X.suite a ((a, oe) :: pn)) (b₀ :: suite) (ts a cls d)) (r : HdsAs X hds l) :
      HdsAs X (.ExceptHandler (some (.Name x np)) (some n) (b₀ :: suite) pos' :: hds) ((c, i, ts) :: l)
section
variable {X : Cx} {body : List Stmt} {h₀ : ExceptHandler} {hds : List ExceptHandler} {l : List (Value × Nat × (Addr → Value → Option Addr → TS))} {pos : Pos} {tb : WX → TS} {Wout : WX}
theorem ps_try_manyAs (hs : X.stack = X.env :: X.outer) (hf : X.env.frame = some X.env.locals) (hN : X.N.Nodup) (tk : Takes X Wout)
    (hb : ∀ (W : WX) (pn : List (Addr × Obj)) (xe : Value → Shared → Prop), Takes (X.tr pn xe) W → PassesOwn (model X.prog X.w) X.A X.env xe → PSs (X.tr pn xe) body (tb W))
    (hh : HdsAs X (h₀ :: hds) l) : PS X (.Try body (h₀ :: hds) [] [] pos) (fun D σ H => tb (wManyAs X.K Wout D l) D σ H) := by
  refine ⟨fun pins s σ H D I h => ?_⟩
  have ok := I.ok
  have hfr : X.A.frames = some (X.env :: X.outer) := by rw [ok.frames, hs]
  refine wpAny_Try_except ?_
  refine wpAny_mono ((hb (wManyAs X.K Wout D l) (X.pn ++ pins) (fun e s₁ => wpAny (model X.prog X.w) X.A (noteFrame e X.env) (fun _ s₂ => wpAny (model X.prog X.w) X.A (setFlight e none) (fun _ s₃ =>
    wpAny (model X.prog X.w) X.A (handleBy e X.env (h₀ :: hds)) (SP X pins D) X.xe s₃) X.xe s₂) X.xe s₁) (fun u s' xx => ?_) PassesOwn.looking).run [] s σ H D (I.toTry _) h) (fun f s1 hsp => ?_) (fun e s1 he => he)
  · -- the catch
    obtain ⟨a, B, sI, pins', σ', H', cls, d, rfl, J', nb, up, sky, na, os, ag, w⟩ := xx
    have J : Inv X pins σ' H' sI := J'.ofTry ok
    have sky' : Sky B (X.env :: X.outer) a (Zc cls d) X.env.locals s'.heap := by rw [← hs]; exact sky
    show wpAny (model X.prog X.w) X.A (noteFrame (.ref a) X.env) _ _ _
    refine Sky.land Zc.steady hfr hf sky' fun h3 fl3 up3 => ?_
    have J3 : Inv X pins σ' H' { s' with heap := h3 } := J.landed nb fl3.1 (up.trans up3) os ag
    obtain ⟨oe3, vs3, he3, hz3, hd3⟩ := fl3.there
    have notFr : ∀ {h : Heap} {o : Obj} {vs : Array Value}, h.FunFrames B (X.env :: X.outer) → h.get? a = some o → o.data = .fields vs → a ∉ frs (X.env :: X.outer) := fun {h o vs} ff e dd hm => by
      obtain ⟨_, o', e', hnf⟩ := ff.mem hm
      rw [e] at e'; cases e'
      exact hnf _ dd
    have nfr := notFr fl3.2.2.1 he3 hd3
    have nL : a ≠ X.env.locals := fun z => nfr (List.mem_filterMap.mpr ⟨X.env, List.mem_cons_self, by rw [hf, z]⟩)
    have nF : a ∉ X.fs := fun hm => by
      obtain ⟨e, he, q⟩ := List.mem_filterMap.mp hm
      exact nfr (List.mem_filterMap.mpr ⟨e, List.mem_cons_of_mem _ he, q⟩)
    have S3 := J3.suite he3 hd3 na nL nF
    have go : ∀ {hds' : List ExceptHandler} {l' : List (Value × Nat × (Addr → Value → Option Addr → TS))}, HdsAs X hds' l' → wManyAs X.K Wout D l' cls d σ' H' →
        wpAny (model X.prog X.w) X.A (handleBy (.ref a) X.env hds') (SP X pins D) X.xe { s' with heap := h3 } := by
      intro hds' l' hk
      induction hk with
      | nil =>
        intro w
        refine wpAny_handleBy_nil ?_
        obtain ⟨k1, k2, k3, oe, vs, T, oT, ts', he, hz, hd, h1, hr⟩ := id fl3
        unfold PySem.passOn
        refine wpAny_bind (wpAny_field he hd h1 ?_)
        rw [if_neg (show ¬ ((Value.ref T == Value.none) = true) from by simp)]
        have fin : wpAny (model X.prog X.w) X.A (setFlight (.ref a) X.env.frame) (fun _ s4 => wpAny (model X.prog X.w) X.A (throw (.ref a) : Sem Flow) (SP X pins D) X.xe s4) X.xe { s' with heap := h3 } := by
          rw [hf]
          refine HandSPX.setFlight_upZ fl3 fun h4 hh4 up4 => wpAny_throw (tk _ _ ?_)
          exact ⟨a, B, sI, pins, σ', H', cls, d, rfl, J, nb, (up.trans up3).trans up4, .inr (.inr (by rw [hs]; exact hh4)), na, os, ag, w⟩
        first
          | exact wpAny_bind (wpAny_pure (wpAny_bind fin))
          | exact wpAny_bind fin
      | @cons x n i c ts b₀ suite np pos' hds2 l2 hc hi hln hsu r ih =>
        intro w
        obtain ⟨b, hb1, hyes, hno⟩ := w
        refine wpAny_handleBy_cons (codeAny_handlers_test ?_) (by intro q; cases q)
        have LT : PySem.W.Looks (model X.prog X.w) h3 (typeOf (.ref a)) cls := fun A Q E s k q => wpAny_typeOf_ref (k _ _ he3) (by rw [hz3.1]; exact q)
        have LM := PySem.W.exm_one (M := model X.prog X.w) (J3.kIn) LT hb1
        have test : ∀ {Q : Value → Shared → Prop} {E : Value → Shared → Prop}, Q c { s' with heap := h3 } → wpAny (model X.prog X.w) (X.A.mark (some (.ref a))) (eval (.Name x np) X.env) Q E { s' with heap := h3 } := fun {Q E} q => by
          obtain ⟨hg, hdbg, hm | ⟨hm, hv, hnn⟩⟩ := hc
          · exact ld_glob (X := X.suite a ((a, oe3) :: (X.pn ++ pins))) S3 hg hm q hdbg
          · exact ld_blt (X := X.suite a ((a, oe3) :: (X.pn ++ pins))) S3 hg hm hv q hnn hdbg
        refine test (LM.here ?_)
        cases b with
        | true =>
          refine codeAny_handlers_suite_as ?_
          refine HandSPX.lands_againZ fl3 fun h4 fl4 up4 => ?_
          have J4 : Inv X pins σ' H' { s' with heap := h4 } := J.landed nb fl4.1 ((up.trans up3).trans up4) os ag
          obtain ⟨oe4, vs4, he4, hz4, hd4⟩ := fl4.there
          have S4 := J4.suite he4 hd4 na nL nF
          refine store_ok (X := X.suite a ((a, oe4) :: (X.pn ++ pins))) (v := .ref a) S4 hN hi (.inl hln) rfl (fun s5 S5 => ?_) (.inr hln)
          refine wpAny_mono ((hsu a oe4 cls d (X.pn ++ pins) hz4 ⟨_, hd4⟩).run [] s5 _ H' _ S5 (hyes rfl a na)) (fun f s6 hsp => ?_) (fun _ _ z => False.elim z)
          have end_ : ∀ {σ6 : L2.St} {H6 : Hp} {Q : Shared → Prop}, Inv (X.suite a ((a, oe4) :: (X.pn ++ pins))) [] σ6 H6 s6 → (∀ s7, Inv X pins (σ6.set i none) H6 s7 → Q s7) →
              wpAny (model X.prog X.w) X.A (do bindName X.env n .none; unbindBehindTheSuite X.env n pos') (fun _ s7 => Q s7) X.xe s6 := fun {σ6 H6 Q} S6 hq => gone_ok (S6.unsuite ok) hN hi hln hq
          cases f with
          | next =>
            obtain ⟨σ6, H6, S6, q6⟩ := hsp
            exact end_ S6 fun s7 J7 => ⟨_, _, J7, q6⟩
          | brk =>
            obtain ⟨σ6, H6, S6, q6⟩ := hsp
            exact end_ S6 fun s7 J7 => ⟨_, _, J7, q6⟩
          | cont =>
            obtain ⟨σ6, H6, S6, q6⟩ := hsp
            exact end_ S6 fun s7 J7 => ⟨_, _, J7, q6⟩
          | ret u =>
            obtain ⟨v6, σ6, H6, S6, r6, q6⟩ := hsp
            exact end_ S6 fun s7 J7 => ⟨_, _, _, J7, r6, q6⟩
        | false =>
          show wpAny _ X.A (handleBy (.ref a) X.env hds2) _ _ _
          exact ih (hno rfl)
    exact go hh w
  · cases f with
    | next =>
      obtain ⟨σ', H', J', q⟩ := hsp
      exact wpAny_execs_nil ⟨σ', H', J'.ofTry ok, q⟩
    | brk =>
      obtain ⟨σ', H', J', q⟩ := hsp
      exact ⟨σ', H', J'.ofTry ok, q⟩
    | cont =>
      obtain ⟨σ', H', J', q⟩ := hsp
      exact ⟨σ', H', J'.ofTry ok, q⟩
    | ret u =>
      obtain ⟨v, σ', H', J', r, q⟩ := hsp
      exact ⟨v, σ', H', J'.ofTry ok, r, q⟩
end
/-! ## isinstance of a caught error that has fields -/
end Ev
namespace Ev.IsD
open PySem PySem.Spec PySem.Calls PyProof.Rows PySem.W
section
variable {prog : Program} {w : World} {A : Around} {E : Value → Shared → Prop} {s : Shared} {K : Frag} {x D : Addr} {ox : Obj}
theorem findObj_dataD {C : Addr} {od : Option Obj} {name : Str} {a g : Value} (hc : (clsIn K C).isSome = true) (ha : findIn K (.ref C) name = some (some a)) (hg : specialIn K a "__get__" = some (some g)) (ht : takesIn K a = some true) : findObj K C od name = some (.bind g a) := by
  obtain ⟨cd, hc⟩ := Option.isSome_iff_exists.mp hc
  unfold findObj
  rw [hc, Option.bind_some, ha, Option.bind_some]
  simp [hg, ht]
theorem kin_classD {od : Option Obj} {Q : Option Value → Shared → Prop} (hga : findIn K (.ref D) "__getattribute__" = some (some (.builtin "BaseException.__getattribute__"))) (hgt : findIn K (.ref D) "__getattr__" = some none) (hsub : subIn K (.ref D) (.type "BaseException") = some true)
    (hdct : hasDictIn K D = true) (ha : findIn K (.ref D) "__class__" = some (some (.builtin "object.__class__")))
    (hn : specialIn K (.builtin "object.__class__") "__get__" = some (some (.builtin "getset_descriptor.__get__"))) (htk : takesIn K (.builtin "object.__class__") = some true) (hm : mroIn K D (.type "object") = some true)
    (X : K.In s.heap) (I : InstAt s.heap x ox D od) (h : Q (some (.ref D)) { s with toks := s.toks + 1 }) : wpAny (model prog w) A (getAttr? (.ref x) "__class__") Q E s := by
  have hf : findObj K D od "__class__" = some (.bind (.builtin "getset_descriptor.__get__") (.builtin "object.__class__")) := findObj_dataD (by obtain ⟨cd, hc, _⟩ := any_some hdct; rw [hc]; rfl) ha hn htk
  obtain ⟨hp, g, d, t, os⟩ := s
  have L0 := I.type (M := model prog w)
  have L1 := looks_findIn (M := model prog w) X hga
  have L2 := looks_findIn (M := model prog w) X hgt
  have L3 := looks_find (M := model prog w) X I hf
  have sub : Looks (model prog w) hp (isInstance (.ref x) (.type "BaseException")) true := L0.andThen (looks_subIn X hsub)
  have hx0 : (false && onTheHeap (Value.builtin "BaseException.__getattribute__")) = false := rfl
  have hx2 : (Value.builtin "BaseException.__getattribute__" == Value.builtin "object.__getattribute__") = false := by decide +kernel
  have hx1 : (onTheHeap (Value.ref D) && Value.builtin "BaseException.__getattribute__" == Value.builtin "object.__getattribute__") = false := by rw [hx2]; rfl
  unfold getAttr? getAttrBy? getAttrBy
  refine wpAny_bind (wpAny_mkText (wpAny_bind (wpAny_attempt (wpAny_holding (wpAny_bind (L0.at (wpAny_bind (L1.at ?_))))))))
  show wpAny _ _ (if (onTheHeap (Value.ref D) && Value.builtin "BaseException.__getattribute__" == Value.builtin "object.__getattribute__") = true then _ else _) _ _ _
  rw [hx1, if_neg Bool.false_ne_true]
  unfold getAttrByItsOwn hookBefore
  refine wpAny_bind ?_
  rw [if_pos (show onTheHeap (Value.ref D) = true from rfl)]
  refine L2.at ?_
  refine wpAny_bind (wpAny_attempt (wpAny_holding ?_))
  unfold callGetattribute
  rw [hx0, if_neg Bool.false_ne_true]
  unfold boundAndCalled
  rw [PySem.F.excAttr_ValueError.ga.bind (.ref x)]
  refine wpAny_bind (wpAny_pure ?_)
  show wpAny _ _ (call (.builtin "BaseException.__getattribute__") [.ref x, .str "__class__" t]) _ _ _
  refine wpAny_call (codeAny_call_builtin PySem.F.excAttr_ValueError.ga.plain PySem.F.entry_bexc_ga ?_)
  refine @check_slot (model prog w) _ _ ⟨hp, g, d, t + 1, os⟩ "BaseException.__getattribute__" "BaseException" "__getattribute__" (.ref x) [.str "__class__" t] [] _ (by decide +kernel) (by decide +kernel) sub (PySem.F.args_bexc_ga (.ref x) (.str "__class__" t)) ?_
  unfold Builtin.«object.__getattribute__»
  refine wpAny_bind (wpAny_of_eq (a := ((Value.ref x : Value), [Value.str "__class__" t])) (by first | rfl | (simp only [slotArgs]; rfl)) ?_)
  refine wpAny_bind (wpAny_pure (wpAny_bind (L0.at (wpAny_bind (L3.at ?_)))))
  show wpAny _ _ (holding [Value.builtin "object.__class__"] (call (.builtin "getset_descriptor.__get__") [.builtin "object.__class__", .ref x, .ref D]) >>= ret) _ _ _
  refine wpAny_bind (wpAny_holding (wpAny_call (class_get (s := ⟨hp, g, d, t + 1, os⟩) (ox := ox) (od := od) X I hm ?_)))
  refine wpAny_pure ?_
  show wpAny _ _ (handedOut (.ref D)) _ _ _
  rw [handedOut_of (v := .ref D) rfl]
  first
    | exact wpAny_pure (wpAny_pure h)
    | exact wpAny_pure h
    | exact wpAny_pure (wpAny_bind (wpAny_pure (wpAny_pure h)))
theorem kitx_excD {od : Option Obj} (hga : findIn K (.ref D) "__getattribute__" = some (some (.builtin "BaseException.__getattribute__"))) (hgt : findIn K (.ref D) "__getattr__" = some none) (hsub : subIn K (.ref D) (.type "BaseException") = some true) (hdct : hasDictIn K D = true) (ha : findIn K (.ref D) "__class__" = some (some (.builtin "object.__class__")))
    (hn : specialIn K (.builtin "object.__class__") "__get__" = some (some (.builtin "getset_descriptor.__get__"))) (htk : takesIn K (.builtin "object.__class__") = some true) (hm : mroIn K D (.type "object") = some true) :
    KitX K (.ref x) (.ref D) (fun h => InstAt h x ox D od) where
  ty := fun _ _ _ I => I.type
  it := fun _ _ X _ => by
    obtain ⟨cdD, hcD, _⟩ := any_some hdct
    unfold clsIn at hcD
    split at hcD
    · rename_i c' d' cd' sl' ho
      intro A' Q' E' s' k q
      unfold isType loadHead
      exact wpAny_bind (wpAny_loadPart (k _ _ (X _ _ ho)) (wpAny_pure q))
    · cases hcD
  ne := fun h tp dd its n sl X htp => by
    obtain ⟨cdD, hcD, _⟩ := any_some hdct
    refine Bool.eq_false_iff.mpr fun q => ?_
    have e : D = tp := Value.ref.inj (beq_iff_eq.mp q)
    subst e
    unfold clsIn at hcD
    split at hcD
    · rename_i c' d' cd' sl' ho
      have z := (X _ _ ho).symm.trans htp
      cases z
    · cases hcD
  ca := fun X I k => kin_classD hga hgt hsub hdct ha hn htk hm X I k
end
end Ev.IsD
namespace Ev
open PySem PySem.Spec PyProof.Rows L2
/-- isinstance(e, c), e the exception that the suite holds, dd its fields -/
def rIsD (K : PySem.W.Frag) (D a dd : Addr) : List V → Hp → VK → Prop := fun xs H Q => ∃ (c : V) (cv : Value) (b : Bool) (fs : List (Str × V)), xs = [.ref a, c] ∧ (∀ u, RelV c u → u = cv) ∧ H dd = some (.xd fs) ∧ PySem.W.kitOne K (.ref D) cv = some b ∧ Q (.bl b) H
theorem call_isD {X : Cx} {a D dd : Addr} {oe : Obj} {pn : List (Addr × Obj)} (C : ExcC X.K D) (hz : Zc (.ref D) (some dd) oe) (hf : ∃ vs, oe.data = .fields vs) : CallR (X.suite a ((a, oe) :: pn)) (.builtin "isinstance") (rIsD X.K D a dd) := by
  intro pins s σ H xs us Q I r h
  obtain ⟨c, cv, b, fs, rfl, hcv, hd, e, q⟩ := h
  cases r with
  | cons rx rr =>
    cases rr with
    | cons rt rr =>
      cases rr
      cases rx
      have ec := hcv _ rt
      subst ec
      obtain ⟨hget, _⟩ := I.pin (a, oe) (List.mem_append.mpr (.inl List.mem_cons_self))
      obtain ⟨vs, hv⟩ := hf
      have hx : ObjOk X.prog X.w H s.heap dd (.xd fs) := I.hok dd _ hd
      obtain ⟨mA, hns, _⟩ := hx
      obtain ⟨od, hod⟩ : ∃ od, s.heap.get? dd = some od := by
        obtain ⟨od, _, _, hod, _⟩ := hns
        exact ⟨od, hod⟩
      have J : PySem.W.InstAt s.heap a oe D (some od) := by
        obtain ⟨oc, odi, oda, osl⟩ := oe
        obtain ⟨h1, h2⟩ := hz
        dsimp only at h1 h2 hv
        subst h1 h2 hv
        exact ⟨hget, rfl, rfl, hod⟩
      exact PySem.W.kia_one (IsD.kitx_excD C.hg C.hk C.hs C.hd C.ha C.hn C.ht C.hm) I.kIn J e (fun z => nomatch z) fun tk => ⟨.bl b, H, I.kept (t' := tk) fun _ _ z => z, rfl, q⟩
end Ev
set_option Elab.async false
set_option linter.all false
set_option maxRecDepth 100000
set_option maxHeartbeats 4000000
namespace Ev
open PySem PySem.Spec PyProof.Rows L2

/-! ## values and stores -/
inductive D where
  | non
  | bl (b : Bool)
  | int (i : Int)
  | str (x : Str)
  | tup (l : List D)
  | ref (n : Nat)
  | cl (l : List D)
inductive Ob where
  | lst (l : List D)
  | dic (l : List (Key × D))
abbrev Store := List Ob
abbrev Rho := List (Option D)
abbrev DK := D → Store → Prop
abbrev FR := PySem.W.Frag

/-- a list that nobody writes: locked, or of the written part -/
def SqC (K : FR) (H : Hp) (a : Addr) (xs : List V) : Prop := (∃ o, H a = some (.frz o (.lst xs))) ∨
  ∃ (o : Obj) (its : Array Value) (n : Nat), K.lookup a = some o ∧ o.cls = .type "list" ∧ o.dict = none ∧ o.data = .seq its n ∧ its.size ≤ sizeLine ∧ Vals xs its.toList
theorem SqC.sq {K : FR} {H : Hp} {a : Addr} {xs : List V} (h : SqC K H a xs) : SqL K H a xs := by
  rcases h with ⟨o, h⟩ | h
  · exact .inl (.inr ⟨o, h⟩)
  · exact .inr h
mutual
inductive RD (K : FR) (m : List Addr) (H : Hp) : D → V → Prop
  | non : RD K m H .non .non
  | bl (b : Bool) : RD K m H (.bl b) (.bl b)
  | int (i : Int) : RD K m H (.int i) (.int i)
  | str (x : Str) : RD K m H (.str x) (.str x)
  | tup {ds : List D} {a : Addr} {vs : List V} (h : SqT K H a vs) (r : RDs K m H ds vs) : RD K m H (.tup ds) (.ref a)
  | ref {n : Nat} {a : Addr} (h : m[n]? = some a) : RD K m H (.ref n) (.ref a)
  | cl {ds : List D} {a : Addr} {vs : List V} (h : SqC K H a vs) (r : RDs K m H ds vs) : RD K m H (.cl ds) (.ref a)
inductive RDs (K : FR) (m : List Addr) (H : Hp) : List D → List V → Prop
  | nil : RDs K m H [] []
  | cons {d : D} {v : V} {ds : List D} {vs : List V} (r : RD K m H d v) (rs : RDs K m H ds vs) : RDs K m H (d :: ds) (v :: vs)
end

def RKs (K : FR) (m : List Addr) (H : Hp) (l : List (Key × D)) (kvs : List (Key × V)) : Prop := kvs.map (·.1) = l.map (·.1) ∧ RDs K m H (l.map (·.2)) (kvs.map (·.2))
/-- an object of the store and what is tracked -/
def RC (K : FR) (m : List Addr) (H : Hp) : Ob → HO → Prop
  | .lst l, .lst vs => RDs K m H l vs
  | .dic l, .dK kvs => RKs K m H l kvs
  | _, _ => False
def RO (K : FR) (m : List Addr) (H : Hp) : Ob → Addr → Prop
  | .lst l, a => ∃ vs, H a = some (.lst vs) ∧ RDs K m H l vs
  | .dic l, a => ∃ kvs, H a = some (.dK kvs) ∧ RKs K m H l kvs
theorem RC.ro {K : FR} {m : List Addr} {H : Hp} {o : Ob} {u : HO} {a : Addr} (h : RC K m H o u) (e : H a = some u) : RO K m H o a := by
  cases o <;> cases u <;> first
    | exact ⟨_, e, h⟩
    | exact False.elim h
theorem RO.rc {K : FR} {m : List Addr} {H : Hp} {o : Ob} {a : Addr} (h : RO K m H o a) : ∃ u, H a = some u ∧ RC K m H o u := by
  cases o <;> exact let ⟨_, e, q⟩ := h; ⟨_, e, q⟩
def NoTb : HO → Prop
  | .tbl _ => False
  | _ => True
theorem RC.notb {K : FR} {m : List Addr} {H : Hp} {o : Ob} {u : HO} (h : RC K m H o u) : NoTb u ∧ (∀ xs, u ≠ .tup xs) ∧ ∀ q v, u ≠ .frz q v := by
  cases o <;> cases u <;> first
    | exact False.elim h
    | exact ⟨trivial, (by intro _ z; cases z), (by intro _ _ z; cases z)⟩
structure Rel (K : FR) (m : List Addr) (S : Store) (H : Hp) : Prop where
  len : m.length = S.length
  nd : m.Nodup
  ob : ∀ (n : Nat) (o : Ob) (a : Addr), S[n]? = some o → m[n]? = some a → RO K m H o a
structure Ext (m : List Addr) (H : Hp) (m' : List Addr) (H' : Hp) : Prop where
  pre : ∃ t, m' = m ++ t
  new : ∀ b ∈ m', b ∈ m ∨ H b = none
  keep : ∀ b o, H b = some o → b ∉ m → NoTb o → H' b = some o
  tb : ∀ b ps, H b = some (.tbl ps) → b ∉ m → ∃ ps', H' b = some (.tbl ps') ∧ (TriplesOk ps.toList → TriplesOk ps'.toList)

section
variable {K : FR} {m m' m2 : List Addr} {S S' : Store} {H H' H2 : Hp}
theorem Ext.refl : Ext m H m H := ⟨⟨[], by simp⟩, fun b hb => .inl hb, fun _ _ e _ _ => e, fun _ ps e _ => ⟨ps, e, id⟩⟩
theorem Ext.nin (x : Ext m H m' H') {b : Addr} {o : HO} (e : H b = some o) (h : b ∉ m) : b ∉ m' := fun hb => by
  rcases x.new b hb with z | z
  · exact h z
  · rw [z] at e; cases e
theorem Ext.trans (x : Ext m H m' H') (y : Ext m' H' m2 H2) : Ext m H m2 H2 := by
  refine ⟨?_, fun b hb => ?_, fun b o e h n => y.keep b o (x.keep b o e h n) (x.nin e h) n, fun b ps e h => let ⟨p1, e1, f1⟩ := x.tb b ps e h; let ⟨p2, e2, f2⟩ := y.tb b p1 e1 (x.nin e h); ⟨p2, e2, fun z => f2 (f1 z)⟩⟩
  · obtain ⟨t, e⟩ := x.pre
    obtain ⟨u, f⟩ := y.pre
    exact ⟨t ++ u, by rw [f, e, List.append_assoc]⟩
  · rcases y.new b hb with z | z
    · exact x.new b z
    · by_cases hm : b ∈ m
      · exact .inl hm
      · cases q : H b with
        | none => exact .inr rfl
        | some o =>
          by_cases hn : NoTb o
          · rw [x.keep b o q hm hn] at z; cases z
          · cases o with
            | tbl ps => obtain ⟨_, e, _⟩ := x.tb b ps q hm; rw [e] at z; cases z
            | _ => exact absurd trivial hn
theorem Ext.get (x : Ext m H m' H') {n : Nat} {a : Addr} (h : m[n]? = some a) : m'[n]? = some a := by
  obtain ⟨t, e⟩ := x.pre
  rw [e, List.getElem?_append_left (List.getElem?_eq_some_iff.mp h).1]
  exact h
theorem Rel.mem (r : Rel K m S H) {a : Addr} (h : a ∈ m) : ∃ u, H a = some u ∧ NoTb u ∧ (∀ xs, u ≠ .tup xs) ∧ ∀ q v, u ≠ .frz q v := by
  obtain ⟨n, hn, e⟩ := List.getElem_of_mem h
  have h2 : n < S.length := by rw [← r.len]; exact hn
  have z := r.ob n S[n] a (List.getElem?_eq_getElem h2) (by rw [List.getElem?_eq_getElem hn, e])
  obtain ⟨u, e1, c⟩ := z.rc
  exact ⟨u, e1, c.notb⟩
theorem Rel.tupNot (r : Rel K m S H) {a : Addr} {vs : List V} (h : Rd H a (.tup vs)) : a ∉ m := fun hm => by
  obtain ⟨u, q, _, h1, h2⟩ := r.mem hm
  rcases h with h | ⟨o, h⟩ <;> rw [h] at q <;> cases q
  · exact h1 _ rfl
  · exact h2 _ _ rfl
theorem Rel.tabNot (r : Rel K m S H) {a : Addr} {ps : Array Value} (h : H a = some (.tbl ps)) : a ∉ m := fun hm => by
  obtain ⟨u, q, h0, _⟩ := r.mem hm
  rw [h] at q; cases q; exact h0
theorem Ext.tabG (x : Ext m H m' H') (r : Rel K m S H) {a : Addr} (h : GxR.TabG H a) : GxR.TabG H' a := by
  obtain ⟨ps, e, t⟩ := h
  obtain ⟨qs, e2, t2⟩ := x.tb a ps e (r.tabNot e)
  exact ⟨qs, e2, t2 t⟩
theorem Ext.sqC (x : Ext m H m' H') (r : Rel K m S H) {a : Addr} {vs : List V} (h : SqC K H a vs) : SqC K H' a vs := by
  rcases h with ⟨o, h⟩ | h
  · refine .inl ⟨o, x.keep a _ h (fun hm => ?_) trivial⟩
    obtain ⟨ws, q, _, _, h2⟩ := r.mem hm
    rw [h] at q; cases q; exact h2 _ _ rfl
  · exact .inr h
theorem Ext.sqT (x : Ext m H m' H') (r : Rel K m S H) {a : Addr} {vs : List V} (h : SqT K H a vs) : SqT K H' a vs := by
  rcases h with h | h
  · have n := r.tupNot h
    rcases h with h | ⟨o, h⟩
    · exact .inl (.inl (x.keep a _ h n trivial))
    · exact .inl (.inr ⟨o, x.keep a _ h n trivial⟩)
  · exact .inr h
mutual
theorem RD.mono (x : Ext m H m' H') (r : Rel K m S H) : ∀ {d : D} {v : V}, RD K m H d v → RD K m' H' d v
  | _, _, .non => .non
  | _, _, .bl b => .bl b
  | _, _, .int i => .int i
  | _, _, .str z => .str z
  | _, _, .tup h q => .tup (x.sqT r h) (RDs.mono x r q)
  | _, _, .ref h => .ref (x.get h)
  | _, _, .cl h q => .cl (x.sqC r h) (RDs.mono x r q)
theorem RDs.mono (x : Ext m H m' H') (r : Rel K m S H) : ∀ {ds : List D} {vs : List V}, RDs K m H ds vs → RDs K m' H' ds vs
  | _, _, .nil => .nil
  | _, _, .cons a b => .cons (RD.mono x r a) (RDs.mono x r b)
end
/-- as Ext, but untracked lists may change -/
structure ExtW (m : List Addr) (H : Hp) (m' : List Addr) (H' : Hp) : Prop where
  pre : ∃ t, m' = m ++ t
  new : ∀ b ∈ m', b ∈ m ∨ H b = none ∨ (∃ l, H b = some (.lst l)) ∨ ∃ ps, H b = some (.tbl ps)
  keep : ∀ b o, H b = some o → b ∉ m → NoTb o → (∀ l, o ≠ .lst l) → H' b = some o
theorem Ext.w (x : Ext m H m' H') : ExtW m H m' H' := ⟨x.pre, fun b hb => (x.new b hb).imp_right .inl, fun b o e h n _ => x.keep b o e h n⟩
theorem ExtW.nin (x : ExtW m H m' H') {b : Addr} {o : HO} (e : H b = some o) (h : b ∉ m) (hn : NoTb o) (hl : ∀ l, o ≠ .lst l) : b ∉ m' := fun hb => by
  rcases x.new b hb with z | z | ⟨l, z⟩ | ⟨ps, z⟩
  · exact h z
  · rw [z] at e; cases e
  · rw [z] at e; cases e; exact hl _ rfl
  · rw [z] at e; cases e; exact hn
theorem ExtW.on (x : ExtW m H m' H') (y : Ext m' H' m2 H2) : ExtW m H m2 H2 := by
  refine ⟨?_, fun b hb => ?_, fun b o e h n hl => y.keep b o (x.keep b o e h n hl) (x.nin e h n hl) n⟩
  · obtain ⟨t, e⟩ := x.pre
    obtain ⟨u, f⟩ := y.pre
    exact ⟨t ++ u, by rw [f, e, List.append_assoc]⟩
  · rcases y.new b hb with z | z
    · exact x.new b z
    · by_cases hm : b ∈ m
      · exact .inl hm
      · cases q : H b with
        | none => exact .inr (.inl rfl)
        | some o =>
          cases o with
          | lst l => exact .inr (.inr (.inl ⟨l, rfl⟩))
          | tbl ps => exact .inr (.inr (.inr ⟨ps, rfl⟩))
          | _ =>
            rw [x.keep b _ q hm trivial (fun l h => by cases h)] at z; cases z
theorem ExtW.other (x : ExtW m H m' H') {p : Addr} {av bv : List V} (n : p ∉ m) (e : ∃ l, H p = some (.lst l)) (e' : H' p = some (.lst av)) : ExtW m H m' (L2.upd H' p (.lst bv)) := by
  refine ⟨x.pre, x.new, fun b o q nb nt hl => ?_⟩
  have hb : b ≠ p := fun z => by
    subst z
    obtain ⟨l, e⟩ := e
    rw [e] at q; cases q; exact hl _ rfl
  rw [upd_ne hb]
  exact x.keep b o q nb nt hl
theorem ExtW.get (x : ExtW m H m' H') {n : Nat} {a : Addr} (h : m[n]? = some a) : m'[n]? = some a := by
  obtain ⟨t, e⟩ := x.pre
  rw [e, List.getElem?_append_left (List.getElem?_eq_some_iff.mp h).1]
  exact h
theorem ExtW.sqC (x : ExtW m H m' H') (r : Rel K m S H) {a : Addr} {vs : List V} (h : SqC K H a vs) : SqC K H' a vs := by
  rcases h with ⟨o, h⟩ | h
  · refine .inl ⟨o, x.keep a _ h (fun hm => ?_) trivial (fun l h => by cases h)⟩
    obtain ⟨ws, q, _, _, h2⟩ := r.mem hm
    rw [h] at q; cases q; exact h2 _ _ rfl
  · exact .inr h
theorem ExtW.sqT (x : ExtW m H m' H') (r : Rel K m S H) {a : Addr} {vs : List V} (h : SqT K H a vs) : SqT K H' a vs := by
  rcases h with h | h
  · have n := r.tupNot h
    rcases h with h | ⟨o, h⟩
    · exact .inl (.inl (x.keep a _ h n trivial (fun l h => by cases h)))
    · exact .inl (.inr ⟨o, x.keep a _ h n trivial (fun l h => by cases h)⟩)
  · exact .inr h
mutual
theorem RD.monoW (x : ExtW m H m' H') (r : Rel K m S H) : ∀ {d : D} {v : V}, RD K m H d v → RD K m' H' d v
  | _, _, .non => .non
  | _, _, .bl b => .bl b
  | _, _, .int i => .int i
  | _, _, .str z => .str z
  | _, _, .tup h q => .tup (x.sqT r h) (RDs.monoW x r q)
  | _, _, .ref h => .ref (x.get h)
  | _, _, .cl h q => .cl (x.sqC r h) (RDs.monoW x r q)
theorem RDs.monoW (x : ExtW m H m' H') (r : Rel K m S H) : ∀ {ds : List D} {vs : List V}, RDs K m H ds vs → RDs K m' H' ds vs
  | _, _, .nil => .nil
  | _, _, .cons a b => .cons (RD.monoW x r a) (RDs.monoW x r b)
end
theorem RDs.length : ∀ {ds : List D} {vs : List V}, RDs K m H ds vs → ds.length = vs.length
  | _, _, .nil => rfl
  | _, _, .cons _ b => congrArg (· + 1) (RDs.length b)
theorem RDs.get : ∀ {ds : List D} {vs : List V} {i : Nat} {d : D}, RDs K m H ds vs → ds[i]? = some d → ∃ v, vs[i]? = some v ∧ RD K m H d v
  | _, _, i, _, .nil, h => by simp at h
  | _, _, 0, _, .cons a b, h => by simp at h; subst h; exact ⟨_, rfl, a⟩
  | _, _, i + 1, _, .cons a b, h => by
    obtain ⟨v, e, r⟩ := RDs.get (i := i) b (by simpa using h)
    exact ⟨v, by simpa using e, r⟩
theorem RDs.app : ∀ {ds es : List D} {vs ws : List V}, RDs K m H ds vs → RDs K m H es ws → RDs K m H (ds ++ es) (vs ++ ws)
  | _, _, _, _, .nil, q => q
  | _, _, _, _, .cons a b, q => .cons a (RDs.app b q)
theorem RDs.take : ∀ {ds : List D} {vs : List V} (n : Nat), RDs K m H ds vs → RDs K m H (ds.take n) (vs.take n)
  | _, _, 0, _ => .nil
  | _, _, _ + 1, .nil => .nil
  | _, _, n + 1, .cons a b => .cons a (RDs.take n b)
theorem RDs.drop : ∀ {ds : List D} {vs : List V} (n : Nat), RDs K m H ds vs → RDs K m H (ds.drop n) (vs.drop n)
  | _, _, 0, q => q
  | _, _, _ + 1, .nil => .nil
  | _, _, n + 1, .cons a b => RDs.drop n b
theorem RDs.set {d : D} {v : V} (r : RD K m H d v) : ∀ {ds : List D} {vs : List V} (i : Nat), RDs K m H ds vs → RDs K m H (ds.set i d) (vs.set i v)
  | _, _, _, .nil => .nil
  | _, _, 0, .cons _ b => .cons r b
  | _, _, i + 1, .cons a b => .cons a (RDs.set r i b)
theorem RDs.erase : ∀ {ds : List D} {vs : List V} (i : Nat), RDs K m H ds vs → RDs K m H (ds.eraseIdx i) (vs.eraseIdx i)
  | _, _, _, .nil => .nil
  | _, _, 0, .cons _ b => b
  | _, _, i + 1, .cons a b => .cons a (RDs.erase i b)

/-! ### the store grows, changes -/
theorem Ext.alloc {p : Addr} {o : HO} (n : H p = none) (hm : p ∉ m) : Ext m H (m ++ [p]) (upd H p o) := by
  refine ⟨⟨[p], rfl⟩, fun b hb => ?_, fun b u e _ _ => by rw [upd_ne (ne_of_none e n)]; exact e, fun b ps e _ => ⟨ps, by rw [upd_ne (ne_of_none e n)]; exact e, id⟩⟩
  rcases List.mem_append.mp hb with z | z
  · exact .inl z
  · rw [List.mem_singleton.mp z]; exact .inr n
theorem Ext.laid {p : Addr} {o : HO} (n : H p = none) : Ext m H m (upd H p o) :=
  ⟨⟨[], by simp⟩, fun b hb => .inl hb, fun b u e _ _ => by rw [upd_ne (ne_of_none e n)]; exact e, fun b ps e _ => ⟨ps, by rw [upd_ne (ne_of_none e n)]; exact e, id⟩⟩
theorem Ext.upd {a : Addr} {o : HO} (h : a ∈ m) : Ext m H m (upd H a o) :=
  ⟨⟨[], by simp⟩, fun b hb => .inl hb, fun b u e nb _ => by rw [upd_ne (show b ≠ a from fun z => nb (by rw [z]; exact h))]; exact e,
    fun b ps e nb => ⟨ps, by rw [upd_ne (show b ≠ a from fun z => nb (by rw [z]; exact h))]; exact e, id⟩⟩
theorem Rel.fresh (r : Rel K m S H) {p : Addr} (n : H p = none) : p ∉ m := fun hm => by
  obtain ⟨vs, q, _⟩ := r.mem hm
  rw [n] at q; cases q
theorem RKs.mono (x : Ext m H m' H') (r : Rel K m S H) {l : List (Key × D)} {kvs : List (Key × V)} (h : RKs K m H l kvs) : RKs K m' H' l kvs := ⟨h.1, h.2.mono x r⟩
theorem RC.mono (x : Ext m H m' H') (r : Rel K m S H) {o : Ob} {u : HO} (h : RC K m H o u) : RC K m' H' o u := by
  cases o <;> cases u <;> first
    | exact RDs.mono x r h
    | exact RKs.mono x r h
    | exact False.elim h
theorem RO.mono (x : Ext m H m' H') (r : Rel K m S H) {o : Ob} {a : Addr} (h : RO K m H o a) (e : H' a = H a) : RO K m' H' o a := by
  obtain ⟨u, h1, h2⟩ := h.rc
  exact (h2.mono x r).ro (e.trans h1)
/-- something that is not of the store is laid -/
theorem Rel.laid (r : Rel K m S H) {p : Addr} {o : HO} (n : H p = none) : Rel K m S (upd H p o) := by
  have nm := r.fresh n
  refine ⟨r.len, r.nd, fun k u a h1 h2 => (r.ob k u a h1 h2).mono (Ext.laid n) r ?_⟩
  exact upd_ne fun z => nm (z ▸ List.mem_of_getElem? h2)
theorem Rel.newO (r : Rel K m S H) {p : Addr} {o : Ob} {u : HO} (n : H p = none) (q : RC K m H o u) : Rel K (m ++ [p]) (S ++ [o]) (upd H p u) := by
  have nm := r.fresh n
  have x : Ext m H (m ++ [p]) (upd H p u) := .alloc n nm
  refine ⟨by simp [r.len], List.nodup_append.mpr ⟨r.nd, by simp, fun a ha b hb => by rw [List.mem_singleton.mp hb]; exact fun z => nm (z ▸ ha)⟩, fun k v a h1 h2 => ?_⟩
  by_cases hk : k < S.length
  · rw [List.getElem?_append_left hk] at h1
    rw [List.getElem?_append_left (by rw [r.len]; exact hk)] at h2
    exact (r.ob k v a h1 h2).mono x r (upd_ne fun z => nm (z ▸ List.mem_of_getElem? h2))
  · have hk2 : k = S.length := by
      have := (List.getElem?_eq_some_iff.mp h1).1
      simp at this
      omega
    subst hk2
    rw [List.getElem?_append_right (Nat.le_refl _)] at h1
    rw [List.getElem?_append_right (Nat.le_of_eq r.len)] at h2
    simp [r.len] at h1 h2
    subst h1 h2
    exact (q.mono x r).ro upd_same
theorem Rel.new (r : Rel K m S H) {p : Addr} {l : List D} {vs : List V} (n : H p = none) (q : RDs K m H l vs) : Rel K (m ++ [p]) (S ++ [.lst l]) (upd H p (.lst vs)) := r.newO n (o := .lst l) (u := .lst vs) q
/-- a wider table of addresses -/
theorem RD.wide (g : ∀ {i : Nat} {a : Addr}, m[i]? = some a → m'[i]? = some a) {d : D} {v : V} (h : RD K m H d v) : RD K m' H d v :=
  RD.rec (motive_1 := fun d v _ => RD K m' H d v) (motive_2 := fun ds vs _ => RDs K m' H ds vs) .non .bl .int .str (fun h _ q => .tup h q) (fun h => .ref (g h)) (fun h _ q => .cl h q) .nil (fun _ _ a b => .cons a b) h
theorem RDs.wide (g : ∀ {i : Nat} {a : Addr}, m[i]? = some a → m'[i]? = some a) {d : List D} {v : List V} (h : RDs K m H d v) : RDs K m' H d v :=
  RDs.rec (motive_1 := fun d v _ => RD K m' H d v) (motive_2 := fun ds vs _ => RDs K m' H ds vs) .non .bl .int .str (fun h _ q => .tup h q) (fun h => .ref (g h)) (fun h _ q => .cl h q) .nil (fun _ _ a b => .cons a b) h
theorem RO.wide (g : ∀ {i : Nat} {a : Addr}, m[i]? = some a → m'[i]? = some a) {o : Ob} {a : Addr} (h : RO K m H o a) : RO K m' H o a := by
  obtain ⟨u, h1, h2⟩ := h.rc
  refine RC.ro (u := u) ?_ h1
  cases o <;> cases u <;> first
    | exact RDs.wide g h2
    | exact ⟨h2.1, RDs.wide g h2.2⟩
    | exact False.elim h2
/-- the store's new list that stands already -/
theorem Rel.adopt (r : Rel K m S H) {p : Addr} {l : List D} {vs : List V} (n : H p = some (.lst vs)) (nm : p ∉ m) (q : RDs K m H l vs) : Rel K (m ++ [p]) (S ++ [.lst l]) H ∧ (∀ {d v}, RD K m H d v → RD K (m ++ [p]) H d v) := by
  have g : ∀ {i : Nat} {a : Addr}, m[i]? = some a → (m ++ [p])[i]? = some a := fun {i a} h => by
    rw [List.getElem?_append_left (List.getElem?_eq_some_iff.mp h).1]; exact h
  refine ⟨⟨by simp [r.len], List.nodup_append.mpr ⟨r.nd, by simp, fun a ha b hb => by rw [List.mem_singleton.mp hb]; exact fun z => nm (z ▸ ha)⟩, fun k u a h1 h2 => ?_⟩, fun h => h.wide g⟩
  by_cases hk : k < S.length
  · rw [List.getElem?_append_left hk] at h1
    rw [List.getElem?_append_left (by rw [r.len]; exact hk)] at h2
    exact (r.ob k u a h1 h2).wide g
  · have hk2 : k = S.length := by
      have := (List.getElem?_eq_some_iff.mp h1).1
      simp at this
      omega
    subst hk2
    rw [List.getElem?_append_right (Nat.le_refl _)] at h1
    rw [List.getElem?_append_right (Nat.le_of_eq r.len)] at h2
    simp [r.len] at h1 h2
    subst h1 h2
    exact ⟨vs, n, q.wide g⟩
theorem nodup_at {l : List Addr} (h : l.Nodup) {i j : Nat} {a : Addr} (e : l[i]? = some a) (f : l[j]? = some a) : i = j := by
  obtain ⟨h1, e1⟩ := List.getElem?_eq_some_iff.mp e
  obtain ⟨h2, e2⟩ := List.getElem?_eq_some_iff.mp f
  exact (List.getElem_inj h).mp (e1.trans e2.symm)
theorem Rel.updO (r : Rel K m S H) {n : Nat} {a : Addr} {o : Ob} {u : HO} (hn : m[n]? = some a) (q : RC K m H o u) : Rel K m (S.set n o) (upd H a u) := by
  have x : Ext m H m (L2.upd H a u) := .upd (List.mem_of_getElem? hn)
  refine ⟨by simp [r.len], r.nd, fun k v b h1 h2 => ?_⟩
  by_cases hk : n = k
  · subst hk
    have hl : n < S.length := by rw [← r.len]; exact (List.getElem?_eq_some_iff.mp hn).1
    rw [List.getElem?_set_self hl] at h1
    cases h1
    rw [hn] at h2; cases h2
    exact (q.mono x r).ro upd_same
  · rw [List.getElem?_set_ne hk] at h1
    exact (r.ob k v b h1 h2).mono x r (upd_ne fun z => hk (nodup_at r.nd hn (z ▸ h2)))
theorem Rel.upd (r : Rel K m S H) {n : Nat} {a : Addr} {l : List D} {vs : List V} (hn : m[n]? = some a) (q : RDs K m H l vs) : Rel K m (S.set n (.lst l)) (upd H a (.lst vs)) := r.updO hn (o := .lst l) (u := .lst vs) q
end
end Ev
set_option Elab.async false
set_option linter.all false
set_option maxRecDepth 100000
set_option maxHeartbeats 4000000
namespace Ev
open PySem PySem.Spec PyProof.Rows L2

/-! ## the small language -/
inductive Cst where
  | non | bl (b : Bool) | int (i : Int) | str (x : Str)
inductive Bop where
  | add | sub | mul | fdiv | mod | pow
inductive Cop where
  | eq | ne | lt | le | gt | ge | is | isnot | inn | notin
/-- built-in functions and types called by name -/
inductive Bi where
  | len | int | abs | tuple | list | sum | sorted | max | min | str
/-- what eats a generator expression -/
inductive GK where
  | any | all | tuple | list | sum | max | min
inductive Ty where
  | int | bool | tuple | str
inductive Me where
  | append | pop | index | extend | insert
mutual
inductive E where
  | var (i : Nat)
  | cst (c : Cst)
  | bin (op : Bop) (a b : E)
  | neg (a : E)
  | cmp (op : Cop) (a b : E)
  | chain (o1 o2 : Cop) (a b c : E)
  | and (a b : E)
  | or (a b : E)
  | not (a : E)
  | ite (t a b : E)
  | tup (es : Es)
  | lst (es : Es)
  | idx (a b : E)
  | slc (a : E) (lo hi : Eo)
  | call (f : Nat) (es : Es)
  | callX (f : Nat) (es : Es)
  | callK (f : Nat) (es : Es) (ks : List Str) (zs : Es) (perm : List Nat)
  | callKX (f : Nat) (es : Es) (ks : List Str) (zs : Es) (perm : List Nat)
  | bi (b : Bi) (es : Es)
  | isi (a : E) (t : Ty)
  | meth (m : Me) (o : E) (es : Es)
  | lc (elt : E) (g : G) (it : It) (cs : Es) (own : List Nat)
  | lc2 (elt : E) (g : G) (it : It) (cs : Es) (g1 : G) (it1 : It) (cs1 : Es) (own vs1 : List Nat)
  | gen (k : GK) (elt : E) (g : G) (it : It) (cs : Es) (own : List Nat)
  | rev (a : E)
  | lsI (it : It)
  | dnew
  | dlit (ks : List Str) (es : Es)
  | dget (o k : E)
  | din (neg : Bool) (k o : E)
  | dgetM (o k : E)
  | dead
inductive Es where
  | nil
  | cons (e : E) (r : Es)
inductive Eo where
  | none
  | some (e : E)
inductive G where
  | name (i : Nat)
  | tup (gs : Gs)
  | sub (o i : E)
  | subD (o i : E)
inductive Gs where
  | nil
  | cons (g : G) (r : Gs)
inductive It where
  | val (e : E)
  | rng1 (a : E)
  | rng2 (a b : E)
  | zip (a b : E)
end
/-- an item of what an except suite returns: a constant, a field of the exception -/
inductive HI where
  | cst (c : Cst)
  | fld (f : Str)
inductive HE where
  | one (i : HI)
  | tup (l : List HI)
/-- except (the i-th own class) as (the slot): return .. -/
structure Hn where
  cl : Nat
  fl : List Str
  sl : Option Nat
  he : HE
mutual
inductive Sm where
  | expr (e : E)
  | ret (e : E)
  | retN
  | ifs (t : E) (a b : Bs)
  | whl (t : E) (b : Bs)
  | fors (g : G) (it : It) (b : Bs)
  | asg (g : G) (e : E)
  | aug (i : Nat) (op : Bop) (e : E)
  | augS (o i : E) (op : Bop) (e : E)
  | pass
  | brk
  | cont
  | dead
  | raise (i : Nat) (es : Es)
  | delD (o k : E)
  | tryR (b : Bs) (h : Hn)
  | try2 (b : Bs) (h1 h2 : Hn)
inductive Bs where
  | nil
  | cons (s : Sm) (r : Bs)
end

/-! ## values' operations -/
def Cst.d : Cst → D
  | .non => .non
  | .bl b => .bl b
  | .int i => .int i
  | .str x => .str x
def ints? : List D → Option (List Int)
  | [] => some []
  | .int i :: r => (ints? r).map (i :: ·)
  | _ :: _ => none
/-- two ints -/
def arith : Bop → Int → Int → Int
  | .add, i, j => i + j
  | .sub, i, j => i - j
  | .mul, i, j => i * j
  | .fdiv, i, j => i.fdiv j
  | .mod, i, j => i.fmod j
  | .pow, i, j => i ^ j.toNat
def arithOk : Bop → Int → Int → Prop
  | .add, _, _ => True
  | .sub, _, _ => True
  | .mul, i, j => IntMulOk i j
  | .fdiv, _, j => j ≠ 0 ∧ j.natAbs < 340282366920938463463374607431768211456
  | .mod, _, j => j ≠ 0
  | .pow, i, j => 0 ≤ j ∧ j ≤ 1000000 ∧ i.natAbs < 2 ^ 64
/-- a op b: ints; tuples and texts joined; a tuple, a list repeated -/
def wpBin (op : Bop) (x y : D) (S : Store) (Q : DK) : Prop :=
  match op, x, y with
  | op, .int i, .int j => arithOk op i j ∧ Q (.int (arith op i j)) S
  | .add, .tup a, .tup b => a.length + b.length ≤ sizeLine ∧ Q (.tup (a ++ b)) S
  | .add, .str a, .str b => a.length + b.length ≤ sizeLine ∧ Q (.str (a ++ b)) S
  | .add, .ref n, .ref k => ∃ a b, S[n]? = some (.lst a) ∧ S[k]? = some (.lst b) ∧ a.length + b.length ≤ sizeLine ∧ Q (.ref S.length) (S ++ [.lst (a ++ b)])
  | .add, .bl a, .int j => Q (.int (b2n a + j)) S
  | .sub, .bl a, .int j => Q (.int (b2n a - j)) S
  | .mul, .str z, .int k => z.length ≤ 16 ∧ -(2 ^ 63 : Int) ≤ k ∧ k ≤ 1048576 ∧ Q (.str (Txt.mul z k)) S
  | .mul, .tup a, .int k => -1000 ≤ k ∧ k ≤ 1000 ∧ a.length ≤ 1000 ∧ Q (.tup (List.replicate k.toNat a).flatten) S
  | .mul, .ref n, .int k => ∃ a, S[n]? = some (.lst a) ∧ -(2 ^ 63) ≤ k ∧ k < 2 ^ 63 ∧ a.length * k.toNat ≤ sizeLine ∧ Q (.ref S.length) (S ++ [.lst (List.replicate k.toNat a).flatten])
  | _, _, _ => False
/-- -x -/
def wpNeg (x : D) (S : Store) (Q : DK) : Prop :=
  match x with
  | .int i => Q (.int (-i)) S
  | .bl b => Q (.int (-b2n b)) S
  | _ => False
/-- a op= b of ints -/
def wpAug (op : Bop) (x y : D) (S : Store) (Q : DK) : Prop := ∃ i j, x = .int i ∧ y = .int j ∧ arithOk op i j ∧ Q (.int (arith op i j)) S
/-- dicts -/
def keyD : D → Option Key
  | .int i => some (.inl i)
  | .str x => some (.inr x)
  | _ => none
def valD (l : List (Key × D)) (k : Key) : Option D := (l.find? fun kv => decide (kv.1 = k)).map (·.2)
def putD (l : List (Key × D)) (k : Key) (v : D) : List (Key × D) :=
  if (l.any fun kv => decide (kv.1 = k)) = true then l.map (fun kv => if kv.1 = k then (kv.1, v) else kv) else l ++ [(k, v)]
def mergeD (acc more : List (Key × D)) : List (Key × D) := more.foldl (fun a kv => putD a kv.1 kv.2) acc
def dropD (l : List (Key × D)) (k : Key) : List (Key × D) := l.filter fun kv => decide (kv.1 ≠ k)
/-- the items of a list or tuple -/
def items (S : Store) : D → Option (List D)
  | .tup l => some l
  | .ref n => (match S[n]? with
    | some (.lst l) => some l
    | _ => none)
  | .cl l => some l
  | _ => none
mutual
/-- as the library's data -/
def py : D → Option PyData
  | .non => some .none
  | .bl b => some (.bool b)
  | .int i => some (.int i)
  | .str x => some (.str x)
  | .tup l => (pys l).map .tuple
  | .ref _ => none
  | .cl _ => none
def pys : List D → Option (List PyData)
  | [] => some []
  | a :: as => (match py a, pys as with
    | some x, some y => some (x :: y)
    | _, _ => none)
end
/-- a list of plain data too -/
def pyS (S : Store) : D → Option PyData
  | .ref n => (match items S (.ref n) with
    | some l => (pys l).map .list
    | none => none)
  | d => py d
def seqOf : PyData → Option (List PyData)
  | .list l => some l
  | .tuple l => some l
  | _ => none
def D.isNon : D → Bool
  | .non => true
  | _ => false
/-- ints, tuples of ints: by order -/
def ltI : List Int → List Int → Bool
  | [], [] => false
  | [], _ :: _ => true
  | _ :: _, [] => false
  | a :: as, b :: bs => if a = b then ltI as bs else decide (a < b)
/-- a cop b -/
def wpCmp (op : Cop) (x y : D) (S : Store) (Q : DK) : Prop :=
  match op with
  | .eq => ∃ d e, pyS S x = some d ∧ pyS S y = some e ∧ SeqAt.shaped d = true ∧ SeqAt.shaped e = true ∧ Q (.bl (PyData.eqv d e)) S
  | .ne => ∃ d e, pyS S x = some d ∧ pyS S y = some e ∧ SeqAt.shaped d = true ∧ SeqAt.shaped e = true ∧ Q (.bl (!PyData.eqv d e)) S
  | .lt => (∃ i j, x = .int i ∧ y = .int j ∧ Q (.bl (decide (i < j))) S) ∨ ∃ a b : List Int, x = .tup (a.map D.int) ∧ y = .tup (b.map D.int) ∧ Q (.bl (ltI a b)) S
  | .le => (∃ i j, x = .int i ∧ y = .int j ∧ Q (.bl (decide (i ≤ j))) S) ∨ ∃ a b : List Int, x = .tup (a.map D.int) ∧ y = .tup (b.map D.int) ∧ Q (.bl (!ltI b a)) S
  | .gt => (∃ i j, x = .int i ∧ y = .int j ∧ Q (.bl (decide (j < i))) S) ∨ ∃ a b : List Int, x = .tup (a.map D.int) ∧ y = .tup (b.map D.int) ∧ Q (.bl (ltI b a)) S
  | .ge => (∃ i j, x = .int i ∧ y = .int j ∧ Q (.bl (decide (j ≤ i))) S) ∨ ∃ a b : List Int, x = .tup (a.map D.int) ∧ y = .tup (b.map D.int) ∧ Q (.bl (!ltI a b)) S
  | .is => (match y with
    | .non => Q (.bl x.isNon) S
    | .bl b => ∃ a, x = .bl a ∧ Q (.bl (a == b)) S
    | _ => False)
  | .isnot => (match y with
    | .non => Q (.bl (!x.isNon)) S
    | .bl b => ∃ a, x = .bl a ∧ Q (.bl (!(a == b))) S
    | _ => False)
  | .inn => ∃ d e ds, pyS S x = some d ∧ pyS S y = some e ∧ SeqAt.shaped d = true ∧ SeqAt.shaped e = true ∧ seqOf e = some ds ∧ Q (.bl (ds.any fun z => PyData.eqv z d)) S
  | .notin => ∃ d e ds, pyS S x = some d ∧ pyS S y = some e ∧ SeqAt.shaped d = true ∧ SeqAt.shaped e = true ∧ seqOf e = some ds ∧ Q (.bl (!ds.any fun z => PyData.eqv z d)) S
/-- truth -/
def truth (S : Store) : D → Option Bool
  | .non => some false
  | .bl b => some b
  | .int i => some (i != 0)
  | .str _ => none
  | .tup l => some (!l.isEmpty)
  | .ref n => (match S[n]? with
    | some (.lst l) => some (!l.isEmpty)
    | some (.dic l) => some (!l.isEmpty)
    | none => none)
  | .cl l => some (!l.isEmpty)
def revS (z : Str) : Str := ⟨z.cps.reverse⟩
def ixAt (l : List D) (i : Int) : Option D := atI l i
def cut (l : List D) (lo hi : Option Int) : List D := (l.drop (HT.sIx l.length 0 lo)).take (HT.sIx l.length l.length hi - HT.sIx l.length 0 lo)
/-- x[lo:hi] -/
def wpSlc (x : D) (lo hi : Option Int) (S : Store) (Q : DK) : Prop :=
  match x with
  | .tup l => Q (.tup (cut l lo hi)) S
  | .str z => z.length ≤ sizeLine ∧ Q (.str (cutS z lo hi)) S
  | .ref n => ∃ l, items S (.ref n) = some l ∧ Q (.ref S.length) (S ++ [.lst (cut l lo hi)])
  | .cl l => Q (.ref S.length) (S ++ [.lst (cut l lo hi)])
  | _ => False
def isTy (t : Ty) : D → Option Bool
  | .non => some false
  | .bl _ => some (match t with
    | .int => true
    | .bool => true
    | _ => false)
  | .int _ => some (match t with
    | .int => true
    | _ => false)
  | .str _ => some (match t with
    | .str => true
    | _ => false)
  | .tup _ => some (match t with
    | .tuple => true
    | _ => false)
  | .ref _ => some false
  | .cl _ => some false
/-- a list -/
def lsty : D → Bool
  | .ref _ => true
  | .cl _ => true
  | _ => false
def wpBi (b : Bi) (xs : List D) (S : Store) (Q : DK) : Prop :=
  match b with
  | .len => (∃ x l, xs = [x] ∧ items S x = some l ∧ Q (.int l.length) S) ∨ (∃ z, xs = [.str z] ∧ z.length ≤ sizeLine ∧ Q (.int z.length) S) ∨ ∃ n l, xs = [.ref n] ∧ S[n]? = some (.dic l) ∧ Q (.int l.length) S
  | .str => (∃ i : Int, xs = [.int i] ∧ i.natAbs.log2 < 1920 ∧ Q (.str (toString i)) S) ∨ ∃ b : Bool, xs = [.bl b] ∧ Q (.str (if b then "True" else "False")) S
  | .int => (∃ i, xs = [.int i] ∧ Q (.int i) S) ∨ ∃ k, xs = [.bl k] ∧ Q (.int (if k then 1 else 0)) S
  | .abs => ∃ i, xs = [.int i] ∧ Q (.int (if i < 0 then -i else i)) S
  | .tuple => ∃ x l, xs = [x] ∧ items S x = some l ∧ Q (.tup l) S
  | .list => ∃ x l, xs = [x] ∧ items S x = some l ∧ Q (.ref S.length) (S ++ [.lst l])
  | .sum => ∃ x l ns, xs = [x] ∧ items S x = some l ∧ ints? l = some ns ∧ Q (.int ns.sum) S
  | .sorted => ∃ x l ns, xs = [x] ∧ lsty x = true ∧ items S x = some l ∧ ints? l = some ns ∧ ns.length < 64 ∧ ∀ ns' : List Int, ns'.Perm ns → ns'.Pairwise (· ≤ ·) → Q (.ref S.length) (S ++ [.lst (ns'.map D.int)])
  | .max => (∃ i j, xs = [.int i, .int j] ∧ Q (.int (if j > i then j else i)) S) ∨ ∃ x l ns, xs = [x] ∧ lsty x = true ∧ items S x = some l ∧ ints? l = some ns ∧ 0 < ns.length ∧ ∀ m, m ∈ ns → (∀ y, y ∈ ns → y ≤ m) → Q (.int m) S
  | .min => (∃ i j, xs = [.int i, .int j] ∧ Q (.int (if j < i then j else i)) S) ∨ ∃ x l ns, xs = [x] ∧ lsty x = true ∧ items S x = some l ∧ ints? l = some ns ∧ 0 < ns.length ∧ ∀ m, m ∈ ns → (∀ y, y ∈ ns → m ≤ y) → Q (.int m) S
def wpMe (me : Me) (o : D) (xs : List D) (S : Store) (Q : DK) : Prop :=
  match me with
  | .append => ∃ n l y, o = .ref n ∧ xs = [y] ∧ S[n]? = some (.lst l) ∧ l.length < sizeLine ∧ Q .non (S.set n (.lst (l ++ [y])))
  | .pop => (∃ n l y, o = .ref n ∧ xs = [] ∧ S[n]? = some (.lst l) ∧ l[l.length - 1]? = some y ∧ Q y (S.set n (.lst l.dropLast))) ∨
    ∃ (n : Nat) (l : List D) (i : Nat) (y : D), o = .ref n ∧ xs = [.int i] ∧ S[n]? = some (.lst l) ∧ (i : Int) < 2 ^ 63 ∧ l[i]? = some y ∧ Q y (S.set n (.lst (l.eraseIdx i)))
  | .index => False
  | .extend => ∃ n l j k, o = .ref n ∧ xs = [.ref j] ∧ S[n]? = some (.lst l) ∧ S[j]? = some (.lst k) ∧ l.length + k.length ≤ sizeLine ∧ Q .non (S.set n (.lst (l ++ k)))
  | .insert => ∃ (n : Nat) (l : List D) (i : Nat) (y : D), o = .ref n ∧ xs = [.int i, y] ∧ S[n]? = some (.lst l) ∧ i ≤ l.length ∧ l.length < sizeLine ∧ (i : Int) < 2 ^ 63 ∧ Q .non (S.set n (.lst (l.take i ++ [y] ++ l.drop i)))

/-! ## what is wanted ahead of an expression, a statement -/
/-- a wish about exceptions: the class's number, the fields -/
abbrev EK := Nat → List D → Store → Prop
def noE : EK := fun _ _ _ => False
/-- the call of the f-th def; the wish about what is raised here -/
structure CallH where
  go : Nat → List D → Store → DK → EK → Prop
  ex : EK
/-- what a loop walks: the items; what has to stand still -/
structure Src where
  its : List D
  stay : Store → Prop
structure Dn where
  nx : Rho → Store → Prop
  rt : DK
  bk : Rho → Store → Prop
  ct : Rho → Store → Prop
def wipeD (r : Rho) : List Nat → Rho
  | [] => r
  | v :: vs => (wipeD r vs).set v none
def lcLoop (stay : Store → Prop) (tg : D → Rho → Store → (Rho → Store → Prop) → Prop) (cond : Rho → Store → (Bool → Store → Prop) → Prop) (elt : Rho → Store → DK → Prop) (r : Rho) :
    List D → Store → List D → (List D → Store → Prop) → Prop
  | [], S, acc, Q => stay S ∧ Q acc S
  | x :: xs, S, acc, Q => stay S ∧ tg x r S fun r1 S1 => cond r1 S1 fun b S2 =>
      if b = true then elt r1 S2 fun y S3 => acc.length < sizeLine ∧ lcLoop stay tg cond elt r xs S3 (acc ++ [y]) Q else lcLoop stay tg cond elt r xs S2 acc Q
/-- a list comprehension of two clauses: the inner clause's walk ahead of the outer one's next turn -/
def lc2Loop (stay : Store → Prop) (tg : D → Rho → Store → (Rho → Store → Prop) → Prop) (cond : Rho → Store → (Bool → Store → Prop) → Prop) (inner : Rho → Store → List D → (List D → Store → Prop) → Prop) (r : Rho) :
    List D → Store → List D → (List D → Store → Prop) → Prop
  | [], S, acc, Q => stay S ∧ Q acc S
  | x :: xs, S, acc, Q => stay S ∧ tg x r S fun r1 S1 => cond r1 S1 fun b S2 =>
      if b = true then inner r1 S2 acc fun acc' S3 => lc2Loop stay tg cond inner r xs S3 acc' Q else lc2Loop stay tg cond inner r xs S2 acc Q
def forLoop (stay : Store → Prop) (tg : D → Rho → Store → (Rho → Store → Prop) → Prop) (body : Dn → Rho → Store → Prop) (N : Dn) : List D → Rho → Store → Prop
  | [], r, S => stay S ∧ N.nx r S
  | x :: xs, r, S => stay S ∧ tg x r S fun r1 S1 => body { nx := forLoop stay tg body N xs, ct := forLoop stay tg body N xs, bk := N.nx, rt := N.rt } r1 S1
/-- what a generator hands out is eaten by step; fin: behind the last item -/
def gLoop (stay : Store → Prop) (tg : D → Rho → Store → (Rho → Store → Prop) → Prop) (cond : Rho → Store → (Bool → Store → Prop) → Prop) (elt : Rho → Store → DK → Prop) (r : Rho) (step : List D → D → Store → (List D → Store → Prop) → Prop) (fin : List D → Store → Prop) :
    List D → Store → List D → Prop
  | [], S, acc => stay S ∧ fin acc S
  | x :: xs, S, acc => stay S ∧ tg x r S fun r1 S1 => cond r1 S1 fun b S2 =>
      if b = true then elt r1 S2 fun y S3 => step acc y S3 fun acc' S4 => gLoop stay tg cond elt r step fin xs S4 acc' else gLoop stay tg cond elt r step fin xs S2 acc
def maxL : Int → List Int → Int
  | a, [] => a
  | a, b :: l => maxL (if b > a then b else a) l
def minL : Int → List Int → Int
  | a, [] => a
  | a, b :: l => minL (if b < a then b else a) l
def gStep (k : GK) (Q : DK) (acc : List D) (y : D) (S : Store) (go : List D → Store → Prop) : Prop :=
  match k with
  | .any => ∃ t, y = .bl t ∧ if t = true then Q (.bl true) S else go (acc ++ [y]) S
  | .all => ∃ t, y = .bl t ∧ if t = true then go (acc ++ [y]) S else Q (.bl false) S
  | .sum => acc.length < sizeLine ∧ (∃ i : Int, y = .int i ∧ -4611686018427387904 ≤ i ∧ i < 4611686018427387904) ∧ (∃ ns, ints? (acc ++ [y]) = some ns ∧ -4611686018427387904 ≤ ns.sum ∧ ns.sum < 4611686018427387904) ∧ go (acc ++ [y]) S
  | .max => acc.length < sizeLine ∧ (∃ i, y = .int i) ∧ go (acc ++ [y]) S
  | .min => acc.length < sizeLine ∧ (∃ i, y = .int i) ∧ go (acc ++ [y]) S
  | _ => acc.length < sizeLine ∧ go (acc ++ [y]) S
def gFin (k : GK) (Q : DK) (acc : List D) (S : Store) : Prop :=
  match k with
  | .any => Q (.bl false) S
  | .all => Q (.bl true) S
  | .tuple => Q (.tup acc) S
  | .list => Q (.ref S.length) (S ++ [.lst acc])
  | .sum => ∃ ns, ints? acc = some ns ∧ Q (.int ns.sum) S
  | .max => ∃ a ns, ints? acc = some (a :: ns) ∧ Q (.int (maxL a ns)) S
  | .min => ∃ a ns, ints? acc = some (a :: ns) ∧ Q (.int (minL a ns)) S
def Src.live (n : Nat) (S : Store) (l : List D) : Src := ⟨l, fun S' => S'[n]? = S[n]?⟩
def wpSrc (x : D) (S : Store) (Q : Src → Store → Prop) : Prop :=
  match x with
  | .tup l => Q ⟨l, fun _ => True⟩ S
  | .cl l => Q ⟨l, fun _ => True⟩ S
  | .ref n => ∃ l, items S (.ref n) = some l ∧ Q (.live n S l) S
  | _ => False
/-- zip of two tuples, of two lists -/
def zipL (l k : List D) : List D := (l.zip k).map fun p => .tup [p.1, p.2]
def wpZip (x y : D) (S : Store) (Q : Src → Store → Prop) : Prop :=
  (∃ l k, x = .tup l ∧ y = .tup k ∧ Q ⟨zipL l k, fun _ => True⟩ S) ∨
  ∃ n j l k, x = .ref n ∧ y = .ref j ∧ items S (.ref n) = some l ∧ items S (.ref j) = some k ∧ Q ⟨zipL l k, fun S' => S'[n]? = S[n]? ∧ S'[j]? = S[j]?⟩ S
def rngL (lo : Int) (n : Nat) : List D := (List.range n).map fun (i : Nat) => .int (lo + (i : Int))

def lenGs : Gs → Nat
  | .nil => 0
  | .cons _ r => lenGs r + 1
/-- an expression's two wishes: its value's, its truth's -/
structure WE where
  v : Rho → Store → DK → Prop
  t : Rho → Store → (Bool → Store → Prop) → Prop
def dfl (v : Rho → Store → DK → Prop) : WE := ⟨v, fun r S Q => v r S fun x S1 => ∃ b, truth S1 x = some b ∧ Q b S1⟩
section
variable (C : CallH)
mutual
def wp : E → WE
  | .var i => dfl fun r S Q => ∃ d, r[i]? = some (some d) ∧ Q d S
  | .cst c => dfl fun _ S Q => Q c.d S
  | .bin op a b => dfl fun r S Q => (wp a).v r S fun x S1 => (wp b).v r S1 fun y S2 => wpBin op x y S2 Q
  | .neg a => dfl fun r S Q => (wp a).v r S fun x S1 => wpNeg x S1 Q
  | .cmp op a b => dfl fun r S Q => (wp a).v r S fun x S1 => (wp b).v r S1 fun y S2 => wpCmp op x y S2 Q
  | .chain o1 o2 a b c => dfl fun r S Q => (wp a).v r S fun x S1 => (wp b).v r S1 fun y S2 => wpCmp o1 x y S2 fun z S3 => ∃ k, z = .bl k ∧
      if k = true then (wp c).v r S3 fun u S4 => wpCmp o2 y u S4 Q else Q (.bl false) S3
  | .and a b => ⟨fun r S Q => (wp a).v r S fun x S1 => ∃ c, x = .bl c ∧ if c = true then (wp b).v r S1 Q else Q (.bl false) S1,
      fun r S Q => (wp a).t r S fun c S1 => if c = true then (wp b).t r S1 Q else Q false S1⟩
  | .or a b => ⟨fun r S Q => (wp a).v r S fun x S1 => ∃ c, x = .bl c ∧ if c = true then Q (.bl true) S1 else (wp b).v r S1 Q,
      fun r S Q => (wp a).t r S fun c S1 => if c = true then Q true S1 else (wp b).t r S1 Q⟩
  | .not a => ⟨fun r S Q => (wp a).v r S fun x S1 => ∃ c, x = .bl c ∧ Q (.bl (!c)) S1, fun r S Q => (wp a).t r S fun c S1 => Q (!c) S1⟩
  | .ite t a b => ⟨fun r S Q => (wp t).t r S fun c S1 => if c = true then (wp a).v r S1 Q else (wp b).v r S1 Q, fun _ _ _ => False⟩
  | .tup es => dfl fun r S Q => wpEs es r S fun xs S1 => Q (.tup xs) S1
  | .lst es => dfl fun r S Q => wpEs es r S fun xs S1 => Q (.ref S1.length) (S1 ++ [.lst xs])
  | .idx a b => dfl fun r S Q => (wp a).v r S fun x S1 => (wp b).v r S1 fun y S2 => ∃ l, items S2 x = some l ∧ ∃ i, y = .int i ∧ ∃ d, ixAt l i = some d ∧ Q d S2
  | .slc a lo hi => dfl fun r S Q => (wp a).v r S fun x S1 => wpEo lo r S1 fun l S2 => wpEo hi r S2 fun h S3 => wpSlc x l h S3 Q
  | .call f es => dfl fun r S Q => wpEs es r S fun xs S1 => C.go f xs S1 Q noE
  | .callX f es => dfl fun r S Q => wpEs es r S fun xs S1 => C.go f xs S1 Q C.ex
  | .callK f es _ zs perm => dfl fun r S Q => wpEs es r S fun xs S1 => wpEs zs r S1 fun ys S2 => C.go f (perm.filterMap fun i => (xs ++ ys)[i]?) S2 Q noE
  | .callKX f es _ zs perm => dfl fun r S Q => wpEs es r S fun xs S1 => wpEs zs r S1 fun ys S2 => C.go f (perm.filterMap fun i => (xs ++ ys)[i]?) S2 Q C.ex
  | .bi b es => dfl fun r S Q => wpEs es r S fun xs S1 => wpBi b xs S1 Q
  | .isi a t => dfl fun r S Q => (wp a).v r S fun x S1 => ∃ b, isTy t x = some b ∧ Q (.bl b) S1
  | .meth me o es => dfl fun r S Q => (wp o).v r S fun x S1 => (∃ n, x = .ref n ∧ ∃ l, S1[n]? = some (.lst l)) ∧ wpEs es r S1 fun xs S2 => wpMe me x xs S2 Q
  | .lc elt g it cs own => dfl fun r S Q => wpI it r S fun src S1 => lcLoop src.stay (wpG g) (wpTs cs) (wp elt).v (wipeD r own) src.its S1 [] fun acc S2 => Q (.ref S2.length) (S2 ++ [.lst acc])
  | .lc2 elt g it cs g1 it1 cs1 own vs1 => dfl fun r S Q => wpI it r S fun src S1 => lc2Loop src.stay (wpG g) (wpTs cs) (fun r1 S2 acc K => wpI it1 r1 S2 fun src1 S3 => lcLoop src1.stay (wpG g1) (wpTs cs1) (wp elt).v (wipeD r1 vs1) src1.its S3 acc K) (wipeD r own) src.its S1 [] fun acc S2 => Q (.ref S2.length) (S2 ++ [.lst acc])
  | .gen k elt g it cs own => dfl fun r S Q => wpI it r S fun src S1 => gLoop src.stay (wpG g) (wpTs cs) (wp elt).v (wipeD r own) (gStep k Q) (gFin k Q) src.its S1 []
  | .rev a => dfl fun r S Q => (wp a).v r S fun x S1 => ∃ l, x = .tup l ∧ Q (.tup l.reverse) S1
  | .lsI it => dfl fun r S Q => wpI it r S fun src S1 => src.its.length ≤ 1000000 ∧ Q (.ref S1.length) (S1 ++ [.lst src.its])
  | .dnew => dfl fun _ S Q => Q (.ref S.length) (S ++ [.dic []])
  | .dlit ks es => dfl fun r S Q => wpEs es r (S ++ [.dic []]) fun xs S1 => S1[S.length]? = some (.dic []) ∧ Q (.ref S.length) (S1.set S.length (.dic (mergeD [] ((ks.map Sum.inr).zip xs))))
  | .dget o k => dfl fun r S Q => (wp o).v r S fun x S1 => (wp k).v r S1 fun y S2 => ∃ n, x = .ref n ∧ ∃ l, S2[n]? = some (.dic l) ∧ ∃ c, keyD y = some c ∧ ∃ d, valD l c = some d ∧ Q d S2
  | .din neg k o => dfl fun r S Q => (wp k).v r S fun y S1 => (wp o).v r S1 fun x S2 => ∃ n, x = .ref n ∧ ∃ l, S2[n]? = some (.dic l) ∧ ∃ c, keyD y = some c ∧ Q (.bl (neg != (valD l c).isSome)) S2
  | .dgetM o k => dfl fun r S Q => (wp o).v r S fun x S1 => (∃ n, x = .ref n) ∧ (wp k).v r S1 fun y S2 => ∃ n, x = .ref n ∧ ∃ l, S2[n]? = some (.dic l) ∧ ∃ c, keyD y = some c ∧ Q ((valD l c).getD .non) S2
  | .dead => ⟨fun _ _ _ => False, fun _ _ _ => False⟩
def wpTs : Es → Rho → Store → (Bool → Store → Prop) → Prop
  | .nil, _, S, Q => Q true S
  | .cons e _, r, S, Q => (wp e).t r S Q
def wpEs : Es → Rho → Store → (List D → Store → Prop) → Prop
  | .nil, _, S, Q => Q [] S
  | .cons e es, r, S, Q => (wp e).v r S fun x S1 => wpEs es r S1 fun xs S2 => Q (x :: xs) S2
def wpEo : Eo → Rho → Store → (Option Int → Store → Prop) → Prop
  | .none, _, S, Q => Q none S
  | .some e, r, S, Q => (wp e).v r S fun x S1 => ∃ i, x = .int i ∧ Q (some i) S1
def wpG : G → D → Rho → Store → (Rho → Store → Prop) → Prop
  | .name i, d, r, S, Q => Q (r.set i (some d)) S
  | .tup gs, d, r, S, Q => ∃ ds, items S d = some ds ∧ ds.length = lenGs gs ∧ wpGs gs ds r S Q
  | .sub o i, d, r, S, Q => (wp o).v r S fun x S1 => (wp i).v r S1 fun y S2 => ∃ n, x = .ref n ∧ ∃ k, y = .int k ∧ ∃ l, S2[n]? = some (.lst l) ∧ ∃ j, ixN l.length k = some j ∧ Q r (S2.set n (.lst (l.set j d)))
  | .subD o i, d, r, S, Q => (wp o).v r S fun x S1 => (wp i).v r S1 fun y S2 => ∃ n, x = .ref n ∧ ∃ l, S2[n]? = some (.dic l) ∧ ∃ c, keyD y = some c ∧ l.length < sizeLine ∧ Q r (S2.set n (.dic (putD l c d)))
def wpGs : Gs → List D → Rho → Store → (Rho → Store → Prop) → Prop
  | .nil, ds, r, S, Q => ds = [] ∧ Q r S
  | .cons g gs, ds, r, S, Q => ∃ x xs, ds = x :: xs ∧ wpG g x r S fun r1 S1 => wpGs gs xs r1 S1 Q
def wpI : It → Rho → Store → (Src → Store → Prop) → Prop
  | .val e, r, S, Q => (wp e).v r S fun x S1 => wpSrc x S1 Q
  | .rng1 a, r, S, Q => (wp a).v r S fun x S1 => ∃ j : Int, x = .int j ∧ -(2 ^ 62) ≤ j ∧ j < 2 ^ 62 ∧ Q ⟨rngL 0 j.toNat, fun _ => True⟩ S1
  | .rng2 a b, r, S, Q => (wp a).v r S fun x S1 => (wp b).v r S1 fun y S2 => ∃ i : Int, x = .int i ∧ ∃ j : Int, y = .int j ∧ (-(2 ^ 62) ≤ i ∧ i < 2 ^ 62 ∧ -(2 ^ 62) ≤ j ∧ j < 2 ^ 62) ∧ Q ⟨rngL i (j - i).toNat, fun _ => True⟩ S2
  | .zip a b, r, S, Q => (wp a).v r S fun x S1 => (wp b).v r S1 fun y S2 => wpZip x y S2 Q
end
def wpE (e : E) : Rho → Store → DK → Prop := (wp C e).v
def wpT (e : E) : Rho → Store → (Bool → Store → Prop) → Prop := (wp C e).t
/-- what an except suite returns, at the exception's fields fl with the values fs -/
def HI.val (fl : List Str) (fs : List D) : HI → Option D
  | .cst c => some c.d
  | .fld f => (fl.zip fs).lookup f
def HE.val (fl : List Str) (fs : List D) : HE → Option D
  | .one i => i.val fl fs
  | .tup l => (l.mapM (HI.val fl fs)).map .tup
/-- one branch or the other -/
def ifK (c : Bool) (A B : Dn → Rho → Store → Prop) (N : Dn) (r : Rho) (S : Store) : Prop := if c = true then A N r S else B N r S
/-- what comes behind a statement, shut until it is the goal -/
@[irreducible] def later (w : Rho → Store → Prop) (r : Rho) (S : Store) : Prop := w r S
theorem later_eq (w : Rho → Store → Prop) (r : Rho) (S : Store) : later w r S = w r S := by unfold later; rfl
end
mutual
def wpS : CallH → Sm → Dn → Rho → Store → Prop
  | C, .expr e, N, r, S => wpE C e r S fun _ S1 => N.nx r S1
  | C, .ret e, N, r, S => wpE C e r S N.rt
  | C, .retN, N, _, S => N.rt .non S
  | C, .ifs t a b, N, r, S => wpT C t r S fun c S1 => ifK c (wpB C a) (wpB C b) N r S1
  | C, .whl t b, N, r, S => ∃ W : Nat → Rho → Store → Prop, (∃ n, W n r S) ∧ ∀ n r S, W n r S → wpT C t r S fun c S1 =>
      if c = true then wpB C b { N with nx := fun r' S' => ∃ n', n' < n ∧ W n' r' S', ct := fun r' S' => ∃ n', n' < n ∧ W n' r' S', bk := N.nx } r S1 else N.nx r S1
  | C, .fors g it b, N, r, S => wpI C it r S fun src S1 => forLoop src.stay (wpG C g) (wpB C b) N src.its r S1
  | C, .asg g e, N, r, S => wpE C e r S fun x S1 => wpG C g x r S1 N.nx
  | C, .aug i op e, N, r, S => ∃ d, r[i]? = some (some d) ∧ wpE C e r S fun y S1 => wpAug op d y S1 fun z S2 => N.nx (r.set i (some z)) S2
  | C, .augS o i op e, N, r, S => wpE C o r S fun x S1 => wpE C i r S1 fun y S2 => ∃ n, x = .ref n ∧ ∃ k, y = .int k ∧ ∃ l, S2[n]? = some (.lst l) ∧ 0 ≤ k ∧ ∃ d, ixAt l k = some d ∧
      wpE C e r S2 fun z S3 => wpAug op d z S3 fun u S4 => ∃ l', S4[n]? = some (.lst l') ∧ ∃ j, ixN l'.length k = some j ∧ N.nx r (S4.set n (.lst (l'.set j u)))
  | C, .pass, N, r, S => N.nx r S
  | C, .brk, N, r, S => N.bk r S
  | C, .cont, N, r, S => N.ct r S
  | C, .dead, _, _, _ => False
  | C, .raise i es, _, r, S => wpEs C es r S fun xs S1 => C.ex i xs S1
  | C, .delD o k, N, r, S => wpE C o r S fun x S1 => wpE C k r S1 fun y S2 => ∃ n, x = .ref n ∧ ∃ l, S2[n]? = some (.dic l) ∧ ∃ c, keyD y = some c ∧ (valD l c).isSome = true ∧ N.nx r (S2.set n (.dic (dropD l c)))
  | C, .try2 b h1 h2, N, r, S => wpB ⟨C.go, fun j fs S' => if j = h1.cl then ∃ v, h1.he.val h1.fl fs = some v ∧ N.rt v S' else if j = h2.cl then ∃ v, h2.he.val h2.fl fs = some v ∧ N.rt v S' else C.ex j fs S'⟩ b N r S
  | C, .tryR b h, N, r, S => wpB ⟨C.go, fun j fs S' => if j = h.cl then ∃ v, h.he.val h.fl fs = some v ∧ N.rt v S' else C.ex j fs S'⟩ b N r S
def wpB : CallH → Bs → Dn → Rho → Store → Prop
  | C, .nil, N, r, S => N.nx r S
  | C, .cons s rest, N, r, S => wpS C s { N with nx := later (wpB C rest N) } r S
end
end Ev
set_option Elab.async false
set_option linter.all false
set_option maxRecDepth 100000
set_option maxHeartbeats 4000000
namespace Ev
open PySem PySem.Spec PyProof.Rows L2
/-! ## tuple * int, every count -/
theorem tm_same (b : Addr) (ws : Array Value) (k : Nat) (od : Option Addr) (os : Array (Option Value)) (i : Int) (tk : Tok)
    (e0 : (decide (i < -(2 ^ 63)) || decide (i ≥ 2 ^ 63)) = false) (e1 : (ws.isEmpty || i == 1) = true) :
    Meets (Builtin.«tuple.__mul__» ⟨[.ref b, .int i tk], []⟩) (fun _ R s => s.heap.get? b = some { cls := .type "tuple", dict := od, data := .seq ws k, slots := os } ∧ R (.ok (.ret (Value.ref b))) s) :=
  .of_wp fun prog w A R s hh => by
    obtain ⟨hp, g, d, t, o⟩ := s
    obtain ⟨hb, hh⟩ := hh
    have q := AutoSeq1.idx_int
    wp_walk using wpAny_loadPart' hb
    repeat (first
      | (refine wpAny_ite_false (decide_eq_false (by rw [e0]; decide)) ?_; wp_walk using wpAny_loadPart' hb)
      | (refine wpAny_ite_true (decide_eq_true e1) ?_; wp_walk using wpAny_loadPart' hb))
    exact ⟨_, rfl, hh⟩
theorem tm_none (b : Addr) (ws : Array Value) (k : Nat) (od : Option Addr) (os : Array (Option Value)) (i : Int) (tk : Tok)
    (e0 : (decide (i < -(2 ^ 63)) || decide (i ≥ 2 ^ 63)) = false) (e1 : (ws.isEmpty || i == 1) = false) (e2 : (decide (i ≤ 0) || ws.isEmpty) = true) :
    Meets (Builtin.«tuple.__mul__» ⟨[.ref b, .int i tk], []⟩) (fun _ R s => s.heap.get? b = some { cls := .type "tuple", dict := od, data := .seq ws k, slots := os } ∧
      R (.ok (.ret (Value.ref s.heap.objs.size))) { s with heap := s.heap.push { cls := Value.type "tuple", data := Data.seq #[] }, toks := s.toks }) :=
  .of_wp fun prog w A R s hh => by
    obtain ⟨hp, g, d, t, o⟩ := s
    obtain ⟨hb, hh⟩ := hh
    have q := AutoSeq1.idx_int
    wp_walk using wpAny_loadPart' hb
    repeat (first
      | (refine wpAny_ite_false (decide_eq_false (by rw [e0]; decide)) ?_; wp_walk using wpAny_loadPart' hb)
      | (refine wpAny_ite_false (decide_eq_false (by rw [e1]; decide)) ?_; wp_walk using wpAny_loadPart' hb)
      | (refine wpAny_ite_true (decide_eq_true e2) ?_; wp_walk using wpAny_loadPart' hb))
    exact ⟨_, rfl, hh⟩
/-- tuple * int: the tuple itself, the empty one, or a new one -/
def rRepU (K : FR) : R2 := fun x y H Q => ∃ a i xs, x = .ref a ∧ y = .int i ∧ SqT K H a xs ∧ -1000 ≤ i ∧ i ≤ 1000 ∧ xs.length ≤ 1000 ∧
  ((xs = [] ∨ i = 1) → Q (.ref a) H) ∧ (¬ (xs = [] ∨ i = 1) → ∀ p, H p = none → Q (.ref p) (upd H p (.tup (List.replicate i.toNat xs).flatten)))
theorem op_repU {X : Cx} : OpR X (binaryOp .Mult) (rRepU X.K) := by
  intro pins s σ H x y v u Q I rx ry hh
  obtain ⟨a, i, xs, e1, e2, hT, b1, b2, b3, q1, q2⟩ := hh
  by_cases big : ¬ (xs = [] ∨ i = 1) ∧ 2 ≤ i
  · exact op_repT pins s σ H x y v u Q I rx ry ⟨a, i, xs, e1, e2, hT, fun z => big.1 (.inl z), big.2, b2, b3, q2 big.1⟩
  · subst e1 e2
    cases rx
    obtain ⟨tk, rfl⟩ := ry
    obtain ⟨ws, r, ⟨⟨cl, od, dat, os⟩, ho, hc, k, hd⟩, hz⟩ := I.tuple hT
    simp only at hc hd
    subst hc hd
    have hl : ws.length = xs.length := r.length.symm
    have c0 : (decide (i < -(2 ^ 63)) || decide (i ≥ 2 ^ 63)) = false := by
      rw [Bool.or_eq_false_iff]
      exact ⟨decide_eq_false (by omega), decide_eq_false (by omega)⟩
    by_cases same : xs = [] ∨ i = 1
    · have c1 : (ws.toArray.isEmpty || i == 1) = true := by
        rcases same with z | z
        · subst z
          have : ws = [] := List.eq_nil_of_length_eq_zero hl
          subst this
          rfl
        · subst z
          simp
      refine wpAny_binaryOp_repeat_ref (T := "tuple") (U := "int") (by decide) ⟨_, ho, rfl⟩ (fun _ => typeIs_int _ i tk) noFill_tuple_mul F.fills_int_mul F.slot_int_rmul repeat_tuple F.slot_int_index.lookup
        (call_meets F.slot_int_rmul (typeIs_int s i tk) F.entry_int_rmul (F.args_int_rmul_2 _ _) (int_rmul_tuple i tk a ws.toArray k od os)
          ⟨ho, rfl, ⟨_, ho, rfl⟩, call_meets F.slot_tuple_mul ⟨_, ho, rfl⟩ F.entry_tuple_mul (F.args_tuple_mul_2 _ _) (tm_same a ws.toArray k od os i tk c0 c1) ⟨ho, ?_⟩⟩)
      exact ⟨.ref a, H, I, rfl, q1 same⟩
    · have hi : i ≤ 0 := by
        rcases Int.lt_or_le i 2 with z | z
        · have : i ≠ 1 := fun e => same (.inr e)
          omega
        · exact absurd ⟨same, z⟩ big
      have hn : ws ≠ [] := fun z => same (.inl (by
        rw [z] at hl
        exact List.eq_nil_of_length_eq_zero hl.symm))
      have hw : ws.toArray.isEmpty = false := by
        cases ws with
        | nil => exact absurd rfl hn
        | cons _ _ => rfl
      have c1 : (ws.toArray.isEmpty || i == 1) = false := by
        rw [hw, Bool.false_or, beq_eq_false_iff_ne]
        omega
      have c2 : (decide (i ≤ 0) || ws.toArray.isEmpty) = true := by
        rw [decide_eq_true hi]
        rfl
      refine wpAny_binaryOp_repeat_ref (T := "tuple") (U := "int") (by decide) ⟨_, ho, rfl⟩ (fun _ => typeIs_int _ i tk) noFill_tuple_mul F.fills_int_mul F.slot_int_rmul repeat_tuple F.slot_int_index.lookup
        (call_meets F.slot_int_rmul (typeIs_int s i tk) F.entry_int_rmul (F.args_int_rmul_2 _ _) (int_rmul_tuple i tk a ws.toArray k od os)
          ⟨ho, rfl, ⟨_, ho, rfl⟩, call_meets F.slot_tuple_mul ⟨_, ho, rfl⟩ F.entry_tuple_mul (F.args_tuple_mul_2 _ _) (tm_none a ws.toArray k od os i tk c0 c1 c2) ⟨ho, ?_⟩⟩)
      have e0 : i.toNat = 0 := by omega
      have q3 := q2 same
      rw [e0] at q3
      refine ⟨.ref s.heap.objs.size, _, I.laid (t' := s.toks) (o := .tup []) (fun b ob q => Heap.get?_push_of_some _ q) (Nat.le_refl _) ?_, rfl, q3 _ (I.hok.fresh (Nat.le_refl _))⟩
      exact ⟨Nat.zero_le _, [], .nil, IsTup.new _ _⟩

/-! ## operations: what the layer's rules want, of related values -/
/-- what is wanted behind, told of the store -/
def Imp (K : FR) (m : List Addr) (H : Hp) (Qd : DK) (Q : VK) : Prop := ∀ d S' v m' H', Qd d S' → Rel K m' S' H' → Ext m H m' H' → RD K m' H' d v → Q v H'
section
variable {K : FR} {m : List Addr} {S : Store} {H : Hp} {Qd : DK} {Q : VK} {x y : D} {xv yv : V}
theorem Imp.here (q : Imp K m H Qd Q) (r : Rel K m S H) {d : D} {v : V} (h : Qd d S) (rd : RD K m H d v) : Q v H := q d S v m H h r .refl rd
theorem Imp.newL (q : Imp K m H Qd Q) (r : Rel K m S H) {l : List D} {vs : List V} (rs : RDs K m H l vs) (h : Qd (.ref S.length) (S ++ [.lst l])) : ∀ p, H p = none → Q (.ref p) (upd H p (.lst vs)) := fun p n =>
  q _ _ _ _ _ h (r.new n rs) (.alloc n (r.fresh n)) (.ref (by rw [← r.len, List.getElem?_append_right (Nat.le_refl _)]; simp))
theorem Imp.newT (q : Imp K m H Qd Q) (r : Rel K m S H) {l : List D} {vs : List V} (rs : RDs K m H l vs) (h : Qd (.tup l) S) : ∀ p, H p = none → Q (.ref p) (upd H p (.tup vs)) := fun p n =>
  q _ _ _ _ _ h (r.laid n) (.laid n) (.tup (.inl (.inl upd_same)) (rs.mono (.laid n) r))
theorem Rel.lst (r : Rel K m S H) {n : Nat} {a : Addr} {l : List D} (e : S[n]? = some (.lst l)) (h : m[n]? = some a) : ∃ vs, H a = some (.lst vs) ∧ RDs K m H l vs := r.ob n _ a e h
theorem Rel.its (r : Rel K m S H) {n : Nat} {a : Addr} {l : List D} (e : items S (.ref n) = some l) (h : m[n]? = some a) : ∃ vs, SqL K H a vs ∧ RDs K m H l vs := by
  unfold items at e
  cases q : S[n]? with
  | none => simp only [q] at e; cases e
  | some o =>
    have z := r.ob n o a q h
    cases o with
    | lst l' =>
      simp only [q, Option.some.injEq] at e
      subst e
      obtain ⟨vs, hv, rs⟩ := z
      exact ⟨vs, .inl (.inl hv), rs⟩
    | dic l' => simp only [q] at e; cases e
theorem RD.its (r : Rel K m S H) {d : D} {v : V} {l : List D} (h : RD K m H d v) (e : items S d = some l) : ∃ a vs, v = .ref a ∧ (SqL K H a vs ∨ SqT K H a vs) ∧ RDs K m H l vs := by
  cases h with
  | tup hs rs => cases e; exact ⟨_, _, rfl, .inr hs, rs⟩
  | ref hn => obtain ⟨vs, q, rs⟩ := r.its e hn; exact ⟨_, vs, rfl, .inl q, rs⟩
  | cl hs rs => cases e; exact ⟨_, _, rfl, .inl hs.sq, rs⟩
  | _ => cases e

mutual
theorem RD.py (r : Rel K m S H) : ∀ {d : D} {v : V} {p : PyData}, RD K m H d v → Ev.py d = some p → Dp K H v p
  | _, _, _, .non, e => by cases e; exact .non
  | _, _, _, .bl b, e => by cases e; exact .bl b
  | _, _, _, .int i, e => by cases e; exact .int i
  | _, _, _, .str z, e => by cases e; exact .str z
  | _, _, _, .ref _, e => by cases e
  | _, _, _, .cl _ _, e => by cases e
  | _, _, _, .tup (ds := ds) hs rs, e => by
    unfold Ev.py at e
    cases q : pys ds with
    | none => rw [q] at e; cases e
    | some ps => rw [q] at e; cases e; exact .tup hs (RDs.pys r rs q)
theorem RDs.pys (r : Rel K m S H) : ∀ {ds : List D} {vs : List V} {ps : List PyData}, RDs K m H ds vs → Ev.pys ds = some ps → DpAll K H vs ps
  | _, _, _, .nil, e => by cases e; exact .nil
  | _, _, _, .cons (d := d) (ds := ds) h rs, e => by
    unfold Ev.pys at e
    cases q : Ev.py d with
    | none => simp [q] at e
    | some p =>
      cases q2 : Ev.pys ds with
      | none => simp [q, q2] at e
      | some ps => simp [q, q2] at e; subst e; exact .cons (RD.py r h q) (RDs.pys r rs q2)
end
theorem RD.pyS (r : Rel K m S H) {d : D} {v : V} {p : PyData} (h : RD K m H d v) (e : pyS S d = some p) : Dp K H v p := by
  cases h with
  | ref hn =>
    rename_i n a
    unfold Ev.pyS at e
    cases q : items S (.ref n) with
    | none => simp only [q] at e; cases e
    | some l =>
      simp only [q] at e
      obtain ⟨vs, hs, rs⟩ := r.its q hn
      cases q2 : Ev.pys l with
      | none => rw [q2] at e; cases e
      | some ps => rw [q2] at e; cases e; exact .lst hs (rs.pys r q2)
  | non => exact RD.py r .non e
  | bl b => exact RD.py r (.bl b) e
  | int i => exact RD.py r (.int i) e
  | str z => exact RD.py r (.str z) e
  | tup hs rs => exact RD.py r (.tup hs rs) e
  | cl _ _ => cases e
theorem ints_mapD : ∀ ns : List Int, ints? (ns.map D.int) = some ns
  | [] => rfl
  | n :: ns => by rw [List.map_cons]; show (ints? (ns.map D.int)).map (n :: ·) = _; rw [ints_mapD ns]; rfl
theorem ints_of : ∀ {l : List D} {vs : List V} {ns : List Int}, RDs K m H l vs → ints? l = some ns → vs = ns.map V.int
  | _, _, _, .nil, e => by cases e; rfl
  | _, _, _, .cons (d := d) (ds := ds) h rs, e => by
    cases h with
    | int i =>
      unfold ints? at e
      cases q : ints? ds with
      | none => rw [q] at e; cases e
      | some ns => rw [q] at e; cases e; rw [ints_of rs q]; rfl
    | _ => cases e
end
section
variable {X : Cx}
theorem op_mulG : OpR X (binaryOp .Mult) (rI IntMulOk fun i j => .int (i * j)) := opI fun _ _ _ _ _ _ _ hc q => mul_int q hc
def opOf : Bop → Operator
  | .add => .Add
  | .sub => .Sub
  | .mul => .Mult
  | .fdiv => .FloorDiv
  | .mod => .Mod
  | .pow => .Pow
def CDivW (_ j : Int) : Prop := j ≠ 0 ∧ j.natAbs < 340282366920938463463374607431768211456
theorem noPy {i j : Int} (h : j.natAbs < 340282366920938463463374607431768211456) : Builtin.divisionGoesByPylong i j = false := by
  refine PyProof.noPylong_of_log2 ?_
  by_cases z : j.natAbs = 0
  · rw [z]; decide
  · have : j.natAbs.log2 < 128 := (Nat.log2_lt z).mpr (Nat.lt_of_lt_of_le h (by decide))
    omega
theorem op_fdivW : OpR X (binaryOp .FloorDiv) (rI CDivW fun i j => .int (i.fdiv j)) := opI fun _ _ _ _ _ _ _ hc q => floordiv_int hc.1 q (.inl (noPy hc.2))
def rStrCat : R2 := fun x y H Q => ∃ i j, x = .str i ∧ y = .str j ∧ i.length + j.length ≤ sizeLine ∧ Q (.str (i ++ j)) H
def rBin (K : FR) : Bop → R2
  | .add => fun x y H Q => rI0 (fun i j => .int (i + j)) x y H Q ∨ rCatA K x y H Q ∨ rStrCat x y H Q ∨ rCat x y H Q ∨ ∃ b i, x = .bl b ∧ y = .int i ∧ Q (.int (b2n b + i)) H
  | .sub => fun x y H Q => rI0 (fun i j => .int (i - j)) x y H Q ∨ ∃ b i, x = .bl b ∧ y = .int i ∧ Q (.int (b2n b - i)) H
  | .mul => fun x y H Q => rI IntMulOk (fun i j => .int (i * j)) x y H Q ∨ rRep x y H Q ∨ rRepU K x y H Q ∨ ∃ z i, x = .str z ∧ y = .int i ∧ z.length ≤ 16 ∧ -(2 ^ 63 : Int) ≤ i ∧ i ≤ 1048576 ∧ Q (.str (Txt.mul z i)) H
  | .fdiv => rI CDivW fun i j => .int (i.fdiv j)
  | .mod => rI (fun _ j => j ≠ 0) fun i j => .int (i.fmod j)
  | .pow => rI CPow fun i j => .int (i ^ j.toNat)
theorem op_bin : ∀ op : Bop, OpR X (binaryOp (opOf op)) (rBin X.K op)
  | .add => op_add.or (op_catA.or (OpR.or op_add_str (OpR.or op_cat op_addB)))
  | .sub => OpR.or op_sub op_subB
  | .mul => op_mulG.or (op_rep.or (OpR.or op_repU op_repS))
  | .fdiv => op_fdivW
  | .mod => op_modN
  | .pow => op_pow
end
section
variable {K : FR} {m : List Addr} {S : Store} {H : Hp} {Qd : DK} {Q : VK} {x y : D} {xv yv : V}
theorem RDs.rep {l : List D} {vs : List V} (r : RDs K m H l vs) : ∀ k : Nat, RDs K m H (List.replicate k l).flatten (List.replicate k vs).flatten
  | 0 => .nil
  | k + 1 => by rw [List.replicate_succ, List.replicate_succ, List.flatten_cons, List.flatten_cons]; exact r.app (RDs.rep r k)
theorem bin_r (op : Bop) (r : Rel K m S H) (rx : RD K m H x xv) (ry : RD K m H y yv) (h : wpBin op x y S Qd) (q : Imp K m H Qd Q) : rBin K op xv yv H Q := by
  cases rx with
  | int i =>
    cases ry with
    | int j =>
      have h : arithOk op i j ∧ Qd (.int (arith op i j)) S := by cases op <;> exact h
      obtain ⟨h1, h2⟩ := h
      have e := q.here r h2 (.int _)
      cases op with
      | add => exact .inl ⟨i, j, rfl, rfl, e⟩
      | sub => exact .inl ⟨i, j, rfl, rfl, e⟩
      | mul => exact .inl ⟨i, j, rfl, rfl, h1, e⟩
      | fdiv => exact ⟨i, j, rfl, rfl, h1, e⟩
      | mod => exact ⟨i, j, rfl, rfl, h1, e⟩
      | pow => exact ⟨i, j, rfl, rfl, h1, e⟩
    | _ => cases op <;> exact (show False from h).elim
  | tup hs rs =>
    cases ry with
    | tup ht rt =>
      cases op with
      | add =>
        obtain ⟨hz, h⟩ := h
        have ea := rs.length
        have eb := rt.length
        refine .inr (.inl ⟨_, _, _, _, rfl, rfl, hs, ht, by rw [← ea, ← eb]; exact hz, fun e => ?_, fun _ e => ?_, fun _ _ => q.newT r (rs.app rt) h⟩)
        · subst e
          cases rs
          exact q.here r h (.tup ht rt)
        · subst e
          cases rt
          rw [List.append_nil] at h
          exact q.here r h (.tup hs rs)
      | _ => exact (show False from h).elim
    | int k =>
      cases op with
      | mul =>
        obtain ⟨b1, b2, b3, h⟩ := h
        have ea := rs.length
        refine .inr (.inr (.inl ⟨_, k, _, rfl, rfl, hs, b1, b2, by rw [← ea]; exact b3, fun e => ?_, fun _ => q.newT r (rs.rep _) h⟩))
        rcases e with e | e
        · subst e
          cases rs
          have z : (List.replicate k.toNat ([] : List D)).flatten = [] := by simp
          rw [z] at h
          exact q.here r h (.tup hs .nil)
        · subst e
          have z : ∀ l : List D, (List.replicate (1 : Int).toNat l).flatten = l := by intro l; simp
          rw [z] at h
          exact q.here r h (.tup hs rs)
      | _ => exact (show False from h).elim
    | _ => cases op <;> exact (show False from h).elim
  | str z =>
    cases ry with
    | str u =>
      cases op with
      | add =>
        obtain ⟨hz, h⟩ := h
        exact .inr (.inr (.inl ⟨z, u, rfl, rfl, hz, q.here r h (.str _)⟩))
      | _ => exact (show False from h).elim
    | int k =>
      cases op with
      | mul =>
        obtain ⟨h1, h2, h3, h⟩ := h
        exact .inr (.inr (.inr ⟨z, k, rfl, rfl, h1, h2, h3, q.here r h (.str _)⟩))
      | _ => exact (show False from h).elim
    | _ => cases op <;> exact (show False from h).elim
  | bl b =>
    cases ry with
    | int k =>
      cases op with
      | add => exact .inr (.inr (.inr (.inr ⟨b, k, rfl, rfl, q.here r h (.int _)⟩)))
      | sub => exact .inr ⟨b, k, rfl, rfl, q.here r h (.int _)⟩
      | _ => exact (show False from h).elim
    | _ => cases op <;> exact (show False from h).elim
  | ref hn =>
    cases ry with
    | ref hk =>
      cases op with
      | add =>
        obtain ⟨a, b, e1, e2, hz, h⟩ := h
        obtain ⟨vs, h1, r1⟩ := r.lst e1 hn
        obtain ⟨ws, h2, r2⟩ := r.lst e2 hk
        exact .inr (.inr (.inr (.inl ⟨_, _, vs, ws, rfl, rfl, h1, h2, by rw [← r1.length, ← r2.length]; exact hz, q.newL r (r1.app r2) h⟩)))
      | _ => exact (show False from h).elim
    | int k =>
      cases op with
      | mul =>
        obtain ⟨a, e1, k0, k1, hz, h⟩ := h
        obtain ⟨vs, h1, r1⟩ := r.lst e1 hn
        exact .inr (.inl ⟨_, k, vs, rfl, rfl, h1, k0, k1, by rw [← r1.length]; exact hz, q.newL r (r1.rep _) h⟩)
      | _ => exact (show False from h).elim
    | _ => cases op <;> exact (show False from h).elim
  | _ => cases ry <;> cases op <;> exact (show False from h).elim
end
/-! ### comparisons -/
def copOf : Cop → CmpOp
  | .eq => .Eq
  | .ne => .NotEq
  | .lt => .Lt
  | .le => .LtE
  | .gt => .Gt
  | .ge => .GtE
  | .is => .Is
  | .isnot => .IsNot
  | .inn => .In
  | .notin => .NotIn
/-! tuples of ints, by order -/
theorem lex_shift {e r : Nat → Bool} {z : Bool} : ∀ k i : Nat, Ob.lexAt e r z (i + 1) k = Ob.lexAt (fun j => e (j + 1)) (fun j => r (j + 1)) z i k
  | 0, _ => rfl
  | k + 1, i => by rw [Ob.lexAt_succ, Ob.lexAt_succ, lex_shift k (i + 1)]
def lexG (R : Int → Int → Bool) (Z : Nat → Nat → Bool) : List Int → List Int → Bool
  | [], bs => Z 0 bs.length
  | a :: as, [] => Z (a :: as).length 0
  | a :: as, b :: bs => if a = b then lexG R Z as bs else R a b
theorem lex_at {R : Int → Int → Bool} {Z : Nat → Nat → Bool} (hZ : ∀ n m, Z (n + 1) (m + 1) = Z n m) : ∀ as bs : List Int, Ob.lexAt (fun j => decide (as.getD j 0 = bs.getD j 0)) (fun j => R (as.getD j 0) (bs.getD j 0)) (Z as.length bs.length) 0 (min as.length bs.length) = lexG R Z as bs
  | [], bs => by rw [show min ([] : List Int).length bs.length = 0 from Nat.zero_min _]; rfl
  | a :: as, [] => by rw [show min (a :: as).length ([] : List Int).length = 0 from Nat.min_zero _]; rfl
  | a :: as, b :: bs => by
    have ih := lex_at (R := R) hZ as bs
    rw [show min (a :: as).length (b :: bs).length = min as.length bs.length + 1 by simp only [List.length_cons]; omega, Ob.lexAt_succ, lex_shift]
    show (if decide (a = b) = true then Ob.lexAt (fun j => decide ((a :: as).getD (j + 1) 0 = (b :: bs).getD (j + 1) 0)) (fun j => R ((a :: as).getD (j + 1) 0) ((b :: bs).getD (j + 1) 0)) (Z (as.length + 1) (bs.length + 1)) 0 (min as.length bs.length) else R a b) = lexG R Z (a :: as) (b :: bs)
    simp only [List.getD_cons_succ, hZ]
    rw [ih]
    show _ = if a = b then lexG R Z as bs else R a b
    by_cases h : a = b
    · rw [if_pos (decide_eq_true h), if_pos h]
    · rw [if_neg (by simpa using h), if_neg h]
theorem lex_lt : ∀ as bs : List Int, lexG (fun a b => decide (a < b)) (fun n m => decide (n < m)) as bs = ltI as bs
  | [], [] => rfl
  | [], _ :: _ => by simp [lexG, ltI]
  | _ :: _, [] => by simp [lexG, ltI]
  | a :: as, b :: bs => by simp only [lexG, ltI, lex_lt as bs]
theorem lex_gt : ∀ as bs : List Int, lexG (fun a b => decide (b < a)) (fun n m => decide (m < n)) as bs = ltI bs as
  | [], [] => rfl
  | [], _ :: _ => by simp [lexG, ltI]
  | _ :: _, [] => by simp [lexG, ltI]
  | a :: as, b :: bs => by
    simp only [lexG, ltI, lex_gt as bs]
    by_cases h : a = b
    · simp [h]
    · rw [if_neg h, if_neg (fun z => h z.symm)]
theorem lex_le : ∀ as bs : List Int, lexG (fun a b => decide (a ≤ b)) (fun n m => decide (n ≤ m)) as bs = !ltI bs as
  | [], [] => rfl
  | [], _ :: _ => by simp [lexG, ltI]
  | _ :: _, [] => by simp [lexG, ltI]
  | a :: as, b :: bs => by
    simp only [lexG, ltI, lex_le as bs]
    by_cases h : a = b
    · simp [h]
    · rw [if_neg h, if_neg (fun z => h z.symm), ← decide_not]
      exact decide_eq_decide.mpr (by omega)
theorem lex_ge : ∀ as bs : List Int, lexG (fun a b => decide (b ≤ a)) (fun n m => decide (m ≤ n)) as bs = !ltI as bs
  | [], [] => rfl
  | [], _ :: _ => by simp [lexG, ltI]
  | _ :: _, [] => by simp [lexG, ltI]
  | a :: as, b :: bs => by
    simp only [lexG, ltI, lex_ge as bs]
    by_cases h : a = b
    · simp [h]
    · rw [if_neg h, if_neg h, ← decide_not]
      exact decide_eq_decide.mpr (by omega)
def rTupT (K : FR) (g : List Int → List Int → Bool) : R2 := fun x y H Q => ∃ (a b : Addr) (ns ms : List Int), x = .ref a ∧ y = .ref b ∧ SqT K H a (ns.map V.int) ∧ SqT K H b (ms.map V.int) ∧ Q (.bl (g ns ms)) H
theorem op_tupT {X : Cx} {op : CmpOp} {R : Int → Int → Bool} {Z : Nat → Nat → Bool} {g : List Int → List Int → Bool} (hg : ∀ as bs, lexG R Z as bs = g as bs) (hZ : ∀ n m, Z (n + 1) (m + 1) = Z n m) (hi : ∀ (A : Around) (s : Shared) (a b : Int) (t u : Tok), Ob.RcOp op A s (.int a t) (.int b u) (R a b))
    (ht : ∀ {A : Around} {s : Shared} {l b : Addr} {items items2 : Array Value} {e r : Nat → Bool}, s.heap.IsTuple l items → s.heap.IsTuple b items2 → A.units < cLine → (∀ j (h1 : j < items.size) (h2 : j < items2.size), SeqAt.EqAt A.in1 s items[j] items2[j] (e j)) →
      (∀ j (h1 : j < items.size) (h2 : j < items2.size), e j = false → Ob.RcOp op A.in1 s items[j] items2[j] (r j)) → Ob.RcOp op A s (.ref l) (.ref b) (Ob.lexAt e r (Z items.size items2.size) 0 (min items.size items2.size)))
    (hc : ∀ v u, compareOp op v u = richCompare op v u) (hu : X.A.units < cLine) : OpR X (compareOp op) (rTupT X.K g) := by
  intro pins s σ H x y v u Q I rx ry h
  obtain ⟨a, b, ns, ms, rfl, rfl, ha, hb, q⟩ := h
  cases rx
  cases ry
  obtain ⟨its, r1, p1, _⟩ := I.tuple ha
  obtain ⟨its2, r2, p2, _⟩ := I.tuple hb
  have i1 : IntsAre its ns := Vals.ints r1
  have i2 : IntsAre its2 ms := Vals.ints r2
  have e1 : its.toArray.size = ns.length := by rw [List.size_toArray]; exact i1.length
  have e2 : its2.toArray.size = ms.length := by rw [List.size_toArray]; exact i2.length
  have at1 : ∀ j (h1 : j < its.toArray.size), ∃ t, its.toArray[j] = .int (ns.getD j 0) t := fun j h1 => PyProof.Rows.IntsAre.int_at i1 _ _ (by simp at h1; simp [h1])
  have at2 : ∀ j (h1 : j < its2.toArray.size), ∃ t, its2.toArray[j] = .int (ms.getD j 0) t := fun j h1 => PyProof.Rows.IntsAre.int_at i2 _ _ (by simp at h1; simp [h1])
  have T := ht (A := X.A) (s := s) (e := fun j => decide (ns.getD j 0 = ms.getD j 0)) (r := fun j => R (ns.getD j 0) (ms.getD j 0)) p1 p2 hu (fun j h1 h2 => by
    obtain ⟨t, et⟩ := at1 j h1
    obtain ⟨t', et'⟩ := at2 j h2
    rw [et, et', ← Bool.beq_eq_decide_eq]
    exact SeqAt.EqAt.int_int _ _ _ _) (fun j h1 h2 _ => by
    obtain ⟨t, et⟩ := at1 j h1
    obtain ⟨t', et'⟩ := at2 j h2
    rw [et, et']
    exact hi _ _ _ _ _ _)
  rw [e1, e2, lex_at hZ, hg] at T
  rw [hc]
  exact T X.prog X.w X.xe (EP X pins σ Q) ⟨.bl _, H, I, rfl, q⟩
theorem op_ltT {X : Cx} (hu : X.A.units < cLine) : OpR X (compareOp .Lt) (rTupT X.K ltI) := op_tupT lex_lt (fun n m => by simp) (fun _ _ => Ob.RcOp.lt_int) Ob.RcOp.tuples_lt (fun _ _ => rfl) hu
theorem op_gtT {X : Cx} (hu : X.A.units < cLine) : OpR X (compareOp .Gt) (rTupT X.K fun a b => ltI b a) := op_tupT lex_gt (fun n m => by simp) (fun _ _ => Ob.RcOp.gt_int) Ob.RcOp.tuples_gt (fun _ _ => rfl) hu
theorem op_leTT {X : Cx} (hu : X.A.units < cLine) : OpR X (compareOp .LtE) (rTupT X.K fun a b => !ltI b a) := op_tupT lex_le (fun n m => by simp) (fun _ _ => Ob.RcOp.le_int) Ob.RcOp.tuples_le (fun _ _ => rfl) hu
theorem op_geT {X : Cx} (hu : X.A.units < cLine) : OpR X (compareOp .GtE) (rTupT X.K fun a b => !ltI a b) := op_tupT lex_ge (fun n m => by simp) (fun _ _ => Ob.RcOp.ge_int) Ob.RcOp.tuples_ge (fun _ _ => rfl) hu
def rInA (K : FR) (neg : Bool) : R2 := fun x y H Q => ∃ d e ds, Dp K H x d ∧ Dp K H y e ∧ SeqAt.shaped d = true ∧ SeqAt.shaped e = true ∧ seqOf e = some ds ∧ Q (.bl (if neg then !ds.any fun z => PyData.eqv z d else ds.any fun z => PyData.eqv z d)) H
section
variable {X : Cx}
theorem op_inA (hu : X.A.units + 65 < cLine) : OpR X (compareOp .In) (rInA X.K false) := by
  intro pins s σ H x y v u Q I rx ry ⟨d, e, ds, hd, he, sd, se, eq, q⟩
  obtain ⟨_, r1⟩ := Dp.reads I d x v hd rx
  obtain ⟨_, r2⟩ := Dp.reads I e y u he ry
  cases e <;> cases eq
  · exact SeqAt.in_list_reads r2 r1 (SeqAt.canLay_of_shaped se) (SeqAt.canLay_of_shaped sd) (room_in_shaped sd hu) ⟨.bl _, H, I, rfl, q⟩
  · exact SeqAt.in_tuple_reads r2 r1 (SeqAt.canLay_of_shaped se) (SeqAt.canLay_of_shaped sd) (room_in_shaped sd hu) ⟨.bl _, H, I, rfl, q⟩
theorem op_notInA (hu : X.A.units + 65 < cLine) : OpR X (compareOp .NotIn) (rInA X.K true) := by
  intro pins s σ H x y v u Q I rx ry ⟨d, e, ds, hd, he, sd, se, eq, q⟩
  obtain ⟨_, r1⟩ := Dp.reads I d x v hd rx
  obtain ⟨_, r2⟩ := Dp.reads I e y u he ry
  cases e <;> cases eq
  · exact SeqAt.notIn_list_reads r2 r1 (SeqAt.canLay_of_shaped se) (SeqAt.canLay_of_shaped sd) (room_in_shaped sd hu) ⟨.bl _, H, I, rfl, q⟩
  · exact SeqAt.notIn_tuple_reads r2 r1 (SeqAt.canLay_of_shaped se) (SeqAt.canLay_of_shaped sd) (room_in_shaped sd hu) ⟨.bl _, H, I, rfl, q⟩
def rIsNone : R2 := fun x y H Q => y = .non ∧ Q (.bl (decide (x = .non))) H
def rNotNone : R2 := fun x y H Q => y = .non ∧ Q (.bl (!decide (x = .non))) H
def rCmp (K : FR) : Cop → R2
  | .eq => rEqD K
  | .ne => rNeD K
  | .lt => fun x y H Q => rI0 (fun i j => .bl (decide (i < j))) x y H Q ∨ rTupT K ltI x y H Q
  | .le => fun x y H Q => rI0 (fun i j => .bl (decide (i ≤ j))) x y H Q ∨ rTupT K (fun a b => !ltI b a) x y H Q
  | .gt => fun x y H Q => rI0 (fun i j => .bl (decide (j < i))) x y H Q ∨ rTupT K (fun a b => ltI b a) x y H Q
  | .ge => fun x y H Q => rI0 (fun i j => .bl (decide (j ≤ i))) x y H Q ∨ rTupT K (fun a b => !ltI a b) x y H Q
  | .is => fun x y H Q => rIsNone x y H Q ∨ rIsB x y H Q
  | .isnot => fun x y H Q => rNotNone x y H Q ∨ rNotB x y H Q
  | .inn => rInA K false
  | .notin => rInA K true
theorem op_cmp (hu : X.A.units + 65 < cLine) : ∀ op : Cop, OpR X (compareOp (copOf op)) (rCmp X.K op)
  | .eq => op_eqD (by omega)
  | .ne => op_neD (by omega)
  | .lt => op_lt.or (op_ltT (by omega))
  | .le => op_le.or (op_leTT (by omega))
  | .gt => op_gt.or (op_gtT (by omega))
  | .ge => op_ge.or (op_geT (by omega))
  | .is => op_isN.or op_isBl
  | .isnot => op_notN.or op_notBl
  | .inn => op_inA hu
  | .notin => op_notInA hu
end
section
variable {K : FR} {m : List Addr} {S : Store} {H : Hp} {Qd : DK} {Q : VK} {x y : D} {xv yv : V}
theorem RD.none_iff (rx : RD K m H x xv) : x.isNon = decide (xv = .non) := by cases rx <;> rfl
theorem cmp_r (op : Cop) (r : Rel K m S H) (rx : RD K m H x xv) (ry : RD K m H y yv) (h : wpCmp op x y S Qd) (q : Imp K m H Qd Q) : rCmp K op xv yv H Q := by
  cases op with
  | eq => obtain ⟨d, e, h1, h2, h3, h4, h5⟩ := h; exact ⟨d, e, rx.pyS r h1, ry.pyS r h2, h3, h4, q.here r h5 (.bl _)⟩
  | ne => obtain ⟨d, e, h1, h2, h3, h4, h5⟩ := h; exact ⟨d, e, rx.pyS r h1, ry.pyS r h2, h3, h4, q.here r h5 (.bl _)⟩
  | lt =>
    rcases h with ⟨i, j, rfl, rfl, h⟩ | ⟨a, b, rfl, rfl, h⟩
    · cases rx; cases ry; exact .inl ⟨i, j, rfl, rfl, q.here r h (.bl _)⟩
    · cases rx with
      | tup h1 r1 => cases ry with
        | tup h2 r2 => rw [ints_of r1 (ints_mapD a)] at h1; rw [ints_of r2 (ints_mapD b)] at h2; exact .inr ⟨_, _, a, b, rfl, rfl, h1, h2, q.here r h (.bl _)⟩
  | le =>
    rcases h with ⟨i, j, rfl, rfl, h⟩ | ⟨a, b, rfl, rfl, h⟩
    · cases rx; cases ry; exact .inl ⟨i, j, rfl, rfl, q.here r h (.bl _)⟩
    · cases rx with
      | tup h1 r1 => cases ry with
        | tup h2 r2 => rw [ints_of r1 (ints_mapD a)] at h1; rw [ints_of r2 (ints_mapD b)] at h2; exact .inr ⟨_, _, a, b, rfl, rfl, h1, h2, q.here r h (.bl _)⟩
  | gt =>
    rcases h with ⟨i, j, rfl, rfl, h⟩ | ⟨a, b, rfl, rfl, h⟩
    · cases rx; cases ry; exact .inl ⟨i, j, rfl, rfl, q.here r h (.bl _)⟩
    · cases rx with
      | tup h1 r1 => cases ry with
        | tup h2 r2 => rw [ints_of r1 (ints_mapD a)] at h1; rw [ints_of r2 (ints_mapD b)] at h2; exact .inr ⟨_, _, a, b, rfl, rfl, h1, h2, q.here r h (.bl _)⟩
  | ge =>
    rcases h with ⟨i, j, rfl, rfl, h⟩ | ⟨a, b, rfl, rfl, h⟩
    · cases rx; cases ry; exact .inl ⟨i, j, rfl, rfl, q.here r h (.bl _)⟩
    · cases rx with
      | tup h1 r1 => cases ry with
        | tup h2 r2 => rw [ints_of r1 (ints_mapD a)] at h1; rw [ints_of r2 (ints_mapD b)] at h2; exact .inr ⟨_, _, a, b, rfl, rfl, h1, h2, q.here r h (.bl _)⟩
  | is =>
    cases ry with
    | non =>
      refine .inl ⟨rfl, ?_⟩
      rw [← rx.none_iff]
      exact q.here r h (.bl _)
    | bl b =>
      obtain ⟨a, rfl, h'⟩ := (show ∃ a, x = .bl a ∧ Qd (.bl (a == b)) S from h)
      cases rx
      refine .inr ⟨a, b, rfl, rfl, ?_⟩
      have e := q.here r h' (.bl _)
      rw [show decide (a = b) = (a == b) from by cases a <;> cases b <;> rfl]
      exact e
    | _ => exact (show False from h).elim
  | isnot =>
    cases ry with
    | non =>
      refine .inl ⟨rfl, ?_⟩
      rw [← rx.none_iff]
      exact q.here r h (.bl _)
    | bl b =>
      obtain ⟨a, rfl, h'⟩ := (show ∃ a, x = .bl a ∧ Qd (.bl (!(a == b))) S from h)
      cases rx
      refine .inr ⟨a, b, rfl, rfl, ?_⟩
      have e := q.here r h' (.bl _)
      rw [show decide (a = b) = (a == b) from by cases a <;> cases b <;> rfl]
      exact e
    | _ => exact (show False from h).elim
  | inn => obtain ⟨d, e, ds, h1, h2, h3, h4, h5, h6⟩ := h; exact ⟨d, e, ds, rx.pyS r h1, ry.pyS r h2, h3, h4, h5, q.here r h6 (.bl _)⟩
  | notin => obtain ⟨d, e, ds, h1, h2, h3, h4, h5, h6⟩ := h; exact ⟨d, e, ds, rx.pyS r h1, ry.pyS r h2, h3, h4, h5, q.here r h6 (.bl _)⟩
theorem truth_r (r : Rel K m S H) (rx : RD K m H x xv) {b : Bool} (h : truth S x = some b) : TruV K xv H b := by
  cases rx with
  | non => cases h; rfl
  | bl b => cases h; rfl
  | int i => cases h; rfl
  | str z => cases h
  | tup hs rs =>
    cases h
    refine .inr (.inl ⟨_, hs, ?_⟩)
    cases rs <;> rfl
  | ref hn =>
    rename_i n a
    unfold truth at h
    cases q : S[n]? with
    | none => simp only [q] at h; cases h
    | some o =>
      have key : ∀ l, items S (.ref n) = some l → b = (!l.isEmpty) → TruV K (.ref a) H b := fun l e hb => by
        obtain ⟨vs, hs, rs⟩ := r.its e hn
        refine .inl ⟨vs, hs, ?_⟩
        rw [hb]
        cases rs <;> rfl
      cases o with
      | lst l => simp only [q, Option.some.injEq] at h; exact key l (by simp [items, q]) h.symm
      | dic l =>
        simp only [q, Option.some.injEq] at h
        obtain ⟨kvs, hk, r1, r2⟩ := r.ob n _ a q hn
        refine .inr (.inr ⟨kvs, hk, ?_⟩)
        rw [← h]
        cases l <;> cases kvs <;> first
          | rfl
          | simp at r1
  | cl hs rs =>
    cases h
    refine .inl ⟨_, hs.sq, ?_⟩
    cases rs <;> rfl
end
end Ev
set_option Elab.async false
set_option linter.all false
set_option maxRecDepth 100000
set_option maxHeartbeats 4000000
namespace Ev
open PySem PySem.Spec PyProof.Rows L2

/-! ## built-ins over related values -/
section
variable {prog : Program} {w : World} {A : Around} {E : Value → Shared → Prop} {s : Shared} {l : Addr}
theorem sum_tupRaw {its : List Value} {ns : List Int} {Q : Value → Shared → Prop} (hh : A.handled = none) (hl : IsTup s.heap l its.toArray) (hi : IntsAre its ns)
    (h : ∀ h' tk t', (∀ b o, s.heap.get? b = some o → h'.get? b = some o) → Q (.int ns.sum t') { s with heap := h', toks := tk }) : wpAny (model prog w) A (call (.builtin "sum") [.ref l]) Q E s := by
  obtain ⟨xs, e⟩ := hi.allInts.items
  have hn : numsOf (intItems xs).toList = ns := by rw [← e]; exact hi.numsOf
  rw [nums_intItems] at hn
  rw [e] at hl
  have hT : s.heap.IsTuple l (intItems xs) := hl
  have hlt : l < s.heap.objs.size := by
    obtain ⟨o, ho, _⟩ := hl
    exact Heap.lt_size ho
  refine call_sum_walkG (wpAny_pyIter_tuple hT ?_)
  refine ⟨_, [_, l], [_], _, _, _, numAt xs, rfl, Walks.tuple (A := A.in1) hh _ l (Nat.ne_of_lt hlt) (intItems xs), ⟨⟨_, Heap.get?_push_size _ rfl, rfl, rfl⟩, hT.push _⟩, fun c hc => ?_, (fun _ _ => intItems_at), fun h' tk t' hk => ?_⟩
  · show c < (s.heap.push _).objs.size
    rw [Heap.size_push]
    rcases List.mem_cons.mp hc with rfl | hc
    · exact Nat.lt_succ_self _
    · rcases List.mem_cons.mp hc with rfl | hc
      · exact Nat.lt_succ_of_lt hlt
      · cases hc
  · have := h h' tk t' fun b o ho => hk b o (fun hb => by
      rw [List.mem_singleton.mp hb] at ho
      exact Nat.lt_irrefl _ (Heap.lt_size ho)) (Heap.get?_push_of_some _ ho)
    have ep : preSum (numAt xs) (intItems xs).size = ns.sum := by
      rw [show (intItems xs).size = xs.size by simp [intItems], preSum_eq, List.take_of_length_le (by simp), hn]
    rw [ep]
    exact this
end
section
variable {X : Cx}
def rSumT (K : FR) : List V → Hp → VK → Prop := fun vs H Q => ∃ (a : Addr) (ns : List Int), vs = [V.ref a] ∧ SqT K H a (ns.map V.int) ∧ Q (.int ns.sum) H
theorem cr_sumT (hc : X.calm = true) : CallR X (.builtin "sum") (rSumT X.K) := by
  intro pins s σ H vs us Q I r ⟨a, ns, e, hs, q⟩
  subst e
  obtain ⟨its, rv, hl, _⟩ := I.tuple hs
  rw [Vals.ref1 r]
  exact sum_tupRaw (I.ok.hd hc) hl rv.ints fun h' tk t' hk => ⟨.int _, H, I.kept hk, ⟨_, rfl⟩, q⟩
end
def biName : Bi → Str
  | .len => "len"
  | .int => "int"
  | .abs => "abs"
  | .tuple => "tuple"
  | .list => "list"
  | .sum => "sum"
  | .sorted => "sorted"
  | .max => "max"
  | .min => "min"
  | .str => "str"
def biVal : Bi → Value
  | .len => .builtin "len"
  | .int => .type "int"
  | .abs => .builtin "abs"
  | .tuple => .type "tuple"
  | .list => .type "list"
  | .sum => .builtin "sum"
  | .sorted => .builtin "sorted"
  | .max => .builtin "max"
  | .min => .builtin "min"
  | .str => .type "str"
def rLen2 (K : FR) : List V → Hp → VK → Prop := fun xs H Q => ∃ x n, xs = [x] ∧ LenV K x H n ∧ Q (.int n) H
def rBi (K : FR) : Bi → List V → Hp → VK → Prop
  | .len => fun xs H Q => rLen2 K xs H Q ∨ ∃ a kvs, xs = [V.ref a] ∧ H a = some (.dK kvs) ∧ Q (.int kvs.length) H
  | .str => fun xs H Q => (∃ i, xs = [.int i] ∧ i.natAbs.log2 < 1920 ∧ Q (.str (toString i)) H) ∨ ∃ b : Bool, xs = [.bl b] ∧ Q (.str (if b then "True" else "False")) H
  | .int => fun xs H Q => (∃ i, xs = [.int i] ∧ Q (.int i) H) ∨ ∃ k, xs = [.bl k] ∧ Q (.int (if k then 1 else 0)) H
  | .abs => fun xs H Q => ∃ i, xs = [.int i] ∧ Q (.int (if i < 0 then -i else i)) H
  | .tuple => fun xs H Q => ∃ p ys, xs = [.ref p] ∧ ((SqL K H p ys ∧ ∀ l, H l = none → Q (.ref l) (upd H l (.tup ys))) ∨ (SqT K H p ys ∧ Q (.ref p) H))
  | .list => fun xs H Q => ∃ p ys, xs = [.ref p] ∧ (SqL K H p ys ∨ SqT K H p ys) ∧ ∀ l, H l = none → Q (.ref l) (upd H l (.lst ys))
  | .sum => fun xs H Q => rSum K xs H Q ∨ rSumT K xs H Q
  | .sorted => rSorted K
  | .max => fun xs H Q => (∃ i j, xs = [.int i, .int j] ∧ Q (.int (if j > i then j else i)) H) ∨ rMax K xs H Q
  | .min => fun xs H Q => (∃ i j, xs = [.int i, .int j] ∧ Q (.int (if j < i then j else i)) H) ∨ rMin K xs H Q
section
variable {X : Cx}
theorem cr_bi (hc : X.calm = true) : ∀ b : Bi, CallR X (biVal b) (rBi X.K b)
  | .len => CallR.or call_len call_lenD
  | .str => CallR.or call_str_int call_str_bool
  | .int => call_int1
  | .abs => call_abs
  | .tuple => call_tuple_of
  | .list => call_list_of
  | .sum => CallR.or (cr_sum hc) (cr_sumT hc)
  | .sorted => cr_sorted
  | .max => CallR.or (call_max2 hc) (cr_max hc)
  | .min => CallR.or (call_min2 hc) (cr_min hc)
end
section
variable {K : FR} {m : List Addr} {S : Store} {H : Hp} {Qd : DK} {Q : VK} {x y : D} {xv yv : V} {ds : List D} {vs : List V}
theorem rds1 {x : D} (h : RDs K m H [x] vs) : ∃ v, vs = [v] ∧ RD K m H x v := by
  cases h with
  | cons a b => cases b; exact ⟨_, rfl, a⟩
theorem rds2 {x y : D} (h : RDs K m H [x, y] vs) : ∃ v u, vs = [v, u] ∧ RD K m H x v ∧ RD K m H y u := by
  cases h with
  | cons a b =>
    obtain ⟨u, rfl, r⟩ := rds1 b
    exact ⟨_, _, rfl, a, r⟩
theorem RD.lsty {l : List D} (rx : RD K m H x xv) (r : Rel K m S H) (ls : Ev.lsty x = true) (e : items S x = some l) : ∃ a ws, xv = .ref a ∧ SqL K H a ws ∧ RDs K m H l ws := by
  cases rx with
  | ref hn =>
    obtain ⟨ws, hs, rl⟩ := r.its e hn
    exact ⟨_, ws, rfl, hs, rl⟩
  | cl hs rl => cases e; exact ⟨_, _, rfl, hs.sq, rl⟩
  | _ => cases ls
theorem rds_ints : ∀ l : List Int, RDs K m H (l.map D.int) (l.map V.int)
  | [] => .nil
  | i :: l => .cons (.int i) (rds_ints l)
theorem bi_r (b : Bi) (r : Rel K m S H) (rs : RDs K m H ds vs) (h : wpBi b ds S Qd) (q : Imp K m H Qd Q) : rBi K b vs H Q := by
  cases b with
  | len =>
    rcases h with ⟨x, l, rfl, e, h⟩ | ⟨z, rfl, hz, h⟩ | ⟨n, l, rfl, e, h⟩
    · obtain ⟨v, rfl, rx⟩ := rds1 rs
      obtain ⟨a, ws, rfl, hs, rl⟩ := rx.its r e
      refine .inl ⟨_, l.length, rfl, ?_, q.here r h (.int _)⟩
      rcases hs with hs | hs
      · exact .inl ⟨ws, hs, rl.length⟩
      · exact .inr ⟨ws, hs, rl.length⟩
    · obtain ⟨v, rfl, rx⟩ := rds1 rs
      cases rx
      exact .inl ⟨_, z.length, rfl, ⟨hz, rfl⟩, q.here r h (.int _)⟩
    · obtain ⟨v, rfl, rx⟩ := rds1 rs
      cases rx with
      | ref hn =>
        obtain ⟨kvs, hk, r1, r2⟩ := r.ob n _ _ e hn
        have el : l.length = kvs.length := by have := r2.length; simpa using this
        rw [el] at h
        exact .inr ⟨_, kvs, rfl, hk, q.here r h (.int _)⟩
  | str =>
    rcases h with ⟨i, rfl, hz, h⟩ | ⟨b, rfl, h⟩
    · obtain ⟨v, rfl, rx⟩ := rds1 rs
      cases rx
      exact .inl ⟨i, rfl, hz, q.here r h (.str _)⟩
    · obtain ⟨v, rfl, rx⟩ := rds1 rs
      cases rx
      exact .inr ⟨b, rfl, q.here r h (.str _)⟩
  | int =>
    rcases h with ⟨i, rfl, h⟩ | ⟨k, rfl, h⟩
    · obtain ⟨v, rfl, rx⟩ := rds1 rs
      cases rx
      exact .inl ⟨i, rfl, q.here r h (.int _)⟩
    · obtain ⟨v, rfl, rx⟩ := rds1 rs
      cases rx
      exact .inr ⟨k, rfl, q.here r h (.int _)⟩
  | abs =>
    obtain ⟨i, rfl, h⟩ := h
    obtain ⟨v, rfl, rx⟩ := rds1 rs
    cases rx
    exact ⟨i, rfl, q.here r h (.int _)⟩
  | tuple =>
    obtain ⟨x, l, rfl, e, h⟩ := h
    obtain ⟨v, rfl, rx⟩ := rds1 rs
    cases rx with
    | tup hs rl => cases e; exact ⟨_, _, rfl, .inr ⟨hs, q.here r h (.tup hs rl)⟩⟩
    | ref hn =>
      obtain ⟨ws, hs, rl⟩ := r.its e hn
      exact ⟨_, ws, rfl, .inl ⟨hs, q.newT r rl h⟩⟩
    | cl hs rl => cases e; exact ⟨_, _, rfl, .inl ⟨hs.sq, q.newT r rl h⟩⟩
    | _ => cases e
  | list =>
    obtain ⟨x, l, rfl, e, h⟩ := h
    obtain ⟨v, rfl, rx⟩ := rds1 rs
    obtain ⟨a, ws, rfl, hs, rl⟩ := rx.its r e
    exact ⟨a, ws, rfl, hs, q.newL r rl h⟩
  | sum =>
    obtain ⟨x, l, ns, rfl, e, ei, h⟩ := h
    obtain ⟨v, rfl, rx⟩ := rds1 rs
    obtain ⟨a, ws, rfl, hs, rl⟩ := rx.its r e
    have ew := ints_of rl ei
    subst ew
    rcases hs with hs | hs
    · exact .inl ⟨a, ns, rfl, hs, q.here r h (.int _)⟩
    · exact .inr ⟨a, ns, rfl, hs, q.here r h (.int _)⟩
  | sorted =>
    obtain ⟨x, l, ns, rfl, ls, e, ei, h64, h⟩ := h
    obtain ⟨v, rfl, rx⟩ := rds1 rs
    obtain ⟨a, ws, rfl, hs, rl⟩ := rx.lsty r ls e
    have ew := ints_of rl ei
    subst ew
    exact ⟨a, ns, rfl, hs, h64, fun ns' p h1 h2 hn => q.newL r (rds_ints ns') (h ns' h1 h2) p hn⟩
  | max =>
    rcases h with ⟨i, j, rfl, h⟩ | ⟨x, l, ns, rfl, ls, e, ei, hz, h⟩
    · obtain ⟨v, u, rfl, rx, ry⟩ := rds2 rs
      cases rx; cases ry
      exact .inl ⟨i, j, rfl, q.here r h (.int _)⟩
    · obtain ⟨v, rfl, rx⟩ := rds1 rs
      obtain ⟨a, ws, rfl, hs, rl⟩ := rx.lsty r ls e
      have ew := ints_of rl ei
      subst ew
      exact .inr ⟨a, ns, rfl, hs, hz, fun m h1 h2 => q.here r (h m h1 h2) (.int _)⟩
  | min =>
    rcases h with ⟨i, j, rfl, h⟩ | ⟨x, l, ns, rfl, ls, e, ei, hz, h⟩
    · obtain ⟨v, u, rfl, rx, ry⟩ := rds2 rs
      cases rx; cases ry
      exact .inl ⟨i, j, rfl, q.here r h (.int _)⟩
    · obtain ⟨v, rfl, rx⟩ := rds1 rs
      obtain ⟨a, ws, rfl, hs, rl⟩ := rx.lsty r ls e
      have ew := ints_of rl ei
      subst ew
      exact .inr ⟨a, ns, rfl, hs, hz, fun m h1 h2 => q.here r (h m h1 h2) (.int _)⟩

/-! ### items, slices -/
theorem RDs.atI {l : List D} {ws : List V} {i : Int} {d : D} (rl : RDs K m H l ws) (e : L2.atI l i = some d) : ∃ v, L2.atI ws i = some v ∧ RD K m H d v := by
  unfold L2.atI at e ⊢
  rw [← rl.length]
  cases q : ixN l.length i with
  | none => rw [q] at e; cases e
  | some j => rw [q] at e; exact rl.get e
theorem idx_r (r : Rel K m S H) (rx : RD K m H x xv) {l : List D} {i : Int} {d : D} (e : items S x = some l) (ei : ixAt l i = some d) (h : Qd d S) (q : Imp K m H Qd Q) : rIx K xv (.int i) H Q := by
  obtain ⟨a, ws, rfl, hs, rl⟩ := rx.its r e
  obtain ⟨v, ev, rv⟩ := rl.atI ei
  rcases hs with hs | hs
  · exact .inl ⟨a, ws, i, v, rfl, rfl, hs, ev, q.here r h rv⟩
  · exact .inr (.inl ⟨a, ws, i, v, rfl, rfl, hs, ev, q.here r h rv⟩)
theorem RDs.cut {l : List D} {ws : List V} {lo hi : Option Int} (rl : RDs K m H l ws) : RDs K m H (Ev.cut l lo hi) (cutV ws lo hi) := by
  unfold Ev.cut cutV
  rw [rl.length]
  exact (rl.drop _).take _
def rSl (K : FR) : V → Option Int → Option Int → Hp → VK → Prop := fun x lo hi H Q => rSlA K x lo hi H Q ∨ (rSlL K x lo hi H Q ∨ rSlS x lo hi H Q)
theorem slc_r (r : Rel K m S H) (rx : RD K m H x xv) {lo hi : Option Int} (h : wpSlc x lo hi S Qd) (q : Imp K m H Qd Q) : rSl K xv lo hi H Q := by
  cases rx with
  | tup hs rl =>
    rename_i l a ws
    have h : Qd (.tup (cut l lo hi)) S := h
    refine .inl ⟨_, _, rfl, hs, fun hw => ?_, fun _ => q.newT r rl.cut h⟩
    refine q.here r h (.tup hs ?_)
    have e : cutV ws lo hi = ws := by
      unfold cutV
      rw [hw.1, hw.2]
      simp
    have z := rl.cut (lo := lo) (hi := hi)
    rw [e] at z
    exact z
  | ref hn =>
    obtain ⟨l, e, h⟩ := h
    obtain ⟨ws, hs, rl⟩ := r.its e hn
    exact .inr (.inl ⟨_, ws, rfl, hs, q.newL r rl.cut h⟩)
  | cl hs rl => exact .inr (.inl ⟨_, _, rfl, hs.sq, q.newL r rl.cut h⟩)
  | str z => exact .inr (.inr ⟨z, rfl, h.1, q.here r h.2 (.str _)⟩)
  | _ => exact (show False from h).elim

/-! ### isinstance -/
def tyName : Ty → String
  | .int => "int"
  | .bool => "bool"
  | .tuple => "tuple"
  | .str => "str"
theorem ty_r (r : Rel K m S H) (rx : RD K m H x xv) (t : Ty) {b : Bool} (h : isTy t x = some b) : ∃ ty, TyX K H xv ty ∧ PySem.W.kitOne K ty (.type (tyName t)) = some b := by
  cases rx with
  | non => exact ⟨_, .base .non, by cases h; cases t <;> exact kit_ty (by decide +kernel)⟩
  | bl k => exact ⟨_, .base (.bl k), by cases h; cases t <;> exact kit_ty (by decide +kernel)⟩
  | int i => exact ⟨_, .base (.int i), by cases h; cases t <;> exact kit_ty (by decide +kernel)⟩
  | str z => exact ⟨_, .base (.str z), by cases h; cases t <;> exact kit_ty (by decide +kernel)⟩
  | @tup _ a _ hs rl =>
    have ty : TyX K H (.ref a) (.type "tuple") := by
      rcases hs with (hs | ⟨o, hs⟩) | ⟨o, its, n, hk, hc, _⟩
      · exact .base (.tup hs)
      · exact .fTuple hs
      · exact .kTuple hk hc
    exact ⟨_, ty, by cases h; cases t <;> exact kit_ty (by decide +kernel)⟩
  | @ref nn a hn =>
    have hlt : nn < S.length := by rw [← r.len]; exact (List.getElem?_eq_some_iff.mp hn).1
    have z := r.ob _ _ a (List.getElem?_eq_getElem hlt) hn
    cases q : S[nn]'hlt with
    | lst l =>
      rw [q] at z
      obtain ⟨_, z, _⟩ := z
      exact ⟨_, .base (.lst z), by cases h; cases t <;> exact kit_ty (by decide +kernel)⟩
    | dic l =>
      rw [q] at z
      obtain ⟨_, z, _⟩ := z
      exact ⟨_, .base (.dK z), by cases h; cases t <;> exact kit_ty (by decide +kernel)⟩
  | @cl _ a _ hs rl =>
    have ty : TyX K H (.ref a) (.type "list") := by
      rcases hs with ⟨o, hs⟩ | ⟨o, its, n, hk, hc, _⟩
      · exact .base (.frz hs)
      · exact .kList hk hc
    exact ⟨_, ty, by cases h; cases t <;> exact kit_ty (by decide +kernel)⟩
/-! ### methods of lists -/
theorem Imp.set (q : Imp K m H Qd Q) (r : Rel K m S H) {n : Nat} {a : Addr} {l : List D} {ws : List V} {d : D} {v : V} (hn : m[n]? = some a) (rl : RDs K m H l ws) (rd : RD K m H d v) (h : Qd d (S.set n (.lst l))) : Q v (upd H a (.lst ws)) :=
  q _ _ _ _ _ h (r.upd hn rl) (.upd (List.mem_of_getElem? hn)) (rd.mono (.upd (List.mem_of_getElem? hn)) r)
theorem RDs.dropLast {l : List D} {ws : List V} (rl : RDs K m H l ws) : RDs K m H l.dropLast ws.dropLast := by
  rw [List.dropLast_eq_take, List.dropLast_eq_take, rl.length]
  exact rl.take _
def meName : Me → Str
  | .append => "append"
  | .pop => "pop"
  | .index => "index"
  | .extend => "extend"
  | .insert => "insert"
def rMe (K : FR) : Me → V → List V → Hp → VK → Prop
  | .append => rAppend
  | .pop => fun x vs H Q => rPop x vs H Q ∨ rPopAt x vs H Q
  | .index => fun _ _ _ _ => False
  | .extend => rExtend
  | .insert => fun x vs H Q => ∃ (l : Addr) (xs : List V) (i : Int) (y : V), x = .ref l ∧ vs = [.int i, y] ∧ H l = some (.lst xs) ∧ xs.length < sizeLine ∧ 0 ≤ i ∧ i < 2 ^ 63 ∧ Q .non (upd H l (.lst (xs.take i.toNat ++ [y] ++ xs.drop i.toNat)))
theorem me_r (me : Me) (r : Rel K m S H) (rx : RD K m H x xv) (rs : RDs K m H ds vs) (h : wpMe me x ds S Qd) (q : Imp K m H Qd Q) : rMe K me xv vs H Q := by
  cases me with
  | append =>
    obtain ⟨n, l, y, rfl, rfl, e, hz, h⟩ := h
    cases rx with
    | ref hn =>
      obtain ⟨v, rfl, ry⟩ := rds1 rs
      obtain ⟨ws, hw, rl⟩ := r.lst e hn
      exact ⟨_, ws, v, rfl, rfl, hw, by rw [← rl.length]; exact hz, q.set r hn (rl.app (.cons ry .nil)) .non h⟩
  | pop =>
    rcases h with ⟨n, l, y, rfl, rfl, e, ey, h⟩ | ⟨n, l, i, y, rfl, rfl, e, hi, ey, h⟩
    · cases rx with
      | ref hn =>
        cases rs
        obtain ⟨ws, hw, rl⟩ := r.lst e hn
        obtain ⟨v, ev, rv⟩ := rl.get ey
        exact .inl ⟨_, ws, v, rfl, rfl, hw, by rw [← rl.length]; exact ev, q.set r hn rl.dropLast rv h⟩
    · cases rx with
      | ref hn =>
        obtain ⟨v, rfl, ry⟩ := rds1 rs
        cases ry
        obtain ⟨ws, hw, rl⟩ := r.lst e hn
        obtain ⟨u, ev, rv⟩ := rl.get ey
        have hlt : i < ws.length := (List.getElem?_eq_some_iff.mp ev).1
        exact .inr ⟨_, ws, i, i, u, rfl, rfl, hw, by omega, hi, by
          have z := PySem.StrLaws.seqIndex_nonneg (i := (i : Int)) (n := ws.length) (by omega) (by omega)
          rw [z]; rfl, ev, q.set r hn (rl.erase i) rv h⟩
  | index => exact (show False from h).elim
  | extend =>
    obtain ⟨n, l, j, k, rfl, rfl, e, e2, hz, h⟩ := h
    cases rx with
    | ref hn =>
      obtain ⟨v, rfl, ry⟩ := rds1 rs
      cases ry with
      | ref hj =>
        obtain ⟨ws, hw, rl⟩ := r.lst e hn
        obtain ⟨us, hu, rk⟩ := r.lst e2 hj
        exact ⟨_, _, ws, us, rfl, rfl, hw, hu, by rw [← rl.length, ← rk.length]; exact hz, q.set r hn (rl.app rk) .non h⟩
  | insert =>
    obtain ⟨n, l, i, y, rfl, rfl, e, hi, hz, h63, h⟩ := h
    cases rx with
    | ref hn =>
      obtain ⟨v, u, rfl, ry, rz⟩ := rds2 rs
      cases ry
      obtain ⟨ws, hw, rl⟩ := r.lst e hn
      exact ⟨_, ws, i, u, rfl, rfl, hw, by rw [← rl.length]; exact hz, by omega, h63, q.set r hn (((rl.take _).app (.cons rz .nil)).app (rl.drop _)) .non h⟩
end
end Ev
set_option Elab.async false
set_option linter.all false
set_option maxRecDepth 100000
set_option maxHeartbeats 4000000
/-! ## generator expressions, over the hand layer -/
namespace Gx
open PySem PySem.Spec PyProof.Rows L2 GenW

/-- the context of a generator expression's own frame; A: what runs around it -/
abbrev gcx (X : Cx) (A : Around) (s4 : Shared) (H4 : Hp) (ce : Env) (fp : List Addr) : Cx :=
  { X with A := A, s_0 := s4, H_0 := H4, env := ce, outer := X.stack, stack := ce :: X.stack, ex := fp, fn := fun _ => false, pn := [], xe := fun _ _ => False }
/-- the same frame, seen from the one that eats -/
abbrev ecx (X : Cx) (A : Around) (s4 : Shared) (H4 : Hp) (ce : Env) (fp : List Addr) : Cx :=
  { X with A := A, s_0 := s4, H_0 := H4, env := ce, outer := X.stack, stack := X.stack, ex := fp, fn := fun _ => false, pn := [], xe := fun _ _ => False }
section
variable {X : Cx} {A A2 : Around} {s4 : Shared} {H4 : Hp} {ce : Env} {fp : List Addr} {pins : List (Addr × Obj)} {σ : L2.St} {H : Hp} {s : Shared}
theorem toE (I : Inv (gcx X A s4 H4 ce fp) pins σ H s) (hf : A2.frames = some X.stack) (hh : A2.handled = none) : Inv (ecx X A2 s4 H4 ce fp) pins σ H s := by
  obtain ⟨o, i1, i2, i3, i4, i5, i6, i7, i8, i9, i10⟩ := I
  exact ⟨⟨o.mod, o.kind, o.glob, o.blt, o.above, o.inj, o.has, o.cab, fun _ => hh, hf, .inl rfl, o.exf, o.bs, o.bsz, o.noex, o.exfs, o.funs, o.frf⟩, i1, i2, i3, i4, i5, i6, i7, i8, i9, i10⟩
theorem toG (I : Inv (ecx X A2 s4 H4 ce fp) pins σ H s) (hf : A.frames = some (ce :: X.stack)) (hl : ce.frame = some ce.locals) (hh : A.handled = none) : Inv (gcx X A s4 H4 ce fp) pins σ H s := by
  obtain ⟨o, i1, i2, i3, i4, i5, i6, i7, i8, i9, i10⟩ := I
  exact ⟨⟨o.mod, o.kind, o.glob, o.blt, o.above, o.inj, o.has, o.cab, fun _ => hh, hf, .inr ⟨rfl, hl⟩, o.exf, o.bs, o.bsz, o.noex, o.exfs, o.funs, o.frf⟩, i1, i2, i3, i4, i5, i6, i7, i8, i9, i10⟩
end
theorem inv_gens {X : Cx} {pins : List (Addr × Obj)} {σ : L2.St} {H : Hp} {s : Shared} {g : Array GenState} (I : Inv X pins σ H s) (hg : AllBare g) : Inv X pins σ H { s with gens := g } := by
  obtain ⟨o, i1, i2, i3, i4, i5, i6, i7, i8, i9, i10⟩ := I
  exact ⟨o, i1, hg, i3, i4, i5, i6, i7, i8, i9, i10⟩

/-- a generator expression's frame is laid -/
theorem gx_start {X : Cx} {pins : List (Addr × Obj)} {σ : L2.St} {H : Hp} {s : Shared} {A : Around} {scope : Scope} {own : List (Str × Nat)} {fp : List Addr} {code : Value} {h5 : Heap} {tk : Nat} {gs : Array GenState} {m5 : Str → Option Value}
    (I : Inv X pins σ H s) (ok : BlkOk X.N X.env.scope scope own) (nc : ∀ y ∈ scope.names, y.2 ≠ .cell) (nd : X.N.Nodup) (hfp : ∀ b ∈ fp, FpOk X pins H b ∧ b < s.heap.objs.size)
    (hA : A.frames = some (genEnv scope (cloFrom X.env.cells scope.names []) s.heap.objs.size code builtinsNs X.env :: X.stack)) (hAh : A.handled = none) (hn : h5.Ns s.heap.objs.size m5) (kp : ∀ b o, s.heap.get? b = some o → h5.get? b = some o) (hb : AllBare gs) :
    Inv (gcx X A s H (genEnv scope (cloFrom X.env.cells scope.names []) s.heap.objs.size code builtinsNs X.env) fp) [] (wipe σ (own.map (·.2))) H { s with heap := h5, gens := gs, toks := tk } := by
  have fr0 : ∀ y ∈ scope.names, y.2 = .free → ∃ c, X.env.cells.lookup y.1 = some c := fun y hy e => by
    rcases ok.free y hy e with k | k
    · exact I.ok.has _ (.inl k)
    · exact I.ok.has _ (.inr k)
  generalize hce : genEnv scope (cloFrom X.env.cells scope.names []) s.heap.objs.size code builtinsNs X.env = ce at hA ⊢
  have eL : ce.locals = s.heap.objs.size := by rw [← hce]; rfl
  have eC : ce.cells = cloFrom X.env.cells scope.names [] := by rw [← hce]; rfl
  have eS : ce.scope = scope := by rw [← hce]; rfl
  -- a cell of the frame is the def's
  have old : ∀ {y c}, ce.cells.lookup y = some c → X.env.cells.lookup y = some c ∧ c < s.heap.objs.size := fun {y c} e => by
    rw [eC] at e
    rcases cloFrom_mem (PySem.mem_of_lookup e) with z | ⟨z1, z2⟩
    · cases z
    · obtain ⟨c0, e0⟩ := fr0 _ z1 rfl
      obtain ⟨w, hw⟩ := I.cell _ _ e0
      rw [e0] at z2
      rw [show c = c0 from z2]
      exact ⟨e0, hw.lt⟩
  have new : ∀ {y}, scope.names.lookup y = some .free → ∃ c, ce.cells.lookup y = some c ∧ X.env.cells.lookup y = some c := fun {y} e => by
    obtain ⟨c, ec⟩ := mem_lookup (cloFrom_has (cells := X.env.cells) (acc := []) (PySem.mem_of_lookup e))
    rw [← eC] at ec
    exact ⟨c, ec, (old ec).1⟩
  have noc : ∀ {y}, scope.names.lookup y ≠ some .cell := fun {y} e => nc _ (PySem.mem_of_lookup e) rfl
  have okG : (gcx X A s H ce fp).Ok := by
    refine ⟨I.ok.mod, ?_, ?_, ?_, ?_, ?_, ?_, ?_, fun _ => hAh, hA, .inr ⟨rfl, ?_⟩, ?_, I.bs, Nat.le_trans I.ok.bsz I.sz, ?_, ?_, I.stack, I.stkFree⟩
    · show ce.scope.kind = .function
      rw [eS]; exact ok.kind
    · show ce.globals = mainGlobals
      rw [← hce]; exact I.ok.glob
    · show ce.builtins = builtinsNs
      rw [← hce]; rfl
    · exact Nat.le_of_eq eL.symm
    · exact fun x y c h1 h2 => I.ok.inj x y c (old h1).1 (old h2).1
    · intro y hy
      rcases hy with hy | hy <;> (unfold Env.kindOf at hy; rw [show (gcx X A s H ce fp).env.scope = scope from eS] at hy)
      · exact absurd hy noc
      · obtain ⟨c, e, _⟩ := new hy
        exact ⟨c, e⟩
    · exact fun x c z => Bool.noConfusion z
    · rw [← hce]; rfl
    · intro b hb
      refine ⟨?_, fun y c e z => (hfp b hb).1.2.2.2.2.1 y c (old e).1 z⟩
      show b ≠ ce.locals
      rw [eL]
      exact Nat.ne_of_lt (hfp b hb).2
    · intro b o e z
      rcases (hfp b z).1.2.2.2.1 with q | q
      · exact I.ok.noex b o e q
      · have h1 := Heap.lt_size e
        have h2 : X.base.objs.size ≤ b := Nat.le_trans I.ok.bsz q
        exact absurd (Nat.lt_of_lt_of_le h1 h2) (Nat.lt_irrefl _)
    · intro b hb z
      rcases List.mem_cons.mp (I.stkSub b z) with q | q
      · exact (hfp b hb).1.2.1 q
      · exact (hfp b hb).1.2.2.1 q
  refine ⟨okG, rfl, hb, Un.kept kp, ⟨m5, ?_, fun i y av e1 e2 e3 => ?_⟩, fun y c e => ?_, ?_, fun y c e => I.freeC y c (old e).1, fun p hp => absurd (show p ∈ ([] : List (Addr × Obj)) ++ [] from hp) (by simp), I.hok.kept kp, by rw [wipe_length]; exact I.len⟩
  · show h5.Ns ce.locals m5
    rw [eL]; exact hn
  · obtain ⟨e2, nin⟩ := wipe_some e2
    have e3 : Vis ce.scope y := e3
    rw [eS] at e3
    have notOwn : ∀ k, scope.names.lookup y = some k → k = .local ∨ k = .cell → False := fun k ek hk => by
      rcases ok.own _ (PySem.mem_of_lookup ek) hk with z | z
      · obtain ⟨p, hp, ep⟩ := List.mem_map.mp z
        have e4 := ok.ix p hp
        rw [show p.1 = y from ep] at e4
        exact nin (List.mem_map.mpr ⟨p, hp, nodup_ix nd e4 e1⟩)
      · exact z (List.mem_of_getElem? e1)
    have isF : scope.names.lookup y = some .free := by
      rcases e3 with q | q | q
      · exact (notOwn _ q (.inl rfl)).elim
      · exact (notOwn _ q (.inr rfl)).elim
      · exact q
    obtain ⟨m, _, hl⟩ := I.loc
    have kd := ok.free _ (PySem.mem_of_lookup isF) rfl
    obtain ⟨w, r, q⟩ := hl i y av e1 e2 (kd.elim (fun k => .inr (.inl k)) fun k => .inr (.inr k))
    obtain ⟨c, c1, c2⟩ := new isF
    have kF : ce.kindOf y = some .free := by
      unfold Env.kindOf
      rw [eS]; exact isF
    refine ⟨w, r, .inr ⟨.inr kF, c, c1, ?_⟩⟩
    rcases q with ⟨k, _⟩ | ⟨_, c', e', z⟩
    · have k' : X.env.scope.names.lookup y = some .local := k
      rcases kd with kd | kd <;> rw [show X.env.scope.names.lookup y = _ from kd] at k' <;> cases k'
    · rw [c2] at e'
      cases e'
      exact z.keeps kp
  · obtain ⟨w, z⟩ := I.cell y c (old e).1
    exact ⟨w, z.keeps kp⟩
  · show H ce.locals = none
    rw [eL]
    exact I.hok.fresh (Nat.le_refl _)

/-! ### how it runs -/
section
variable (Y : Cx) (σw : L2.St) (go : Addr × Obj) (Pc : List Value → List (Addr × Obj) → Prop) (Ky : List V → V → Hp → (List V → Hp → Prop) → Prop) (Z : List V → Hp → Prop)
/-- vs is out, by us; the eater's things are pinned; ip: more pins -/
def Held (ip : List (Addr × Obj)) (vs : List V) (H : Hp) (s0 s : Shared) : Prop := ∃ us p, Vals vs us ∧ Pc us p ∧ (∀ q ∈ p, s0.heap.get? q.1 = some q.2) ∧ Inv Y (go :: (p ++ ip)) σw H s
/-- an item is handed out -/
def GxY : Protocol := fun _ s0 v s kap => ∃ (vs : List V) (us : List Value) (p ip : List (Addr × Obj)) (y : V) (H : Hp) (N : List V → Hp → Prop), RelV y v ∧ Vals vs us ∧ Pc us p ∧ (∀ q ∈ p, s0.heap.get? q.1 = some q.2) ∧ (∀ q ∈ ip, q.1 ∈ Y.ex) ∧ Inv Y (go :: (p ++ ip)) σw H s ∧ Ky vs y H N ∧
  ∀ s' p', Pc (us ++ [v]) p' → Inv Y (go :: (p' ++ ip)) σw H s' → N (vs ++ [y]) H → kap (.send .none) s'
/-- its end -/
def GxP (s0 s : Shared) : Prop := ∃ ip vs H, Held Y σw go Pc ip vs H s0 s ∧ Z vs H
end
theorem held_gen {Y : Cx} {σw : L2.St} {go : Addr × Obj} {Pc : List Value → List (Addr × Obj) → Prop} {ip : List (Addr × Obj)} {vs : List V} {H : Hp} {s0 s : Shared} (h : Held Y σw go Pc ip vs H s0 s) : s.heap.get? go.1 = some go.2 := by
  obtain ⟨us, p, _, _, _, I⟩ := h
  exact (I.pin go (List.mem_append_right _ List.mem_cons_self)).1
theorem noF {α : Type} {t : Sem α} {Q Q' : α → Shared → Prop} {M : Model} {A : Around} {E : Value → Shared → Prop} {s : Shared} (h : wpAny M A t Q (fun _ _ => False) s) (hQ : ∀ a s, Q a s → Q' a s) : wpAny M A t Q' E s := wpAny_mono h hQ fun _ _ z => z.elim
section
variable {Y : Cx} {A : Around} {σ : L2.St} {ws : List Nat} {go : Addr × Obj} {Pc : List Value → List (Addr × Obj) → Prop} {Ky : List V → V → Hp → (List V → Hp → Prop) → Prop} {Z : List V → Hp → Prop} {W : Nat → Nat → List V → Hp → Prop}
  {elt tg iter : Expr} {ifs : List Expr} {scope : Scope} {pos : Pos} {J : It} {fp : List Addr} {it : Addr} {tn : Nat → Heap → Prop} {g : TG} {tt : TT} {te : TE}
/-- the generator at its i-th turn -/
structure AtTurn (Y : Cx) (σw : L2.St) (go : Addr × Obj) (Pc : List Value → List (Addr × Obj) → Prop) (fp : List Addr) (tn : Nat → Heap → Prop) (i : Nat) (vs : List V) (H : Hp) (s0 s : Shared) : Prop where
  held : Held Y σw go Pc [] vs H s0 s
  tn : tn i s.heap
  free : ∀ b ∈ fp, H b = none
theorem gx_loop (hY : Y.calm = true) (hpn : Y.pn = []) (hex : Y.ex = fp) (hov : A.over (.compLoop (.GeneratorExp elt [⟨tg, iter, ifs, 0⟩] scope pos) 0 (.ref it) .none Y.env) [] = Y.A) (hco : Y.env.scope.isCoroutine = false)
    (T : Turn Y.prog Y.w Y.K tg J fp it tn) (hgo : go.1 ∉ fp) (hPc : ∀ us p, Pc us p → ∀ q ∈ p, q.1 ∉ fp) (hg : PG Y tg g) (ht : PTs Y ifs tt) (he : PE Y elt te) (hxe : Y.xe = fun _ _ => False)
    (turn : ∀ i m vs H, W i m vs H → (J.stop i H ∧ Z vs H) ∨ (J.go i H ∧ ∃ Nx : List V → Hp → Prop, (∀ vs' H', Nx vs' H' → ∃ m', m' < m ∧ W (i + 1) m' vs' H') ∧ ∀ x H', J.yld i H x H' → g x (wipe σ ws) H' fun σ2 H2 => wipe σ2 ws = wipe σ ws ∧ tt σ2 H2 fun b H3 =>
      if b = true then te σ2 H3 fun y H4 => Ky vs y H4 Nx else Nx vs H3)) :
    ∀ (m n i : Nat) (vs : List V) (H : Hp) (s₀ s : Shared), m < n → W i m vs H → AtTurn Y (wipe σ ws) go Pc fp tn i vs H s₀ s →
      Seg (model Y.prog Y.w) A (fun _ s0 r s => r = .ok .next ∧ GxP Y (wipe σ ws) go Pc Z s0 s) (GxY Y (wipe σ ws) go Pc Ky) n s₀ (.compLoop (.GeneratorExp elt [⟨tg, iter, ifs, 0⟩] scope pos) 0 (.ref it) .none Y.env)
        ((model Y.prog Y.w).den (.compLoop (.GeneratorExp elt [⟨tg, iter, ifs, 0⟩] scope pos) 0 (.ref it) .none Y.env)) [] s := by
  intro m
  induction m using Nat.strongRecOn with
  | ind m ih =>
    intro n i vs H s₀ s hmn hw ⟨⟨us, p, rv, pc, pk, I⟩, st, fr⟩
    have fpk : ∀ {H : Hp}, (∀ b ∈ fp, H b = none) → (∀ b ∈ fp, ∀ q ∈ Y.pn ++ (go :: (p ++ [])), q.1 ≠ b) → ∀ b ∈ fp, FpOk Y (go :: (p ++ [])) H b := fun h1 h2 b hb => by
      have hb' : b ∈ Y.ex := by rw [hex]; exact hb
      exact ⟨h1 b hb, (I.ok.exf b hb').1, I.ok.exfs b hb', .inl hb', fun x c e => (I.ok.exf b hb').2 x c e, h2 b hb⟩
    have apart : ∀ b ∈ fp, ∀ q ∈ Y.pn ++ (go :: (p ++ [])), q.1 ≠ b := fun b hb q hq z => by
      rw [hpn, List.nil_append, List.append_nil] at hq
      rcases List.mem_cons.mp hq with e | hq
      · rw [e] at z; exact hgo (z ▸ hb)
      · exact hPc us p pc q hq (z ▸ hb)
    show Seg _ A _ _ n s₀ _ ((compTurn (.GeneratorExp elt [⟨tg, iter, ifs, 0⟩] scope pos) 0 (.ref it) .none Y.env).onRaise (leaving Y.env)) [] s
    rw [compTurn_gen]
    rw [Sem.onRaise_eq_wrap]
    refine seg_bind_wrap (wpAny_standAt ?_)
    rcases turn i m vs H hw with ⟨stop, hz⟩ | ⟨hgo2, Nx, hN, step⟩
    · have td := T.done Y rfl rfl rfl hY i _ s _ H (fun _ _ => False) I (fpk fr apart) st stop
      refine seg_bind_wrap ?_
      rw [hov]
      refine noF td fun r s1 ⟨e, I1⟩ => ?_
      subst e
      exact seg_end (.ok .next) ⟨rfl, [], vs, H, ⟨us, p, rv, pc, pk, I1⟩, hz⟩
    · have ti := T.item Y rfl rfl rfl hY i _ s _ H (fun _ _ => False) I (fpk fr apart) st hgo2
      refine seg_bind_wrap ?_
      rw [hov]
      refine noF ti fun r s1 ⟨u, e, h1⟩ => ?_
      subst e
      refine seg_bind_wrap ?_
      rw [hov]
      refine noF h1 fun _ s2 ⟨x, H2, I2, rx, yx, st2, fr2⟩ => ?_
      have J2 := I2.pinned (fpk fr2 apart) (T.obj _ _ st2)
      refine seg_bind_wrap ?_
      rw [hov]
      have pg := hg.run _ s2 _ H2 x u _ J2 rx (step x H2 yx)
      rw [hxe] at pg
      refine noF pg fun _ s3 ⟨σ3, H3, I3, hw3, q3⟩ => ?_
      refine seg_bind_wrap ?_
      rw [hov]
      have pt := ht.run _ s3 σ3 H3 _ I3 q3
      rw [hxe] at pt
      refine noF pt fun b s4 ⟨H4, I4, q4⟩ => ?_
      have len3 : (wipe σ ws).length = σ3.length := by rw [← hw3, wipe_length]
      -- the next turn
      have pinOf : ∀ {σ' : L2.St} {H' : Hp} {s' : Shared} {pp : List (Addr × Obj)}, Inv Y (pp ++ pinsAt fp s2.heap) σ' H' s' → tn (i + 1) s'.heap ∧ ∀ b ∈ fp, H' b = none := fun {σ' H' s' pp} I' => by
        have at_ : ∀ b ∈ fp, ∀ o, s2.heap.get? b = some o → s'.heap.get? b = some o ∧ H' b = none := fun b hb o eo => by
          have z := I'.pin (b, o) (List.mem_append_right _ (List.mem_append_right _ (mem_pinsAt hb eo)))
          exact ⟨z.1, z.2.1⟩
        refine ⟨T.keep _ _ _ st2 fun b hb o eo => (at_ b hb o eo).1, fun b hb => ?_⟩
        obtain ⟨o, eo, _⟩ := T.obj _ _ st2 b hb
        exact (at_ b hb o eo).2
      cases b with
      | false =>
        simp only [Bool.false_eq_true, if_false] at q4 ⊢
        obtain ⟨m', hm, w'⟩ := hN vs H4 q4
        obtain ⟨t1, t2⟩ := pinOf (pp := go :: (p ++ [])) I4
        refine seg_again rfl (ih m' hm n (i + 1) vs H4 s₀ s4 (by omega) w' ⟨⟨us, p, rv, pc, pk, ?_⟩, t1, t2⟩)
        exact (I4.unpinned (pins := go :: (p ++ []))).weak len3 fun j v e => (wipe_some (show (wipe σ3 ws)[j]? = some (some v) by rw [hw3]; exact e)).1
      | true =>
        simp only [if_true] at q4 ⊢
        have yo : ∀ v, yieldOut Y.env v = yieldValue v := fun v => by unfold yieldOut; rw [hco]; rfl
        simp only [yo]
        rw [Sem.bind_eq_wrap', Sem.bind_eq_wrap']
        rw [Sem.wrap_wrap, Sem.wrap_wrap]
        refine seg_wrap ?_
        rw [hov]
        have pe := he.run _ s4 σ3 H4 _ I4 q4
        rw [hxe] at pe
        refine noF pe fun v s5 ⟨y, H5, I5, ry, q5⟩ => ?_
        cases n with
        | zero => exact absurd hmn (Nat.not_lt_zero m)
        | succ n =>
          refine seg_at (seg_yield rfl rfl rfl ?_)
          refine ⟨vs, us, p, pinsAt fp s2.heap, y, H5, Nx, ry, rv, pc, pk, fun q hq => by rw [hex]; exact (of_pinsAt hq).1, ?_, q5, fun s6 p' pc' I6 nx => ?_⟩
          · have I5' := I5.weak (σ' := wipe σ ws) len3 fun j v e => (wipe_some (show (wipe σ3 ws)[j]? = some (some v) by rw [hw3]; exact e)).1
            rw [List.append_nil] at I5'
            exact I5'
          · obtain ⟨m', hm, w'⟩ := hN _ H5 nx
            obtain ⟨t1, t2⟩ := pinOf (pp := go :: p') I6
            refine seg_again rfl (ih m' hm n (i + 1) _ H5 s6 s6 (by omega) w' ⟨⟨us ++ [v], p', rv.append (.cons ry .nil), pc', fun q hq => (I6.pin q (List.mem_append_right _ (List.mem_cons_of_mem _ (List.mem_append_left _ hq)))).1, ?_⟩, t1, t2⟩)
            rw [List.append_nil]
            exact I6.unpinned (pins := go :: p')
end

section
variable {Y : Cx} {A : Around} {σ : L2.St} {ws : List Nat} {go : Addr × Obj} {Pc : List Value → List (Addr × Obj) → Prop} {Ky : List V → V → Hp → (List V → Hp → Prop) → Prop} {Z : List V → Hp → Prop}
  {elt tg iter : Expr} {ifs : List Expr} {scope : Scope} {pos : Pos} {J : It} {fp : List Addr} {it : Addr} {tn : Nat → Heap → Prop} {R : GenEnd} {Pr : Protocol}
/-- from its start to its loop -/
theorem gx_first {n : Nat} {s₀ s : Shared} (T : Turn Y.prog Y.w Y.K tg J fp it tn) (st : tn 0 s.heap)
    (h : Seg (model Y.prog Y.w) A R Pr n s₀ (.compLoop (.GeneratorExp elt [⟨tg, iter, ifs, 0⟩] scope pos) 0 (.ref it) .none Y.env) ((model Y.prog Y.w).den (.compLoop (.GeneratorExp elt [⟨tg, iter, ifs, 0⟩] scope pos) 0 (.ref it) .none Y.env)) [] s) :
    Seg (model Y.prog Y.w) A R Pr n s₀ (.compStart (.GeneratorExp elt [⟨tg, iter, ifs, 0⟩] scope pos) 0 (.ref it) .none Y.env) ((model Y.prog Y.w).den (.compStart (.GeneratorExp elt [⟨tg, iter, ifs, 0⟩] scope pos) 0 (.ref it) .none Y.env)) [] s := by
  show Seg _ A _ _ _ s₀ _ ((compStart (.GeneratorExp elt [⟨tg, iter, ifs, 0⟩] scope pos) 0 (.ref it) .none Y.env).onRaise (leaving Y.env)) [] s
  unfold compStart
  rw [Sem.onRaise_eq_wrap]
  show Seg _ A _ _ _ s₀ _ ((ask >>= _).wrap _ _ _ _) [] s
  refine seg_bind_wrap (wpAny_askSetting ?_)
  split
  · exact seg_again rfl h
  · refine seg_bind_wrap (wpAny_rule ?_)
    refine seg_bind_wrap (wpAny_standAt ?_)
    exact seg_bind_wrap (T.self _ 0 s _ _ st (seg_again rfl h))
end

/-! ### how it is made -/
/-- a generator that has not begun, at a -/
structure GMd (X : Cx) (pins : List (Addr × Obj)) (σ : L2.St) (ws : List Nat) (tg elt iter : Expr) (ifs : List Expr) (scope : Scope) (pos : Pos) (H2 : Hp) (J : It) (s4 : Shared) (ce : Env) (fp : List Addr) (it : Addr) (tn : Nat → Heap → Prop) (go : Addr × Obj) (gi : Nat) (s5 : Shared) : Prop where
  inv : Inv X pins σ H2 s4
  trn : Turn X.prog X.w X.K tg J fp it tn
  tn0 : tn 0 s5.heap
  fok : ∀ b ∈ fp, FpOk X pins H2 b
  out : go.1 ∉ fp
  gen : ∃ nm qn, go.2.cls = .type "generator" ∧ go.2.data = .fields #[.int gi 0, nm, qn] ∧ go.2.slots = #[]
  at_ : s5.gens[gi]? = some (.fresh (.compStart (.GeneratorExp elt [⟨tg, iter, ifs, 0⟩] scope pos) 0 (.ref it) .none ce))
  sc : ce.scope = scope
  own : ce.frame = some ce.locals
  run : ∀ A : Around, A.frames = some (ce :: X.stack) → A.handled = none → Inv (gcx X A s4 H2 ce fp) [go] (wipe σ ws) H2 s5
  lt : ∀ b ∈ fp, b < s5.heap.objs.size
  big : go.1 < s5.heap.objs.size
section
variable {X : Cx} {pins : List (Addr × Obj)} {σ : L2.St} {H : Hp} {s : Shared}
/-- the code of a generator expression -/
theorem gx_code {c P : Addr} {scope : Scope} {gpos : Pos} {qn : Str} {Q' : Value → Shared → Prop} {E : Value → Shared → Prop} (TB : GxR.TabB X.base X.mg c P) (hcode : X.env.code = .ref c) (I : Inv X pins σ H s) (hP : GxR.TabG H P)
    (hQ : ∀ code H' s', GxR.Tabbed P H H' → Inv X pins σ H' s' → (∀ b o, b ≠ P → s.heap.get? b = some o → s'.heap.get? b = some o) → s.heap.objs.size ≤ s'.heap.objs.size → Q' code s') : wpAny (model X.prog X.w) X.A (genexprCode X.env gpos qn scope) Q' E s := by
  obtain ⟨ps, hP, ht⟩ := hP
  have hg : s.heap.get? P = some { cls := .none, data := .fields ps } := I.hok P _ hP
  have cd : PySem.W.CodeHd s.heap c P := TB.code.keeps fun b u e => I.bk b u e
  cases hf : codeAmong gpos ps.toList with
  | some cv =>
    refine wpAny_genexprCode_hit hcode (cd.code hg ht) hf (hQ cv H s ⟨⟨ps, hP, ht⟩, fun _ _ => rfl⟩ I (fun _ _ _ e => e) (Nat.le_refl _))
  | none =>
    refine wpAny_genexprCodeX hcode (cd.code hg ht) (cd.tab hg) hf fun c' h' tk hx hge hlt hco _ htab _ => ?_
    obtain ⟨_, _, _, _, _, _, _, _, _, _, _, _, _, _, _, _, _, _, _, htr, _⟩ := hco
    have J := GxR.inv_tab (more := #[rawInt gpos.line, rawInt gpos.col, .ref c']) (h' := h') (g' := s.gens) (d' := s.drawn) (t' := tk) I hP (fun b o hb e => hx b o hb e) htab.2 I.bare
    exact hQ (.ref c') _ _ ⟨⟨_, upd_same, htr⟩, fun b hb => upd_ne hb⟩ J (fun b o hb e => hx b o hb e) (Nat.le_trans hge (Nat.le_of_lt hlt))
theorem gx_blt {c P : Addr} {Q' : Addr → Shared → Prop} {E : Value → Shared → Prop} {A : Around} (TB : GxR.TabB X.base X.mg c P) (I : Inv X pins σ H s) (h : Q' builtinsNs s) : wpAny (model X.prog X.w) A (builtinsFor X.env.globals X.env.builtins) Q' E s := by
  obtain ⟨bm, ob, e1, e2, e3, e4, e5, e6, e7, e8⟩ := TB.bm
  refine wpAny_builtinsFor (m := X.mg) (by rw [I.ok.glob]; exact I.mod.glob.keeps I.bk) e1 e2 (I.bk _ _ e5) e6 e7 e8 h
theorem gx_make {c P : Addr} {elt tg iter : Expr} {ifs : List Expr} {scope : Scope} {own : List (Str × Nat)} {gpos : Pos} {wi : TI} {R : It → Hp → Prop} {Q' : Value → Shared → Prop} (hr : X.A.depth < recursionLimit) (TB : GxR.TabB X.base X.mg c P) (hcode : X.env.code = .ref c)
    (hi : PI X tg iter wi) (ok : BlkOk X.N X.env.scope scope own) (nd : X.N.Nodup) (nc : ∀ y ∈ scope.names, y.2 ≠ .cell) (h0 : scope.names.lookup (".0" : Str) = some NameKind.local) (co : scope.isCoroutine = false) (hs : ∀ v, genFold iter X.env v = pure v)
    (I : Inv X pins σ H s) (h : wi σ H fun J H1 => GxR.TabG H1 P ∧ R J H1)
    (hQ : ∀ J H1 H2 s4 ce fp it tn go gi s5, R J H1 → GxR.Tabbed P H1 H2 → GMd X pins σ (own.map (·.2)) tg elt iter ifs scope gpos H2 J s4 ce fp it tn go gi s5 → Q' (.ref go.1) s5) :
    wpAny (model X.prog X.w) X.A (eval (.GeneratorExp elt [⟨tg, iter, ifs, 0⟩] scope gpos) X.env) Q' X.xe s := by
  have fr0 : ∀ y ∈ scope.names, y.2 = .free → ∃ c, X.env.cells.lookup y.1 = some c := fun y hy e => by
    rcases ok.free y hy e with k | k
    · exact I.ok.has _ (.inl k)
    · exact I.ok.has _ (.inr k)
  refine wpAny_GeneratorExp_make co (closure_ok fr0) nc h0 ok.kind hr ?_ hs
  refine thn (hi.run pins s σ H _ I h) fun xv s1 hx => thn hx fun itv s2 h2 => ?_
  obtain ⟨it, fp, tn, J, H1, e, I2, T, st2, f2, tg1, q⟩ := h2
  subst e
  refine ⟨I2.nolimit, ?_⟩
  refine gx_code TB hcode I2 tg1 fun code H3 s3 tb3 I3 k3 z3 => ?_
  refine gx_blt TB I3 fun h' hn hb => ?_
  have ltP : ∀ b ∈ fp, b ≠ P := fun b hb z => by
    obtain ⟨ps, e, _⟩ := tg1
    rw [← z, (f2 b hb).1] at e
    cases e
  have ob2 : ∀ b ∈ fp, ∃ o, s2.heap.get? b = some o := fun b hb => let ⟨o, e, _⟩ := T.obj _ _ st2 b hb; ⟨o, e⟩
  have k35 : ∀ b o, s3.heap.get? b = some o → h'.get? b = some o := fun b o e => hb.extBut b o (Nat.ne_of_lt (Heap.lt_size e)) (Heap.get?_push_of_some _ e)
  have sz : h'.objs.size = s3.heap.objs.size + 1 := by rw [hb.1, Heap.size_push]
  have f3 : ∀ b ∈ fp, FpOk X pins H3 b ∧ b < s3.heap.objs.size := fun b hb2 => by
    obtain ⟨o, eo⟩ := ob2 b hb2
    refine ⟨⟨?_, (f2 b hb2).2⟩, Heap.lt_size (k3 b o (ltP b hb2) eo)⟩
    rw [tb3.2 b (ltP b hb2)]
    exact (f2 b hb2).1
  generalize hgo : ({ cls := .type "generator", data := .fields #[.int s3.gens.size 0, .str "<genexpr>" (s3.toks + 1), .str (X.env.qual ++ "<genexpr>") (s3.toks + 1 + 1)] } : Obj) = go
  have hgo1 : go.cls = .type "generator" ∧ go.data = .fields #[.int s3.gens.size 0, .str "<genexpr>" (s3.toks + 1), .str (X.env.qual ++ "<genexpr>") (s3.toks + 1 + 1)] ∧ go.slots = #[] := by rw [← hgo]; exact ⟨rfl, rfl, rfl⟩
  have hgp : (h'.push go).get? h'.objs.size = some go := by
    rw [← hgo]
    exact Heap.get?_push_size _ rfl
  refine hQ J H1 H3 s3 _ fp it tn (h'.objs.size, go) s3.gens.size _ q tb3 ⟨I3, T, ?_, fun b hb2 => (f3 b hb2).1, ?_, ⟨_, _, hgo1⟩, Array.getElem?_push_size .., rfl, rfl, fun A hA hAh => ?_, ?_, ?_⟩
  · exact T.keep _ _ _ st2 fun b hb2 o e => Heap.get?_push_of_some _ (k35 b o (k3 b o (ltP b hb2) e))
  · intro z
    have q : (h'.objs.size : Nat) < s3.heap.objs.size := (f3 _ z).2
    omega
  · have G := gx_start (A := A) (code := code) (h5 := h'.push go) (tk := s3.toks + 1 + 1 + 1) (gs := s3.gens.push (.fresh (.compStart (.GeneratorExp elt [⟨tg, iter, ifs, 0⟩] scope gpos) 0 (.ref it) .none (genEnv scope (cloFrom X.env.cells scope.names []) s3.heap.objs.size code builtinsNs X.env)))) I3 ok nc nd f3 hA hAh (hn.push _) (fun b o e => Heap.get?_push_of_some _ (k35 b o e)) (I3.bare.push rfl)
    refine G.pins_of fun p hp => ?_
    rw [List.mem_singleton.mp hp]
    refine ⟨hgp, ?_, ?_, ?_, fun v z => ?_⟩
    · exact I3.hok.fresh (by omega)
    · show h'.objs.size ≠ s3.heap.objs.size
      omega
    · intro z
      obtain ⟨_, o, ho, _⟩ := I3.stack.mem z
      have := Heap.lt_size ho
      have z2 : h'.objs.size < s3.heap.objs.size := this
      omega
    · have z : go.data = .cell v := z
      rw [hgo1.2.1] at z
      cases z
  · intro b hb2
    have q := (f3 b hb2).2
    show b < (h'.push go).objs.size
    rw [Heap.size_push]
    exact Nat.lt_trans q (by omega)
  · show h'.objs.size < (h'.push go).objs.size
    rw [Heap.size_push]
    exact Nat.lt_succ_self _
end

/-! ### any, all -/
section
variable {X : Cx} {AY : Around} {s4 : Shared} {H4 : Hp} {ce : Env} {fp : List Addr} {σw : L2.St} {go : Addr × Obj} {gi : Nat}
/-- it sleeps, or has not begun -/
def Sleeps (X : Cx) (Y : Cx) (A : Around) (σw : L2.St) (go : Addr × Obj) (gi : Nat) (Pc : List Value → List (Addr × Obj) → Prop) (Ky : List V → V → Hp → (List V → Hp → Prop) → Prop) (Z : List V → Hp → Prop) (n : Nat) (s : Shared) : Prop :=
  ∃ gs, s.gens[gi]? = some gs ∧ gs.Goes (model X.prog X.w) A (fun _ s0 r s => r = .ok .next ∧ GxP Y σw go Pc Z s0 s) (GxY Y σw go Pc Ky) n (.send .none) (s.setGen gi .running)
theorem isGen_of {go : Addr × Obj} {gi : Nat} {s : Shared} (hgen : ∃ nm qn, go.2.cls = .type "generator" ∧ go.2.data = .fields #[.int gi 0, nm, qn] ∧ go.2.slots = #[]) (h : s.heap.get? go.1 = some go.2) : s.heap.IsGen go.1 gi := by
  obtain ⟨nm, qn, h1, h2, h3⟩ := hgen
  exact ⟨go.2, nm, qn, h, h1, h2, h3⟩
/-- the next item, or the end -/
theorem eat_next {A0 : Around} {Pc : List Value → List (Addr × Obj) → Prop} {Ky : List V → V → Hp → (List V → Hp → Prop) → Prop} {Z : List V → Hp → Prop} {n : Nat} {s : Shared} {Q : Option Value → Shared → Prop} {E : Value → Shared → Prop}
    (hh : A0.handled = none) (hroom : A0.depth < recursionLimit) (hgen : ∃ nm qn, go.2.cls = .type "generator" ∧ go.2.data = .fields #[.int gi 0, nm, qn] ∧ go.2.slots = #[]) (hl : s.heap.NoLimit) (ho : s.heap.get? go.1 = some go.2)
    (S : Sleeps X (gcx X AY s4 H4 ce fp) A0.in1 σw go gi Pc Ky Z n s)
    (hY : ∀ v s1 (vs : List V) (us : List Value) (p ip : List (Addr × Obj)) (y : V) (H : Hp) (N : List V → Hp → Prop), RelV y v → Vals vs us → Pc us p → (∀ q ∈ p, s.heap.get? q.1 = some q.2) → (∀ q ∈ ip, q.1 ∈ fp) → Inv (gcx X AY s4 H4 ce fp) (go :: (p ++ ip)) σw H s1 → Ky vs y H N →
      (∀ s' p', Pc (us ++ [v]) p' → Inv (gcx X AY s4 H4 ce fp) (go :: (p' ++ ip)) σw H s' → s'.gens[gi]? = s1.gens[gi]? → N (vs ++ [y]) H → ∃ m, m < n ∧ Sleeps X (gcx X AY s4 H4 ce fp) A0.in1 σw go gi Pc Ky Z m s') → Q (some v) s1)
    (hP : ∀ s1, GxP (gcx X AY s4 H4 ce fp) σw go Pc Z s s1 → Q none s1) : wpAny (model X.prog X.w) A0 (pyNext (.ref go.1)) Q E s := by
  obtain ⟨gs, hgs, hgo⟩ := S
  have hgl : gi < s.gens.size := (Array.getElem?_eq_some_iff.mp hgs).1
  refine wpAny_gsz (n := gi + 1) hgl ?_
  refine wpAny_pyNext_genexpQ (P := fun _ s0 s1 => GxP (gcx X AY s4 H4 ce fp) σw go Pc Z s0 s1) hh hl hroom (isGen_of hgen ho) hgs hgo (fun v s1 gs' hb hv => ?_) (fun s1 hp h' hk => ?_)
  · intro hsz
    obtain ⟨vs, us, p, ip, y, H, N, ry, rv, pc, pk, hip, I, ky, more⟩ := hv
    have hl1 : gi < s1.gens.size := by
      have q : (s1.setGen gi gs').gens.size = s1.gens.size := setGen_size _ _ _
      omega
    have I' : Inv (gcx X AY s4 H4 ce fp) (go :: (p ++ ip)) σw H (s1.setGen gi gs') := inv_gens I (allBare_setGen I.bare hb)
    refine hY v _ vs us p ip y H N ry rv pc pk hip I' ky fun s' p' pc' J eg nx => ?_
    have eg2 : s'.gens[gi]? = some gs' := eg.trans (setGen_at hl1)
    have K := more (s'.setGen gi .running) p' pc' (inv_gens J (allBare_setGen J.bare rfl)) nx
    cases n with
    | zero => exact False.elim K
    | succ n => exact ⟨n, Nat.lt_succ_self n, gs', eg2, K⟩
  · intro _
    obtain ⟨ip, vs, H, ⟨us, p, rv, pc, pk, I⟩, hz⟩ := hp
    have I1 : Inv (gcx X AY s4 H4 ce fp) (go :: (p ++ ip)) σw H (s1.setGen gi .finished) := inv_gens I (allBare_setGen I.bare rfl)
    refine hP _ ⟨ip, vs, H, ⟨us, p, rv, pc, pk, ?_⟩, hz⟩
    exact I1.kept (t' := s1.toks) hk
end

section
variable {X : Cx} {AY : Around} {s4 : Shared} {H4 : Hp} {ce : Env} {fp : List Addr} {σw : L2.St} {go : Addr × Obj} {gi : Nat}
/-- any (st: true), all (st: false): what an item wants -/
def KyQ (st : Bool) (Qs : Hp → Prop) (vs : List V) (y : V) (H : Hp) (N : List V → Hp → Prop) : Prop := ∃ t, y = .bl t ∧ if t = st then Qs H else N (vs ++ [y]) H
/-- what surrounds the eater -/
structure EatOk (X : Cx) (AY : Around) (ce : Env) (go : Addr × Obj) (gi : Nat) (A0 : Around) : Prop where
  hh : A0.handled = none
  room : A0.depth < recursionLimit
  gen : ∃ nm qn, go.2.cls = .type "generator" ∧ go.2.data = .fields #[.int gi 0, nm, qn] ∧ go.2.slots = #[]
theorem all_loop {A0 : Around} {Qs Qe : Hp → Prop} {Rr : Result → Shared → Prop} (O : EatOk X AY ce go gi A0) (hfin : ∀ (b : Bool) H' s', Inv (gcx X AY s4 H4 ce fp) [] σw H' s' → (if b = true then Qe H' else Qs H') → Rr (.ok (.ret (.bool b))) s') :
    ∀ (n : Nat) (s : Shared), (∃ pp σ H, Inv (gcx X AY s4 H4 ce fp) (go :: pp) σ H s) → Sleeps X (gcx X AY s4 H4 ce fp) A0.in1.in1 σw go gi (fun _ p => p = []) (KyQ false Qs) (fun _ H => Qe H) n s →
      codeAny (model X.prog X.w) A0 (.builtin "all.loop" ⟨[.ref go.1], []⟩) Rr s := by
  intro n
  induction n using Nat.strongRecOn with
  | ind n ih =>
    intro s ⟨pp, σ, H, I⟩ S
    refine codeAny_builtin F.entry_all_loop ?_
    rw [Around.under_plainId F.plain_all_loop _]
    show wpAny _ A0.in1 (pyNext (.ref go.1) >>= _) _ _ s
    refine wpAny_bind (eat_next (A0 := A0.in1) O.hh O.room O.gen I.nolimit (I.pin go (List.mem_append_right _ List.mem_cons_self)).1 S (fun v s1 vs us p ip y H1 N ry rv pc _ _ I1 ky more => ?_) fun s1 hp => ?_)
    · obtain ⟨t, rfl, ky⟩ := ky
      obtain rfl : v = Value.bool t := ry
      refine wpAny_bind (wpAny_holding (wpAny_truthy_bool ?_))
      refine wpAny_bind (wpAny_letGo ?_)
      cases t with
      | true =>
        obtain ⟨m, hm, S'⟩ := more s1 [] rfl (by subst pc; exact I1) rfl ky
        exact wpAny_pure ⟨plainId_quiet F.plain_all_loop _, ih m hm s1 ⟨_, _, _, I1⟩ S'⟩
      | false =>
        simp only [Bool.false_eq_true, if_false]
        refine wpAny_bind (wpAny_rule (wpAny_pure ?_))
        exact hfin false H1 s1 (I1.pins_of fun _ z => by simp at z) ky
    · obtain ⟨ip, vs, H1, ⟨us, p, rv, pc, _, I1⟩, hz⟩ := hp
      refine wpAny_bind (wpAny_rule (wpAny_pure ?_))
      exact hfin true H1 s1 (I1.pins_of fun _ z => by simp at z) hz
theorem any_loop {A0 : Around} {Qs Qe : Hp → Prop} {Rr : Result → Shared → Prop} (O : EatOk X AY ce go gi A0) (hfin : ∀ (b : Bool) H' s', Inv (gcx X AY s4 H4 ce fp) [] σw H' s' → (if b = true then Qs H' else Qe H') → Rr (.ok (.ret (.bool b))) s') :
    ∀ (n : Nat) (s : Shared), (∃ pp σ H, Inv (gcx X AY s4 H4 ce fp) (go :: pp) σ H s) → Sleeps X (gcx X AY s4 H4 ce fp) A0.in1.in1 σw go gi (fun _ p => p = []) (KyQ true Qs) (fun _ H => Qe H) n s →
      codeAny (model X.prog X.w) A0 (.builtin "any.loop" ⟨[.ref go.1], []⟩) Rr s := by
  intro n
  induction n using Nat.strongRecOn with
  | ind n ih =>
    intro s ⟨pp, σ, H, I⟩ S
    refine codeAny_builtin F.entry_any_loop ?_
    rw [Around.under_plainId F.plain_any_loop _]
    show wpAny _ A0.in1 (pyNext (.ref go.1) >>= _) _ _ s
    refine wpAny_bind (eat_next (A0 := A0.in1) O.hh O.room O.gen I.nolimit (I.pin go (List.mem_append_right _ List.mem_cons_self)).1 S (fun v s1 vs us p ip y H1 N ry rv pc _ _ I1 ky more => ?_) fun s1 hp => ?_)
    · obtain ⟨t, rfl, ky⟩ := ky
      obtain rfl : v = Value.bool t := ry
      refine wpAny_bind (wpAny_holding (wpAny_truthy_bool ?_))
      refine wpAny_bind (wpAny_letGo ?_)
      cases t with
      | false =>
        obtain ⟨m, hm, S'⟩ := more s1 [] rfl (by subst pc; exact I1) rfl ky
        exact wpAny_pure ⟨plainId_quiet F.plain_any_loop _, ih m hm s1 ⟨_, _, _, I1⟩ S'⟩
      | true =>
        simp only [if_true]
        refine wpAny_bind (wpAny_rule (wpAny_pure ?_))
        exact hfin true H1 s1 (I1.pins_of fun _ z => by simp at z) ky
    · obtain ⟨ip, vs, H1, ⟨us, p, rv, pc, _, I1⟩, hz⟩ := hp
      refine wpAny_bind (wpAny_rule (wpAny_pure ?_))
      exact hfin false H1 s1 (I1.pins_of fun _ z => by simp at z) hz
end

/-! ### the generator, ready to be eaten -/
/-- as near as the eater's own calls -/
structure Near (X : Cx) (A : Around) : Prop where
  fr : A.frames = X.A.frames
  hd : A.handled = X.A.handled
  dp : A.depth = X.A.depth
  un : A.units ≤ X.A.units + 5
/-- where the expression's own code runs -/
structure GxAt (X : Cx) (scope : Scope) (A : Around) (ce : Env) : Prop where
  sc : ce.scope = scope
  own : ce.frame = some ce.locals
  hd : A.handled = X.A.handled
  dp : A.depth ≤ X.A.depth + 1
  un : A.units ≤ X.A.units + 8
def genCode (tg elt iter : Expr) (ifs : List Expr) (scope : Scope) (pos : Pos) (it : Addr) (ce : Env) : Code := .compLoop (.GeneratorExp elt [⟨tg, iter, ifs, 0⟩] scope pos) 0 (.ref it) .none ce
structure GReady (X : Cx) (pins : List (Addr × Obj)) (σ : L2.St) (ws : List Nat) (Ky : List V → V → Hp → (List V → Hp → Prop) → Prop) (Z : List V → Hp → Prop) (H2 : Hp) (s4 : Shared) (ce : Env) (fp : List Addr) (C : Code) (go : Addr × Obj) (gi : Nat) (s5 : Shared) : Prop where
  gen : ∃ nm qn, go.2.cls = .type "generator" ∧ go.2.data = .fields #[.int gi 0, nm, qn] ∧ go.2.slots = #[]
  big : go.1 < s5.heap.objs.size
  lt : ∀ b ∈ fp, b < s5.heap.objs.size
  start : ∀ A : Around, Near X A → Inv (gcx X (A.over C []) s4 H2 ce fp) [go] (wipe σ ws) H2 s5
  wake : ∀ A : Around, Near X A → ∀ Pc : List Value → List (Addr × Obj) → Prop, (∀ us p, Pc us p → ∀ q ∈ p, q.1 ∉ fp) → ∀ p0 s6, Pc [] p0 → s6.gens[gi]? = s5.gens[gi]? → Inv (gcx X (A.over C []) s4 H2 ce fp) (go :: p0) (wipe σ ws) H2 s6 →
    (∀ b ∈ fp, ∀ o, s5.heap.get? b = some o → s6.heap.get? b = some o) → ∃ n, Sleeps X (gcx X (A.over C []) s4 H2 ce fp) A (wipe σ ws) go gi Pc Ky Z n s6
  back : ∀ (A : Around) pp H' s', Inv (gcx X A s4 H2 ce fp) pp (wipe σ ws) H' s' → Inv X pins σ H' s'
section
variable {X : Cx} {pins : List (Addr × Obj)} {σ : L2.St} {H : Hp} {s : Shared}
theorem pushOne {e : Env} {A : Around} {c : Code} {l : List Env} (hc : c.envs = [e]) (h : A.frames = some l) : (A.over c []).frames = some (e :: l) := by
  show pushEnvs c.envs (pushEnvs (envsOf []) A.frames) = _
  rw [hc, h]
  rfl
/-- what a turn of it wants -/
def GTurn (J : It) (g : TG) (tt : TT) (te : TE) (σ : L2.St) (ws : List Nat) (Ky : List V → V → Hp → (List V → Hp → Prop) → Prop) (Z : List V → Hp → Prop) (W : Nat → Nat → List V → Hp → Prop) : Prop :=
  ∀ i m vs H, W i m vs H → (J.stop i H ∧ Z vs H) ∨ (J.go i H ∧ ∃ Nx : List V → Hp → Prop, (∀ vs' H', Nx vs' H' → ∃ m', m' < m ∧ W (i + 1) m' vs' H') ∧ ∀ x H', J.yld i H x H' → g x (wipe σ ws) H' fun σ2 H2 => wipe σ2 ws = wipe σ ws ∧ tt σ2 H2 fun b H3 =>
      if b = true then te σ2 H3 fun y H4 => Ky vs y H4 Nx else Nx vs H3)
theorem gx_ready {c P : Addr} {elt tg iter : Expr} {ifs : List Expr} {scope : Scope} {own : List (Str × Nat)} {gpos : Pos} {wi : TI} {g : TG} {tt : TT} {te : TE} {Ky : List V → V → Hp → (List V → Hp → Prop) → Prop} {Z : List V → Hp → Prop} {Q' : Value → Shared → Prop} (hc : X.calm = true) (hr : X.A.depth < recursionLimit)
    (TB : GxR.TabB X.base X.mg c P) (hcode : X.env.code = .ref c) (hi : PI X tg iter wi) (ok : BlkOk X.N X.env.scope scope own) (nd : X.N.Nodup) (nc : ∀ y ∈ scope.names, y.2 ≠ .cell) (h0 : scope.names.lookup (".0" : Str) = some NameKind.local) (co : scope.isCoroutine = false) (hs : ∀ v, genFold iter X.env v = pure v)
    (hg : ∀ A s4 H4 ce fp, GxAt X scope A ce → PG (gcx X A s4 H4 ce fp) tg g) (ht : ∀ A s4 H4 ce fp, GxAt X scope A ce → PTs (gcx X A s4 H4 ce fp) ifs tt) (he : ∀ A s4 H4 ce fp, GxAt X scope A ce → PE (gcx X A s4 H4 ce fp) elt te)
    (I : Inv X pins σ H s) (h : wi σ H fun J H1 => GxR.TabG H1 P ∧ ∀ H2, GxR.Tabbed P H1 H2 → ∃ W : Nat → Nat → List V → Hp → Prop, (∃ m, W 0 m [] H2) ∧ GTurn J g tt te σ (own.map (·.2)) Ky Z W)
    (hQ : ∀ H2 s4 ce fp C go gi s5, GReady X pins σ (own.map (·.2)) Ky Z H2 s4 ce fp C go gi s5 → Q' (.ref go.1) s5) :
    wpAny (model X.prog X.w) X.A (eval (.GeneratorExp elt [⟨tg, iter, ifs, 0⟩] scope gpos) X.env) Q' X.xe s := by
  refine gx_make (R := fun J H1 => ∀ H2, GxR.Tabbed P H1 H2 → ∃ W : Nat → Nat → List V → Hp → Prop, (∃ m, W 0 m [] H2) ∧ GTurn J g tt te σ (own.map (·.2)) Ky Z W) hr TB hcode hi ok nd nc h0 co hs I h fun J H1 H2 s4 ce fp it tn go gi s5 hR tb M => ?_
  obtain ⟨W, ⟨m0, w0⟩, turn⟩ := hR H2 tb
  have fro : ∀ {A : Around}, Near X A → (A.over (genCode tg elt iter ifs scope gpos it ce) []).frames = some (ce :: X.stack) := fun {A} n => pushOne rfl (n.fr.trans M.inv.ok.frames)
  have hdo : ∀ {A : Around}, Near X A → (A.over (genCode tg elt iter ifs scope gpos it ce) []).handled = none := fun {A} n => n.hd.trans (M.inv.ok.hd hc)
  refine hQ H2 s4 ce fp (genCode tg elt iter ifs scope gpos it ce) go gi s5 ⟨M.gen, M.big, M.lt, fun A n => M.run _ (fro n) (hdo n), fun A n Pc hPc p0 s6 pc eg I6 kf => ?_, fun A pp H' s' I' => ?_⟩
  · have at_ : GxAt X scope (A.over (genCode tg elt iter ifs scope gpos it ce) []) ce := ⟨M.sc, M.own, n.hd, by
      show A.depth + 0 + 1 ≤ _
      rw [n.dp]; exact Nat.le_refl _, by
      show A.units + 0 + 3 ≤ _
      have := n.un
      omega⟩
    refine ⟨m0 + 1, _, eg.trans M.at_, rfl, ?_⟩
    have tn6 : tn 0 s6.heap := M.trn.keep _ _ _ M.tn0 kf
    refine gx_first (Y := gcx X (A.over (genCode tg elt iter ifs scope gpos it ce) []) s4 H2 ce fp) M.trn tn6 ?_
    refine gx_loop (Y := gcx X (A.over (genCode tg elt iter ifs scope gpos it ce) []) s4 H2 ce fp) (W := W) hc rfl rfl rfl (by rw [show (gcx X (A.over (genCode tg elt iter ifs scope gpos it ce) []) s4 H2 ce fp).env.scope = scope from M.sc]; exact co) M.trn M.out hPc (hg _ s4 H2 ce fp at_) (ht _ s4 H2 ce fp at_) (he _ s4 H2 ce fp at_) rfl turn m0 (m0 + 1) 0 [] H2 _ _ (Nat.lt_succ_self _) w0 ?_
    refine ⟨⟨[], p0, .nil, pc, fun q hq => (I6.pin q (List.mem_append_right _ (List.mem_cons_of_mem _ hq))).1, ?_⟩, tn6, fun b hb => (M.fok b hb).1⟩
    rw [List.append_nil]
    exact inv_gens I6 (allBare_setGen I6.bare rfl)
  · exact M.inv.call' (ch := fp) I'.os I'.base I'.hok I'.bare fun b hb => ⟨(M.fok b hb).2.2.2.1, (M.fok b hb).2.1, (M.fok b hb).2.2.2.2.1, (M.fok b hb).2.2.2.2.2⟩
/-- all(g), any(g) -/
theorem eat_all {ws : List Nat} {H2 : Hp} {s4 s5 : Shared} {ce : Env} {fp : List Addr} {C : Code} {go : Addr × Obj} {gi : Nat} {Q : VK} {E : Value → Shared → Prop} (hc : X.A.handled = none) (hr : X.A.depth < recursionLimit)
    (G : GReady X pins σ ws (KyQ false fun H => Q (.bl false) H) (fun _ H => Q (.bl true) H) H2 s4 ce fp C go gi s5) : wpAny (model X.prog X.w) X.A (call (.builtin "all") [.ref go.1]) (EP X pins σ Q) E s5 := by
  have near : Near X X.A.in1.in1 := ⟨rfl, rfl, rfl, by show X.A.units + 1 + 1 ≤ _; omega⟩
  have I5 := G.start _ near
  have ho : s5.heap.get? go.1 = some go.2 := (I5.pin go (List.mem_append_right _ List.mem_cons_self)).1
  obtain ⟨n, S⟩ := G.wake _ near (fun _ p => p = []) (fun _ p e q hq => by rw [e] at hq; cases hq) [] s5 rfl rfl I5 (fun _ _ _ e => e)
  refine call_function_tree F.kind_all F.plain_all F.entry_all (F.args_all1 _) ?_
  unfold Builtin.«all»
  refine wpAny_bind (m := oneArg "all" _) (wpAny_pure ?_)
  refine wpAny_bind (wpAny_pyIter_gen (isGen_of G.gen ho) ?_)
  refine wpAny_pure ⟨plainId_quiet F.plain_all_loop _, ?_⟩
  refine all_loop (X := X) (AY := X.A.in1.in1.over C []) (ce := ce) ⟨hc, hr, G.gen⟩ (fun b H' s' I' hq => ?_) n s5 ⟨_, _, _, I5⟩ S
  refine ⟨.bl b, H', G.back _ _ _ _ I', rfl, ?_⟩
  cases b <;> exact hq
theorem eat_any {ws : List Nat} {H2 : Hp} {s4 s5 : Shared} {ce : Env} {fp : List Addr} {C : Code} {go : Addr × Obj} {gi : Nat} {Q : VK} {E : Value → Shared → Prop} (hc : X.A.handled = none) (hr : X.A.depth < recursionLimit)
    (G : GReady X pins σ ws (KyQ true fun H => Q (.bl true) H) (fun _ H => Q (.bl false) H) H2 s4 ce fp C go gi s5) : wpAny (model X.prog X.w) X.A (call (.builtin "any") [.ref go.1]) (EP X pins σ Q) E s5 := by
  have near : Near X X.A.in1.in1 := ⟨rfl, rfl, rfl, by show X.A.units + 1 + 1 ≤ _; omega⟩
  have I5 := G.start _ near
  have ho : s5.heap.get? go.1 = some go.2 := (I5.pin go (List.mem_append_right _ List.mem_cons_self)).1
  obtain ⟨n, S⟩ := G.wake _ near (fun _ p => p = []) (fun _ p e q hq => by rw [e] at hq; cases hq) [] s5 rfl rfl I5 (fun _ _ _ e => e)
  refine call_function_tree F.kind_any F.plain_any F.entry_any (F.args_any1 _) ?_
  unfold Builtin.«any»
  refine wpAny_bind (m := oneArg "any" _) (wpAny_pure ?_)
  refine wpAny_bind (wpAny_pyIter_gen (isGen_of G.gen ho) ?_)
  refine wpAny_pure ⟨plainId_quiet F.plain_any_loop _, ?_⟩
  refine any_loop (X := X) (AY := X.A.in1.in1.over C []) (ce := ce) ⟨hc, hr, G.gen⟩ (fun b H' s' I' hq => ?_) n s5 ⟨_, _, _, I5⟩ S
  refine ⟨.bl b, H', G.back _ _ _ _ I', rfl, ?_⟩
  cases b <;> exact hq
end

/-! ### tuple(g), list(g) -/
section
variable {Y : Cx} {go : Addr × Obj} {ip : List (Addr × Obj)} {σ : L2.St} {H : Hp} {s : Shared} {S : Addr} {o1 o2 : Obj} {h' : Heap}
/-- the eater's own thing changes -/
theorem inv_grow (I : Inv Y (go :: ([(S, o1)] ++ ip)) σ H s) (hpn : Y.pn = []) (young : Y.s_0.heap.objs.size ≤ S) (n1 : go.1 ≠ S) (n2 : ∀ q ∈ ip, q.1 ≠ S) (nc : ∀ v, o2.data ≠ .cell v) (k : ∀ b o, b ≠ S → s.heap.get? b = some o → h'.get? b = some o) (e : h'.get? S = some o2) :
    Inv Y (go :: ([(S, o2)] ++ ip)) σ H { s with heap := h' } := by
  obtain ⟨p1, p2, p3, p4, p5⟩ := I.pin (S, o1) (List.mem_append_right _ (by simp))
  have I0 : Inv Y (go :: ip) σ H s := I.pins_of fun p hp => I.pin p (List.mem_append_right _ (by
    rcases List.mem_cons.mp hp with z | z
    · rw [z]; exact List.mem_cons_self
    · exact List.mem_cons_of_mem _ (List.mem_append_right _ z)))
  have I1 : Inv Y (go :: ip) σ H { s with heap := h' } := by
    refine I0.turned (t' := s.toks) (it := S) k p2 p3 (.inr young) (fun x c ec z => ?_) fun p hp => ?_
    · obtain ⟨v, o, ho, hd⟩ := I.cell x c ec
      rw [z, p1] at ho
      cases ho
      exact p5 v hd
    · rw [hpn, List.nil_append] at hp
      rcases List.mem_cons.mp hp with z | z
      · rw [z]; exact n1
      · exact n2 p z
  refine I1.pins_of fun p hp => ?_
  rcases List.mem_cons.mp hp with z | z
  · rw [z]; exact I1.pin go (List.mem_append_right _ List.mem_cons_self)
  · rcases List.mem_append.mp z with z | z
    · rw [List.mem_singleton.mp z]
      exact ⟨e, p2, p3, p4, nc⟩
    · exact I1.pin p (List.mem_append_right _ (List.mem_cons_of_mem _ z))
end
section
variable {X : Cx} {AY : Around} {s4 : Shared} {H4 : Hp} {ce : Env} {fp : List Addr} {σw : L2.St} {go : Addr × Obj} {gi : Nat}
def KyL (vs : List V) (y : V) (H : Hp) (N : List V → Hp → Prop) : Prop := vs.length < sizeLine ∧ N (vs ++ [y]) H
/-- what is out stands in the list at S -/
def InList (S : Addr) (us : List Value) (p : List (Addr × Obj)) : Prop := ∃ c, p = [(S, lstObj us.toArray c)]
theorem ext_loop {A0 : Around} {S : Addr} {res : Value} {Z : List V → Hp → Prop} {Rr : Result → Shared → Prop} (O : EatOk X AY ce go gi A0) (young : s4.heap.objs.size ≤ S) (n1 : go.1 ≠ S) (nfp : S ∉ fp)
    (hfin : ∀ vs us c pp H' s', Vals vs us → Inv (gcx X AY s4 H4 ce fp) (go :: ([(S, lstObj us.toArray c)] ++ pp)) σw H' s' → Z vs H' → Rr (.ok (.ret res)) s') :
    ∀ (n : Nat) (s : Shared), (∃ pp σ H, Inv (gcx X AY s4 H4 ce fp) (go :: pp) σ H s) → Sleeps X (gcx X AY s4 H4 ce fp) A0.in1.in1 σw go gi (InList S) KyL Z n s →
      codeAny (model X.prog X.w) A0 (.builtin "list.extend.loop" ⟨[.ref S, .ref go.1, res], []⟩) Rr s := by
  intro n
  induction n using Nat.strongRecOn with
  | ind n ih =>
    intro s ⟨pp, σ, H, I⟩ Sl
    refine codeAny_builtin F.entry_extend_loop ?_
    rw [Around.under_plainId F.plain_extend_loop _]
    show wpAny _ A0.in1 (pyNext (.ref go.1) >>= _) _ _ s
    refine wpAny_bind (eat_next (A0 := A0.in1) O.hh O.room O.gen I.nolimit (I.pin go (List.mem_append_right _ List.mem_cons_self)).1 Sl (fun v s1 vs us p ip y H1 N ry rv pc _ hip I1 ky more => ?_) fun s1 hp => ?_)
    · obtain ⟨hlt, ky⟩ := ky
      obtain ⟨c, rfl⟩ := pc
      have hS := (I1.pin (S, lstObj us.toArray c) (List.mem_append_right _ (by simp))).1
      have hl := rv.length
      show wpAny _ A0.in1 (updateSeq S (·.push v) >>= _) _ _ s1
      refine wpAny_bind ?_
      refine wpAny_updateSeq hS rfl (wpAny_pure ⟨plainId_quiet F.plain_extend_loop _, ?_⟩) (by simp only [List.size_toArray]; omega) (by simp only [Array.size_push, List.size_toArray]; omega)
      have other : ∀ b o, b ≠ S → s1.heap.get? b = some o → (s1.heap.update S (Obj.mapSeq (·.push v))).get? b = some o := fun b o hb e => (Heap.get?_update_other _ _ (Ne.symm hb)).trans e
      have self := Heap.get?_update_self (Obj.mapSeq (·.push v)) hS rfl
      obtain ⟨c2, self⟩ : ∃ c2, (s1.heap.update S (Obj.mapSeq (·.push v))).get? S = some (lstObj (us ++ [v]).toArray c2) := ⟨_, by
        rw [self]
        simp [Obj.mapSeq, lstObj]
        rfl⟩
      have I2 := inv_grow (o2 := lstObj (us ++ [v]).toArray c2) I1 rfl young n1 (fun q hq z => nfp (z ▸ hip q hq)) (fun v z => by cases z) other self
      obtain ⟨m, hm, S'⟩ := more { s1 with heap := s1.heap.update S (Obj.mapSeq (·.push v)) } [(S, lstObj (us ++ [v]).toArray c2)] ⟨c2, rfl⟩ I2 rfl ky
      exact ih m hm _ ⟨_, _, _, I2⟩ S'
    · obtain ⟨ip, vs, H1, ⟨us, p, rv, ⟨c, rfl⟩, _, I1⟩, hz⟩ := hp
      exact wpAny_pure (hfin vs us c ip H1 s1 rv I1 hz)
end

/-- it is collected -/
theorem eat_collect {X : Cx} {pins : List (Addr × Obj)} {σ : L2.St} {ws : List Nat} {Z : List V → Hp → Prop} {H2 : Hp} {s4 s5 : Shared} {ce : Env} {fp : List Addr} {C : Code} {go : Addr × Obj} {gi : Nat} {A1 : Around} {Q : List Value → Shared → Prop} {E : Value → Shared → Prop}
    (hc : X.A.handled = none) (hr : X.A.depth < recursionLimit) (near : Near X A1.in1.in1) (n0 : Near X A1) (G : GReady X pins σ ws KyL Z H2 s4 ce fp C go gi s5)
    (hQ : ∀ vs us H' s', Vals vs us → Inv (gcx X (A1.in1.in1.over C []) s4 H2 ce fp) [] (wipe σ ws) H' s' → Z vs H' → Q us s') : wpAny (model X.prog X.w) A1 (collect (.ref go.1)) Q E s5 := by
  have I5 := G.start _ near
  have ho : s5.heap.get? go.1 = some go.2 := (I5.pin go (List.mem_append_right _ List.mem_cons_self)).1
  generalize hS : s5.heap.objs.size = S
  have nG : go.1 ≠ S := fun z => by
    have q := G.big
    rw [z, hS] at q
    exact Nat.lt_irrefl _ q
  have nfp : S ∉ fp := fun z => by
    have q := G.lt S z
    rw [hS] at q
    exact Nat.lt_irrefl _ q
  have gn : ∀ {h : Heap}, h.get? go.1 = some go.2 → h.IsGen go.1 gi := fun {h} e => by
    obtain ⟨nm, qn, e1, e2, e3⟩ := G.gen
    exact ⟨go.2, nm, qn, e, e1, e2, e3⟩
  unfold collect
  refine wpAny_bind (wpAny_runValue (codeAny_builtin F.entry_proto_collect ?_))
  rw [Around.under_plainId F.plain_proto_collect _]
  show wpAny _ A1.in1 (newList [] >>= fun l => again (.builtin "list.__iadd__" ⟨[l, .ref go.1], []⟩)) _ _ s5
  refine wpAny_bind (wpAny_newObj_type ?_)
  rw [hS]
  refine wpAny_pure ⟨plainId_quiet F.plain_list_iadd _, codeAny_builtin F.entry_list_iadd ?_⟩
  rw [Around.under_plainId F.plain_list_iadd _]
  show wpAny _ A1.in1 (Builtin.List.listExtendWith (.ref S) (.ref go.1) (.ref S)) _ _ _
  generalize hh1 : (s5.heap.push { cls := .type "list", data := .seq ([] : List Value).toArray } : Heap) = h1
  have k1 : ∀ b o, s5.heap.get? b = some o → h1.get? b = some o := fun b o e => by rw [← hh1]; exact Heap.get?_push_of_some _ e
  have e1 : h1.get? S = some { cls := .type "list", data := .seq ([] : List Value).toArray } := by
    rw [← hh1, ← hS]
    exact Heap.get?_push_size _ rfl
  unfold Builtin.List.listExtendWith
  refine wpAny_bind (wpAny_typeOf (Heap.IsGen.typeIs (s := { s5 with heap := h1 }) (gn (k1 _ _ ho))) ?_)
  have t1 : Builtin.List.listSameRef (.ref S) (.ref go.1) = false := by simp [Builtin.List.listSameRef, Ne.symm nG]
  have t2 : (Value.type "generator" == Value.type "list") = false := by decide
  have t3 : (Value.type "generator" == Value.type "tuple") = false := by decide
  simp only [t1, t2, t3, Bool.or_false, Bool.false_eq_true, if_false]
  refine wpAny_bind (wpAny_pyIter_gen (s := { s5 with heap := h1 }) (gn (k1 _ _ ho)) ?_)
  refine wpAny_bind (wpAny_holding ?_)
  unfold Builtin.List.listLengthHint
  refine wpAny_bind (wpAny_specialOf (Heap.IsGen.typeIs (s := { s5 with heap := h1 }) (gn (k1 _ _ ho))) F.gen_no_len ?_)
  show wpAny _ A1.in1 (specialOf (Value.ref go.1) (Str.ofString "__length_hint__") >>= _) _ _ _
  refine wpAny_bind (wpAny_specialOf (Heap.IsGen.typeIs (s := { s5 with heap := h1 }) (gn (k1 _ _ ho))) F.gen_no_hint ?_)
  refine wpAny_pure ?_
  show wpAny _ A1.in1 (rule "list.extend.makes-room" >>= fun _ => Builtin.List.listTouch (.ref S) >>= fun _ => again (.builtin "list.extend.loop" ⟨[.ref S, .ref go.1, .ref S], []⟩)) _ _ _
  refine wpAny_bind (wpAny_rule ?_)
  refine wpAny_bind ?_
  show wpAny _ A1.in1 (updateSeq S (·.push .none) >>= fun _ => updateSeq S (·.pop)) _ _ _
  refine wpAny_bind (wpAny_updateSeq e1 rfl ?_)
  have e2 := Heap.get?_update_self (Obj.mapSeq (·.push Value.none)) e1 rfl
  refine wpAny_updateSeq e2 rfl ?_
  have e3 := Heap.get?_update_self (Obj.mapSeq (·.pop)) e2 rfl
  generalize hh3 : (Heap.update (Heap.update h1 S (Obj.mapSeq (·.push Value.none))) S (Obj.mapSeq (·.pop))) = h3 at e3 ⊢
  have k3 : ∀ b o, s5.heap.get? b = some o → h3.get? b = some o := fun b o e => by
    have nb : b ≠ S := fun z => by
      have := Heap.lt_size e
      rw [z, hS] at this
      exact Nat.lt_irrefl _ this
    rw [← hh3]
    exact (Heap.get?_update_other _ _ (Ne.symm nb)).trans ((Heap.get?_update_other _ _ (Ne.symm nb)).trans (k1 b o e))
  obtain ⟨c3, e3⟩ : ∃ c3, h3.get? S = some (lstObj ([] : List Value).toArray c3) := ⟨_, by
    rw [e3]
    simp [Obj.mapSeq, lstObj]
    rfl⟩
  have I6 : Inv (gcx X (A1.in1.in1.over C []) s4 H2 ce fp) [go] (wipe σ ws) H2 { s5 with heap := h3 } := I5.kept (t' := s5.toks) k3
  have szS : s5.heap.objs.size ≤ S := Nat.le_of_eq hS
  have F5 := I5.fpOk (b := S) szS (I5.hok.fresh szS)
  have I7 : Inv (gcx X (A1.in1.in1.over C []) s4 H2 ce fp) (go :: [(S, lstObj ([] : List Value).toArray c3)]) (wipe σ ws) H2 { s5 with heap := h3 } := I6.pins_of fun p hp => by
    rcases List.mem_cons.mp hp with z | z
    · rw [z]; exact I6.pin go (List.mem_append_right _ List.mem_cons_self)
    · rw [List.mem_singleton.mp z]
      exact ⟨e3, F5.1, F5.2.1, F5.2.2.1, fun v z => by cases z⟩
  obtain ⟨n, Sl⟩ := G.wake _ near (InList S) (fun us p ⟨c, e⟩ q hq => by rw [e] at hq; rw [List.mem_singleton.mp hq]; exact nfp) [(S, lstObj ([] : List Value).toArray c3)] { s5 with heap := h3 } ⟨c3, rfl⟩ rfl I7 (fun b _ o e => k3 b o e)
  have young : s4.heap.objs.size ≤ S := by
    rcases F5.2.2.2.1 with z | z
    · exact absurd z nfp
    · exact z
  refine wpAny_pure ⟨plainId_quiet F.plain_extend_loop _, ?_⟩
  refine ext_loop (X := X) (AY := A1.in1.in1.over C []) (ce := ce) ⟨n0.hd.trans hc, by rw [n0.dp]; exact hr, G.gen⟩ young nG nfp (fun vs us c pp H' s' rv I' hz => ?_) n _ ⟨_, _, _, I7⟩ Sl
  have eS := (I'.pin (S, lstObj us.toArray c) (List.mem_append_right _ (by simp))).1
  show wpAny _ A1 (load S >>= _) _ _ s'
  refine wpAny_bind (wpAny_load eS ?_)
  refine wpAny_pure ?_
  have z := hQ vs us H' s' rv (I'.pins_of fun _ z => by simp at z) hz
  simpa [lstObj] using z
/-- tuple(g) -/
theorem eat_tuple {X : Cx} {pins : List (Addr × Obj)} {σ : L2.St} {ws : List Nat} {H2 : Hp} {s4 s5 : Shared} {ce : Env} {fp : List Addr} {C : Code} {go : Addr × Obj} {gi : Nat} {Q : VK} {E : Value → Shared → Prop} (hc : X.A.handled = none) (hr : X.A.depth < recursionLimit)
    (G : GReady X pins σ ws KyL (fun vs H => vs.length ≤ sizeLine ∧ ∀ p, H p = none → Q (.ref p) (upd H p (.tup vs))) H2 s4 ce fp C go gi s5) : wpAny (model X.prog X.w) X.A (call (.type "tuple") [.ref go.1]) (EP X pins σ Q) E s5 := by
  have near : Near X X.A.in1.in1.in1.in1 := ⟨rfl, rfl, rfl, by show X.A.units + 1 + 1 + 1 + 1 ≤ _; omega⟩
  have near2 : Near X X.A.in1.in1 := ⟨rfl, rfl, rfl, by show X.A.units + 1 + 1 ≤ _; omega⟩
  have I5 := G.start _ near
  have ho : s5.heap.get? go.1 = some go.2 := (I5.pin go (List.mem_append_right _ List.mem_cons_self)).1
  have gn : s5.heap.IsGen go.1 gi := isGen_of G.gen ho
  refine callType_codes (Q₁ := fun obj s1 => s1.TypeIs obj "tuple" ∧ EP X pins σ Q obj s1) F.called_tuple (F.typeCall_tuple_1 _) F.entry_object_init ?_ fun obj s1 h1 => ?_
  · refine codeAny_of_tree ?_
    show wpAny _ X.A.in1.in1 (do checkBuiltinCall "tuple.__new__" ⟨[.type "tuple", .ref go.1], []⟩; again (.builtin "tuple.__new__" ⟨[.type "tuple", .ref go.1], []⟩)) _ _ s5
    refine wpAny_bind (wpAny_of_eq (F.newCall_tuple_1 _) ?_)
    refine wpAny_pure ⟨plainId_quiet F.plain_tuple_new _, ?_⟩
    refine codeAny_builtin F.entry_tuple_new ?_
    rw [Around.under_plainId F.plain_tuple_new _]
    have f1 := sub_tuple_self
    have f2 := init_tuple_lookup
    have f3 := madeHere_tuple
    have f4 : s5.TypeIs (.ref go.1) "generator" := gn.typeIs
    wp_walk using wpAny_typeOf f4, eat_collect (A1 := X.A.in1.in1) hc hr near near2 G
    intro vs us H' s' rv I' hz
    show wpAny _ _ (Builtin.Tuple.tupleExact us.toArray >>= fun v => ret v) _ _ _
    unfold Builtin.Tuple.tupleExact
    have el := rv.length
    refine wpAny_bind (wpAny_newObj_type ?_ (by show us.toArray.size ≤ sizeLine; rw [List.size_toArray]; omega))
    have J := G.back _ _ _ _ I'
    have np : H' s'.heap.objs.size = none := J.hok.fresh (Nat.le_refl _)
    refine wpAny_pure ⟨⟨_, Heap.get?_push_size _ rfl, rfl⟩, .ref s'.heap.objs.size, upd H' s'.heap.objs.size (.tup vs), ?_, rfl, hz.2 _ np⟩
    exact J.laid (t' := s'.toks) (fun b u e => Heap.get?_push_of_some _ e) (Nat.le_refl _) ⟨hz.1, us, rv, ⟨_, Heap.get?_push_size _ rfl, rfl, _, rfl⟩⟩
  · exact ⟨h1.1, F.args_object_init_2 obj _, object_init_meets F.called_tuple.init.lookup F.called_tuple.made (by decide) X.prog X.w X.A.in1 _ s1 ⟨h1.1, rfl, h1.2⟩⟩

/-! ### the call -/
def tGen (KyOf : VK → List V → V → Hp → (List V → Hp → Prop) → Prop) (ZOf : VK → List V → Hp → Prop) (P : Addr) (wi : TI) (g : TG) (tt : TT) (te : TE) (ws : List Nat) : TE := fun σ H Q => wi σ H fun J H1 => GxR.TabG H1 P ∧ ∀ H2, GxR.Tabbed P H1 H2 →
  ∃ W : Nat → Nat → List V → Hp → Prop, (∃ m, W 0 m [] H2) ∧ GTurn J g tt te σ ws (KyOf Q) (ZOf Q) W
/-- f eats a generator -/
def Eats (X : Cx) (f : Value) (ws : List Nat) (KyOf : VK → List V → V → Hp → (List V → Hp → Prop) → Prop) (ZOf : VK → List V → Hp → Prop) : Prop :=
  ∀ (pins : List (Addr × Obj)) (σ : L2.St) (H2 : Hp) (s4 : Shared) (ce : Env) (fp : List Addr) (C : Code) (go : Addr × Obj) (gi : Nat) (s5 : Shared) (Q : VK), GReady X pins σ ws (KyOf Q) (ZOf Q) H2 s4 ce fp C go gi s5 → wpAny (model X.prog X.w) X.A (call f [.ref go.1]) (EP X pins σ Q) X.xe s5
section
variable {X : Cx} {KyOf : VK → List V → V → Hp → (List V → Hp → Prop) → Prop} {ZOf : VK → List V → Hp → Prop}
theorem pe_gen {f : Value} {nm : Str} {p pos : Pos} {c P : Addr} {elt tg iter : Expr} {ifs : List Expr} {scope : Scope} {own : List (Str × Nat)} {gpos : Pos} {wi : TI} {g : TG} {tt : TT} {te : TE} (hf : (∃ id, f = .builtin id) ∨ ∃ T, f = .type T) (eat : Eats X f (own.map (·.2)) KyOf ZOf)
    (hgl : Gl X nm) (hmg : X.mg nm = none) (hv : bootBuiltins nm = some f) (hnm : nm ≠ "__name__") (hdb : (nm == ("__debug__" : Str)) = false) (hc : X.calm = true) (hr : X.A.depth < recursionLimit)
    (TB : GxR.TabB X.base X.mg c P) (hcode : X.env.code = .ref c) (hi : PI X tg iter wi) (ok : BlkOk X.N X.env.scope scope own) (nd : X.N.Nodup) (nc : ∀ y ∈ scope.names, y.2 ≠ .cell) (h0 : scope.names.lookup (".0" : Str) = some NameKind.local) (co : scope.isCoroutine = false) (hs : ∀ v, genFold iter X.env v = pure v)
    (hg : ∀ A s4 H4 ce fp, GxAt X scope A ce → PG (gcx X A s4 H4 ce fp) tg g) (ht : ∀ A s4 H4 ce fp, GxAt X scope A ce → PTs (gcx X A s4 H4 ce fp) ifs tt) (he : ∀ A s4 H4 ce fp, GxAt X scope A ce → PE (gcx X A s4 H4 ce fp) elt te) :
    PE X (.Call (.Name nm p) [.GeneratorExp elt [⟨tg, iter, ifs, 0⟩] scope gpos] [] pos) (tGen KyOf ZOf P wi g tt te (own.map (·.2))) := by
  refine ⟨fun pins s σ H Q I h => ?_⟩
  have st : starEach [.GeneratorExp elt [⟨tg, iter, ifs, 0⟩] scope gpos] X.env = (false, eval (.GeneratorExp elt [⟨tg, iter, ifs, 0⟩] scope gpos) X.env) :: starEach [] X.env := rfl
  refine wpAny_Call_Name_kw (ld_blt I hgl hmg hv ?_ hnm hdb)
  have go : wpAny (model X.prog X.w) X.A (spliced (backTo pos (starEach [.GeneratorExp elt [⟨tg, iter, ifs, 0⟩] scope gpos] X.env))) (fun us s' => wpAny (model X.prog X.w) X.A (call f us) (EP X pins σ Q) X.xe s') X.xe s := by
    rw [st]
    show wpAny _ _ (spliced ((false, eval (.GeneratorExp elt [⟨tg, iter, ifs, 0⟩] scope gpos) X.env) :: backTo pos (starEach [] X.env))) _ _ s
    refine Calls.spliced_cons (gx_ready (Ky := KyOf Q) (Z := ZOf Q) hc hr TB hcode hi ok nd nc h0 co hs hg ht he I h fun H2 s4 ce fp C go gi s5 G => ?_)
    refine Calls.spliced_nil ?_
    exact eat pins σ H2 s4 ce fp C go gi s5 Q G
  rcases hf with ⟨id, rfl⟩ | ⟨T, rfl⟩
  · exact PyProof.Rows.callWith_builtin1 go st (by rfl)
  · exact PyProof.Rows.callWith_type1 go st (by rfl)
end
end Gx
set_option Elab.async false
set_option linter.all false
set_option maxRecDepth 100000
set_option maxHeartbeats 4000000
namespace Ev
theorem maxL_app : ∀ (a : Int) (l : List Int) (i : Int), maxL a (l ++ [i]) = if i > maxL a l then i else maxL a l
  | _, [], _ => rfl
  | _, _ :: l, i => maxL_app _ l i
theorem minL_app : ∀ (a : Int) (l : List Int) (i : Int), minL a (l ++ [i]) = if i < minL a l then i else minL a l
  | _, [], _ => rfl
  | _, _ :: l, i => minL_app _ l i
end Ev
namespace Gx
open PySem PySem.Spec PyProof.Rows L2
/-! ### max(g) -/
theorem rc_gt {prog : Program} {w : World} {A : Around} {s : Shared} {E Q : Value → Shared → Prop} {a c : Int} {t u : Tok} (h : Q (.bool (decide (a > c))) s) : wpAny (model prog w) A (richCompare .Gt (.int a t) (.int c u)) Q E s :=
  (PyProof.Rows.gt_int h : wpAny (model prog w) A (compareOp .Gt (.int a t) (.int c u)) Q E s)
theorem rc_lt {prog : Program} {w : World} {A : Around} {s : Shared} {E Q : Value → Shared → Prop} {a c : Int} {t u : Tok} (h : Q (.bool (decide (a < c))) s) : wpAny (model prog w) A (richCompare .Lt (.int a t) (.int c u)) Q E s :=
  (PyProof.Rows.lt_int h : wpAny (model prog w) A (compareOp .Lt (.int a t) (.int c u)) Q E s)
/-- an item: an int -/
def KyM (vs : List V) (y : V) (H : Hp) (N : List V → Hp → Prop) : Prop := ∃ i, y = .int i ∧ N (vs ++ [y]) H
/-- the list at S holds nothing, or the best so far, twice -/
def InBest (bst : Int → List Int → Int) (S : Addr) (us : List Value) (p : List (Addr × Obj)) : Prop := (us = [] ∧ ∃ c, p = [(S, lstObj #[] c)]) ∨
  ∃ (a : Int) (ns : List Int) (t : Tok) (c : Nat), Vals ((a :: ns).map V.int) us ∧ p = [(S, lstObj #[.int (bst a ns) t, .int (bst a ns) t] c)]
theorem inBest_nfp {bst : Int → List Int → Int} {S : Addr} {fp : List Addr} (h : S ∉ fp) : ∀ us p, InBest bst S us p → ∀ q ∈ p, q.1 ∉ fp := fun us p b q hq => by
  rcases b with ⟨_, c, e⟩ | ⟨a, ns, t, c, _, e⟩ <;> (rw [e] at hq; rw [List.mem_singleton.mp hq]; exact h)
section
variable {X : Cx} {AY : Around} {s4 : Shared} {H4 : Hp} {ce : Env} {fp : List Addr} {σw : L2.St} {go : Addr × Obj} {gi : Nat}
theorem max_loop {A0 : Around} {S : Addr} {Z : List V → Hp → Prop} {Rr : Result → Shared → Prop} (O : EatOk X AY ce go gi A0) (young : s4.heap.objs.size ≤ S) (n1 : go.1 ≠ S) (nfp : S ∉ fp)
    (hfin : ∀ vs us a ns t H' s', Vals vs us → Vals ((a :: ns).map V.int) us → Inv (gcx X AY s4 H4 ce fp) [] σw H' s' → Z vs H' → Rr (.ok (.ret (.int (Ev.maxL a ns) t))) s') (hnil : ∀ H', Z [] H' → False) :
    ∀ (n : Nat) (s : Shared), (∃ us p pp σ H, InBest Ev.maxL S us p ∧ Inv (gcx X AY s4 H4 ce fp) (go :: (p ++ pp)) σ H s) → Sleeps X (gcx X AY s4 H4 ce fp) A0.in1.in1 σw go gi (InBest Ev.maxL S) KyM Z n s →
      codeAny (model X.prog X.w) A0 (.builtin "max.loop" ⟨[.ref go.1, .none, .ref S], []⟩) Rr s := by
  have hname : (toString "max" ++ toString ".loop" : String) = "max.loop" := by decide
  intro n
  induction n using Nat.strongRecOn with
  | ind n ih =>
    intro s ⟨us0, p0, pp, σ, H, hb0, I⟩ Sl
    have hgo := (I.pin go (List.mem_append_right _ List.mem_cons_self)).1
    have other : ∀ (f : Array Value → Array Value) (s1 : Shared) b o, b ≠ S → s1.heap.get? b = some o → (s1.heap.update S (Obj.mapSeq f)).get? b = some o := fun f s1 b o hb e => (Heap.get?_update_other _ _ (Ne.symm hb)).trans e
    refine codeAny_builtin F.entry_max_loop ?_
    rw [Around.under_plainId F.plain_max_loop _]
    show wpAny _ A0.in1 (seqItems? (.ref S) >>= _) _ _ s
    rcases hb0 with ⟨-, c, rfl⟩ | ⟨a, ns, t, c, hv0, rfl⟩
    · have hS := (I.pin (S, lstObj #[] c) (List.mem_append_right _ (by simp))).1
      refine wpAny_bind (wpAny_seqItems hS rfl ?_)
      show wpAny _ A0.in1 (tryCatch (pyNext (.ref go.1)) _ >>= _) _ _ s
      refine wpAny_bind (wpAny_tryCatch (eat_next (A0 := A0.in1) O.hh O.room O.gen I.nolimit hgo Sl (fun v s1 vs us p ip y H1 N ry rv pc pk hip I1 ky more => ?_) fun s1 hp => ?_))
      · obtain ⟨i, rfl, ky⟩ := ky
        obtain ⟨t, rfl⟩ := ry
        rcases pc with ⟨rfl, c1, rfl⟩ | ⟨a, ns, t1, c1, hv, rfl⟩
        · have hS1 := (I1.pin (S, lstObj #[] c1) (List.mem_append_right _ (by simp))).1
          show wpAny _ A0.in1 (updateSeq S (fun _ => #[.int i t, .int i t]) >>= _) _ _ s1
          refine wpAny_bind (wpAny_updateSeq hS1 rfl ?_)
          have self := Heap.get?_update_self (Obj.mapSeq fun _ => #[Value.int i t, .int i t]) hS1 rfl
          obtain ⟨c2, self⟩ : ∃ c2, (s1.heap.update S (Obj.mapSeq fun _ => #[Value.int i t, .int i t])).get? S = some (lstObj #[.int i t, .int i t] c2) := ⟨_, self⟩
          have I2 := inv_grow (o2 := lstObj #[.int i t, .int i t] c2) I1 rfl young n1 (fun q hq z => nfp (z ▸ hip q hq)) (fun v z => by cases z) (other _ s1) self
          have hb : InBest Ev.maxL S ([] ++ [.int i t]) [(S, lstObj #[.int i t, .int i t] c2)] := .inr ⟨i, [], t, c2, .cons ⟨t, rfl⟩ .nil, rfl⟩
          obtain ⟨m, hm, S'⟩ := more { s1 with heap := s1.heap.update S (Obj.mapSeq fun _ => #[Value.int i t, .int i t]) } _ hb I2 rfl ky
          rw [hname]
          exact wpAny_pure ⟨plainId_quiet F.plain_max_loop _, ih m hm _ ⟨_, _, _, _, _, hb, I2⟩ S'⟩
        · have z := pk _ (List.mem_singleton.mpr rfl)
          rw [hS] at z
          cases z
      · obtain ⟨ip, vs, H1, ⟨us, p, rv, pc, pk, I1⟩, hz⟩ := hp
        rcases pc with ⟨rfl, c1, rfl⟩ | ⟨a, ns, t1, c1, hv, rfl⟩
        · cases rv
          exact (hnil _ hz).elim
        · have z := pk _ (List.mem_singleton.mpr rfl)
          rw [hS] at z
          cases z
    · have hS := (I.pin (S, lstObj #[.int (Ev.maxL a ns) t, .int (Ev.maxL a ns) t] c) (List.mem_append_right _ (by simp))).1
      refine wpAny_bind (wpAny_seqItems hS rfl ?_)
      show wpAny _ A0.in1 (tryCatch (pyNext (.ref go.1)) _ >>= _) _ _ s
      refine wpAny_bind (wpAny_tryCatch (eat_next (A0 := A0.in1) O.hh O.room O.gen I.nolimit hgo Sl (fun v s1 vs us p ip y H1 N ry rv pc pk hip I1 ky more => ?_) fun s1 hp => ?_))
      · obtain ⟨i, rfl, ky⟩ := ky
        obtain ⟨u, rfl⟩ := ry
        rcases pc with ⟨rfl, c1, rfl⟩ | ⟨a1, ns1, t1, c1, hv, rfl⟩
        · have z := pk _ (List.mem_singleton.mpr rfl)
          rw [hS] at z
          cases z
        · have z := pk _ (List.mem_singleton.mpr rfl)
          rw [hS] at z
          obtain ⟨e1, e2⟩ : Ev.maxL a ns = Ev.maxL a1 ns1 ∧ t = t1 := by
            have z2 : #[Value.int (Ev.maxL a ns) t, .int (Ev.maxL a ns) t] = #[Value.int (Ev.maxL a1 ns1) t1, .int (Ev.maxL a1 ns1) t1] := (Data.seq.inj (congrArg Obj.data (Option.some.inj z))).1
            simp at z2
            exact z2
          subst e2
          rw [e1]
          have hS1 := (I1.pin (S, lstObj #[.int (Ev.maxL a1 ns1) t, .int (Ev.maxL a1 ns1) t] c1) (List.mem_append_right _ (by simp))).1
          have hvn : Vals ((a1 :: (ns1 ++ [i])).map V.int) (us ++ [.int i u]) := by
            have q := hv.append (show Vals [V.int i] [Value.int i u] from .cons ⟨u, rfl⟩ .nil)
            simpa using q
          show wpAny _ A0.in1 (tryCatch (holding [.int i u, .int i u] (richCompare .Gt (.int i u) (.int (Ev.maxL a1 ns1) t) >>= _)) _ >>= _) _ _ s1
          refine wpAny_bind (wpAny_tryCatch (wpAny_holding (wpAny_bind (rc_gt ?_))))
          refine wpAny_bind (wpAny_holding (wpAny_truthy_bool ?_))
          refine wpAny_bind (wpAny_letGo (wpAny_pure ?_))
          by_cases hg : i > Ev.maxL a1 ns1
          · rw [decide_eq_true hg]
            simp only [if_true]
            refine wpAny_bind (wpAny_updateSeq hS1 rfl (wpAny_bind (wpAny_letGo ?_)))
            have self := Heap.get?_update_self (Obj.mapSeq fun _ => #[Value.int i u, .int i u]) hS1 rfl
            obtain ⟨c2, self⟩ : ∃ c2, (s1.heap.update S (Obj.mapSeq fun _ => #[Value.int i u, .int i u])).get? S = some (lstObj #[.int i u, .int i u] c2) := ⟨_, self⟩
            have I2 := inv_grow (o2 := lstObj #[.int i u, .int i u] c2) I1 rfl young n1 (fun q hq z => nfp (z ▸ hip q hq)) (fun v z => by cases z) (other _ s1) self
            have hb : InBest Ev.maxL S (us ++ [.int i u]) [(S, lstObj #[.int i u, .int i u] c2)] := .inr ⟨a1, ns1 ++ [i], u, c2, hvn, by rw [Ev.maxL_app, if_pos hg]⟩
            obtain ⟨m, hm, S'⟩ := more { s1 with heap := s1.heap.update S (Obj.mapSeq fun _ => #[Value.int i u, .int i u]) } _ hb I2 rfl ky
            rw [hname]
            exact wpAny_pure ⟨plainId_quiet F.plain_max_loop _, ih m hm _ ⟨_, _, _, _, _, hb, I2⟩ S'⟩
          · rw [decide_eq_false hg]
            simp only [Bool.false_eq_true, if_false]
            refine wpAny_bind (wpAny_letGo ?_)
            have hb : InBest Ev.maxL S (us ++ [.int i u]) [(S, lstObj #[.int (Ev.maxL a1 ns1) t, .int (Ev.maxL a1 ns1) t] c1)] := .inr ⟨a1, ns1 ++ [i], t, c1, hvn, by rw [Ev.maxL_app, if_neg hg]⟩
            obtain ⟨m, hm, S'⟩ := more s1 _ hb I1 rfl ky
            rw [hname]
            exact wpAny_pure ⟨plainId_quiet F.plain_max_loop _, ih m hm _ ⟨_, _, _, _, _, hb, I1⟩ S'⟩
      · obtain ⟨ip, vs, H1, ⟨us, p, rv, pc, pk, I1⟩, hz⟩ := hp
        rcases pc with ⟨rfl, c1, rfl⟩ | ⟨a1, ns1, t1, c1, hv, rfl⟩
        · have z := pk _ (List.mem_singleton.mpr rfl)
          rw [hS] at z
          cases z
        · have z := pk _ (List.mem_singleton.mpr rfl)
          rw [hS] at z
          obtain ⟨e1, e2⟩ : Ev.maxL a ns = Ev.maxL a1 ns1 ∧ t = t1 := by
            have z2 : #[Value.int (Ev.maxL a ns) t, .int (Ev.maxL a ns) t] = #[Value.int (Ev.maxL a1 ns1) t1, .int (Ev.maxL a1 ns1) t1] := (Data.seq.inj (congrArg Obj.data (Option.some.inj z))).1
            simp at z2
            exact z2
          subst e2
          rw [e1]
          have hS1 := (I1.pin (S, lstObj #[.int (Ev.maxL a1 ns1) t, .int (Ev.maxL a1 ns1) t] c1) (List.mem_append_right _ (by simp))).1
          show wpAny _ A0.in1 (updateSeq S (fun _ => #[]) >>= _) _ _ s1
          refine wpAny_bind (wpAny_updateSeq hS1 rfl (wpAny_bind (wpAny_letGo (wpAny_pure ?_))))
          have self := Heap.get?_update_self (Obj.mapSeq fun _ => #[]) hS1 rfl
          obtain ⟨c2, self⟩ : ∃ c2, (s1.heap.update S (Obj.mapSeq fun _ => #[])).get? S = some (lstObj #[] c2) := ⟨_, self⟩
          have I2 := inv_grow (o2 := lstObj #[] c2) (ip := []) (I1.pins_of fun q hq => I1.pin q (List.mem_append_right _ (by
            rcases List.mem_cons.mp hq with z | z
            · rw [z]; exact List.mem_cons_self
            · rw [List.append_nil] at z
              exact List.mem_cons_of_mem _ (List.mem_append_left _ z)))) rfl young n1 (fun q hq => by cases hq) (fun v z => by cases z) (other _ s1) self
          exact hfin vs us a1 ns1 t H1 _ rv hv (I2.pins_of fun _ z => by simp at z) hz
end
section
variable {X : Cx} {pins : List (Addr × Obj)} {σ : L2.St}
/-- max(g) -/
theorem eat_max {ws : List Nat} {H2 : Hp} {s4 s5 : Shared} {ce : Env} {fp : List Addr} {C : Code} {go : Addr × Obj} {gi : Nat} {Q : VK} {E : Value → Shared → Prop} (hc : X.A.handled = none) (hr : X.A.depth < recursionLimit)
    (G : GReady X pins σ ws KyM (fun vs H => ∃ a ns, vs = (a :: ns).map V.int ∧ Q (.int (Ev.maxL a ns)) H) H2 s4 ce fp C go gi s5) : wpAny (model X.prog X.w) X.A (call (.builtin "max") [.ref go.1]) (EP X pins σ Q) E s5 := by
  have hname : (toString "max" ++ toString ".loop" : String) = "max.loop" := by decide
  have near : Near X X.A.in1.in1 := ⟨rfl, rfl, rfl, by show X.A.units + 1 + 1 ≤ _; omega⟩
  have I5 := G.start _ near
  have ho : s5.heap.get? go.1 = some go.2 := (I5.pin go (List.mem_append_right _ List.mem_cons_self)).1
  generalize hS : s5.heap.objs.size = S
  have nG : go.1 ≠ S := fun z => by
    have q := G.big
    rw [z, hS] at q
    exact Nat.lt_irrefl _ q
  have nfp : S ∉ fp := fun z => by
    have q := G.lt S z
    rw [hS] at q
    exact Nat.lt_irrefl _ q
  refine call_function_tree F.kind_max F.plain_max F.entry_max (F.args_max1 _) ?_
  show wpAny _ X.A.in1 (Builtin.Builtins.bindParams "max" ["key", "default"] 0 ⟨[], []⟩ >>= _) _ _ s5
  refine wpAny_bind (wpAny_of_eq (show Builtin.Builtins.bindParams "max" ["key", "default"] 0 ⟨[], []⟩ = pure [none, none] from rfl) ?_)
  refine wpAny_bind (wpAny_pure ?_)
  refine wpAny_bind (wpAny_pyIter_gen (isGen_of G.gen ho) ?_)
  refine wpAny_bind (wpAny_newObj_type ?_)
  rw [hname, hS]
  have szS : s5.heap.objs.size ≤ S := Nat.le_of_eq hS
  have F5 := I5.fpOk (b := S) szS (I5.hok.fresh szS)
  have young : s4.heap.objs.size ≤ S := by
    rcases F5.2.2.2.1 with z | z
    · exact absurd z nfp
    · exact z
  generalize hh1 : (s5.heap.push { cls := .type "list", data := .seq #[] } : Heap) = h1
  have k1 : ∀ b o, s5.heap.get? b = some o → h1.get? b = some o := fun b o e => by rw [← hh1]; exact Heap.get?_push_of_some _ e
  obtain ⟨c1, e1⟩ : ∃ c1, h1.get? S = some (lstObj #[] c1) := ⟨_, by
    rw [← hh1, ← hS]
    exact Heap.get?_push_size _ rfl⟩
  have I6 : Inv (gcx X (X.A.in1.in1.over C []) s4 H2 ce fp) [go] (wipe σ ws) H2 { s5 with heap := h1 } := I5.kept (t' := s5.toks) k1
  have I7 : Inv (gcx X (X.A.in1.in1.over C []) s4 H2 ce fp) (go :: [(S, lstObj #[] c1)]) (wipe σ ws) H2 { s5 with heap := h1 } := I6.pins_of fun p hp => by
    rcases List.mem_cons.mp hp with z | z
    · rw [z]; exact I6.pin go (List.mem_append_right _ List.mem_cons_self)
    · rw [List.mem_singleton.mp z]
      exact ⟨e1, F5.1, F5.2.1, F5.2.2.1, fun v z => by cases z⟩
  have hb : InBest Ev.maxL S [] [(S, lstObj #[] c1)] := .inl ⟨rfl, c1, rfl⟩
  obtain ⟨n, Sl⟩ := G.wake _ near (InBest Ev.maxL S) (inBest_nfp nfp) _ { s5 with heap := h1 } hb rfl I7 (fun b _ o e => k1 b o e)
  refine wpAny_pure ⟨plainId_quiet F.plain_max_loop _, max_loop (X := X) (AY := X.A.in1.in1.over C []) (ce := ce) ⟨hc, hr, G.gen⟩ young nG nfp (fun vs us a ns t H' s' rv hv I' hz => ?_) (fun H' ⟨a, ns, z, _⟩ => by cases z) n _ ⟨[], _, [], _, _, hb, by rw [List.append_nil]; exact I7⟩ Sl⟩
  obtain ⟨a1, ns1, e, q⟩ := hz
  refine ⟨.int (Ev.maxL a ns), H', G.back _ _ _ _ I', ⟨t, rfl⟩, ?_⟩
  have key : ∀ (l1 l2 : List Int) (us : List Value), Vals (l1.map V.int) us → Vals (l2.map V.int) us → l1 = l2 := by
    intro l1
    induction l1 with
    | nil => intro l2 us r1 r2; cases r1; cases l2 with
      | nil => rfl
      | cons b l2 => cases r2
    | cons b l1 ih => intro l2 us r1 r2; cases r1 with
      | cons h1 r1 => cases l2 with
        | nil => cases r2
        | cons b2 l2 => cases r2 with
          | cons h2 r2 =>
            obtain ⟨u1, rfl⟩ := h1
            obtain ⟨u2, e⟩ := h2
            cases e
            rw [ih l2 _ r1 r2]
  subst e
  have := key _ _ _ rv hv
  cases this
  exact q
end
section
variable {X : Cx} {AY : Around} {s4 : Shared} {H4 : Hp} {ce : Env} {fp : List Addr} {σw : L2.St} {go : Addr × Obj} {gi : Nat}
theorem min_loop {A0 : Around} {S : Addr} {Z : List V → Hp → Prop} {Rr : Result → Shared → Prop} (O : EatOk X AY ce go gi A0) (young : s4.heap.objs.size ≤ S) (n1 : go.1 ≠ S) (nfp : S ∉ fp)
    (hfin : ∀ vs us a ns t H' s', Vals vs us → Vals ((a :: ns).map V.int) us → Inv (gcx X AY s4 H4 ce fp) [] σw H' s' → Z vs H' → Rr (.ok (.ret (.int (Ev.minL a ns) t))) s') (hnil : ∀ H', Z [] H' → False) :
    ∀ (n : Nat) (s : Shared), (∃ us p pp σ H, InBest Ev.minL S us p ∧ Inv (gcx X AY s4 H4 ce fp) (go :: (p ++ pp)) σ H s) → Sleeps X (gcx X AY s4 H4 ce fp) A0.in1.in1 σw go gi (InBest Ev.minL S) KyM Z n s →
      codeAny (model X.prog X.w) A0 (.builtin "min.loop" ⟨[.ref go.1, .none, .ref S], []⟩) Rr s := by
  have hname : (toString "min" ++ toString ".loop" : String) = "min.loop" := by decide
  intro n
  induction n using Nat.strongRecOn with
  | ind n ih =>
    intro s ⟨us0, p0, pp, σ, H, hb0, I⟩ Sl
    have hgo := (I.pin go (List.mem_append_right _ List.mem_cons_self)).1
    have other : ∀ (f : Array Value → Array Value) (s1 : Shared) b o, b ≠ S → s1.heap.get? b = some o → (s1.heap.update S (Obj.mapSeq f)).get? b = some o := fun f s1 b o hb e => (Heap.get?_update_other _ _ (Ne.symm hb)).trans e
    refine codeAny_builtin F.entry_min_loop ?_
    rw [Around.under_plainId F.plain_min_loop _]
    show wpAny _ A0.in1 (seqItems? (.ref S) >>= _) _ _ s
    rcases hb0 with ⟨-, c, rfl⟩ | ⟨a, ns, t, c, hv0, rfl⟩
    · have hS := (I.pin (S, lstObj #[] c) (List.mem_append_right _ (by simp))).1
      refine wpAny_bind (wpAny_seqItems hS rfl ?_)
      show wpAny _ A0.in1 (tryCatch (pyNext (.ref go.1)) _ >>= _) _ _ s
      refine wpAny_bind (wpAny_tryCatch (eat_next (A0 := A0.in1) O.hh O.room O.gen I.nolimit hgo Sl (fun v s1 vs us p ip y H1 N ry rv pc pk hip I1 ky more => ?_) fun s1 hp => ?_))
      · obtain ⟨i, rfl, ky⟩ := ky
        obtain ⟨t, rfl⟩ := ry
        rcases pc with ⟨rfl, c1, rfl⟩ | ⟨a, ns, t1, c1, hv, rfl⟩
        · have hS1 := (I1.pin (S, lstObj #[] c1) (List.mem_append_right _ (by simp))).1
          show wpAny _ A0.in1 (updateSeq S (fun _ => #[.int i t, .int i t]) >>= _) _ _ s1
          refine wpAny_bind (wpAny_updateSeq hS1 rfl ?_)
          have self := Heap.get?_update_self (Obj.mapSeq fun _ => #[Value.int i t, .int i t]) hS1 rfl
          obtain ⟨c2, self⟩ : ∃ c2, (s1.heap.update S (Obj.mapSeq fun _ => #[Value.int i t, .int i t])).get? S = some (lstObj #[.int i t, .int i t] c2) := ⟨_, self⟩
          have I2 := inv_grow (o2 := lstObj #[.int i t, .int i t] c2) I1 rfl young n1 (fun q hq z => nfp (z ▸ hip q hq)) (fun v z => by cases z) (other _ s1) self
          have hb : InBest Ev.minL S ([] ++ [.int i t]) [(S, lstObj #[.int i t, .int i t] c2)] := .inr ⟨i, [], t, c2, .cons ⟨t, rfl⟩ .nil, rfl⟩
          obtain ⟨m, hm, S'⟩ := more { s1 with heap := s1.heap.update S (Obj.mapSeq fun _ => #[Value.int i t, .int i t]) } _ hb I2 rfl ky
          rw [hname]
          exact wpAny_pure ⟨plainId_quiet F.plain_min_loop _, ih m hm _ ⟨_, _, _, _, _, hb, I2⟩ S'⟩
        · have z := pk _ (List.mem_singleton.mpr rfl)
          rw [hS] at z
          cases z
      · obtain ⟨ip, vs, H1, ⟨us, p, rv, pc, pk, I1⟩, hz⟩ := hp
        rcases pc with ⟨rfl, c1, rfl⟩ | ⟨a, ns, t1, c1, hv, rfl⟩
        · cases rv
          exact (hnil _ hz).elim
        · have z := pk _ (List.mem_singleton.mpr rfl)
          rw [hS] at z
          cases z
    · have hS := (I.pin (S, lstObj #[.int (Ev.minL a ns) t, .int (Ev.minL a ns) t] c) (List.mem_append_right _ (by simp))).1
      refine wpAny_bind (wpAny_seqItems hS rfl ?_)
      show wpAny _ A0.in1 (tryCatch (pyNext (.ref go.1)) _ >>= _) _ _ s
      refine wpAny_bind (wpAny_tryCatch (eat_next (A0 := A0.in1) O.hh O.room O.gen I.nolimit hgo Sl (fun v s1 vs us p ip y H1 N ry rv pc pk hip I1 ky more => ?_) fun s1 hp => ?_))
      · obtain ⟨i, rfl, ky⟩ := ky
        obtain ⟨u, rfl⟩ := ry
        rcases pc with ⟨rfl, c1, rfl⟩ | ⟨a1, ns1, t1, c1, hv, rfl⟩
        · have z := pk _ (List.mem_singleton.mpr rfl)
          rw [hS] at z
          cases z
        · have z := pk _ (List.mem_singleton.mpr rfl)
          rw [hS] at z
          obtain ⟨e1, e2⟩ : Ev.minL a ns = Ev.minL a1 ns1 ∧ t = t1 := by
            have z2 : #[Value.int (Ev.minL a ns) t, .int (Ev.minL a ns) t] = #[Value.int (Ev.minL a1 ns1) t1, .int (Ev.minL a1 ns1) t1] := (Data.seq.inj (congrArg Obj.data (Option.some.inj z))).1
            simp at z2
            exact z2
          subst e2
          rw [e1]
          have hS1 := (I1.pin (S, lstObj #[.int (Ev.minL a1 ns1) t, .int (Ev.minL a1 ns1) t] c1) (List.mem_append_right _ (by simp))).1
          have hvn : Vals ((a1 :: (ns1 ++ [i])).map V.int) (us ++ [.int i u]) := by
            have q := hv.append (show Vals [V.int i] [Value.int i u] from .cons ⟨u, rfl⟩ .nil)
            simpa using q
          show wpAny _ A0.in1 (tryCatch (holding [.int i u, .int i u] (richCompare .Lt (.int i u) (.int (Ev.minL a1 ns1) t) >>= _)) _ >>= _) _ _ s1
          refine wpAny_bind (wpAny_tryCatch (wpAny_holding (wpAny_bind (rc_lt ?_))))
          refine wpAny_bind (wpAny_holding (wpAny_truthy_bool ?_))
          refine wpAny_bind (wpAny_letGo (wpAny_pure ?_))
          by_cases hg : i < Ev.minL a1 ns1
          · rw [decide_eq_true hg]
            simp only [if_true]
            refine wpAny_bind (wpAny_updateSeq hS1 rfl (wpAny_bind (wpAny_letGo ?_)))
            have self := Heap.get?_update_self (Obj.mapSeq fun _ => #[Value.int i u, .int i u]) hS1 rfl
            obtain ⟨c2, self⟩ : ∃ c2, (s1.heap.update S (Obj.mapSeq fun _ => #[Value.int i u, .int i u])).get? S = some (lstObj #[.int i u, .int i u] c2) := ⟨_, self⟩
            have I2 := inv_grow (o2 := lstObj #[.int i u, .int i u] c2) I1 rfl young n1 (fun q hq z => nfp (z ▸ hip q hq)) (fun v z => by cases z) (other _ s1) self
            have hb : InBest Ev.minL S (us ++ [.int i u]) [(S, lstObj #[.int i u, .int i u] c2)] := .inr ⟨a1, ns1 ++ [i], u, c2, hvn, by rw [Ev.minL_app, if_pos hg]⟩
            obtain ⟨m, hm, S'⟩ := more { s1 with heap := s1.heap.update S (Obj.mapSeq fun _ => #[Value.int i u, .int i u]) } _ hb I2 rfl ky
            rw [hname]
            exact wpAny_pure ⟨plainId_quiet F.plain_min_loop _, ih m hm _ ⟨_, _, _, _, _, hb, I2⟩ S'⟩
          · rw [decide_eq_false hg]
            simp only [Bool.false_eq_true, if_false]
            refine wpAny_bind (wpAny_letGo ?_)
            have hb : InBest Ev.minL S (us ++ [.int i u]) [(S, lstObj #[.int (Ev.minL a1 ns1) t, .int (Ev.minL a1 ns1) t] c1)] := .inr ⟨a1, ns1 ++ [i], t, c1, hvn, by rw [Ev.minL_app, if_neg hg]⟩
            obtain ⟨m, hm, S'⟩ := more s1 _ hb I1 rfl ky
            rw [hname]
            exact wpAny_pure ⟨plainId_quiet F.plain_min_loop _, ih m hm _ ⟨_, _, _, _, _, hb, I1⟩ S'⟩
      · obtain ⟨ip, vs, H1, ⟨us, p, rv, pc, pk, I1⟩, hz⟩ := hp
        rcases pc with ⟨rfl, c1, rfl⟩ | ⟨a1, ns1, t1, c1, hv, rfl⟩
        · have z := pk _ (List.mem_singleton.mpr rfl)
          rw [hS] at z
          cases z
        · have z := pk _ (List.mem_singleton.mpr rfl)
          rw [hS] at z
          obtain ⟨e1, e2⟩ : Ev.minL a ns = Ev.minL a1 ns1 ∧ t = t1 := by
            have z2 : #[Value.int (Ev.minL a ns) t, .int (Ev.minL a ns) t] = #[Value.int (Ev.minL a1 ns1) t1, .int (Ev.minL a1 ns1) t1] := (Data.seq.inj (congrArg Obj.data (Option.some.inj z))).1
            simp at z2
            exact z2
          subst e2
          rw [e1]
          have hS1 := (I1.pin (S, lstObj #[.int (Ev.minL a1 ns1) t, .int (Ev.minL a1 ns1) t] c1) (List.mem_append_right _ (by simp))).1
          show wpAny _ A0.in1 (updateSeq S (fun _ => #[]) >>= _) _ _ s1
          refine wpAny_bind (wpAny_updateSeq hS1 rfl (wpAny_bind (wpAny_letGo (wpAny_pure ?_))))
          have self := Heap.get?_update_self (Obj.mapSeq fun _ => #[]) hS1 rfl
          obtain ⟨c2, self⟩ : ∃ c2, (s1.heap.update S (Obj.mapSeq fun _ => #[])).get? S = some (lstObj #[] c2) := ⟨_, self⟩
          have I2 := inv_grow (o2 := lstObj #[] c2) (ip := []) (I1.pins_of fun q hq => I1.pin q (List.mem_append_right _ (by
            rcases List.mem_cons.mp hq with z | z
            · rw [z]; exact List.mem_cons_self
            · rw [List.append_nil] at z
              exact List.mem_cons_of_mem _ (List.mem_append_left _ z)))) rfl young n1 (fun q hq => by cases hq) (fun v z => by cases z) (other _ s1) self
          exact hfin vs us a1 ns1 t H1 _ rv hv (I2.pins_of fun _ z => by simp at z) hz
end
section
variable {X : Cx} {pins : List (Addr × Obj)} {σ : L2.St}
/-- min(g) -/
theorem eat_min {ws : List Nat} {H2 : Hp} {s4 s5 : Shared} {ce : Env} {fp : List Addr} {C : Code} {go : Addr × Obj} {gi : Nat} {Q : VK} {E : Value → Shared → Prop} (hc : X.A.handled = none) (hr : X.A.depth < recursionLimit)
    (G : GReady X pins σ ws KyM (fun vs H => ∃ a ns, vs = (a :: ns).map V.int ∧ Q (.int (Ev.minL a ns)) H) H2 s4 ce fp C go gi s5) : wpAny (model X.prog X.w) X.A (call (.builtin "min") [.ref go.1]) (EP X pins σ Q) E s5 := by
  have hname : (toString "min" ++ toString ".loop" : String) = "min.loop" := by decide
  have near : Near X X.A.in1.in1 := ⟨rfl, rfl, rfl, by show X.A.units + 1 + 1 ≤ _; omega⟩
  have I5 := G.start _ near
  have ho : s5.heap.get? go.1 = some go.2 := (I5.pin go (List.mem_append_right _ List.mem_cons_self)).1
  generalize hS : s5.heap.objs.size = S
  have nG : go.1 ≠ S := fun z => by
    have q := G.big
    rw [z, hS] at q
    exact Nat.lt_irrefl _ q
  have nfp : S ∉ fp := fun z => by
    have q := G.lt S z
    rw [hS] at q
    exact Nat.lt_irrefl _ q
  refine call_function_tree F.kind_min F.plain_min F.entry_min (F.args_min1 _) ?_
  show wpAny _ X.A.in1 (Builtin.Builtins.bindParams "min" ["key", "default"] 0 ⟨[], []⟩ >>= _) _ _ s5
  refine wpAny_bind (wpAny_of_eq (show Builtin.Builtins.bindParams "min" ["key", "default"] 0 ⟨[], []⟩ = pure [none, none] from rfl) ?_)
  refine wpAny_bind (wpAny_pure ?_)
  refine wpAny_bind (wpAny_pyIter_gen (isGen_of G.gen ho) ?_)
  refine wpAny_bind (wpAny_newObj_type ?_)
  rw [hname, hS]
  have szS : s5.heap.objs.size ≤ S := Nat.le_of_eq hS
  have F5 := I5.fpOk (b := S) szS (I5.hok.fresh szS)
  have young : s4.heap.objs.size ≤ S := by
    rcases F5.2.2.2.1 with z | z
    · exact absurd z nfp
    · exact z
  generalize hh1 : (s5.heap.push { cls := .type "list", data := .seq #[] } : Heap) = h1
  have k1 : ∀ b o, s5.heap.get? b = some o → h1.get? b = some o := fun b o e => by rw [← hh1]; exact Heap.get?_push_of_some _ e
  obtain ⟨c1, e1⟩ : ∃ c1, h1.get? S = some (lstObj #[] c1) := ⟨_, by
    rw [← hh1, ← hS]
    exact Heap.get?_push_size _ rfl⟩
  have I6 : Inv (gcx X (X.A.in1.in1.over C []) s4 H2 ce fp) [go] (wipe σ ws) H2 { s5 with heap := h1 } := I5.kept (t' := s5.toks) k1
  have I7 : Inv (gcx X (X.A.in1.in1.over C []) s4 H2 ce fp) (go :: [(S, lstObj #[] c1)]) (wipe σ ws) H2 { s5 with heap := h1 } := I6.pins_of fun p hp => by
    rcases List.mem_cons.mp hp with z | z
    · rw [z]; exact I6.pin go (List.mem_append_right _ List.mem_cons_self)
    · rw [List.mem_singleton.mp z]
      exact ⟨e1, F5.1, F5.2.1, F5.2.2.1, fun v z => by cases z⟩
  have hb : InBest Ev.minL S [] [(S, lstObj #[] c1)] := .inl ⟨rfl, c1, rfl⟩
  obtain ⟨n, Sl⟩ := G.wake _ near (InBest Ev.minL S) (inBest_nfp nfp) _ { s5 with heap := h1 } hb rfl I7 (fun b _ o e => k1 b o e)
  refine wpAny_pure ⟨plainId_quiet F.plain_min_loop _, min_loop (X := X) (AY := X.A.in1.in1.over C []) (ce := ce) ⟨hc, hr, G.gen⟩ young nG nfp (fun vs us a ns t H' s' rv hv I' hz => ?_) (fun H' ⟨a, ns, z, _⟩ => by cases z) n _ ⟨[], _, [], _, _, hb, by rw [List.append_nil]; exact I7⟩ Sl⟩
  obtain ⟨a1, ns1, e, q⟩ := hz
  refine ⟨.int (Ev.minL a ns), H', G.back _ _ _ _ I', ⟨t, rfl⟩, ?_⟩
  have key : ∀ (l1 l2 : List Int) (us : List Value), Vals (l1.map V.int) us → Vals (l2.map V.int) us → l1 = l2 := by
    intro l1
    induction l1 with
    | nil => intro l2 us r1 r2; cases r1; cases l2 with
      | nil => rfl
      | cons b l2 => cases r2
    | cons b l1 ih => intro l2 us r1 r2; cases r1 with
      | cons h1 r1 => cases l2 with
        | nil => cases r2
        | cons b2 l2 => cases r2 with
          | cons h2 r2 =>
            obtain ⟨u1, rfl⟩ := h1
            obtain ⟨u2, e⟩ := h2
            cases e
            rw [ih l2 _ r1 r2]
  subst e
  have := key _ _ _ rv hv
  cases this
  exact q
end
end Gx
set_option Elab.async false
set_option linter.all false
set_option maxRecDepth 100000
set_option maxHeartbeats 4000000
namespace Ev
open PySem PySem.Spec PyProof.Rows L2

/-! ## which syntax a term of the small language stands for -/
structure FnI where
  name : Str
  ps : List Str
  kws : List (Nat × List Str × List Nat) := []
/-- an own exception class: its __init__ stores its parameters -/
structure ClI where
  name : Str
  flds : List Str
  kin : List (Str × Bool) := []
structure Cxt where
  N : List Str
  sc : Scope
  fnc : Str → Bool
  T : List FnI
  /-- within a comprehension -/
  q : Bool := false
  /-- within a generator expression -/
  g : Bool := false
  CT : List ClI := []
def Cxt.kind (c : Cxt) (x : Str) : Option NameKind := c.sc.names.lookup x
def seen : Option NameKind → Bool
  | some .local => true
  | some .cell => true
  | some .free => true
  | _ => false
def Cxt.vis (c : Cxt) (i : Nat) (x : Str) : Bool := decide (c.N[i]? = some x) && (seen (c.kind x) && (!(x == ("__debug__" : Str)) && !(x == ("__classdict__" : Str))))
def Cxt.loc (c : Cxt) (i : Nat) (x : Str) : Bool := decide (c.N[i]? = some x) && (match c.kind x with
  | some .local => true
  | some .cell => c.fnc x
  | _ => false)
def Cxt.glb (c : Cxt) (x : Str) : Bool := (match c.kind x with
  | some .globalImplicit => true
  | _ => false) && !(x == ("__debug__" : Str))
def cstIs : Cst → Const → Bool
  | .non, .none => true
  | .bl a, .bool b => a == b
  | .int a, .int b => a == b
  | .str a, .str b => decide (a = b)
  | _, _ => false
def ofOp : Operator → Option Bop
  | .Add => some .add
  | .Sub => some .sub
  | .Mult => some .mul
  | .FloorDiv => some .fdiv
  | .Mod => some .mod
  | .Pow => some .pow
  | _ => none
def ofCop : CmpOp → Cop
  | .Eq => .eq
  | .NotEq => .ne
  | .Lt => .lt
  | .LtE => .le
  | .Gt => .gt
  | .GtE => .ge
  | .Is => .is
  | .IsNot => .isnot
  | .In => .inn
  | .NotIn => .notin
def bopEq : Bop → Bop → Bool
  | .add, .add => true
  | .sub, .sub => true
  | .mul, .mul => true
  | .fdiv, .fdiv => true
  | .mod, .mod => true
  | .pow, .pow => true
  | _, _ => false
def opIs (o : Operator) (op : Bop) : Bool := (match ofOp o with
  | some q => bopEq q op
  | none => false)
def copIs (o : CmpOp) (op : Cop) : Bool := (match op, o with
  | .eq, .Eq => true
  | .ne, .NotEq => true
  | .lt, .Lt => true
  | .le, .LtE => true
  | .gt, .Gt => true
  | .ge, .GtE => true
  | .is, .Is => true
  | .isnot, .IsNot => true
  | .inn, .In => true
  | .notin, .NotIn => true
  | _, _ => false)
def notSlice : Expr → Bool
  | .Slice .. => false
  | _ => true
def kwNames (kws : List Keyword) : List (Option Str) := kws.map (·.arg)
def permOk (ps : List Str) (n : Nat) (ks : List Str) (perm : List Nat) : Bool := decide ((perm.filterMap fun i => (ps.take n ++ ks)[i]?) = ps)
/-- a generator expression's own frame -/
def Cxt.gx (c : Cxt) (scope : Scope) : Cxt := { c with sc := scope, fnc := fun _ => false, q := true, g := true }
/-- what its scope must be -/
def genC (scope : Scope) : Bool := !scope.isCoroutine && ((match scope.names.lookup (".0" : Str) with
  | some .local => true
  | _ => false) && scope.names.all fun y => match y.2 with
  | .cell => false
  | _ => true)
def gkName : GK → Str
  | .any => "any"
  | .all => "all"
  | .tuple => "tuple"
  | .list => "list"
  | .sum => "sum"
  | .max => "max"
  | .min => "min"
/-- what is served -/
def gkOk : GK → Bool
  | .any => true
  | .all => true
  | .tuple => true
  | .max => true
  | .min => true
  | _ => false
def plainIter : Expr → Bool
  | .List .. => false
  | .Set .. => false
  | _ => true
def isRng : It → Bool
  | .val _ => false
  | .zip _ _ => false
  | _ => true
/-- the target that a walk takes -/
def tgOk : It → Expr → Bool
  | .zip _ _, .Tuple .. => true
  | .zip _ _, _ => false
  | _, _ => true
def Cxt.blk (c : Cxt) (scope : Scope) : Cxt := { c with sc := relS scope c.sc, fnc := fun x => scope.names.lookup x == some .cell, q := true }
mutual
def slotsG : G → List Nat
  | .name i => [i]
  | .tup gs => slotsGs gs
  | .sub _ _ => []
  | .subD _ _ => []
def slotsGs : Gs → List Nat
  | .nil => []
  | .cons g gs => slotsG g ++ slotsGs gs
end
def ownOf (N : List Str) (own : List Nat) : List (Str × Nat) := own.filterMap fun i => (N[i]?).map fun x => (x, i)
def lenEs : Es → Nat
  | .nil => 0
  | .cons _ r => lenEs r + 1
def Me.zero : Me → Bool
  | .pop => true
  | _ => false
def notCall0 : Expr → Bool
  | .Call (.Name _ _) [] [] _ => false
  | _ => true
/-- the test of any kind: its value's truth -/
def plainTest : Expr → Bool
  | .UnaryOp .Not _ _ => false
  | .BoolOp .. => false
  | .IfExp .. => false
  | .Compare .. => false
  | _ => true
/-- a dict display's keys: written texts -/
def keyIs : List Str → List (Option Expr) → Bool
  | [], [] => true
  | k :: ks, some (.Constant (.str z) _ _) :: r => decide (z = k) && keyIs ks r
  | _, _ => false
mutual
def mE : E → Cxt → Expr → Bool
  | .var i, c, a => (match a with
    | .Name x _ => c.vis i x
    | _ => false)
  | .cst k, _, a => (match a with
    | .Constant v _ _ => cstIs k v
    | _ => false)
  | .bin op x y, c, a => (match a with
    | .BinOp p o q _ => opIs o op && (mE x c p && mE y c q)
    | _ => false)
  | .neg x, c, a => (match a with
    | .UnaryOp .USub p _ => mE x c p
    | _ => false)
  | .cmp op x y, c, a => (match a with
    | .Compare p [o] [q] _ => copIs o op && (!behindInMarks o q && (mE x c p && mE y c q))
    | _ => false)
  | .chain o1 o2 x y z, c, a => (match a with
    | .Compare p [k1, k2] [q, r] _ => copIs k1 o1 && (copIs k2 o2 && (!lastMarks [k1, k2] [q, r] && (mE x c p && (mE y c q && mE z c r))))
    | _ => false)
  | .and x y, c, a => (match a with
    | .BoolOp .And (p :: q :: r) pos => mE x c p && (match r with
      | [] => mE y c q
      | r0 :: rs => mE y c (.BoolOp .And (q :: r0 :: rs) pos))
    | _ => false)
  | .or x y, c, a => (match a with
    | .BoolOp .Or (p :: q :: r) pos => mE x c p && (match r with
      | [] => mE y c q
      | r0 :: rs => mE y c (.BoolOp .Or (q :: r0 :: rs) pos))
    | _ => false)
  | .not x, c, a => (match a with
    | .UnaryOp .Not p _ => mE x c p
    | _ => false)
  | .ite t x y, c, a => (match a with
    | .IfExp p q r _ => mE t c p && (mE x c q && mE y c r)
    | _ => false)
  | .tup es, c, a => (match a with
    | .Tuple l _ _ => decide (lenEs es < 1000) && mEs es c l
    | _ => false)
  | .lst es, c, a => (match a with
    | .List l _ => decide (lenEs es < 1000) && mEs es c l
    | _ => false)
  | .idx x y, c, a => (match a with
    | .Subscript p q _ => notSlice q && (mE x c p && mE y c q)
    | _ => false)
  | .slc x lo hi, c, a => (match a with
    | .Subscript p (.Slice l h none _) _ => mE x c p && (mEo lo c l && mEo hi c h)
    | _ => false)
  | .call f es, c, a => (match a with
    | .Call (.Name x _) l [] _ => c.glb x && ((match c.T[f]? with
      | some i => decide (i.name = x) && decide (i.ps.length = lenEs es)
      | none => false) && mEs es c l)
    | _ => false)
  | .callX f es, c, a => !c.q && (match a with
    | .Call (.Name x _) l [] _ => c.glb x && ((match c.T[f]? with
      | some i => decide (i.name = x) && decide (i.ps.length = lenEs es)
      | none => false) && mEs es c l)
    | _ => false)
  | .callK f es ks zs perm, c, a => (match a with
    | .Call (.Name x _) l kws _ => c.glb x && ((match c.T[f]? with
      | some i => decide (i.name = x) && (decide ((lenEs es, ks, perm) ∈ i.kws) && decide (i.ps.length = perm.length ∧ lenEs zs = ks.length ∧ ∀ j ∈ perm, j < lenEs es + lenEs zs))
      | none => false) && (decide (kwNames kws = ks.map some) && (mEs es c l && mKs zs c kws)))
    | _ => false)
  | .callKX f es ks zs perm, c, a => !c.q && (match a with
    | .Call (.Name x _) l kws _ => c.glb x && ((match c.T[f]? with
      | some i => decide (i.name = x) && (decide ((lenEs es, ks, perm) ∈ i.kws) && decide (i.ps.length = perm.length ∧ lenEs zs = ks.length ∧ ∀ j ∈ perm, j < lenEs es + lenEs zs))
      | none => false) && (decide (kwNames kws = ks.map some) && (mEs es c l && mKs zs c kws)))
    | _ => false)
  | .bi b es, c, a => (match a with
    | .Call (.Name x _) (p :: l) [] _ => c.glb x && (decide (x = biName b) && mEs es c (p :: l))
    | _ => false)
  | .isi x t, c, a => (match a with
    | .Call (.Name f _) [p, .Name ty _] [] _ => c.glb f && (decide (f = ("isinstance" : Str)) && (c.glb ty && (decide (ty = Str.ofString (tyName t)) && mE x c p)))
    | _ => false)
  | .meth me o es, c, a => (match a with
    | .Call (.Attribute p x ap) l [] cp => decide (x = meName me) && (decide (l.length < 29 ∧ (l.isEmpty = true → me.zero = true)) && ((ap.endLine == cp.line) && (notCall0 p && (mE o c p && mEs es c l))))
    | _ => false)
  | .lc elt g it cs own, c, a => (match a with
    | .ListComp e [⟨tg, iter, ifs, 0⟩] scope _ => blkC c.N c.sc scope (ownOf c.N own) && (decide ((ownOf c.N own).map (·.2) = own) && (decide (∀ i ∈ slotsG g, i ∈ own) && ((tgOk it tg && mI it c iter) && (mG g (c.blk scope) tg && (mTs cs (c.blk scope) ifs && mE elt (c.blk scope) e)))))
    | _ => false)
  | .lc2 elt g it cs g1 it1 cs1 own vs1, c, a => (match a with
    | .ListComp e [⟨tg, iter, ifs, 0⟩, ⟨tg1, iter1, ifs1, 0⟩] scope _ => blkC c.N c.sc scope (ownOf c.N own) && (decide ((ownOf c.N own).map (·.2) = own) && ((decide (∀ i ∈ slotsG g, i ∈ own) && (decide (∀ i ∈ slotsG g1, i ∈ vs1) && decide (∀ i ∈ vs1, i ∈ own))) && ((tgOk it tg && mI it c iter) && ((mG g (c.blk scope) tg && (mTs cs (c.blk scope) ifs && ((tgOk it1 tg1 && mI it1 (c.blk scope) iter1) && (mG g1 (c.blk scope) tg1 && mTs cs1 (c.blk scope) ifs1)))) && mE elt (c.blk scope) e))))
    | _ => false)
  | .gen k elt g it cs own, c, a => !c.g && (gkOk k && (match a with
    | .Call (.Name x _) [.GeneratorExp e [⟨tg, iter, ifs, 0⟩] scope _] [] _ => c.glb x && (decide (x = gkName k) && ((plainIter iter && genC scope) && (blkC c.N c.sc scope (ownOf c.N own) && (decide ((ownOf c.N own).map (·.2) = own) && (decide (∀ i ∈ slotsG g, i ∈ own) && ((tgOk it tg && mI it c iter) && (mG g (c.gx scope) tg && (mTs cs (c.gx scope) ifs && mE elt (c.gx scope) e))))))))
    | _ => false))
  | .lsI it, c, a => isRng it && (match a with
    | .Call (.Name x _) [p] [] _ => c.glb x && (decide (x = ("list" : Str)) && mI it c p)
    | _ => false)
  | .dnew, _, a => (match a with
    | .Dict [] [] _ => true
    | _ => false)
  | .dget o k, c, a => (match a with
    | .Subscript p q _ => notSlice q && (mE o c p && mE k c q)
    | _ => false)
  | .din neg k o, c, a => (match a with
    | .Compare p [op] [q] _ => copIs op (if neg then .notin else .inn) && (!behindInMarks op q && (mE k c p && mE o c q))
    | _ => false)
  | .rev x, c, a => (match a with
    | .Subscript p (.Slice none none (some (.UnaryOp .USub (.Constant (.int 1) _ _) _)) _) _ => mE x c p
    | _ => false)
  | .dlit ks es, c, a => (match a with
    | .Dict keys l _ => keyIs ks keys && (decide (0 < lenEs es ∧ lenEs es ≤ 15 ∧ ks.length = lenEs es) && mEs es c l)
    | _ => false)
  | .dgetM _ _, _, _ => false
  | .dead, _, a => (match a with
    | .Starred .. => false
    | _ => true)
def mEs : Es → Cxt → List Expr → Bool
  | .nil, _, l => (match l with
    | [] => true
    | _ => false)
  | .cons e r, c, l => (match l with
    | p :: ps => mE e c p && mEs r c ps
    | _ => false)
/-- no test, or one -/
def mTs : Es → Cxt → List Expr → Bool
  | .nil, _, l => (match l with
    | [] => true
    | _ => false)
  | .cons e _, c, l => (match l with
    | [p] => mE e c p
    | _ => false)
def mKs : Es → Cxt → List Keyword → Bool
  | .nil, _, l => (match l with
    | [] => true
    | _ => false)
  | .cons e r, c, l => (match l with
    | ⟨_, p, _⟩ :: ps => mE e c p && mKs r c ps
    | _ => false)
def mEo : Eo → Cxt → Option Expr → Bool
  | .none, _, l => (match l with
    | none => true
    | _ => false)
  | .some e, c, l => (match l with
    | some p => mE e c p
    | _ => false)
def mG : G → Cxt → Expr → Bool
  | .name i, c, a => (match a with
    | .Name x _ => c.loc i x
    | _ => false)
  | .tup gs, c, a => (match a with
    | .Tuple l _ _ => mGs gs c l
    | _ => false)
  | .sub o i, c, a => (match a with
    | .Subscript p q _ => notSlice q && (mE o c p && mE i c q)
    | _ => false)
  | .subD o i, c, a => (match a with
    | .Subscript p q _ => notSlice q && (mE o c p && mE i c q)
    | _ => false)
def mGs : Gs → Cxt → List Expr → Bool
  | .nil, _, l => (match l with
    | [] => true
    | _ => false)
  | .cons g r, c, l => (match l with
    | p :: ps => mG g c p && mGs r c ps
    | _ => false)
def mI : It → Cxt → Expr → Bool
  | .val e, c, a => (match a with
    | .Set .. => false
    | _ => mE e c a)
  | .rng1 x, c, a => (match a with
    | .Call (.Name f _) [p] [] _ => c.glb f && (decide (f = ("range" : Str)) && mE x c p)
    | _ => false)
  | .rng2 x y, c, a => (match a with
    | .Call (.Name f _) [p, q] [] _ => c.glb f && (decide (f = ("range" : Str)) && (mE x c p && mE y c q))
    | _ => false)
  | .zip x y, c, a => (match a with
    | .Call (.Name f _) [p, q] [] _ => c.glb f && (decide (f = ("zip" : Str)) && (mE x c p && mE y c q))
    | _ => false)
end
/-- the value's comprehension is stored by a swap -/
def swapC (c : Cxt) (i : Nat) (a : Expr) (v : Expr) : Option Bool := (match a, v with
  | .Name y py, .ListComp _ _ scope pos => (match c.kind y with
    | some .local => if py.line == pos.line && !(scope.names.any fun (n, k) => n == y && (k == .local || k == .cell)) then some true else none
    | _ => none)
  | _, .ListComp .. => none
  | _, .SetComp .. => none
  | _, .DictComp .. => none
  | _, _ => some false)
def notComp : Expr → Bool
  | .ListComp .. => false
  | .SetComp .. => false
  | .DictComp .. => false
  | _ => true
def notTup : Expr → Bool
  | .Tuple .. => false
  | .List .. => false
  | _ => true
def isStarE : Expr → Bool
  | .Starred .. => true
  | _ => false
def parVals (vs : List Expr) : Bool := !(vs.any isStarE) && (!(vs.all (foldedForSure 8)) && !(vs.all (constantsAlone 8)))
def parOk (c : Cxt) (ts vs : List Expr) : Bool := (match ts, vs with
  | [.Name x px, .Name y py], [a, b] => decide (c.kind x = some .local) && (decide (c.kind y = some .local) && ((py.line == px.line) && (!(y == x) && parVals [a, b])))
  | [.Name x px, .Name y py, .Name z pz], [a, b, d] => decide (c.kind x = some .local) && (decide (c.kind y = some .local) && (decide (c.kind z = some .local) && ((py.line == px.line) && ((pz.line == px.line) && (!(y == x) && (!(z == x) && (!(z == y) && parVals [a, b, d])))))))
  | _, _ => false)
/-- a, b = x, y with plain locals: stored from the right -/
def asgPar (c : Cxt) (p q : Expr) : Bool := (match p, q with
  | .Tuple ts _ _, .Tuple vs _ _ => parOk c ts vs
  | _, _ => false)
/-- name = [..] on one line of a plain local; else no comprehension, and not both sides displays -/
def asgOk1 (c : Cxt) (p q : Expr) : Bool := (notComp q && (notTup p || notTup q)) || (match p, q with
  | .Name y py, .ListComp _ _ scope pos => decide (c.kind y = some .local) && ((py.line == pos.line) && !(scope.names.any fun (n, k) => n == y && (k == .local || k == .cell)))
  | _, _ => false)
def locNames (kd : Str → Option NameKind) (ts : List Expr) : List Str := ts.filterMap fun t => match t with
  | .Name id _ => if (kd id == some .local) = true then some id else none
  | _ => none
/-- a comprehension's list unpacked -/
def asgUn (p q : Expr) : Bool := (match p, q with
  | .Tuple _ _ _, .ListComp .. => true
  | _, _ => false)
/-- both sides displays, a target no plain local, or more than three targets -/
def asgCell (c : Cxt) (p q : Expr) : Bool := (match p, q with
  | .Tuple ts _ _, .Tuple _ _ _ => decide ((locNames c.kind ts).length < ts.length) || decide (3 < ts.length)
  | _, _ => false)
/-- the target no plain local: nothing is stored by another road -/
def asgFree (c : Cxt) (p : Expr) : Bool := (match p with
  | .Name y _ => decide (c.kind y = some .cell)
  | .Subscript .. => true
  | _ => false)
def asgOk (c : Cxt) (p q : Expr) : Bool := (((asgOk1 c p q || asgPar c p q) || asgCell c p q) || asgFree c p) || asgUn p q
/-- try: .. except X as n: return e -/
def tryOf : Stmt → Option (List Stmt × Str × Pos × Option Str × Expr × Pos × Pos × Pos)
  | .Try body [.ExceptHandler (some (.Name x np)) nm [.Return (some e) rp] hp] [] [] pos => some (body, x, np, nm, e, rp, hp, pos)
  | _ => none
theorem tryOf_eq {a : Stmt} {body : List Stmt} {x : Str} {np rp hp pos : Pos} {nm : Option Str} {e : Expr} (h : tryOf a = some (body, x, np, nm, e, rp, hp, pos)) : a = .Try body [.ExceptHandler (some (.Name x np)) nm [.Return (some e) rp] hp] [] [] pos := by
  unfold tryOf at h
  split at h
  · cases h; rfl
  · cases h
/-- what an except suite returns -/
def mHI (h : Hn) (n : Str) : HI → Expr → Bool
  | .cst k, a => (match a with
    | .Constant v _ _ => cstIs k v
    | _ => false)
  | .fld f, a => (match a with
    | .Attribute (.Name x _) g _ => decide (x = n) && (!(n == ("__debug__" : Str)) && (!(n == ("__classdict__" : Str)) && (decide (g = f) && decide (f ∈ h.fl))))
    | _ => false)
def mHIs (h : Hn) (n : Str) : List HI → List Expr → Bool
  | [], [] => true
  | i :: l, a :: r => mHI h n i a && mHIs h n l r
  | _, _ => false
def mHE (h : Hn) (n : Str) (e : Expr) : Bool := (match h.he with
  | .one i => mHI h n i e
  | .tup l => (match e with
    | .Tuple es _ _ => decide (l.length < 1000) && mHIs h n l es
    | _ => false))
/-- another of the text's classes -/
def otherC (CT : List ClI) (h : Hn) (y : Str) : Bool := (List.range CT.length).any fun j => match CT[j]? with
  | some ci => decide (ci.name = y) && decide (j ≠ h.cl)
  | none => false
/-- .. or `x if isinstance(e, (another class)) else` it -/
def mHX (c : Cxt) (h : Hn) (n : Str) (e : Expr) : Bool := mHE h n e || (match e with
  | .IfExp (.Call (.Name f _) [.Name x _, .Name y _] [] _) _ b _ => c.glb f && (decide (f = ("isinstance" : Str)) && (decide (x = n) && (!(n == ("__debug__" : Str)) && (!(n == ("__classdict__" : Str)) && (c.glb y && (otherC c.CT h y && mHE h n b))))))
  | _ => false)
def tryOf2 : Stmt → Option (List Stmt × Str × Str × Expr × Str × Str × Expr)
  | .Try body [.ExceptHandler (some (.Name x1 _)) (some n1) [.Return (some e1) _] _, .ExceptHandler (some (.Name x2 _)) (some n2) [.Return (some e2) _] _] [] [] _ => some (body, x1, n1, e1, x2, n2, e2)
  | _ => none
theorem tryOf2_eq {a : Stmt} {body : List Stmt} {x1 n1 x2 n2 : Str} {e1 e2 : Expr} (h : tryOf2 a = some (body, x1, n1, e1, x2, n2, e2)) : ∃ p1 r1 q1 p2 r2 q2 pos, a = .Try body [.ExceptHandler (some (.Name x1 p1)) (some n1) [.Return (some e1) r1] q1, .ExceptHandler (some (.Name x2 p2)) (some n2) [.Return (some e2) r2] q2] [] [] pos := by
  unfold tryOf2 at h
  split at h
  · cases h; exact ⟨_, _, _, _, _, _, _, rfl⟩
  · cases h
/-! an except suite whose looks at the caught error's class are known -/
def hcB (c : Cxt) (ci : ClI) (n : Str) (env : List (Str × Nat × Bool)) : Nat → Expr → Option Bool
  | 0, _ => none
  | k + 1, e => (match e with
    | .Call (.Name f _) [.Name x _, .Name y _] [] _ => if (c.glb f && (decide (f = ("isinstance" : Str)) && (decide (x = n) && (!(n == ("__debug__" : Str)) && (!(n == ("__classdict__" : Str)) && c.glb y))))) = true then ci.kin.lookup y else none
    | .Name z _ => if (!(z == ("__debug__" : Str)) && !(z == ("__classdict__" : Str))) = true then (env.lookup z).map (·.2) else none
    | .UnaryOp .Not e _ => (hcB c ci n env k e).map (!·)
    | .BoolOp .Or [a] _ => hcB c ci n env k a
    | .BoolOp .And [a] _ => hcB c ci n env k a
    | .BoolOp .Or (a :: b :: r) pos => (match hcB c ci n env k a, hcB c ci n env k (.BoolOp .Or (b :: r) pos) with
      | some p, some q => some (p || q)
      | _, _ => none)
    | .BoolOp .And (a :: b :: r) pos => (match hcB c ci n env k a, hcB c ci n env k (.BoolOp .And (b :: r) pos) with
      | some p, some q => some (p && q)
      | _, _ => none)
    | _ => none)
def hiB (c : Cxt) (ci : ClI) (n : Str) (env : List (Str × Nat × Bool)) (h : Hn) (i : HI) (e : Expr) : Bool := mHI h n i e || (match e with
  | .IfExp t p q _ => (match hcB c ci n env 40 t with
    | some true => mHI h n i p
    | some false => mHI h n i q
    | none => false)
  | _ => false)
def hisB (c : Cxt) (ci : ClI) (n : Str) (env : List (Str × Nat × Bool)) (h : Hn) : List HI → List Expr → Bool
  | [], [] => true
  | i :: l, a :: r => hiB c ci n env h i a && hisB c ci n env h l r
  | _, _ => false
def heB (c : Cxt) (ci : ClI) (n : Str) (env : List (Str × Nat × Bool)) (h : Hn) (e : Expr) : Bool := (match h.he with
  | .one i => hiB c ci n env h i e
  | .tup l => (match e with
    | .Tuple es _ _ => decide (l.length < 1000) && hisB c ci n env h l es
    | _ => false))
def suiteB (c : Cxt) (ci : ClI) (n : Str) (h : Hn) (sl : Nat) : List (Str × Nat × Bool) → List Stmt → Bool
  | _, [] => false
  | env, a :: r => (match a with
    | .Return (some e) _ => r.isEmpty && heB c ci n env h e
    | .Assign [.Name z _] e _ => (match hcB c ci n env 40 e, c.N.idxOf? z with
      | some b, some i => decide (c.N[i]? = some z) && (decide (c.kind z = some .local) && (decide (i ≠ sl) && (notComp e && suiteB c ci n h sl ((z, i, b) :: env.filter (fun t => decide (t.2.1 ≠ i))) r)))
      | _, _ => false)
    | _ => false)
def tryOfI : Stmt → Option (List Stmt × Str × Str × Stmt × List Stmt)
  | .Try body [.ExceptHandler (some (.Name x _)) (some n) (b :: suite) _] [] [] _ => some (body, x, n, b, suite)
  | _ => none
theorem tryOfI_eq {a b : Stmt} {body suite : List Stmt} {x n : Str} (h : tryOfI a = some (body, x, n, b, suite)) : ∃ p q pos, a = .Try body [.ExceptHandler (some (.Name x p)) (some n) (b :: suite) q] [] [] pos := by
  unfold tryOfI at h
  split at h
  · cases h; exact ⟨_, _, _, rfl⟩
  · cases h
def hnOk (c : Cxt) (h : Hn) (x n : Str) (e : Expr) : Bool := c.glb x && ((match c.CT[h.cl]? with
  | some ci => decide (ci.name = x) && decide (ci.flds = h.fl)
  | none => false) && (match h.sl with
  | some i => decide (c.N[i]? = some n) && (decide (c.kind n = some .local) && mHX c h n e)
  | none => false))
def notPow : Bop → Bool
  | .pow => false
  | _ => true
mutual
def mS : Sm → Cxt → Stmt → Bool
  | .expr e, c, a => (match a with
    | .Expr p _ => notComp p && mE e c p
    | _ => false)
  | .ret e, c, a => (match a with
    | .Return (some p) _ => mE e c p
    | _ => false)
  | .retN, _, a => (match a with
    | .Return none _ => true
    | _ => false)
  | .ifs t x y, c, a => (match a with
    | .If p q r _ => mE t c p && (mB x c q && mB y c r)
    | _ => false)
  | .whl t x, c, a => (match a with
    | .While p q [] _ => mE t c p && mB x c q
    | _ => false)
  | .fors g it x, c, a => (match a with
    | .For p q r [] _ => mG g c p && ((tgOk it p && mI it c q) && mB x c r)
    | _ => false)
  | .asg g e, c, a => (match a with
    | .Assign [p] q _ => mG g c p && (mE e c q && asgOk c p q)
    | _ => false)
  | .aug i op e, c, a => (match a with
    | .AugAssign (.Name x _) o q _ => c.loc i x && (opIs o op && (notPow op && mE e c q))
    | _ => false)
  | .augS o i op e, c, a => (match a with
    | .AugAssign (.Subscript p q _) k r _ => notSlice q && (mE o c p && (mE i c q && (opIs k op && (notPow op && mE e c r))))
    | _ => false)
  | .pass, _, a => (match a with
    | .Pass _ => true
    | _ => false)
  | .brk, _, a => (match a with
    | .Break _ => true
    | _ => false)
  | .cont, _, a => (match a with
    | .Continue _ => true
    | _ => false)
  | .dead, _, _ => true
  | .raise i es, c, a => !c.q && (match a with
    | .Raise (some (.Call (.Name x _) l [] _)) none _ => c.glb x && ((match c.CT[i]? with
      | some k => decide (k.name = x) && (decide (k.flds.length = lenEs es) && (decide (0 < lenEs es) && (decide k.flds.Nodup && decide (lenEs es ≤ 800))))
      | none => false) && mEs es c l)
    | _ => false)
  | .delD _ _, _, _ => false
  | .try2 b h1 h2, c, a => !c.q && (match tryOf2 a with
    | some (body, x1, n1, e1, x2, n2, e2) => hnOk c h1 x1 n1 e1 && (hnOk c h2 x2 n2 e2 && mB b c body)
    | none => false)
  | .tryR b h, c, a => !c.q && (match tryOf a with
    | some (body, x, np, nm, e, _) => c.glb x && ((match c.CT[h.cl]? with
      | some ci => decide (ci.name = x) && decide (ci.flds = h.fl)
      | none => false) && ((match h.sl, nm with
      | some i, some n => decide (c.N[i]? = some n) && (decide (c.kind n = some .local) && mHE h n e)
      | _, _ => false) && mB b c body))
    | none => (match tryOfI a with
      | some (body, x, n, s0, suite) => c.glb x && ((match c.CT[h.cl]?, h.sl with
        | some ci, some i => decide (ci.name = x) && (decide (ci.flds = h.fl) && (decide (c.N[i]? = some n) && (decide (c.kind n = some .local) && suiteB c ci n h i [] (s0 :: suite))))
        | _, _ => false) && mB b c body)
      | none => false))
def mB : Bs → Cxt → List Stmt → Bool
  | .nil, _, l => (match l with
    | [] => true
    | _ => false)
  | .cons s r, c, l => (match l with
    | p :: ps => mS s c p && mB r c ps
    | _ => false)
end
end Ev
set_option Elab.async false
set_option linter.all false
set_option maxRecDepth 100000
set_option maxHeartbeats 4000000
namespace Ev
open PySem PySem.Spec PyProof.Rows L2

/-! ## readings from the small language -/
structure Cur (K : FR) (m0 : List Addr) (H0 : Hp) (m : List Addr) (r : Rho) (S : Store) (σ : L2.St) (H : Hp) : Prop where
  rel : Rel K m S H
  ext : Ext m0 H0 m H
  len : r.length = σ.length
  loc : ∀ (i : Nat) (d : D), r[i]? = some (some d) → ∃ v, σ[i]? = some (some v) ∧ RD K m H d v
section
variable {K : FR} {m0 m m' m2 : List Addr} {H0 H H' H2 : Hp} {r : Rho} {S S' : Store} {σ : L2.St}
theorem Cur.move (c : Cur K m0 H0 m r S σ H) (q : Rel K m' S' H') (x : Ext m H m' H') : Cur K m0 H0 m' r S' σ H' :=
  ⟨q, c.ext.trans x, c.len, fun i d e => let ⟨v, e1, e2⟩ := c.loc i d e; ⟨v, e1, e2.mono x c.rel⟩⟩
theorem Cur.set (c : Cur K m0 H0 m r S σ H) {d : D} {v : V} (rd : RD K m H d v) (i : Nat) : Cur K m0 H0 m (r.set i (some d)) S (σ.set i (some v)) H := by
  refine ⟨c.rel, c.ext, by simp [c.len], fun j e h => ?_⟩
  by_cases hj : i = j
  · subst hj
    have hl : i < r.length := by
      have := (List.getElem?_eq_some_iff.mp h).1
      simpa using this
    rw [List.getElem?_set_self hl] at h
    cases h
    exact ⟨v, List.getElem?_set_self (by rw [← c.len]; exact hl), rd⟩
  · rw [List.getElem?_set_ne hj] at h
    obtain ⟨u, e1, e2⟩ := c.loc j e h
    exact ⟨u, by rw [List.getElem?_set_ne hj]; exact e1, e2⟩
theorem wipeD_length (r : Rho) : ∀ vs : List Nat, (wipeD r vs).length = r.length
  | [] => rfl
  | v :: vs => by unfold wipeD; rw [List.length_set, wipeD_length r vs]
theorem wipeD_get {r : Rho} {i : Nat} {d : D} : ∀ {vs : List Nat}, (wipeD r vs)[i]? = some (some d) → r[i]? = some (some d) ∧ i ∉ vs
  | [], h => ⟨h, by simp⟩
  | v :: vs, h => by
    unfold wipeD at h
    by_cases hi : v = i
    · subst hi
      by_cases hv : v < (wipeD r vs).length
      · rw [List.getElem?_set_self hv] at h; cases h
      · rw [List.getElem?_eq_none (by simpa using hv)] at h; cases h
    · rw [List.getElem?_set_ne hi] at h
      obtain ⟨h1, h2⟩ := wipeD_get h
      exact ⟨h1, by simp only [List.mem_cons, not_or]; exact ⟨fun e => hi e.symm, h2⟩⟩
theorem Cur.wipe (c : Cur K m0 H0 m r S σ H) (vs : List Nat) : Cur K m0 H0 m (wipeD r vs) S (L2.wipe σ vs) H := by
  refine ⟨c.rel, c.ext, by rw [wipeD_length, wipe_length]; exact c.len, fun i d h => ?_⟩
  obtain ⟨h1, h2⟩ := wipeD_get h
  obtain ⟨v, e1, e2⟩ := c.loc i d h1
  exact ⟨v, by rw [wipe_out h2]; exact e1, e2⟩
end
section
variable (K : FR) (m0 : List Addr) (H0 : Hp)
def TrE (w : Rho → Store → DK → Prop) : TE := fun σ H Q => ∃ m r S Qd, Cur K m0 H0 m r S σ H ∧ w r S Qd ∧ Imp K m H Qd Q
def TrT (w : Rho → Store → (Bool → Store → Prop) → Prop) : TT := fun σ H Q => ∃ m r S Qd, Cur K m0 H0 m r S σ H ∧ w r S Qd ∧ ∀ b S' m' H', Qd b S' → Rel K m' S' H' → Ext m H m' H' → Q b H'
def TrA (n : Nat) (w : Rho → Store → (List D → Store → Prop) → Prop) : TA := fun σ H Q => ∃ m r S Qd, Cur K m0 H0 m r S σ H ∧ w r S Qd ∧ ∀ ds S' vs m' H', Qd ds S' → Rel K m' S' H' → Ext m H m' H' → RDs K m' H' ds vs → ds.length = n → Q vs H'
def TrO (w : Rho → Store → (Option Int → Store → Prop) → Prop) : TO := fun σ H Q => ∃ m r S Qd, Cur K m0 H0 m r S σ H ∧ w r S Qd ∧ ∀ o S' m' H', Qd o S' → Rel K m' S' H' → Ext m H m' H' → Q o H'
def TrG (sl : List Nat) (w : D → Rho → Store → (Rho → Store → Prop) → Prop) : TG := fun v σ H Q => ∃ m r S d Qd, Cur K m0 H0 m r S σ H ∧ RD K m H d v ∧ w d r S Qd ∧
  ∀ r' S' σ' m' H', Qd r' S' → Cur K m0 H0 m' r' S' σ' H' → Ext m H m' H' → (∀ vs : List Nat, (∀ i ∈ sl, i ∈ vs) → wipe σ' vs = wipe σ vs ∧ wipeD r' vs = wipeD r vs) → Q σ' H'
def TrGs (sl : List Nat) (w : List D → Rho → Store → (Rho → Store → Prop) → Prop) : TGs := fun v σ H Q => ∃ m r S d Qd, Cur K m0 H0 m r S σ H ∧ RDs K m H d v ∧ w d r S Qd ∧
  ∀ r' S' σ' m' H', Qd r' S' → Cur K m0 H0 m' r' S' σ' H' → Ext m H m' H' → (∀ vs : List Nat, (∀ i ∈ sl, i ∈ vs) → wipe σ' vs = wipe σ vs ∧ wipeD r' vs = wipeD r vs) → Q σ' H'
/-- J walks the items of src, as they were at (m1, H1) -/
structure Walk (src : Src) (J : L2.It) (m1 : List Addr) (H1 : Hp) : Prop where
  go : ∀ i m S H, Rel K m S H → ExtW m1 H1 m H → src.stay S → i < src.its.length → J.go i H
  yld : ∀ i m S H x H', Rel K m S H → ExtW m1 H1 m H → src.stay S → J.yld i H x H' → i < src.its.length → ∃ d, src.its[i]? = some d ∧ Rel K m S H' ∧ Ext m H m H' ∧ RD K m H' d x
  stop : ∀ i m S H, Rel K m S H → ExtW m1 H1 m H → src.stay S → src.its.length ≤ i → J.stop i H
def TrI (w : Rho → Store → (Src → Store → Prop) → Prop) : TI := fun σ H R => ∃ m r S Qd, Cur K m0 H0 m r S σ H ∧ w r S Qd ∧ ∀ src S' m' H' J, Qd src S' → Rel K m' S' H' → Ext m H m' H' → Walk K src J m' H' → R J H'
def TrS (w : Dn → Rho → Store → Prop) : TS := fun De σ H => ∃ m r S N, Cur K m0 H0 m r S σ H ∧ w N r S ∧
  (∀ r' S' σ' m' H', N.nx r' S' → Cur K m0 H0 m' r' S' σ' H' → Ext m H m' H' → De.nx σ' H') ∧
  (∀ d S' v m' H', N.rt d S' → Rel K m' S' H' → Ext m H m' H' → RD K m' H' d v → De.rt v H') ∧
  (∀ r' S' σ' m' H', N.bk r' S' → Cur K m0 H0 m' r' S' σ' H' → Ext m H m' H' → De.bk σ' H') ∧
  (∀ r' S' σ' m' H', N.ct r' S' → Cur K m0 H0 m' r' S' σ' H' → Ext m H m' H' → De.ct σ' H')
end
/-- an exception of the i-th class with the fields fs, as the heap has it -/
def ExAt (K : FR) (mg : Str → Option Value) (CT : List ClI) (m : List Addr) (H : Hp) (i : Nat) (fs : List D) (cls : Value) (d : Option Addr) : Prop :=
  ∃ ci C d' xs vs, CT[i]? = some ci ∧ mg ci.name = some (.ref C) ∧ cls = .ref C ∧ d = some d' ∧ H d' = some (.xd xs) ∧ ci.flds.map (fun f => xs.lookup f) = vs.map some ∧ RDs K m H fs vs
/-- the table of a def's code object -/
def tabA (K : FR) (i : FnI) : Addr := (He.cT K (i.name, none)).2
/-- the defs' tables are tracked -/
def Tbs (K : FR) (T : List FnI) (m : List Addr) (H : Hp) : Prop := ∀ i ∈ T, GxR.TabG H (tabA K i) ∧ tabA K i ∉ m
theorem Tbs.mono {K : FR} {T : List FnI} {m m' : List Addr} {H H' : Hp} (t : Tbs K T m H) (x : Ext m H m' H') : Tbs K T m' H' := fun i hi => by
  obtain ⟨⟨ps, e, ok⟩, nm⟩ := t i hi
  obtain ⟨qs, e2, ok2⟩ := x.tb _ ps e nm
  exact ⟨⟨qs, e2, ok2 ok⟩, x.nin e nm⟩
/-- what the f-th def promises, told by C -/
def spD (K : FR) (mg : Str → Option Value) (CT : List ClI) (T : List FnI) (C : List D → Store → DK → EK → Prop) (n : Nat) : Sp := fun vs H Q E => ∃ m S ds Qd Ed, Rel K m S H ∧ Tbs K T m H ∧ RDs K m H ds vs ∧ ds.length = n ∧ C ds S Qd Ed ∧ Imp K m H Qd Q ∧
  ∀ i fs S' m' H' cls d, Ed i fs S' → Rel K m' S' H' → Ext m H m' H' → ExAt K mg CT m' H' i fs cls d → E cls d H'
/-- what is wished of an exception raised from m0, H0 on -/
def wishX (K : FR) (mg : Str → Option Value) (CT : List ClI) (m0 : List Addr) (H0 : Hp) (Ed : EK) : XK := fun cls d H => ∃ i fs S m, Ed i fs S ∧ Rel K m S H ∧ Ext m0 H0 m H ∧ ExAt K mg CT m H i fs cls d
/-- an __init__ that stores its parameters -/
def spI (K : FR) (C : Addr) (fs : List Str) : Sp := fun vs H Q _ => ∃ a ws, vs = .ref a :: ws ∧ ws.length = fs.length ∧ H a = some (exo a C none) ∧
  ∀ dx H', H dx = none → dx ≠ a → H' a = some (exo a C (some dx)) → H' dx = some (exd dx (fs.zip ws).reverse) → (∀ b, b ≠ a → b ≠ dx → H' b = H b) → Q .non H'
/-- what a caught exception of the class wants -/
structure ClX (K : FR) (C : Addr) (ci : ClI) : Prop where
  xf : XfC K C
  is_ : ExcC K C
  no : ∀ f ∈ ci.flds, PySem.W.findIn K (.ref C) f = some none
/-- whether an error of class C is one of y's -/
def KinAt (K : FR) (mg : Str → Option Value) (C : Addr) (y : Str) (b : Bool) : Prop := (∃ D, mg y = some (.ref D) ∧ PySem.W.kitOne K (.ref C) (.ref D) = some b) ∨ (y = "ValueError" ∧ mg y = none ∧ PySem.W.kitOne K (.ref C) (.type "ValueError") = some b)
structure TabOk (P : Program) (w : World) (K : FR) (mg : Str → Option Value) (base : Heap) (CT : List ClI) (k : Nat) (C : Nat → List D → Store → DK → EK → Prop) (T : List FnI) : Prop where
  fns : ∀ f i, T[f]? = some i → ∃ a fd, mg i.name = some (.ref a) ∧ PySem.W.keepIn K (.ref a) = true ∧ Binds K fd i.ps [] ∧
    (∀ n ks perm, (n, ks, perm) ∈ i.kws → KBn K fd i.ps n ks (fun us ws => perm.filterMap fun j => (us ++ ws)[j]?) (fun vs zs => perm.filterMap fun j => (vs ++ zs)[j]?)) ∧
    FnOk P w K mg base (L2.CX P w) (2 * k + 2) a fd i.ps (spD K mg CT T (C f) i.ps.length)
  cls : ∀ (i : Nat) (ci : ClI), CT[i]? = some ci → ∃ C fI fd ps, mg ci.name = some (.ref C) ∧ OexC K C ∧ ClX K C ci ∧ PySem.W.findIn K (.ref C) "__init__" = some (some (.ref fI)) ∧ PySem.W.typeIn K (.ref fI) = some (.type "function") ∧ Binds K fd ps [] ∧
    FnOk P w K mg base (L2.CX P w) 1 fI fd ps (spI K C ci.flds)
  bis : ∀ b, mg (biName b) = none
  exm : ∀ (i j : Nat) (ci cj : ClI) (Ci Cj : Addr), CT[i]? = some ci → CT[j]? = some cj → mg ci.name = some (.ref Ci) → mg cj.name = some (.ref Cj) → PySem.W.exmOne K (.ref Cj) (.ref Ci) = some (decide (j = i))
  anyall : mg "any" = none ∧ mg "all" = none
  others : mg "isinstance" = none ∧ mg "range" = none ∧ ∀ t, mg (Str.ofString (tyName t)) = none
  zips : mg "zip" = none ∧ mg "set" = none ∧ mg "enumerate" = none ∧ mg "dict" = none ∧ mg "repr" = none
  kin : ∀ (i : Nat) (ci : ClI) (Ca : Addr), CT[i]? = some ci → mg ci.name = some (.ref Ca) → ∀ (y : Str) (b : Bool), ci.kin.lookup y = some b → KinAt K mg Ca y b
structure Good (X : Cx) (c : Cxt) (C : CallH) (k : Nat) (m0 : List Addr) (H0 : Hp) : Prop where
  N : X.N = c.N
  nd : c.N.Nodup
  sc : X.env.scope = c.sc
  fn : ∀ x, c.fnc x = true → X.fn x = true
  calm : X.calm = true
  room : Room (2 * k + 2) X.A
  room3 : c.g = false → Room (2 * k + 3) X.A
  own : PassesOwn (model X.prog X.w) X.A X.env X.xe
  tab : TabOk X.prog X.w X.K X.mg X.base c.CT k C.go c.T
  tk : c.q = false → Takes X (fun cls d _ H => wishX X.K X.mg c.CT m0 H0 C.ex cls d H)
  tbs : Tbs X.K c.T m0 H0
  code : c.g = false → ∃ cc P, X.env.code = .ref cc ∧ GxR.TabB X.base X.mg cc P ∧ GxR.TabG H0 P ∧ P ∉ m0
  fr : c.q = false → X.stack = X.env :: X.outer ∧ X.env.frame = some X.env.locals

/-! ### weakening -/
section
variable {X : Cx}
theorem PE.imp {e : Expr} {t t' : TE} (h : PE X e t) (i : ∀ σ H Q, t' σ H Q → t σ H Q) : PE X e t' := ⟨fun p s σ H Q I q => h.run p s σ H Q I (i _ _ _ q)⟩
theorem PT.imp {e : Expr} {t t' : TT} (h : PT X e t) (i : ∀ σ H Q, t' σ H Q → t σ H Q) : PT X e t' := ⟨fun p s σ H Q I q => h.run p s σ H Q I (i _ _ _ q)⟩
theorem PA.imp {e : List Expr} {t t' : TA} (h : PA X e t) (i : ∀ σ H Q, t' σ H Q → t σ H Q) : PA X e t' := ⟨fun o p s σ H Q I q => h.run o p s σ H Q I (i _ _ _ q)⟩
theorem PO.imp {e : Option Expr} {t t' : TO} (h : PO X e t) (i : ∀ σ H Q, t' σ H Q → t σ H Q) : PO X e t' := ⟨fun p s σ H Q I q => h.run p s σ H Q I (i _ _ _ q)⟩
theorem PI.imp {g e : Expr} {t t' : TI} (h : PI X g e t) (i : ∀ σ H Q, t' σ H Q → t σ H Q) : PI X g e t' := ⟨fun p s σ H Q I q => h.run p s σ H Q I (i _ _ _ q)⟩
theorem PK.imp {e : List Keyword} {t t' : TA} (h : PK X e t) (i : ∀ σ H Q, t' σ H Q → t σ H Q) : PK X e t' := ⟨fun o p s σ H Q I q => h.run o p s σ H Q I (i _ _ _ q)⟩
theorem PG.imp {e : Expr} {t t' : TG} (h : PG X e t) (i : ∀ v σ H Q, t' v σ H Q → t v σ H Q) : PG X e t' := ⟨fun p s σ H v u Q I r q => h.run p s σ H v u Q I r (i _ _ _ _ q)⟩
theorem PGs.imp {e : List Expr} {t t' : TGs} (h : PGs X e t) (i : ∀ v σ H Q, t' v σ H Q → t v σ H Q) : PGs X e t' := ⟨fun p s σ H v u Q I r q => h.run p s σ H v u Q I r (i _ _ _ _ q)⟩
theorem PTs.imp {e : List Expr} {t t' : TT} (h : PTs X e t) (i : ∀ σ H Q, t' σ H Q → t σ H Q) : PTs X e t' := ⟨fun p s σ H Q I q => h.run p s σ H Q I (i _ _ _ q)⟩
theorem PS.imp {e : Stmt} {t t' : TS} (h : PS X e t) (i : ∀ D σ H, t' D σ H → t D σ H) : PS X e t' := ⟨fun p s σ H D I q => h.run p s σ H D I (i _ _ _ q)⟩
theorem PSs.imp {e : List Stmt} {t t' : TS} (h : PSs X e t) (i : ∀ D σ H, t' D σ H → t D σ H) : PSs X e t' := ⟨fun p s σ H D I q => h.run p s σ H D I (i _ _ _ q)⟩
end

/-! ### how readings compose -/
section
variable {K : FR} {m0 m : List Addr} {H0 H : Hp} {r : Rho} {S : Store} {σ : L2.St}
/-- run a part: what it hands on -/
theorem TrE.of (c : Cur K m0 H0 m r S σ H) {w : Rho → Store → DK → Prop} {Qd : DK} {Q : VK} (h : w r S Qd)
    (k : ∀ d S' v m' H', Qd d S' → Cur K m0 H0 m' r S' σ H' → Ext m H m' H' → RD K m' H' d v → Q v H') : TrE K m0 H0 w σ H Q :=
  ⟨m, r, S, Qd, c, h, fun d S' v m' H' q rel x rd => k d S' v m' H' q (c.move rel x) x rd⟩
theorem TrT.of (c : Cur K m0 H0 m r S σ H) {w : Rho → Store → (Bool → Store → Prop) → Prop} {Qd : Bool → Store → Prop} {Q : Bool → Hp → Prop} (h : w r S Qd)
    (k : ∀ b S' m' H', Qd b S' → Cur K m0 H0 m' r S' σ H' → Ext m H m' H' → Q b H') : TrT K m0 H0 w σ H Q :=
  ⟨m, r, S, Qd, c, h, fun b S' m' H' q rel x => k b S' m' H' q (c.move rel x) x⟩
theorem TrA.of (c : Cur K m0 H0 m r S σ H) {n : Nat} {w : Rho → Store → (List D → Store → Prop) → Prop} {Qd : List D → Store → Prop} {Q : List V → Hp → Prop} (h : w r S Qd)
    (k : ∀ d S' v m' H', Qd d S' → Cur K m0 H0 m' r S' σ H' → Ext m H m' H' → RDs K m' H' d v → d.length = n → Q v H') : TrA K m0 H0 n w σ H Q :=
  ⟨m, r, S, Qd, c, h, fun d S' v m' H' q rel x rd l => k d S' v m' H' q (c.move rel x) x rd l⟩
theorem TrO.of (c : Cur K m0 H0 m r S σ H) {w : Rho → Store → (Option Int → Store → Prop) → Prop} {Qd : Option Int → Store → Prop} {Q : Option Int → Hp → Prop} (h : w r S Qd)
    (k : ∀ b S' m' H', Qd b S' → Cur K m0 H0 m' r S' σ H' → Ext m H m' H' → Q b H') : TrO K m0 H0 w σ H Q :=
  ⟨m, r, S, Qd, c, h, fun b S' m' H' q rel x => k b S' m' H' q (c.move rel x) x⟩
theorem Imp.back {m' : List Addr} {H' : Hp} {Qd : DK} {Q : VK} (q : Imp K m H Qd Q) (x : Ext m H m' H') : Imp K m' H' Qd Q := fun d S' v m2 H2 h rel y rd => q d S' v m2 H2 h rel (x.trans y) rd
end
end Ev
set_option Elab.async false
set_option linter.all false
set_option maxRecDepth 100000
set_option maxHeartbeats 4000000
namespace Ev
open PySem PySem.Spec PyProof.Rows L2

/-! ## soundness, part by part -/
theorem and2 {a b : Bool} (h : (a && b) = true) : a = true ∧ b = true := by simpa using h
theorem Cxt.glb_ok {X : Cx} {c : Cxt} (hs : X.env.scope = c.sc) {x : Str} (h : c.glb x = true) : Gl X x ∧ (x == ("__debug__" : Str)) = false := by
  obtain ⟨h1, h2⟩ := and2 h
  refine ⟨?_, by simpa using h2⟩
  unfold Gl Env.kindOf
  rw [hs]
  cases q : c.kind x with
  | none => rw [q] at h1; cases h1
  | some k =>
    rw [q] at h1
    cases k <;> first
      | (cases h1; done)
      | exact q
theorem Cxt.vis_ok {X : Cx} {c : Cxt} (hN : X.N = c.N) (hs : X.env.scope = c.sc) {i : Nat} {x : Str} (h : c.vis i x = true) :
    X.N[i]? = some x ∧ Vis X.env.scope x ∧ (x == ("__debug__" : Str)) = false ∧ (x == ("__classdict__" : Str)) = false := by
  obtain ⟨h1, h2⟩ := and2 h
  obtain ⟨h2, h3⟩ := and2 h2
  obtain ⟨h3, h4⟩ := and2 h3
  refine ⟨by rw [hN]; exact of_decide_eq_true h1, ?_, by simpa using h3, by simpa using h4⟩
  rw [hs]
  unfold Vis
  cases q : c.kind x with
  | none => rw [q] at h2; cases h2
  | some k =>
    rw [q] at h2
    cases k <;> first
      | (cases h2; done)
      | exact .inl q
      | exact .inr (.inl q)
      | exact .inr (.inr q)
theorem Cxt.loc_ok {X : Cx} {c : Cxt} (hN : X.N = c.N) (hs : X.env.scope = c.sc) (hf : ∀ x, c.fnc x = true → X.fn x = true) {i : Nat} {x : Str} (h : c.loc i x = true) :
    X.N[i]? = some x ∧ Loc X.env.scope x ∧ (X.fn x = true ∨ X.env.scope.names.lookup x = some .local) := by
  obtain ⟨h1, h2⟩ := and2 h
  refine ⟨by rw [hN]; exact of_decide_eq_true h1, ?_⟩
  rw [hs]
  cases q : c.kind x with
  | none => rw [q] at h2; cases h2
  | some k =>
    rw [q] at h2
    cases k <;> first
      | (cases h2; done)
      | exact ⟨.inl q, .inr q⟩
      | exact ⟨.inr q, .inl (hf x h2)⟩
theorem star_of {e : Expr} {es : List Expr} {env : Env} (h : ∀ v p, e ≠ .Starred v p) : starEach (e :: es) env = (false, eval e env) :: starEach es env := by
  cases e <;> first
    | rfl
    | exact absurd rfl (h _ _)
theorem noStar {es : List Expr} {env : Env} (h : ∀ e ∈ es, ∀ v p, e ≠ .Starred v p) (pos : Pos) : (backTo pos (starEach es env)).any (·.1) = false := by
  induction es with
  | nil => rfl
  | cons e es ih =>
    rw [star_of (h e List.mem_cons_self)]
    show (false || (backTo pos (starEach es env)).any (·.1)) = false
    rw [ih fun e' he => h e' (List.mem_cons_of_mem _ he)]
    rfl
theorem mE_star : ∀ (e : E) {c : Cxt} {a : Expr}, mE e c a = true → ∀ v p, a ≠ .Starred v p := by
  intro e c a h v p z
  subst z
  cases e <;> first
    | (cases h; done)
    | (exact Bool.noConfusion (and2 h).2)
    | (exact Bool.noConfusion (and2 (and2 h).2).2)
theorem mEs_star : ∀ (es : Es) {c : Cxt} {l : List Expr}, mEs es c l = true → ∀ e ∈ l, ∀ v p, e ≠ .Starred v p
  | .nil, _, l, h => by
    cases l with
    | nil => intro e he; cases he
    | cons _ _ => cases h
  | .cons e r, c, l, h => by
    cases l with
    | nil => intro e he; cases he
    | cons p ps =>
      obtain ⟨h1, h2⟩ := and2 (show (mE e c p && mEs r c ps) = true from h)
      intro e' he
      rcases List.mem_cons.mp he with z | z
      · rw [z]; exact mE_star e h1
      · exact mEs_star r h2 e' z
theorem mEs_len : ∀ (es : Es) {c : Cxt} {l : List Expr}, mEs es c l = true → l.length = lenEs es
  | .nil, _, l, h => by
    cases l with
    | nil => rfl
    | cons _ _ => cases h
  | .cons e r, c, l, h => by
    cases l with
    | nil => cases h
    | cons p ps =>
      obtain ⟨h1, h2⟩ := and2 (show (mE e c p && mEs r c ps) = true from h)
      show ps.length + 1 = lenEs r + 1
      rw [mEs_len r h2]

section
variable {X : Cx} {c : Cxt} {C : CallH} {k : Nat} {m0 : List Addr} {H0 : Hp}
theorem s_var {i : Nat} {a : Expr} (G : Good X c C k m0 H0) (h : mE (.var i) c a = true) : PE X a (TrE X.K m0 H0 (wpE C (.var i))) := by
  cases a <;> first
    | (cases h; done)
    | skip
  rename_i x pos
  obtain ⟨h1, h2, h3, h4⟩ := c.vis_ok G.N G.sc (show c.vis i x = true from h)
  refine PE.imp (pe_var h1 h2 h3 h4) fun σ H Q ⟨m, r, S, Qd, cu, w, q⟩ => ?_
  obtain ⟨d, e, w⟩ := w
  obtain ⟨v, e1, e2⟩ := cu.loc i d e
  exact ⟨v, e1, q.here cu.rel w e2⟩
theorem s_cst {n : Cst} {a : Expr} (h : mE (.cst n) c a = true) : PE X a (TrE X.K m0 H0 (wpE C (.cst n))) := by
  cases a <;> first
    | (cases h; done)
    | skip
  rename_i v j pos
  have h : cstIs n v = true := h
  cases n <;> cases v <;> first
    | (simp [cstIs] at h; done)
    | skip
  · exact PE.imp pe_non fun σ H Q ⟨m, r, S, Qd, cu, w, q⟩ => q.here cu.rel w .non
  · obtain rfl := (show _ = _ by simpa [cstIs] using h)
    exact PE.imp pe_bl fun σ H Q ⟨m, r, S, Qd, cu, w, q⟩ => q.here cu.rel w (.bl _)
  · obtain rfl := (show _ = _ by simpa [cstIs] using h)
    exact PE.imp pe_int fun σ H Q ⟨m, r, S, Qd, cu, w, q⟩ => q.here cu.rel w (.int _)
  · obtain rfl := (show _ = _ by simpa [cstIs] using h)
    exact PE.imp pe_str fun σ H Q ⟨m, r, S, Qd, cu, w, q⟩ => q.here cu.rel w (.str _)
theorem opIs_eq {o : Operator} {op : Bop} (h : opIs o op = true) : o = opOf op := by
  cases o <;> cases op <;> first
    | rfl
    | (simp [opIs, ofOp, bopEq] at h)
theorem copIs_eq {o : CmpOp} {op : Cop} (h : copIs o op = true) : o = copOf op := by
  cases o <;> cases op <;> first
    | rfl
    | (simp [copIs] at h)
/-- two parts, then an operation on the values -/
theorem two {wa wb : Rho → Store → DK → Prop} {wo : D → D → Store → DK → Prop} {ro : R2}
    (ho : ∀ {m S H x y xv yv Qd Q}, Rel X.K m S H → RD X.K m H x xv → RD X.K m H y yv → wo x y S Qd → Imp X.K m H Qd Q → ro xv yv H Q)
    {σ : L2.St} {H : Hp} {Q : VK} (h : TrE X.K m0 H0 (fun r S Q => wa r S fun x S1 => wb r S1 fun y S2 => wo x y S2 Q) σ H Q) : tOp ro (TrE X.K m0 H0 wa) (TrE X.K m0 H0 wb) σ H Q := by
  obtain ⟨m, r, S, Qd, cu, w, q⟩ := h
  refine TrE.of cu w fun x S1 xv m1 H1 w1 cu1 x1 rx => TrE.of cu1 w1 fun y S2 yv m2 H2 w2 cu2 x2 ry => ?_
  exact ho cu2.rel (rx.mono x2 cu1.rel) ry w2 (q.back (x1.trans x2))
theorem s_bin {op : Bop} {x y : E} {p q : Expr} {o : Operator} {pos : Pos} (ho : opIs o op = true) (hx : PE X p (TrE X.K m0 H0 (wpE C x))) (hy : PE X q (TrE X.K m0 H0 (wpE C y))) :
    PE X (.BinOp p o q pos) (TrE X.K m0 H0 (wpE C (.bin op x y))) := by
  rw [opIs_eq ho]
  exact PE.imp (pe_op (op_bin op) hx hy) fun σ H Q h => two (fun r rx ry w q => bin_r op r rx ry w q) h
theorem UnR.or {X : Cx} {f : Value → Sem Value} {r1 r2 : V → Hp → VK → Prop} (a : UnR X f r1) (b : UnR X f r2) : UnR X f (fun x H Q => r1 x H Q ∨ r2 x H Q) := fun pins s σ H x v Q I rx h => h.elim (a pins s σ H x v Q I rx) (b pins s σ H x v Q I rx)
theorem s_neg {x : E} {p : Expr} {pos : Pos} (hx : PE X p (TrE X.K m0 H0 (wpE C x))) : PE X (.UnaryOp .USub p pos) (TrE X.K m0 H0 (wpE C (.neg x))) := by
  refine PE.imp (pe_un (UnR.or un_neg un_negB) hx) fun σ H Q ⟨m, r, S, Qd, cu, w, q⟩ => TrE.of cu w fun d S1 v m1 H1 w1 cu1 x1 rx => ?_
  cases rx with
  | int i => exact .inl ⟨i, rfl, (q.back x1).here cu1.rel w1 (.int _)⟩
  | bl b => exact .inr ⟨b, rfl, (q.back x1).here cu1.rel w1 (.int _)⟩
  | _ => exact (show False from w1).elim
theorem hu65 (G : Good X c C k m0 H0) : X.A.units + 65 < cLine := by have := G.room.un; omega
theorem s_cmp {op : Cop} {x y : E} {p q : Expr} {o : CmpOp} {pos : Pos} (G : Good X c C k m0 H0) (ho : copIs o op = true) (hm : behindInMarks o q = false) (hx : PE X p (TrE X.K m0 H0 (wpE C x))) (hy : PE X q (TrE X.K m0 H0 (wpE C y))) :
    PE X (.Compare p [o] [q] pos) (TrE X.K m0 H0 (wpE C (.cmp op x y))) := by
  have e := copIs_eq ho
  subst e
  exact PE.imp (pe_cmpR (op_cmp (hu65 G) op) hx hy hm) fun σ H Q h => two (fun r rx ry w q => cmp_r op r rx ry w q) h
theorem TrT.ofE {w : Rho → Store → DK → Prop} {t : TE} {σ : L2.St} {H : Hp} {Q : Bool → Hp → Prop}
    (h : TrT X.K m0 H0 (fun r S Q => w r S fun x S1 => ∃ b, truth S1 x = some b ∧ Q b S1) σ H Q)
    (i : ∀ Q', TrE X.K m0 H0 w σ H Q' → t σ H Q') : t σ H fun x H' => ∃ k, TruV X.K x H' k ∧ Q k H' := by
  obtain ⟨m, r, S, Qd, cu, wr, q⟩ := h
  refine i _ (TrE.of cu wr fun d S1 v m1 H1 w1 cu1 x1 rx => ?_)
  obtain ⟨b, e, w1⟩ := w1
  exact ⟨b, truth_r cu1.rel rx e, q b S1 m1 H1 w1 cu1.rel x1⟩
theorem s_test {e : E} {a : Expr} (h : PE X a (TrE X.K m0 H0 (wpE C e))) (hp : plainTest a = true) (hw : wpT C e = (dfl (wpE C e)).t) :
    PT X a (TrT X.K m0 H0 (wpT C e)) := by
  refine PT.imp (pt_truth h ?_) fun σ H Q ⟨m, r, S, Qd, cu, w, q⟩ => TrT.ofE ⟨m, r, S, Qd, cu, (by rw [hw] at w; exact w), q⟩ fun Q' z => z
  intro whole
  cases a <;> first
    | rfl
    | (rename_i op _ _; cases op <;> first
        | rfl
        | (simp [plainTest] at hp))
    | (simp [plainTest] at hp)
theorem tTest_of {t : TE} {σ : L2.St} {H : Hp} {Q : Bool → Hp → Prop} {w : Rho → Store → DK → Prop} (hb : ∀ r S (Q : Bool → Store → Prop), w r S (fun x S1 => ∃ b, truth S1 x = some b ∧ Q b S1) → w r S fun x S1 => ∃ b, x = .bl b ∧ Q b S1)
    (h : TrT X.K m0 H0 (fun r S Q => w r S fun x S1 => ∃ b, truth S1 x = some b ∧ Q b S1) σ H Q) (i : ∀ Q', TrE X.K m0 H0 w σ H Q' → t σ H Q') : tTest t σ H Q := by
  obtain ⟨m, r, S, Qd, cu, wr, q⟩ := h
  refine i _ (TrE.of cu (hb _ _ _ wr) fun d S1 v m1 H1 w1 cu1 x1 rx => ?_)
  obtain ⟨b, rfl, w1⟩ := w1
  cases rx
  exact ⟨b, rfl, q b S1 m1 H1 w1 cu1.rel x1⟩
theorem wpCmp_bl {op : Cop} {x y : D} {S : Store} {Q : Bool → Store → Prop} (h : wpCmp op x y S fun z S1 => ∃ b, truth S1 z = some b ∧ Q b S1) : wpCmp op x y S fun z S1 => ∃ b, z = .bl b ∧ Q b S1 := by
  have key : ∀ {b S}, (∃ b', truth S (.bl b) = some b' ∧ Q b' S) → ∃ b', D.bl b = .bl b' ∧ Q b' S := fun {b S} ⟨b', e, q⟩ => by
    cases e
    exact ⟨_, rfl, q⟩
  cases op with
  | eq => obtain ⟨d, e, h1, h2, h3, h4, h5⟩ := h; exact ⟨d, e, h1, h2, h3, h4, key h5⟩
  | ne => obtain ⟨d, e, h1, h2, h3, h4, h5⟩ := h; exact ⟨d, e, h1, h2, h3, h4, key h5⟩
  | lt =>
    rcases h with ⟨i, j, h1, h2, h⟩ | ⟨a, b, h1, h2, h⟩
    · exact .inl ⟨i, j, h1, h2, key h⟩
    · exact .inr ⟨a, b, h1, h2, key h⟩
  | le =>
    rcases h with ⟨i, j, h1, h2, h⟩ | ⟨a, b, h1, h2, h⟩
    · exact .inl ⟨i, j, h1, h2, key h⟩
    · exact .inr ⟨a, b, h1, h2, key h⟩
  | gt =>
    rcases h with ⟨i, j, h1, h2, h⟩ | ⟨a, b, h1, h2, h⟩
    · exact .inl ⟨i, j, h1, h2, key h⟩
    · exact .inr ⟨a, b, h1, h2, key h⟩
  | ge =>
    rcases h with ⟨i, j, h1, h2, h⟩ | ⟨a, b, h1, h2, h⟩
    · exact .inl ⟨i, j, h1, h2, key h⟩
    · exact .inr ⟨a, b, h1, h2, key h⟩
  | is => cases y <;> first
    | exact (show False from h).elim
    | exact key h
    | (obtain ⟨a, e, h⟩ := h; exact ⟨a, e, key h⟩)
  | isnot => cases y <;> first
    | exact (show False from h).elim
    | exact key h
    | (obtain ⟨a, e, h⟩ := h; exact ⟨a, e, key h⟩)
  | inn => obtain ⟨d, e, ds, h1, h2, h3, h4, h5, h6⟩ := h; exact ⟨d, e, ds, h1, h2, h3, h4, h5, key h6⟩
  | notin => obtain ⟨d, e, ds, h1, h2, h3, h4, h5, h6⟩ := h; exact ⟨d, e, ds, h1, h2, h3, h4, h5, key h6⟩
end
end Ev
set_option Elab.async false
set_option linter.all false
set_option maxRecDepth 100000
set_option maxHeartbeats 4000000
namespace Ev
open PySem PySem.Spec PyProof.Rows L2
section
variable {X : Cx} {c : Cxt} {C : CallH} {k : Nat} {m0 : List Addr} {H0 : Hp}
abbrev SE (X : Cx) (C : CallH) (m0 : List Addr) (H0 : Hp) (e : E) (a : Expr) : Prop := PE X a (TrE X.K m0 H0 (wpE C e))
abbrev STt (X : Cx) (C : CallH) (m0 : List Addr) (H0 : Hp) (e : E) (a : Expr) : Prop := PT X a (TrT X.K m0 H0 (wpT C e))
theorem s_andv {x y : E} {p q : Expr} {r : List Expr} {pos : Pos} (hx : SE X C m0 H0 x p) (hy : PE X (.BoolOp .And (q :: r) pos) (TrE X.K m0 H0 (wpE C y))) : SE X C m0 H0 (.and x y) (.BoolOp .And (p :: q :: r) pos) := by
  refine PE.imp (pe_and hx hy) fun σ H Q ⟨m, r, S, Qd, cu, w, q⟩ => TrE.of cu w fun d S1 v m1 H1 w1 cu1 x1 rx => ?_
  obtain ⟨b, rfl, w1⟩ := w1
  cases rx
  refine ⟨b, rfl, ?_⟩
  cases b with
  | true => exact iteT ⟨m1, _, S1, Qd, cu1, w1, q.back x1⟩
  | false => exact iteF ((q.back x1).here cu1.rel w1 (.bl _))
theorem s_orv {x y : E} {p q : Expr} {r : List Expr} {pos : Pos} (hx : SE X C m0 H0 x p) (hy : PE X (.BoolOp .Or (q :: r) pos) (TrE X.K m0 H0 (wpE C y))) : SE X C m0 H0 (.or x y) (.BoolOp .Or (p :: q :: r) pos) := by
  refine PE.imp (pe_or hx hy) fun σ H Q ⟨m, r, S, Qd, cu, w, q⟩ => TrE.of cu w fun d S1 v m1 H1 w1 cu1 x1 rx => ?_
  obtain ⟨b, rfl, w1⟩ := w1
  cases rx
  refine ⟨b, rfl, ?_⟩
  cases b with
  | false => exact iteF ⟨m1, _, S1, Qd, cu1, w1, q.back x1⟩
  | true => exact iteT ((q.back x1).here cu1.rel w1 (.bl _))
theorem s_notv {x : E} {p : Expr} {pos : Pos} (hx : SE X C m0 H0 x p) : SE X C m0 H0 (.not x) (.UnaryOp .Not p pos) := by
  refine PE.imp (pe_not hx) fun σ H Q ⟨m, r, S, Qd, cu, w, q⟩ => TrE.of cu w fun d S1 v m1 H1 w1 cu1 x1 rx => ?_
  obtain ⟨b, rfl, w1⟩ := w1
  cases rx
  exact ⟨b, rfl, (q.back x1).here cu1.rel w1 (.bl _)⟩
theorem s_andt {x y : E} {p q : Expr} {r : List Expr} {pos : Pos} (hx : STt X C m0 H0 x p) (hy : PW X (.BoolOp .And (q :: r) pos) (TrT X.K m0 H0 (wpT C y))) : PW X (.BoolOp .And (p :: q :: r) pos) (TrT X.K m0 H0 (wpT C (.and x y))) := by
  refine ⟨fun wh pins s σ H Q I h => (pw_and hx hy).run wh pins s σ H Q I ?_⟩
  obtain ⟨m, r, S, Qd, cu, w, q⟩ := h
  refine TrT.of cu w fun b S1 m1 H1 w1 cu1 x1 => ?_
  cases b with
  | true => exact iteT ⟨m1, _, S1, Qd, cu1, w1, fun b S2 m2 H2 h rel y => q b S2 m2 H2 h rel (x1.trans y)⟩
  | false => exact iteF (q false S1 m1 H1 w1 cu1.rel x1)
theorem s_ort {x y : E} {p q : Expr} {r : List Expr} {pos : Pos} (hx : STt X C m0 H0 x p) (hy : PW X (.BoolOp .Or (q :: r) pos) (TrT X.K m0 H0 (wpT C y))) : PW X (.BoolOp .Or (p :: q :: r) pos) (TrT X.K m0 H0 (wpT C (.or x y))) := by
  refine ⟨fun wh pins s σ H Q I h => (pw_or hx hy).run wh pins s σ H Q I ?_⟩
  obtain ⟨m, r, S, Qd, cu, w, q⟩ := h
  refine TrT.of cu w fun b S1 m1 H1 w1 cu1 x1 => ?_
  cases b with
  | false => exact iteF ⟨m1, _, S1, Qd, cu1, w1, fun b S2 m2 H2 h rel y => q b S2 m2 H2 h rel (x1.trans y)⟩
  | true => exact iteT (q true S1 m1 H1 w1 cu1.rel x1)
theorem s_nott {x : E} {p : Expr} {pos : Pos} (hx : STt X C m0 H0 x p) : STt X C m0 H0 (.not x) (.UnaryOp .Not p pos) :=
  PT.imp (pt_not hx) fun σ H Q ⟨m, r, S, Qd, cu, w, q⟩ => TrT.of cu w fun b S1 m1 H1 w1 cu1 x1 => q (!b) S1 m1 H1 w1 cu1.rel x1
theorem s_ite {t x y : E} {p q r : Expr} {pos : Pos} (ht : STt X C m0 H0 t p) (hx : SE X C m0 H0 x q) (hy : SE X C m0 H0 y r) : SE X C m0 H0 (.ite t x y) (.IfExp p q r pos) := by
  refine PE.imp (pe_ifExp ht hx hy) fun σ H Q ⟨m, r, S, Qd, cu, w, q⟩ => TrT.of cu w fun b S1 m1 H1 w1 cu1 x1 => ?_
  cases b with
  | true => exact iteT ⟨m1, _, S1, Qd, cu1, w1, q.back x1⟩
  | false => exact iteF ⟨m1, _, S1, Qd, cu1, w1, q.back x1⟩
theorem s_chain {o1 o2 : Cop} {x y z : E} {p q r : Expr} {k1 k2 : CmpOp} {pos : Pos} (G : Good X c C k m0 H0) (h1 : copIs k1 o1 = true) (h2 : copIs k2 o2 = true) (hm : lastMarks [k1, k2] [q, r] = false) (hx : SE X C m0 H0 x p) (hy : SE X C m0 H0 y q) (hz : SE X C m0 H0 z r) :
    SE X C m0 H0 (.chain o1 o2 x y z) (.Compare p [k1, k2] [q, r] pos) := by
  have e1 := copIs_eq h1
  have e2 := copIs_eq h2
  subst e1 e2
  refine PE.imp (pe_chain (op_cmp (hu65 G) o1) (op_cmp (hu65 G) o2) hx hy hz hm) fun σ H Q ⟨m, r, S, Qd, cu, w, q⟩ => TrE.of cu w fun x S1 xv m1 H1 w1 cu1 x1 rx => TrE.of cu1 w1 fun y S2 yv m2 H2 w2 cu2 x2 ry => ?_
  refine cmp_r o1 cu2.rel (rx.mono x2 cu1.rel) ry w2 fun d S3 v m3 H3 w3 rel3 x3 rd => ?_
  obtain ⟨b, rfl, w3⟩ := w3
  cases rd
  refine ⟨b, rfl, ?_⟩
  have cu3 := cu2.move rel3 x3
  have q3 := q.back ((x1.trans x2).trans x3)
  cases b with
  | false => exact iteF (q3.here cu3.rel w3 (.bl _))
  | true => exact iteT (TrE.of cu3 w3 fun z S4 zv m4 H4 w4 cu4 x4 rz => cmp_r o2 cu4.rel (ry.mono (x3.trans x4) cu2.rel) rz w4 (q3.back x4))
/-! displays, calls -/
abbrev SA (X : Cx) (C : CallH) (m0 : List Addr) (H0 : Hp) (es : Es) (l : List Expr) : Prop := PA X l (TrA X.K m0 H0 (lenEs es) (wpEs C es))
theorem a_nil : SA X C m0 H0 .nil [] := PA.imp pa_nil fun σ H Q ⟨m, r, S, Qd, cu, w, q⟩ => q [] S [] m H w cu.rel .refl .nil rfl
theorem a_cons {e : E} {es : Es} {p : Expr} {l : List Expr} (hp : ∀ v o, p ≠ .Starred v o) (he : SE X C m0 H0 e p) (hs : SA X C m0 H0 es l) : SA X C m0 H0 (.cons e es) (p :: l) := by
  refine PA.imp (pa_cons he hs (star_of hp)) fun σ H Q ⟨m, r, S, Qd, cu, w, q⟩ => TrE.of cu w fun d S1 v m1 H1 w1 cu1 x1 rd => TrA.of cu1 w1 fun ds S2 vs m2 H2 w2 cu2 x2 rs hl => ?_
  exact q (d :: ds) S2 (v :: vs) m2 H2 w2 cu2.rel (x1.trans x2) (.cons (rd.mono x2 cu1.rel) rs) (congrArg (· + 1) hl)
theorem few_ok {n : Nat} (h : n < 29) : n ≤ sizeLine := by rw [sizeLine_eq]; omega
theorem s_tup {es : Es} {l : List Expr} {n : Nat} {pos : Pos} (h : SA X C m0 H0 es l) (hz : lenEs es < 1000) : SE X C m0 H0 (.tup es) (.Tuple l n pos) := by
  refine PE.imp (pe_tup h) fun σ H Q ⟨m, r, S, Qd, cu, w, q⟩ => TrA.of cu w fun ds S1 vs m1 H1 w1 cu1 x1 rs hl => ?_
  exact ⟨by rw [← rs.length, hl, sizeLine_eq]; omega, (q.back x1).newT cu1.rel rs w1⟩
theorem s_lst {es : Es} {l : List Expr} {pos : Pos} (h : SA X C m0 H0 es l) (hz : lenEs es < 1000) : SE X C m0 H0 (.lst es) (.List l pos) := by
  refine PE.imp (pe_lst h) fun σ H Q ⟨m, r, S, Qd, cu, w, q⟩ => TrA.of cu w fun ds S1 vs m1 H1 w1 cu1 x1 rs hl => ?_
  exact ⟨by rw [← rs.length, hl, sizeLine_eq]; omega, (q.back x1).newL cu1.rel rs w1⟩
theorem s_idx {x y : E} {p q : Expr} {pos : Pos} (hn : notSlice q = true) (hx : SE X C m0 H0 x p) (hy : SE X C m0 H0 y q) : SE X C m0 H0 (.idx x y) (.Subscript p q pos) := by
  refine PE.imp (pe_ix ix_seq hx hy ?_) fun σ H Q ⟨m, r, S, Qd, cu, w, q⟩ => TrE.of cu w fun x S1 xv m1 H1 w1 cu1 x1 rx => TrE.of cu1 w1 fun y S2 yv m2 H2 w2 cu2 x2 ry => ?_
  · intro o i
    cases q <;> first
      | rfl
      | (simp [notSlice] at hn)
  · obtain ⟨l, e1, i, rfl, d, e2, w2⟩ := w2
    cases ry
    exact idx_r cu2.rel (rx.mono x2 cu1.rel) e1 e2 w2 (q.back (x1.trans x2))
abbrev SO (X : Cx) (C : CallH) (m0 : List Addr) (H0 : Hp) (e : Eo) (a : Option Expr) : Prop := PO X a (TrO X.K m0 H0 (wpEo C e))
theorem o_none : SO X C m0 H0 .none none := PO.imp po_none fun σ H Q ⟨m, r, S, Qd, cu, w, q⟩ => q none S m H w cu.rel .refl
theorem o_some {e : E} {p : Expr} (h : SE X C m0 H0 e p) : SO X C m0 H0 (.some e) (some p) := by
  refine PO.imp (po_some h) fun σ H Q ⟨m, r, S, Qd, cu, w, q⟩ => TrE.of cu w fun d S1 v m1 H1 w1 cu1 x1 rd => ?_
  obtain ⟨i, rfl, w1⟩ := w1
  cases rd
  exact ⟨i, rfl, q (some i) S1 m1 H1 w1 cu1.rel x1⟩
theorem sl_any : SlR X (rSl X.K) := SlR.or sl_tupA (SlR.or sl_list sl_str)
theorem s_slc {x : E} {lo hi : Eo} {p : Expr} {l h : Option Expr} {p2 pos : Pos} (hx : SE X C m0 H0 x p) (hl : SO X C m0 H0 lo l) (hh : SO X C m0 H0 hi h) : SE X C m0 H0 (.slc x lo hi) (.Subscript p (.Slice l h none p2) pos) := by
  refine PE.imp (pe_slice sl_any hx hl hh) fun σ H Q ⟨m, r, S, Qd, cu, w, q⟩ => TrE.of cu w fun x S1 xv m1 H1 w1 cu1 x1 rx => TrO.of cu1 w1 fun a S2 m2 H2 w2 cu2 x2 => TrO.of cu2 w2 fun b S3 m3 H3 w3 cu3 x3 => ?_
  exact slc_r cu3.rel (rx.mono (x2.trans x3) cu1.rel) w3 (q.back ((x1.trans x2).trans x3))
theorem RDs.reverse {K : FR} {m : List Addr} {H : Hp} : ∀ {l : List D} {vs : List V}, RDs K m H l vs → RDs K m H l.reverse vs.reverse
  | _, _, .nil => .nil
  | _, _, .cons h r => by
    rw [List.reverse_cons, List.reverse_cons]
    exact (RDs.reverse r).app (.cons h .nil)
theorem s_rev {x : E} {p : Expr} {k : Nat} {p1 p2 p3 pos : Pos} (hx : SE X C m0 H0 x p) : SE X C m0 H0 (.rev x) (.Subscript p (.Slice none none (some (.UnaryOp .USub (.Constant (.int 1) k p1) p2)) p3) pos) := by
  refine PE.imp (pe_revT hx) fun σ H Q ⟨m, r, S, Qd, cu, w, q⟩ => TrE.of cu w fun x S1 xv m1 H1 w1 cu1 x1 rx => ?_
  obtain ⟨l, rfl, w1⟩ := w1
  cases rx with
  | tup hs rs => exact ⟨_, _, rfl, hs, (q.back x1).newT cu1.rel rs.reverse w1⟩
theorem spD_len {K : FR} {mg : Str → Option Value} {CT : List ClI} {T : List FnI} {C : List D → Store → DK → EK → Prop} {n : Nat} {vs : List V} {H : Hp} {Q : VK} {E : XK} (h : spD K mg CT T C n vs H Q E) : vs.length = n := by
  obtain ⟨m, S, ds, Qd, Ed, _, _, rs, hl, _⟩ := h
  rw [← rs.length]; exact hl
/-- a callee that lets nothing out -/
theorem passN {X : Cx} : Passes (L2.CX X.prog X.w) X E0 := fun _ _ _ _ _ _ _ h => by
  obtain ⟨_, _, _, _, _, _, _, _, _, _, _, _, z⟩ := h
  exact z.elim
theorem s_call0 {f : Nat} {x : Str} {p pos : Pos} {i : FnI} (G : Good X c C k m0 H0) (hg : c.glb x = true) (hi : c.T[f]? = some i) (hx : i.name = x) (hl : i.ps.length = 0) : SE X C m0 H0 (.call f .nil) (.Call (.Name x p) [] [] pos) := by
  obtain ⟨g1, g2⟩ := c.glb_ok G.sc hg
  obtain ⟨a, fd, ha, hk, hb, _, ho⟩ := G.tab.fns f i hi
  rw [hx] at ha
  exact PE.imp (pe_call0 ho G.room g1 ha hk hb .nil passN g2) fun σ H Q ⟨m, r, S, Qd, cu, w, q⟩ => ⟨m, S, [], Qd, noE, cu.rel, G.tbs.mono cu.ext, .nil, hl.symm, w, q, fun _ _ _ _ _ _ _ z => z.elim⟩
theorem s_call {f : Nat} {es : Es} {x : Str} {e : Expr} {l : List Expr} {p pos : Pos} {i : FnI} (G : Good X c C k m0 H0) (hg : c.glb x = true) (hi : c.T[f]? = some i) (hx : i.name = x) (hn : i.ps.length = lenEs es) (hst : ∀ a ∈ e :: l, ∀ v o, a ≠ .Starred v o) (hs : SA X C m0 H0 es (e :: l)) :
    SE X C m0 H0 (.call f es) (.Call (.Name x p) (e :: l) [] pos) := by
  obtain ⟨g1, g2⟩ := c.glb_ok G.sc hg
  obtain ⟨a, fd, ha, hk, hb, _, ho⟩ := G.tab.fns f i hi
  rw [hx] at ha
  refine PE.imp (pe_call ho G.room g1 ha hk hb .nil passN hs g2 (star_of (hst e List.mem_cons_self)) (noStar (fun e' he => hst e' (List.mem_cons_of_mem _ he)) pos)) fun σ H Q ⟨m, r, S, Qd, cu, w, q⟩ =>
    TrA.of cu w fun ds S1 vs m1 H1 w1 cu1 x1 rs hl => ?_
  rw [List.append_nil]
  exact ⟨m1, S1, ds, Qd, noE, cu1.rel, G.tbs.mono cu1.ext, rs, hl.trans hn.symm, w1, q.back x1, fun _ _ _ _ _ _ _ z => z.elim⟩
/-- a call that may raise -/
theorem passX {W : XK} (tk : Takes X (fun cls d _ H => W cls d H)) : Passes (L2.CX X.prog X.w) X W := passes_call tk fun _ _ _ _ h => h
theorem s_callX0 {f : Nat} {x : Str} {p pos : Pos} {i : FnI} (G : Good X c C k m0 H0) (hq : c.q = false) (hg : c.glb x = true) (hi : c.T[f]? = some i) (hx : i.name = x) (hl : i.ps.length = 0) : SE X C m0 H0 (.callX f .nil) (.Call (.Name x p) [] [] pos) := by
  obtain ⟨g1, g2⟩ := c.glb_ok G.sc hg
  obtain ⟨a, fd, ha, hk, hb, _, ho⟩ := G.tab.fns f i hi
  rw [hx] at ha
  exact PE.imp (pe_call0 ho G.room g1 ha hk hb .nil (passX (G.tk hq)) g2) fun σ H Q ⟨m, r, S, Qd, cu, w, q⟩ => ⟨m, S, [], Qd, C.ex, cu.rel, G.tbs.mono cu.ext, .nil, hl.symm, w, q, fun i fs S' m' H' cls d z rel x e => ⟨i, fs, S', m', z, rel, cu.ext.trans x, e⟩⟩
theorem s_callX {f : Nat} {es : Es} {x : Str} {e : Expr} {l : List Expr} {p pos : Pos} {i : FnI} (G : Good X c C k m0 H0) (hq : c.q = false) (hg : c.glb x = true) (hi : c.T[f]? = some i) (hx : i.name = x) (hn : i.ps.length = lenEs es) (hst : ∀ a ∈ e :: l, ∀ v o, a ≠ .Starred v o) (hs : SA X C m0 H0 es (e :: l)) :
    SE X C m0 H0 (.callX f es) (.Call (.Name x p) (e :: l) [] pos) := by
  obtain ⟨g1, g2⟩ := c.glb_ok G.sc hg
  obtain ⟨a, fd, ha, hk, hb, _, ho⟩ := G.tab.fns f i hi
  rw [hx] at ha
  refine PE.imp (pe_call ho G.room g1 ha hk hb .nil (passX (G.tk hq)) hs g2 (star_of (hst e List.mem_cons_self)) (noStar (fun e' he => hst e' (List.mem_cons_of_mem _ he)) pos)) fun σ H Q ⟨m, r, S, Qd, cu, w, q⟩ =>
    TrA.of cu w fun ds S1 vs m1 H1 w1 cu1 x1 rs hl => ?_
  rw [List.append_nil]
  exact ⟨m1, S1, ds, Qd, C.ex, cu1.rel, G.tbs.mono cu1.ext, rs, hl.trans hn.symm, w1, q.back x1, fun i fs S' m' H' cls d z rel x e => ⟨i, fs, S', m', z, rel, cu1.ext.trans x, e⟩⟩
/-! keywords -/
abbrev SK (X : Cx) (C : CallH) (m0 : List Addr) (H0 : Hp) (es : Es) (l : List Keyword) : Prop := PK X l (TrA X.K m0 H0 (lenEs es) (wpEs C es))
theorem k_nil : SK X C m0 H0 .nil [] := PK.imp pk_nil fun σ H Q ⟨m, r, S, Qd, cu, w, q⟩ => q [] S [] m H w cu.rel .refl .nil rfl
theorem k_cons {e : E} {es : Es} {n : Option Str} {p : Expr} {o : Pos} {l : List Keyword} (he : SE X C m0 H0 e p) (hs : SK X C m0 H0 es l) : SK X C m0 H0 (.cons e es) (⟨n, p, o⟩ :: l) := by
  refine PK.imp (pk_cons he hs) fun σ H Q ⟨m, r, S, Qd, cu, w, q⟩ => TrE.of cu w fun d S1 v m1 H1 w1 cu1 x1 rd => TrA.of cu1 w1 fun ds S2 vs m2 H2 w2 cu2 x2 rs hl => ?_
  exact q (d :: ds) S2 (v :: vs) m2 H2 w2 cu2.rel (x1.trans x2) (.cons (rd.mono x2 cu1.rel) rs) (congrArg (· + 1) hl)
theorem kw_some {ks : List Str} {kws : List Keyword} {env : Env} (pos : Pos) (h : kwNames kws = ks.map some) : (backToKw pos (keywordEach kws env)).all (·.1.isSome) = true ∧ (backToKw pos (keywordEach kws env)).filterMap (·.1) = ks ∧ (backToKw pos (keywordEach kws env)).any (·.1.isNone) = false := by
  induction kws generalizing ks with
  | nil =>
    cases ks with
    | nil => exact ⟨rfl, rfl, rfl⟩
    | cons _ _ => cases h
  | cons a r ih =>
    obtain ⟨n, v, q⟩ := a
    cases ks with
    | nil => cases h
    | cons y ys =>
      have h : (n :: kwNames r) = (some y :: ys.map some) := h
      injection h with h1 h2
      subst h1
      obtain ⟨i1, i2, i3⟩ := ih h2
      refine ⟨?_, ?_, ?_⟩
      · show (true && (backToKw pos (keywordEach r env)).all (·.1.isSome)) = true
        rw [i1]; rfl
      · show y :: (backToKw pos (keywordEach r env)).filterMap (·.1) = _
        rw [i2]
      · show (false || (backToKw pos (keywordEach r env)).any (·.1.isNone)) = false
        rw [i3]; rfl
theorem RDs.perm {K : FR} {m : List Addr} {H : Hp} {ds : List D} {vs : List V} (r : RDs K m H ds vs) : ∀ perm : List Nat, RDs K m H (perm.filterMap fun i => ds[i]?) (perm.filterMap fun i => vs[i]?)
  | [] => .nil
  | i :: p => by
    rw [List.filterMap_cons, List.filterMap_cons]
    cases e : ds[i]? with
    | none =>
      have : vs[i]? = none := by
        rw [List.getElem?_eq_none_iff] at e ⊢
        rw [← r.length]; exact e
      rw [this]
      exact RDs.perm r p
    | some d =>
      obtain ⟨v, e2, rd⟩ := r.get e
      rw [e2]
      exact .cons rd (RDs.perm r p)
theorem perm_len {α : Type} {l : List α} : ∀ {perm : List Nat}, (∀ i ∈ perm, i < l.length) → (perm.filterMap fun i => l[i]?).length = perm.length
  | [], _ => rfl
  | i :: p, h => by
    rw [List.filterMap_cons, List.getElem?_eq_getElem (h i List.mem_cons_self)]
    show (p.filterMap _).length + 1 = p.length + 1
    rw [perm_len fun j hj => h j (List.mem_cons_of_mem _ hj)]
theorem s_callK {f : Nat} {es zs : Es} {ks : List Str} {perm : List Nat} {x : Str} {l : List Expr} {kws : List Keyword} {p pos : Pos} {i : FnI} (G : Good X c C k m0 H0) (hg : c.glb x = true) (hi : c.T[f]? = some i) (hx : i.name = x) (hk : (lenEs es, ks, perm) ∈ i.kws)
    (hkn : kwNames kws = ks.map some) (hn : i.ps.length = perm.length) (hz : lenEs zs = ks.length) (hp : ∀ j ∈ perm, j < lenEs es + lenEs zs) (hst : ∀ a ∈ l, ∀ v o, a ≠ .Starred v o) (hll : l = [] → es = .nil) (hs : SA X C m0 H0 es l) (hq : SK X C m0 H0 zs kws) :
    SE X C m0 H0 (.callK f es ks zs perm) (.Call (.Name x p) l kws pos) := by
  obtain ⟨g1, g2⟩ := c.glb_ok G.sc hg
  obtain ⟨a, fd, ha, hkp, hb, hkb, ho⟩ := G.tab.fns f i hi
  rw [hx] at ha
  obtain ⟨k1, k2, k3⟩ := kw_some (env := X.env) pos hkn
  have key : ∀ {σ H Q m r S Qd} {ds es' : List D} {vs zv : List V} {m1 H1 S1}, Cur X.K m0 H0 m r S σ H → Imp X.K m H Qd Q → Ext m H m1 H1 → Rel X.K m1 S1 H1 → RDs X.K m1 H1 ds vs → RDs X.K m1 H1 es' zv → ds.length = lenEs es → es'.length = lenEs zs → Tbs X.K c.T m1 H1 →
      C.go f (perm.filterMap fun i => (ds ++ es')[i]?) S1 Qd noE → spD X.K X.mg c.CT c.T (C.go f) i.ps.length (perm.filterMap fun i => (vs ++ zv)[i]?) H1 Q E0 := fun cu q x1 rel rs rz l1 l2 tb w => by
    refine ⟨_, _, _, _, noE, rel, tb, (rs.app rz).perm perm, ?_, w, q.back x1, fun _ _ _ _ _ _ _ z => z.elim⟩
    rw [perm_len fun j hj => ?_, hn]
    rw [List.length_append, l1, l2]
    exact hp j hj
  cases l with
  | nil =>
    have e0 := hll rfl
    subst e0
    refine ⟨fun pins s σ H Q I h => ?_⟩
    refine wpAny_Call_Name_kw (ld_glob I g1 ha ?_ g2)
    obtain ⟨m, r, S, Qd, cu, w, q⟩ := h
    refine PySem.W.callWith_KW0 (h₀ := X.base) I.ok.mod.kin hkp k1 ?_ (by
      show (false || (backToKw pos (keywordEach kws X.env)).any (·.1.isNone)) = false
      rw [k3]; rfl)
    refine thn (hq.run pos pins s σ H (fun zv H2 => spD X.K X.mg c.CT c.T (C.go f) i.ps.length (perm.filterMap fun i => ([] ++ zv)[i]?) H2 Q E0 ∧ zv.length = ks.length) I (TrA.of cu w fun ds S1 vs m1 H1 w1 cu1 x1 rs hl => ?_)) fun ws s2 ⟨zv, H2, I2, rz, q2, hlz⟩ => ⟨I2.kIn, ?_⟩
    · exact ⟨key cu q x1 cu1.rel .nil rs rfl hl (G.tbs.mono cu1.ext) w1, by rw [← rs.length, hl, hz]⟩
    · rw [k2]
      exact run_fnN (us := []) (vs := []) ho G.room (hkb _ _ _ hk) passN I2 .nil rz rfl hlz q2
  | cons e l' =>
    refine PE.imp (pe_callN ho G.room g1 ha hkp (hkb _ _ _ hk) passN hs hq k1 k2 g2 (star_of (hst e List.mem_cons_self)) (by rw [noStar hst pos, k3]; rfl)) fun σ H Q ⟨m, r, S, Qd, cu, w, q⟩ =>
      TrA.of cu w fun ds S1 vs m1 H1 w1 cu1 x1 rs hl => TrA.of cu1 w1 fun es' S2 zv m2 H2 w2 cu2 x2 rz hl2 => ?_
    exact ⟨by rw [← rs.length]; exact hl, by rw [← rz.length, hl2, hz], key cu q (x1.trans x2) cu2.rel (rs.mono x2 cu1.rel) rz hl hl2 (G.tbs.mono cu2.ext) w2⟩
theorem s_callKX {f : Nat} {es zs : Es} {ks : List Str} {perm : List Nat} {x : Str} {l : List Expr} {kws : List Keyword} {p pos : Pos} {i : FnI} (G : Good X c C k m0 H0) (hqq : c.q = false) (hg : c.glb x = true) (hi : c.T[f]? = some i) (hx : i.name = x) (hk : (lenEs es, ks, perm) ∈ i.kws)
    (hkn : kwNames kws = ks.map some) (hn : i.ps.length = perm.length) (hz : lenEs zs = ks.length) (hp : ∀ j ∈ perm, j < lenEs es + lenEs zs) (hst : ∀ a ∈ l, ∀ v o, a ≠ .Starred v o) (hll : l = [] → es = .nil) (hs : SA X C m0 H0 es l) (hq : SK X C m0 H0 zs kws) :
    SE X C m0 H0 (.callKX f es ks zs perm) (.Call (.Name x p) l kws pos) := by
  obtain ⟨g1, g2⟩ := c.glb_ok G.sc hg
  obtain ⟨a, fd, ha, hkp, hb, hkb, ho⟩ := G.tab.fns f i hi
  rw [hx] at ha
  obtain ⟨k1, k2, k3⟩ := kw_some (env := X.env) pos hkn
  have key : ∀ {σ H Q m r S Qd} {ds es' : List D} {vs zv : List V} {m1 H1 S1}, Cur X.K m0 H0 m r S σ H → Imp X.K m H Qd Q → Ext m H m1 H1 → Rel X.K m1 S1 H1 → RDs X.K m1 H1 ds vs → RDs X.K m1 H1 es' zv → ds.length = lenEs es → es'.length = lenEs zs → Tbs X.K c.T m1 H1 →
      C.go f (perm.filterMap fun i => (ds ++ es')[i]?) S1 Qd C.ex → spD X.K X.mg c.CT c.T (C.go f) i.ps.length (perm.filterMap fun i => (vs ++ zv)[i]?) H1 Q (wishX X.K X.mg c.CT m0 H0 C.ex) := fun cu q x1 rel rs rz l1 l2 tb w => by
    refine ⟨_, _, _, _, C.ex, rel, tb, (rs.app rz).perm perm, ?_, w, q.back x1, fun i fs S' m' H' cls d z rel x e => ⟨i, fs, S', m', z, rel, (cu.ext.trans x1).trans x, e⟩⟩
    rw [perm_len fun j hj => ?_, hn]
    rw [List.length_append, l1, l2]
    exact hp j hj
  cases l with
  | nil =>
    have e0 := hll rfl
    subst e0
    refine ⟨fun pins s σ H Q I h => ?_⟩
    refine wpAny_Call_Name_kw (ld_glob I g1 ha ?_ g2)
    obtain ⟨m, r, S, Qd, cu, w, q⟩ := h
    refine PySem.W.callWith_KW0 (h₀ := X.base) I.ok.mod.kin hkp k1 ?_ (by
      show (false || (backToKw pos (keywordEach kws X.env)).any (·.1.isNone)) = false
      rw [k3]; rfl)
    refine thn (hq.run pos pins s σ H (fun zv H2 => spD X.K X.mg c.CT c.T (C.go f) i.ps.length (perm.filterMap fun i => ([] ++ zv)[i]?) H2 Q (wishX X.K X.mg c.CT m0 H0 C.ex) ∧ zv.length = ks.length) I (TrA.of cu w fun ds S1 vs m1 H1 w1 cu1 x1 rs hl => ?_)) fun ws s2 ⟨zv, H2, I2, rz, q2, hlz⟩ => ⟨I2.kIn, ?_⟩
    · exact ⟨key cu q x1 cu1.rel .nil rs rfl hl (G.tbs.mono cu1.ext) w1, by rw [← rs.length, hl, hz]⟩
    · rw [k2]
      exact run_fnN (us := []) (vs := []) ho G.room (hkb _ _ _ hk) (passX (G.tk hqq)) I2 .nil rz rfl hlz q2
  | cons e l' =>
    refine PE.imp (pe_callN ho G.room g1 ha hkp (hkb _ _ _ hk) (passX (G.tk hqq)) hs hq k1 k2 g2 (star_of (hst e List.mem_cons_self)) (by rw [noStar hst pos, k3]; rfl)) fun σ H Q ⟨m, r, S, Qd, cu, w, q⟩ =>
      TrA.of cu w fun ds S1 vs m1 H1 w1 cu1 x1 rs hl => TrA.of cu1 w1 fun es' S2 zv m2 H2 w2 cu2 x2 rz hl2 => ?_
    exact ⟨by rw [← rs.length]; exact hl, by rw [← rz.length, hl2, hz], key cu q (x1.trans x2) cu2.rel (rs.mono x2 cu1.rel) rz hl hl2 (G.tbs.mono cu2.ext) w2⟩
/-! built-ins -/
theorem s_bi {b : Bi} {es : Es} {x : Str} {e : Expr} {l : List Expr} {p pos : Pos} (G : Good X c C k m0 H0) (hg : c.glb x = true) (hx : x = biName b) (hst : ∀ a ∈ e :: l, ∀ v o, a ≠ .Starred v o) (hs : SA X C m0 H0 es (e :: l)) : SE X C m0 H0 (.bi b es) (.Call (.Name x p) (e :: l) [] pos) := by
  obtain ⟨g1, g2⟩ := c.glb_ok G.sc hg
  subst hx
  have hm := G.tab.bis b
  have h1 := star_of (env := X.env) (es := l) (hst e List.mem_cons_self)
  have h2 := noStar (env := X.env) (fun e' he => hst e' (List.mem_cons_of_mem _ he)) pos
  have imp : ∀ σ H Q, TrE X.K m0 H0 (wpE C (.bi b es)) σ H Q → tCB (rBi X.K b) (TrA X.K m0 H0 (lenEs es) (wpEs C es)) σ H Q := fun σ H Q ⟨m, r, S, Qd, cu, w, q⟩ =>
    TrA.of cu w fun ds S1 vs m1 H1 w1 cu1 x1 rs hl => bi_r b cu1.rel rs w1 (q.back x1)
  cases b with
  | len => exact PE.imp (pe_callB (cr_bi G.calm .len) g1 hm boot_len hs (by decide +kernel) g2 h1 h2) imp
  | int => exact PE.imp (pe_callTy (cr_bi G.calm .int) g1 hm boot_int hs (by decide +kernel) g2 h1 h2) imp
  | abs => exact PE.imp (pe_callB (cr_bi G.calm .abs) g1 hm (by decide +kernel) hs (by decide +kernel) g2 h1 h2) imp
  | tuple => exact PE.imp (pe_callTy (cr_bi G.calm .tuple) g1 hm (by decide +kernel) hs (by decide +kernel) g2 h1 h2) imp
  | list => exact PE.imp (pe_callTy (cr_bi G.calm .list) g1 hm (by decide +kernel) hs (by decide +kernel) g2 h1 h2) imp
  | sum => exact PE.imp (pe_callB (cr_bi G.calm .sum) g1 hm (by decide +kernel) hs (by decide +kernel) g2 h1 h2) imp
  | sorted => exact PE.imp (pe_callB (cr_bi G.calm .sorted) g1 hm (by decide +kernel) hs (by decide +kernel) g2 h1 h2) imp
  | max => exact PE.imp (pe_callB (cr_bi G.calm .max) g1 hm (by decide +kernel) hs (by decide +kernel) g2 h1 h2) imp
  | str => exact PE.imp (pe_callTy (cr_bi G.calm .str) g1 hm (by decide +kernel) hs (by decide +kernel) g2 h1 h2) imp
  | min => exact PE.imp (pe_callB (cr_bi G.calm .min) g1 hm (by decide +kernel) hs (by decide +kernel) g2 h1 h2) imp
theorem boot_ty (t : Ty) : bootBuiltins (Str.ofString (tyName t)) = some (.type (tyName t)) ∧ Str.ofString (tyName t) ≠ "__name__" := by
  cases t <;> exact ⟨by decide +kernel, by decide +kernel⟩
theorem s_isi {x : E} {t : Ty} {f ty : Str} {e : Expr} {p p2 pos : Pos} (G : Good X c C k m0 H0) (hg : c.glb f = true) (hf : f = ("isinstance" : Str)) (hgt : c.glb ty = true) (hty : ty = Str.ofString (tyName t)) (hst : ∀ v o, e ≠ .Starred v o) (hx : SE X C m0 H0 x e) :
    SE X C m0 H0 (.isi x t) (.Call (.Name f p) [e, .Name ty p2] [] pos) := by
  obtain ⟨g1, g2⟩ := c.glb_ok G.sc hg
  obtain ⟨t1, t2⟩ := c.glb_ok G.sc hgt
  subst hf hty
  obtain ⟨b1, b2⟩ := boot_ty t
  have et : PE X (.Name (Str.ofString (tyName t)) p2) (tC (.ty (tyName t))) := pe_bltn t1 (G.tab.others.2.2 t) b1 rfl b2 t2
  refine PE.imp (pe_callB call_isi g1 G.tab.others.1 (by decide +kernel) (pa_cons hx (pa_cons et pa_nil) (star_of hst)) (by decide +kernel) g2 (star_of hst) rfl) fun σ H Q ⟨m, r, S, Qd, cu, w, q⟩ =>
    TrE.of cu w fun d S1 v m1 H1 w1 cu1 x1 rd => ?_
  obtain ⟨b, e1, w1⟩ := w1
  obtain ⟨ty, h1, h2⟩ := ty_r cu1.rel rd t e1
  exact ⟨v, .ty (tyName t), ty, .type (tyName t), b, rfl, .ty _, h1, h2, (q.back x1).here cu1.rel w1 (.bl _)⟩
/-! methods -/
theorem base_of {o : Expr} {x : Str} (h : notCall0 o = true) : attributeBase o x X.env (eval o X.env) = eval o X.env := by
  cases o <;> first
    | rfl
    | skip
  rename_i f as ks _
  cases f <;> first
    | rfl
    | skip
  cases as <;> first
    | rfl
    | skip
  cases ks <;> first
    | rfl
    | (simp [notCall0] at h)
theorem s_meth {me : Me} {o : E} {es : Es} {x : Str} {p : Expr} {e : Expr} {l : List Expr} {ap pos : Pos} (hx : x = meName me) (hl : (e :: l).length < 29) (hline : (ap.endLine == pos.line) = true) (hc : notCall0 p = true) (hst : ∀ a ∈ e :: l, ∀ v o, a ≠ .Starred v o)
    (ho : SE X C m0 H0 o p) (hs : SA X C m0 H0 es (e :: l)) : SE X C m0 H0 (.meth me o es) (.Call (.Attribute p x ap) (e :: l) [] pos) := by
  subst hx
  have hfew : ((backTo pos (starEach (e :: l) X.env)).all (fun x => !x.1) && (backToKw pos (keywordEach [] X.env)).all (fun x => x.1.isSome)
      && decide ((e :: l).length + ([] : List Keyword).length + (if ([] : List Keyword).isEmpty then 0 else 1) < 30)) = true := by
    have h1 : (backTo pos (starEach (e :: l) X.env)).all (fun x => !x.1) = true := by
      have z := noStar (env := X.env) hst pos
      rw [List.all_eq_true]
      intro y hy
      rw [List.any_eq_false] at z
      simpa using z y hy
    rw [h1]
    simp only [keywordEach, backToKw, List.map_nil, List.all_nil, Bool.and_true, Bool.true_and, List.length_nil, List.isEmpty_nil, if_true, decide_eq_true_eq]
    omega
  have hs1 := star_of (env := X.env) (es := l) (hst e List.mem_cons_self)
  have h2 := noStar (env := X.env) (fun e' he => hst e' (List.mem_cons_of_mem _ he)) pos
  have imp : ∀ σ H Q, TrE X.K m0 H0 (wpE C (.meth me o es)) σ H Q → tBM X.K "list" (rMe X.K me) (TrE X.K m0 H0 (wpE C o)) (TrA X.K m0 H0 (lenEs es) (wpEs C es)) σ H Q := fun σ H Q ⟨m, r, S, Qd, cu, w, q⟩ =>
    TrE.of cu w fun d S1 v m1 H1 ⟨⟨n, hd, l0, hl0⟩, w1⟩ cu1 x1 rd => by
      subst hd
      refine ⟨?_, TrA.of cu1 w1 fun ds S2 vs m2 H2 w2 cu2 x2 rs hl => me_r me cu2.rel (rd.mono x2 cu1.rel) rs w2 (q.back (x1.trans x2))⟩
      cases rd with
      | ref hn =>
        obtain ⟨ws, hw, _⟩ := cu1.rel.lst hl0 hn
        exact .inl ⟨rfl, ws, .inl (.inl hw)⟩
  cases me with
  | append => exact PE.imp (pe_bm PySem.F.plainAttrs_list PySem.F.slot_list_append PySem.F.type_list_append mt_append ho hs (base_of hc) hfew hline hs1 h2) imp
  | pop => exact PE.imp (pe_bm PySem.F.plainAttrs_list PySem.F.slot_list_pop PySem.F.type_list_pop (MtR.or mt_pop mt_popAt) ho hs (base_of hc) hfew hline hs1 h2) imp
  | extend => exact PE.imp (pe_bm PySem.F.plainAttrs_list PySem.F.slot_list_extend PySem.F.type_list_extend mt_extend ho hs (base_of hc) hfew hline hs1 h2) imp
  | insert => exact PE.imp (pe_bm PySem.F.plainAttrs_list PySem.F.slot_list_insert PySem.F.type_list_insert mt_insert ho hs (base_of hc) hfew hline hs1 h2) imp
  | index =>
    exact PE.imp (pe_bm (r := rMe X.K .index) PySem.F.plainAttrs_list PySem.F.slot_list_index PySem.F.type_list_index (fun _ _ _ _ _ _ _ _ _ _ _ _ z => z.elim) ho hs (base_of hc) hfew hline hs1 h2) imp
theorem s_meth0 {o : E} {x : Str} {p : Expr} {ap pos : Pos} (hx : x = meName .pop) (hline : (ap.endLine == pos.line) = true) (hc : notCall0 p = true) (ho : SE X C m0 H0 o p) : SE X C m0 H0 (.meth .pop o .nil) (.Call (.Attribute p x ap) [] [] pos) := by
  subst hx
  refine PE.imp (pe_bm0 PySem.F.plainAttrs_list PySem.F.slot_list_pop PySem.F.type_list_pop (MtR.or mt_pop mt_popAt) ho (base_of hc) hline) fun σ H Q ⟨m, r, S, Qd, cu, w, q⟩ =>
    TrE.of cu w fun d S1 v m1 H1 ⟨⟨n, hd, l0, hl0⟩, w1⟩ cu1 x1 rd => ?_
  subst hd
  refine ⟨?_, me_r .pop cu1.rel rd .nil w1 (q.back x1)⟩
  cases rd with
  | ref hn =>
    obtain ⟨ws, hw, _⟩ := cu1.rel.lst hl0 hn
    exact .inl ⟨rfl, ws, .inl (.inl hw)⟩
end
end Ev
set_option Elab.async false
set_option linter.all false
set_option maxRecDepth 100000
set_option maxHeartbeats 4000000
namespace Ev
open PySem PySem.Spec PyProof.Rows L2
/-! ## iterators, targets -/
section
variable {X : Cx} {tg : Expr}
def iAny (K : FR) (te : TE) : TI := fun σ H R => te σ H fun x H1 => ∃ a, x = .ref a ∧ (((∃ xs, SqL K H1 a xs) ∧ R (Itl K a) H1) ∨ ((∃ xs, SqT K H1 a xs) ∧ R (Itt K a) H1))
theorem pi_any {e : Expr} {te : TE} (he : PE X e te) : PI X tg e (iAny X.K te) := by
  refine ⟨fun pins s σ H R I h => thn (he.run pins s σ H _ I h) fun v s1 ⟨x, H1, I1, r1, a, ea, q⟩ => ?_⟩
  subst ea
  cases r1
  have fresh : ∀ b ∈ [s1.heap.objs.size], FpOk X pins H1 b := fun b hb => by
    rw [List.mem_singleton.mp hb]
    exact I1.fpOk (Nat.le_refl _) (I1.hok.fresh (Nat.le_refl _))
  rcases q with ⟨⟨xs, hq⟩, q⟩ | ⟨⟨xs, hq⟩, q⟩
  · obtain ⟨its, _, pl, _⟩ := I1.list hq
    exact wpAny_pyIter_list pl.isList ⟨_, [_], _, _, H1, rfl, I1.kept (t' := s1.toks) fun b o e => Heap.get?_push_of_some _ e, turn_list a _, ⟨_, Heap.get?_push_size _ rfl, rfl, rfl⟩, fresh, q⟩
  · obtain ⟨its, _, pt, _⟩ := I1.tuple hq
    exact wpAny_pyIter_tuple (show s1.heap.IsTuple a its.toArray from pt) ⟨_, [_], _, _, H1, rfl, I1.kept (t' := s1.toks) fun b o e => Heap.get?_push_of_some _ e, turn_tuple a _, ⟨_, Heap.get?_push_size _ rfl, rfl, rfl⟩, fresh, q⟩
end
section
variable {K : FR} {m m1 : List Addr} {S S1 : Store} {H H1 : Hp}
theorem walk_list {n : Nat} {a : Addr} {l : List D} (hn : m1[n]? = some a) (e : items S1 (.ref n) = some l) : Walk K (.live n S1 l) (Itl K a) m1 H1 := by
  have its : ∀ {S : Store}, S[n]? = S1[n]? → items S (.ref n) = some l := fun {S} h => by
    rw [← e]
    simp only [items, h]
  refine ⟨fun i m S H rel x st hi => ?_, fun i m S H v H' rel x st y hi => ?_, fun i m S H rel x st hi => ?_⟩
  · obtain ⟨vs, hs, rs⟩ := rel.its (its st) (x.get hn)
    have hl : i < vs.length := by rw [← rs.length]; exact hi
    exact ⟨vs, vs[i], hs, List.getElem?_eq_getElem hl⟩
  · obtain ⟨vs, hs, rs⟩ := rel.its (its st) (x.get hn)
    obtain ⟨rfl, y⟩ := y
    obtain ⟨w, e1, e2⟩ := rs.get (List.getElem?_eq_getElem hi)
    have e3 := y vs hs
    rw [e1] at e3; cases e3
    exact ⟨_, List.getElem?_eq_getElem hi, rel, .refl, e2⟩
  · obtain ⟨vs, hs, rs⟩ := rel.its (its st) (x.get hn)
    exact ⟨vs, hs, by rw [← rs.length]; exact hi⟩
theorem walk_tup {a : Addr} {l : List D} {vs : List V} (r1 : Rel K m1 S1 H1) (hs : SqT K H1 a vs) (rs : RDs K m1 H1 l vs) : Walk K ⟨l, fun _ => True⟩ (Itt K a) m1 H1 := by
  refine ⟨fun i m S H rel x st hi => ?_, fun i m S H v H' rel x st y hi => ?_, fun i m S H rel x st hi => ?_⟩
  · have hl : i < vs.length := by rw [← rs.length]; exact hi
    exact ⟨vs, vs[i], x.sqT r1 hs, List.getElem?_eq_getElem hl⟩
  · obtain ⟨rfl, y⟩ := y
    obtain ⟨w, e1, e2⟩ := rs.get (List.getElem?_eq_getElem hi)
    have e3 := y vs (x.sqT r1 hs)
    rw [e1] at e3; cases e3
    exact ⟨_, List.getElem?_eq_getElem hi, rel, .refl, e2.monoW x r1⟩
  · exact ⟨vs, x.sqT r1 hs, by rw [← rs.length]; exact hi⟩
theorem walk_cl {a : Addr} {l : List D} {vs : List V} (r1 : Rel K m1 S1 H1) (hs : SqC K H1 a vs) (rs : RDs K m1 H1 l vs) : Walk K ⟨l, fun _ => True⟩ (Itl K a) m1 H1 := by
  refine ⟨fun i m S H rel x st hi => ?_, fun i m S H v H' rel x st y hi => ?_, fun i m S H rel x st hi => ?_⟩
  · have hl : i < vs.length := by rw [← rs.length]; exact hi
    exact ⟨vs, vs[i], (x.sqC r1 hs).sq, List.getElem?_eq_getElem hl⟩
  · obtain ⟨rfl, y⟩ := y
    obtain ⟨w, e1, e2⟩ := rs.get (List.getElem?_eq_getElem hi)
    have e3 := y vs (x.sqC r1 hs).sq
    rw [e1] at e3; cases e3
    exact ⟨_, List.getElem?_eq_getElem hi, rel, .refl, e2.monoW x r1⟩
  · exact ⟨vs, (x.sqC r1 hs).sq, by rw [← rs.length]; exact hi⟩
theorem rngL_len (lo : Int) (n : Nat) : (rngL lo n).length = n := by simp [rngL]
theorem rngL_get {lo : Int} {n i : Nat} (h : i < n) : (rngL lo n)[i]? = some (.int (lo + i)) := by simp [rngL, h]
theorem walk_rng {lo : Int} {n : Nat} : Walk K ⟨rngL lo n, fun _ => True⟩ (Itr lo n) m1 H1 := by
  refine ⟨fun i m S H rel x st hi => ?_, fun i m S H v H' rel x st y hi => ?_, fun i m S H rel x st hi => ?_⟩
  · have hi : i < (rngL lo n).length := hi
    rw [rngL_len] at hi; exact hi
  · obtain ⟨rfl, rfl⟩ := y
    have hi : i < (rngL lo n).length := hi
    rw [rngL_len] at hi
    exact ⟨_, rngL_get hi, rel, .refl, .int _⟩
  · have hi : (rngL lo n).length ≤ i := hi
    rw [rngL_len] at hi; exact hi
theorem zipL_get {l k : List D} {i : Nat} {x y : D} (h1 : l[i]? = some x) (h2 : k[i]? = some y) : (zipL l k)[i]? = some (.tup [x, y]) := by
  unfold zipL
  rw [List.getElem?_map, (List.getElem?_zip_eq_some (z := (x, y))).mpr ⟨h1, h2⟩]
  rfl
theorem zipL_len {l k : List D} : (zipL l k).length = min l.length k.length := by simp [zipL]
theorem Rel.newT {T : Addr} {xs : List V} (rel : Rel K m S H) (hT : H T = none) : Rel K m S (L2.upd H T (.tup xs)) ∧ Ext m H m (L2.upd H T (.tup xs)) := ⟨rel.laid hT, .laid hT⟩
theorem walk_zipT {a b : Addr} {l k : List D} {vs ws : List V} (r1 : Rel K m1 S1 H1) (hs : SqT K H1 a vs) (rs : RDs K m1 H1 l vs) (hs2 : SqT K H1 b ws) (rs2 : RDs K m1 H1 k ws) : Walk K ⟨zipL l k, fun _ => True⟩ (RZ.ItzT K a b) m1 H1 := by
  refine ⟨fun i m S H rel x st hi => ?_, fun i m S H v H' rel x st y hi => ?_, fun i m S H rel x st hi => ?_⟩
  · have hi : i < (zipL l k).length := hi
    rw [zipL_len] at hi
    have hl : i < vs.length := by rw [← rs.length]; omega
    have hk : i < ws.length := by rw [← rs2.length]; omega
    exact ⟨vs, ws, vs[i], ws[i], x.sqT r1 hs, x.sqT r1 hs2, List.getElem?_eq_getElem hl, List.getElem?_eq_getElem hk⟩
  · have hi : i < (zipL l k).length := hi
    rw [zipL_len] at hi
    obtain ⟨T, u, w, rfl, hT, rfl, y1, y2⟩ := y
    obtain ⟨u', e1, e2⟩ := rs.get (List.getElem?_eq_getElem (show i < l.length by omega))
    obtain ⟨w', f1, f2⟩ := rs2.get (List.getElem?_eq_getElem (show i < k.length by omega))
    have e3 := y1 vs (x.sqT r1 hs)
    rw [e1] at e3; cases e3
    have f3 := y2 ws (x.sqT r1 hs2)
    rw [f1] at f3; cases f3
    obtain ⟨rn, xn⟩ := rel.newT (xs := [u, w]) hT
    refine ⟨_, zipL_get (List.getElem?_eq_getElem (by omega)) (List.getElem?_eq_getElem (by omega)), rn, xn, ?_⟩
    exact .tup (.inl (.inl upd_same)) (.cons ((e2.monoW x r1).mono xn rel) (.cons ((f2.monoW x r1).mono xn rel) .nil))
  · have hi : (zipL l k).length ≤ i := hi
    rw [zipL_len] at hi
    refine ⟨vs, ws, x.sqT r1 hs, x.sqT r1 hs2, ?_⟩
    rw [← rs.length, ← rs2.length]
    omega
theorem walk_zipL {n j : Nat} {a b : Addr} {l k : List D} (hn : m1[n]? = some a) (e : items S1 (.ref n) = some l) (hj : m1[j]? = some b) (e' : items S1 (.ref j) = some k) : Walk K ⟨zipL l k, fun S' => S'[n]? = S1[n]? ∧ S'[j]? = S1[j]?⟩ (L2.Itz K a b) m1 H1 := by
  have its : ∀ {n : Nat} {l : List D} {S : Store}, items S1 (.ref n) = some l → S[n]? = S1[n]? → items S (.ref n) = some l := fun {n l S} e h => by
    rw [← e]
    simp only [items, h]
  refine ⟨fun i m S H rel x st hi => ?_, fun i m S H v H' rel x st y hi => ?_, fun i m S H rel x st hi => ?_⟩
  · have hi : i < (zipL l k).length := hi
    rw [zipL_len] at hi
    obtain ⟨vs, hs, rs⟩ := rel.its (its e st.1) (x.get hn)
    obtain ⟨ws, hs2, rs2⟩ := rel.its (its e' st.2) (x.get hj)
    have hl : i < vs.length := by rw [← rs.length]; omega
    have hk : i < ws.length := by rw [← rs2.length]; omega
    exact ⟨vs, ws, vs[i], ws[i], hs, hs2, List.getElem?_eq_getElem hl, List.getElem?_eq_getElem hk⟩
  · have hi : i < (zipL l k).length := hi
    rw [zipL_len] at hi
    obtain ⟨vs, hs, rs⟩ := rel.its (its e st.1) (x.get hn)
    obtain ⟨ws, hs2, rs2⟩ := rel.its (its e' st.2) (x.get hj)
    obtain ⟨T, u, w, rfl, hT, rfl, y1, y2⟩ := y
    obtain ⟨u', e1, e2⟩ := rs.get (List.getElem?_eq_getElem (show i < l.length by omega))
    obtain ⟨w', f1, f2⟩ := rs2.get (List.getElem?_eq_getElem (show i < k.length by omega))
    have e3 := y1 vs hs
    rw [e1] at e3; cases e3
    have f3 := y2 ws hs2
    rw [f1] at f3; cases f3
    obtain ⟨rn, xn⟩ := rel.newT (xs := [u, w]) hT
    refine ⟨_, zipL_get (List.getElem?_eq_getElem (by omega)) (List.getElem?_eq_getElem (by omega)), rn, xn, ?_⟩
    exact .tup (.inl (.inl upd_same)) (.cons (e2.mono xn rel) (.cons (f2.mono xn rel) .nil))
  · have hi : (zipL l k).length ≤ i := hi
    rw [zipL_len] at hi
    obtain ⟨vs, hs, rs⟩ := rel.its (its e st.1) (x.get hn)
    obtain ⟨ws, hs2, rs2⟩ := rel.its (its e' st.2) (x.get hj)
    refine ⟨vs, ws, hs, hs2, ?_⟩
    rw [← rs.length, ← rs2.length]
    omega
end
section
variable {X : Cx} {c : Cxt} {C : CallH} {k : Nat} {m0 : List Addr} {H0 : Hp}
abbrev SI (X : Cx) (C : CallH) (m0 : List Addr) (H0 : Hp) (it : It) (tg a : Expr) : Prop := PI X tg a (TrI X.K m0 H0 (wpI C it))
theorem i_val {e : E} {tg a : Expr} (h : SE X C m0 H0 e a) : SI X C m0 H0 (.val e) tg a := by
  refine PI.imp (pi_any h) fun σ H R ⟨m, r, S, Qd, cu, w, q⟩ => TrE.of cu w fun d S1 v m1 H1 w1 cu1 x1 rd => ?_
  cases rd with
  | tup hs rs => exact ⟨_, rfl, .inr ⟨⟨_, hs⟩, q _ S1 m1 H1 _ w1 cu1.rel x1 (walk_tup cu1.rel hs rs)⟩⟩
  | ref hn =>
    obtain ⟨l, e, w1⟩ := w1
    obtain ⟨vs, hs, _⟩ := cu1.rel.its e hn
    exact ⟨_, rfl, .inl ⟨⟨vs, hs⟩, q _ S1 m1 H1 _ w1 cu1.rel x1 (walk_list hn e)⟩⟩
  | cl hs rs => exact ⟨_, rfl, .inl ⟨⟨_, hs.sq⟩, q _ S1 m1 H1 _ w1 cu1.rel x1 (walk_cl cu1.rel hs rs)⟩⟩
  | _ => exact (show False from w1).elim
theorem i_rng1 {x : E} {tg p : Expr} {f : Str} {o pos : Pos} (G : Good X c C k m0 H0) (hg : c.glb f = true) (hf : f = ("range" : Str)) (hst : ∀ v o, p ≠ .Starred v o) (h : SE X C m0 H0 x p) : SI X C m0 H0 (.rng1 x) tg (.Call (.Name f o) [p] [] pos) := by
  obtain ⟨g1, _⟩ := c.glb_ok G.sc hg
  subst hf
  refine PI.imp (pi_range1 g1 G.tab.others.2.1 (pa_cons h pa_nil (star_of hst)) (star_of hst)) fun σ H R ⟨m, r, S, Qd, cu, w, q⟩ => TrE.of cu w fun d S1 v m1 H1 w1 cu1 x1 rd => ?_
  obtain ⟨j, rfl, h1, h2, w1⟩ := w1
  cases rd
  exact ⟨j, rfl, h1, h2, q _ S1 m1 H1 _ w1 cu1.rel x1 walk_rng⟩
theorem i_rng2 {x y : E} {tg p p2 : Expr} {f : Str} {o pos : Pos} (G : Good X c C k m0 H0) (hg : c.glb f = true) (hf : f = ("range" : Str)) (hst : ∀ v o, p ≠ .Starred v o) (hst2 : ∀ v o, p2 ≠ .Starred v o) (h : SE X C m0 H0 x p) (h' : SE X C m0 H0 y p2) :
    SI X C m0 H0 (.rng2 x y) tg (.Call (.Name f o) [p, p2] [] pos) := by
  obtain ⟨g1, _⟩ := c.glb_ok G.sc hg
  subst hf
  refine PI.imp (pi_range2 g1 G.tab.others.2.1 (pa_cons h (pa_cons h' pa_nil (star_of hst2)) (star_of hst)) (by rw [star_of hst, star_of hst2]; rfl) (star_of hst2)) fun σ H R ⟨m, r, S, Qd, cu, w, q⟩ =>
    TrE.of cu w fun d S1 v m1 H1 w1 cu1 x1 rd => TrE.of cu1 w1 fun d2 S2 v2 m2 H2 w2 cu2 x2 rd2 => ?_
  obtain ⟨i, rfl, j, rfl, h1, w2⟩ := w2
  cases rd
  cases rd2
  exact ⟨i, j, rfl, h1, q _ S2 m2 H2 _ w2 cu2.rel (x1.trans x2) walk_rng⟩
theorem i_zip {x y : E} {elts : List Expr} {kk : Nat} {tpos : Pos} {p p2 : Expr} {f : Str} {o pos : Pos} (G : Good X c C k m0 H0) (hg : c.glb f = true) (hf : f = ("zip" : Str)) (hst : ∀ v o, p ≠ .Starred v o) (hst2 : ∀ v o, p2 ≠ .Starred v o) (h : SE X C m0 H0 x p) (h' : SE X C m0 H0 y p2) :
    SI X C m0 H0 (.zip x y) (.Tuple elts kk tpos) (.Call (.Name f o) [p, p2] [] pos) := by
  obtain ⟨g1, _⟩ := c.glb_ok G.sc hg
  subst hf
  refine PI.imp (RZ.pi_zipA g1 G.tab.zips.1 (pa_cons h (pa_cons h' pa_nil (star_of hst2)) (star_of hst)) (star_of hst) (noStar (fun e' he => by rw [List.mem_singleton.mp he]; exact hst2) pos)) fun σ H R ⟨m, r, S, Qd, cu, w, q⟩ =>
    TrE.of cu w fun d S1 v m1 H1 w1 cu1 x1 rd => TrE.of cu1 w1 fun d2 S2 v2 m2 H2 w2 cu2 x2 rd2 => ?_
  have rd := rd.mono x2 cu1.rel
  rcases w2 with ⟨l, k, rfl, rfl, w2⟩ | ⟨n, j, l, k, rfl, rfl, e1, e2, w2⟩
  · cases rd with
    | tup hs rs =>
      cases rd2 with
      | tup hs2 rs2 => exact ⟨_, _, _, _, rfl, .inr ⟨hs, hs2, q _ S2 m2 H2 _ w2 cu2.rel (x1.trans x2) (walk_zipT cu2.rel hs rs hs2 rs2)⟩⟩
  · cases rd with
    | ref hn =>
      cases rd2 with
      | ref hj =>
        obtain ⟨vs, hs, _⟩ := cu2.rel.its e1 hn
        obtain ⟨ws, hs2, _⟩ := cu2.rel.its e2 hj
        exact ⟨_, _, _, _, rfl, .inl ⟨hs, hs2, q _ S2 m2 H2 _ w2 cu2.rel (x1.trans x2) (walk_zipL hn e1 hj e2)⟩⟩
/-! targets -/
abbrev SG (X : Cx) (C : CallH) (m0 : List Addr) (H0 : Hp) (g : G) (a : Expr) : Prop := PG X a (TrG X.K m0 H0 (slotsG g) (wpG C g))
abbrev SGs (X : Cx) (C : CallH) (m0 : List Addr) (H0 : Hp) (g : Gs) (a : List Expr) : Prop := PGs X a (TrGs X.K m0 H0 (slotsGs g) (wpGs C g))
theorem wipe_set {α : Type} {i : Nat} {x : Option V} {σ : L2.St} : ∀ {vs : List Nat}, i ∈ vs → wipe (σ.set i x) vs = wipe σ vs
  | v :: vs, h => by
    by_cases hv : i = v
    · subst hv
      show (wipe (σ.set i x) vs).set i none = (wipe σ vs).set i none
      by_cases hm : i ∈ vs
      · rw [wipe_set (α := α) hm]
      · have : ∀ vs : List Nat, i ∉ vs → wipe (σ.set i x) vs = (wipe σ vs).set i x := by
          intro vs
          induction vs with
          | nil => intro _; rfl
          | cons w ws ih =>
            intro hn
            simp only [List.mem_cons, not_or] at hn
            show (wipe (σ.set i x) ws).set w none = ((wipe σ ws).set w none).set i x
            rw [ih hn.2, List.set_comm _ _ hn.1]
        rw [this vs hm, List.set_set]
    · have hm : i ∈ vs := by simpa [hv] using h
      show (wipe (σ.set i x) vs).set v none = (wipe σ vs).set v none
      rw [wipe_set (α := α) hm]
theorem wipeD_set {i : Nat} {x : Option D} {r : Rho} : ∀ {vs : List Nat}, i ∈ vs → wipeD (r.set i x) vs = wipeD r vs
  | v :: vs, h => by
    by_cases hv : i = v
    · subst hv
      show (wipeD (r.set i x) vs).set i none = (wipeD r vs).set i none
      by_cases hm : i ∈ vs
      · rw [wipeD_set hm]
      · have : ∀ vs : List Nat, i ∉ vs → wipeD (r.set i x) vs = (wipeD r vs).set i x := by
          intro vs
          induction vs with
          | nil => intro _; rfl
          | cons w ws ih =>
            intro hn
            simp only [List.mem_cons, not_or] at hn
            show (wipeD (r.set i x) ws).set w none = ((wipeD r ws).set w none).set i x
            rw [ih hn.2, List.set_comm _ _ hn.1]
        rw [this vs hm, List.set_set]
    · have hm : i ∈ vs := by simpa [hv] using h
      show (wipeD (r.set i x) vs).set v none = (wipeD r vs).set v none
      rw [wipeD_set hm]
theorem g_name {i : Nat} {x : Str} {pos : Pos} (G : Good X c C k m0 H0) (h : c.loc i x = true) : SG X C m0 H0 (.name i) (.Name x pos) := by
  obtain ⟨h1, h2, h3⟩ := c.loc_ok G.N G.sc G.fn h
  refine PG.imp (pg_name (by rw [G.N]; exact G.nd) h1 h2 h3) fun v σ H Q ⟨m, r, S, d, Qd, cu, rd, w, q⟩ => ?_
  refine q _ S _ m H w (cu.set rd i) .refl fun vs hv => ?_
  have hi : i ∈ vs := hv i (by simp [slotsG])
  exact ⟨wipe_set (α := Nat) hi, wipeD_set hi⟩
theorem gs_nil : SGs X C m0 H0 .nil [] := by
  refine PGs.imp pgs_nil fun v σ H Q ⟨m, r, S, d, Qd, cu, rd, ⟨e, w⟩, q⟩ => ?_
  subst e
  cases rd
  exact ⟨rfl, q _ S _ m H w cu .refl fun vs hv => ⟨rfl, rfl⟩⟩
theorem assignEach_of {e : Expr} {es : List Expr} {env : Env} (h : ∀ v p, e ≠ .Starred v p) : (assignEach (e :: es) env).map (·.2) = assign e env :: (assignEach es env).map (·.2) ∧ (assignEach (e :: es) env).length = (assignEach es env).length + 1 ∧
    ((assignEach es env).findIdx? (·.1) = none → (assignEach (e :: es) env).findIdx? (·.1) = none) := by
  have key : assignEach (e :: es) env = (false, assign e env) :: assignEach es env := by
    cases e <;> first
      | rfl
      | exact absurd rfl (h _ _)
  rw [key]
  refine ⟨rfl, rfl, fun z => ?_⟩
  rw [List.findIdx?_cons]
  simp [z]
theorem gs_cons {g : G} {gs : Gs} {e : Expr} {es : List Expr} (h : ∀ v p, e ≠ .Starred v p) (h1 : SG X C m0 H0 g e) (h2 : SGs X C m0 H0 gs es) : SGs X C m0 H0 (.cons g gs) (e :: es) := by
  refine PGs.imp (pgs_cons h1 h2 (assignEach_of h).1) fun v σ H Q ⟨m, r, S, d, Qd, cu, rd, w, q⟩ => ?_
  obtain ⟨x, xs, rfl, w⟩ := w
  cases rd with
  | cons r1 rs =>
    refine ⟨_, _, rfl, ⟨m, r, S, x, _, cu, r1, w, fun r' S' σ' m' H' w' cu' x' sm => ⟨m', r', S', xs, Qd, cu', rs.mono x' cu.rel, w', fun r2 S2 σ2 m2 H2 w2 cu2 x2 sm2 => ?_⟩⟩⟩
    refine q r2 S2 σ2 m2 H2 w2 cu2 (x'.trans x2) fun vs hv => ?_
    obtain ⟨a1, a2⟩ := sm vs fun i hi => hv i (by simp [slotsGs, hi])
    obtain ⟨b1, b2⟩ := sm2 vs fun i hi => hv i (by simp [slotsGs, hi])
    exact ⟨b1.trans a1, b2.trans a2⟩
/-- (a, b, ..) = a tuple or a list of that length -/
theorem pg_tupL {X : Cx} {es : List Expr} {k n : Nat} {pos : Pos} {t : TGs} (hc : X.calm = true) (h : PGs X es t) (hn : (assignEach es X.env).length = n) (hst : (assignEach es X.env).findIdx? (·.1) = none) :
    PG X (.Tuple es k pos) (fun v σ H Q => gTup X.K n t v σ H Q ∨ gUnl X.K n t v σ H Q) :=
  ⟨fun pins s σ H v u Q I r hw => hw.elim (fun hw => (pg_tup hc h hn hst).run pins s σ H v u Q I r hw) (fun hw => (pg_unl hc h hn hst).run pins s σ H v u Q I r hw)⟩
theorem items_ref {S : Store} {n : Nat} {l : List D} (h : items S (.ref n) = some l) : S[n]? = some (.lst l) := by
  have h : (match S[n]? with
    | some (.lst l) => some l
    | _ => none) = some l := h
  split at h
  · rename_i l' e'
    cases h
    exact e'
  · cases h
theorem g_tup {gs : Gs} {es : List Expr} {n : Nat} {pos : Pos} (G : Good X c C k m0 H0) (hn : (assignEach es X.env).findIdx? (·.1) = none) (hl : (assignEach es X.env).length = es.length)
    (hlen : lenGs gs = es.length) (h : SGs X C m0 H0 gs es) : SG X C m0 H0 (.tup gs) (.Tuple es n pos) := by
  refine PG.imp (pg_tupL G.calm h hl hn) fun v σ H Q ⟨m, r, S, d, Qd, cu, rd, w, q⟩ => ?_
  obtain ⟨ds, hi, hd, w⟩ := w
  cases rd with
  | tup hs rs =>
    cases hi
    exact .inl ⟨_, _, rfl, hs, by rw [← rs.length, hd]; exact hlen, m, r, S, ds, Qd, cu, rs, w, q⟩
  | ref hm =>
    obtain ⟨vs, hv, rs⟩ := cu.rel.ob _ _ _ (items_ref hi) hm
    exact .inr ⟨_, _, rfl, SqL.of hv, by rw [← rs.length, hd]; exact hlen, m, r, S, ds, Qd, cu, rs, w, q⟩
  | cl hs rs =>
    cases hi
    exact .inr ⟨_, _, rfl, hs.sq, by rw [← rs.length, hd]; exact hlen, m, r, S, ds, Qd, cu, rs, w, q⟩
  | non => cases hi
  | bl _ => cases hi
  | int _ => cases hi
  | str _ => cases hi
theorem assign_sub {o i : Expr} {pos : Pos} {env : Env} (h : notSlice i = true) : ∀ v, assign (.Subscript o i pos) env v = (do
      let ov ← holding [v] (eval o env)
      let iv ← holding [v, ov] (eval i env)
      standAt pos
      holding [v, ov, iv] (setItem ov iv v)
      release [v, ov, iv] []) := by
  intro _
  cases i <;> first
    | rfl
    | (simp [notSlice] at h)
theorem g_sub {o i : E} {p q : Expr} {pos : Pos} (hn : notSlice q = true) (ho : SE X C m0 H0 o p) (hi : SE X C m0 H0 i q) : SG X C m0 H0 (.sub o i) (.Subscript p q pos) := by
  refine PG.imp (pg_sub ho hi set_list (assign_sub hn)) fun v σ H Q ⟨m, r, S, d, Qd, cu, rd, w, q⟩ => TrE.of cu w fun x S1 xv m1 H1 w1 cu1 x1 rx => TrE.of cu1 w1 fun y S2 yv m2 H2 w2 cu2 x2 ry => ?_
  obtain ⟨n, rfl, k, rfl, l, e1, j, e2, w2⟩ := w2
  cases ry
  cases rx.mono x2 cu1.rel with
  | ref hn =>
    obtain ⟨vs, hv, rs⟩ := cu2.rel.lst e1 hn
    have rd2 := (rd.mono x1 cu.rel).mono x2 cu1.rel
    have x3 : Ext m2 H2 m2 (upd H2 _ (.lst (vs.set j v))) := .upd (List.mem_of_getElem? hn)
    exact ⟨_, vs, k, j, rfl, rfl, hv, by rw [← rs.length]; exact e2, q _ _ _ m2 _ w2 (cu2.move (cu2.rel.upd hn (RDs.set rd2 j rs)) x3) ((x1.trans x2).trans x3) fun vs hv => ⟨rfl, rfl⟩⟩
end
end Ev
set_option Elab.async false
set_option linter.all false
set_option maxRecDepth 100000
set_option maxHeartbeats 4000000
namespace Ev
open PySem PySem.Spec PyProof.Rows L2
/-! ## a list that is not of the store yet is filled -/
section
variable {K : FR} {m m0 m1 : List Addr} {S : Store} {H H0 H1 : Hp} {r : Rho} {σ : L2.St} {p : Addr} {av bv : List V}
theorem SqT.other (e : H p = some (.lst av)) {a : Addr} {vs : List V} (h : SqT K H a vs) : SqT K (upd H p (.lst bv)) a vs := by
  rcases h with (h | ⟨o, h⟩) | h
  · exact .inl (.inl (by rw [upd_ne (fun z => by rw [z, e] at h; cases h)]; exact h))
  · exact .inl (.inr ⟨o, by rw [upd_ne (fun z => by rw [z, e] at h; cases h)]; exact h⟩)
  · exact .inr h
theorem SqC.other (e : H p = some (.lst av)) {a : Addr} {vs : List V} (h : SqC K H a vs) : SqC K (upd H p (.lst bv)) a vs := by
  rcases h with ⟨o, h⟩ | h
  · exact .inl ⟨o, by rw [upd_ne (fun z => by rw [z, e] at h; cases h)]; exact h⟩
  · exact .inr h
theorem RD.other (e : H p = some (.lst av)) {d : D} {v : V} (h : RD K m H d v) : RD K m (upd H p (.lst bv)) d v :=
  RD.rec (motive_1 := fun d v _ => RD K m (upd H p (.lst bv)) d v) (motive_2 := fun ds vs _ => RDs K m (upd H p (.lst bv)) ds vs) .non .bl .int .str (fun h _ q => .tup (SqT.other e h) q) (fun h => .ref h) (fun h _ q => .cl (SqC.other e h) q) .nil (fun _ _ a b => .cons a b) h
theorem RDs.other (e : H p = some (.lst av)) {d : List D} {v : List V} (h : RDs K m H d v) : RDs K m (upd H p (.lst bv)) d v :=
  RDs.rec (motive_1 := fun d v _ => RD K m (upd H p (.lst bv)) d v) (motive_2 := fun ds vs _ => RDs K m (upd H p (.lst bv)) ds vs) .non .bl .int .str (fun h _ q => .tup (SqT.other e h) q) (fun h => .ref h) (fun h _ q => .cl (SqC.other e h) q) .nil (fun _ _ a b => .cons a b) h
theorem Rel.other (rel : Rel K m S H) (e : H p = some (.lst av)) (n : p ∉ m) : Rel K m S (L2.upd H p (.lst bv)) := by
  refine ⟨rel.len, rel.nd, fun k o a h1 h2 => ?_⟩
  have ne : a ≠ p := fun z => n (z ▸ List.mem_of_getElem? h2)
  have q := rel.ob k o a h1 h2
  cases o with
  | lst l =>
    obtain ⟨vs, hv, rs⟩ := q
    exact ⟨vs, (upd_ne ne).trans hv, rs.other e⟩
  | dic l =>
    obtain ⟨vs, hv, r1, rs⟩ := q
    exact ⟨vs, (upd_ne ne).trans hv, r1, rs.other e⟩
theorem Ext.other (x : Ext m1 H1 m H) (e : H1 p = none) : Ext m1 H1 m (L2.upd H p (.lst bv)) :=
  ⟨x.pre, x.new, fun b o q n nt => by rw [upd_ne (ne_of_none q e)]; exact x.keep b o q n nt, fun b ps q n => by rw [upd_ne (ne_of_none q e)]; exact x.tb b ps q n⟩
theorem Ext.none_of (x : Ext m0 H0 m H) (e : H p = none) (n : p ∉ m) : H0 p = none := by
  cases q : H0 p with
  | none => rfl
  | some o =>
    by_cases hm : p ∈ m0
    · obtain ⟨t, et⟩ := x.pre
      exact absurd (by rw [et]; exact List.mem_append_left _ hm) n
    · by_cases hn : NoTb o
      · rw [x.keep p o q hm hn] at e; cases e
      · cases o with
        | tbl ps => obtain ⟨_, e2, _⟩ := x.tb p ps q hm; rw [e2] at e; cases e
        | _ => exact absurd trivial hn
theorem Cur.other (cu : Cur K m0 H0 m r S σ H) (e : H p = some (.lst av)) (n : p ∉ m) (e0 : H0 p = none) : Cur K m0 H0 m r S σ (upd H p (.lst bv)) :=
  ⟨cu.rel.other e n, cu.ext.other e0, cu.len, fun i d h => let ⟨v, e1, e2⟩ := cu.loc i d h; ⟨v, e1, e2.other e⟩⟩
end
theorem wipe_wipe (σ : L2.St) (vs : List Nat) : wipe (wipe σ vs) vs = wipe σ vs := by
  have one : ∀ (vs : List Nat) (σ : L2.St) (v : Nat), wipe (σ.set v none) vs = (wipe σ vs).set v none := by
    intro vs
    induction vs with
    | nil => intro _ _; rfl
    | cons w ws ih =>
      intro σ v
      show (wipe (σ.set v none) ws).set w none = ((wipe σ ws).set w none).set v none
      rw [ih]
      by_cases hv : v = w
      · subst hv; rfl
      · rw [List.set_comm _ _ hv]
  induction vs generalizing σ with
  | nil => rfl
  | cons w ws ih =>
    show (wipe ((wipe σ ws).set w none) ws).set w none = (wipe σ ws).set w none
    rw [one, ih, List.set_set]
theorem wipeD_wipeD (r : Rho) (vs : List Nat) : wipeD (wipeD r vs) vs = wipeD r vs := by
  have one : ∀ (vs : List Nat) (r : Rho) (v : Nat), wipeD (r.set v none) vs = (wipeD r vs).set v none := by
    intro vs
    induction vs with
    | nil => intro _ _; rfl
    | cons w ws ih =>
      intro r v
      show (wipeD (r.set v none) ws).set w none = ((wipeD r ws).set w none).set v none
      rw [ih]
      by_cases hv : v = w
      · subst hv; rfl
      · rw [List.set_comm _ _ hv]
  induction vs generalizing r with
  | nil => rfl
  | cons w ws ih =>
    show (wipeD ((wipeD r ws).set w none) ws).set w none = (wipeD r ws).set w none
    rw [one, ih, List.set_set]
section
variable {X : Cx} {c : Cxt} {C : CallH} {k : Nat} {m0 : List Addr} {H0 : Hp}
/-- a list comprehension's reading -/
theorem lc_r {elt : E} {g : G} {it : It} {cs : Es} {own : List Nat} (hown : ∀ i ∈ slotsG g, i ∈ own) {σ : L2.St} {H : Hp} {Q : VK} (h : TrE X.K m0 H0 (wpE C (.lc elt g it cs own)) σ H Q) :
    tLc (TrI X.K m0 H0 (wpI C it)) (TrG X.K m0 H0 (slotsG g) (wpG C g)) (TrT X.K m0 H0 (wpTs C cs)) (TrE X.K m0 H0 (wpE C elt)) own σ H Q := by
  obtain ⟨m, r, S, Qd, cu, w, q⟩ := h
  refine ⟨m, r, S, _, cu, w, fun src S1 m1 H1 J w1 rel1 x1 wk p hp => ?_⟩
  have cu1 := cu.move rel1 x1
  have hpm : p ∉ m1 := rel1.fresh hp
  have h0p : H0 p = none := cu1.ext.none_of hp hpm
  refine ⟨fun i n H2 => ∃ m2 S2 acc av, Cur X.K m0 H0 m2 (wipeD r own) S2 (wipe σ own) H2 ∧ Ext m1 H1 m2 H2 ∧ H2 p = some (.lst av) ∧ RDs X.K m2 H2 acc av ∧ p ∉ m2 ∧
      lcLoop src.stay (wpG C g) (wpTs C cs) (wpE C elt) (wipeD r own) (src.its.drop i) S2 acc (fun acc S2 => Qd (.ref S2.length) (S2 ++ [.lst acc])) ∧ n = src.its.length - i ∧ i ≤ src.its.length,
    ⟨src.its.length, m1, S1, [], [], (cu1.wipe own).move (cu1.rel.laid hp) (.laid hp), .laid hp, upd_same, .nil, hpm, (by rw [List.drop_zero]; exact w1), by simp, Nat.zero_le _⟩, ?_⟩
  rintro i n H2 ⟨m2, S2, acc, av, cu2, x2, e2, ra, np, w2, rfl, hi⟩
  by_cases hlt : i < src.its.length
  · rw [List.drop_eq_getElem_cons hlt] at w2
    obtain ⟨st, w2⟩ := w2
    refine .inr ⟨wk.go i m2 S2 H2 cu2.rel x2.w st hlt, fun H' => ∃ m2 S2 acc av, Cur X.K m0 H0 m2 (wipeD r own) S2 (wipe σ own) H' ∧ Ext m1 H1 m2 H' ∧ H' p = some (.lst av) ∧ RDs X.K m2 H' acc av ∧ p ∉ m2 ∧
      lcLoop src.stay (wpG C g) (wpTs C cs) (wpE C elt) (wipeD r own) (src.its.drop (i + 1)) S2 acc (fun acc S2 => Qd (.ref S2.length) (S2 ++ [.lst acc])), fun H' ⟨a1, a2, a3, a4, b1, b2, b3, b4, b5, b6⟩ => ⟨src.its.length - (i + 1), by omega, a1, a2, a3, a4, b1, b2, b3, b4, b5, b6, rfl, hlt⟩, fun x H3 y => ?_⟩
    obtain ⟨d, ed, rel3, x3, rd⟩ := wk.yld i m2 S2 H2 x H3 cu2.rel x2.w st y hlt
    rw [List.getElem?_eq_getElem hlt] at ed
    cases ed
    have cu3 := cu2.move rel3 x3
    refine ⟨m2, _, S2, _, _, cu3, rd, w2, fun r4 S4 σ4 m4 H4 w4 cu4 x4 sm => ?_⟩
    obtain ⟨s1, s2⟩ := sm own hown
    rw [wipe_wipe] at s1
    rw [wipeD_wipeD] at s2
    refine ⟨s1, TrT.of cu4 w4 fun b S5 m5 H5 w5 cu5 x5 => ?_⟩
    -- back to the wiped names
    have back : ∀ {m6 S6 H6}, Cur X.K m0 H0 m6 r4 S6 σ4 H6 → Cur X.K m0 H0 m6 (wipeD r own) S6 (wipe σ own) H6 := fun {m6 S6 H6} cu6 => by
      have z := cu6.wipe own
      rw [s1, s2] at z
      exact z
    have x25 : Ext m2 H2 m5 H5 := (x3.trans x4).trans x5
    cases b with
    | false =>
      refine iteF ⟨m5, S5, acc, av, back cu5, x2.trans x25, x25.keep p _ e2 np trivial, ra.mono x25 cu2.rel, x25.nin e2 np, ?_⟩
      exact (if_neg Bool.false_ne_true).mp w5
    | true =>
      refine iteT (TrE.of cu5 ((if_pos rfl).mp w5) fun y S6 yv m6 H6 w6 cu6 x6 ry => ?_)
      obtain ⟨hz, w6⟩ := w6
      have x26 := x25.trans x6
      have e6 := x26.keep p _ e2 np trivial
      have n6 := x26.nin e2 np
      have ra6 := ra.mono x26 cu2.rel
      exact ⟨av, e6, by rw [← ra.length]; exact hz, m6, S6, acc ++ [y], av ++ [yv], (back cu6).other e6 n6 h0p, (x2.trans x26).other hp, upd_same, (ra6.app (.cons ry .nil)).other e6, n6, w6⟩
  · have hi2 : i = src.its.length := by omega
    subst hi2
    rw [List.drop_length] at w2
    obtain ⟨st, w2⟩ := w2
    refine .inl ⟨wk.stop _ m2 S2 H2 cu2.rel x2.w st (Nat.le_refl _), ?_⟩
    obtain ⟨rel', mono⟩ := cu2.rel.adopt e2 np ra
    have xx : Ext m H (m2 ++ [p]) H2 := by
      have z := x1.trans x2
      refine ⟨?_, fun b hb => ?_, z.keep, z.tb⟩
      · obtain ⟨t, et⟩ := z.pre
        exact ⟨t ++ [p], by rw [et, List.append_assoc]⟩
      · rcases List.mem_append.mp hb with hb | hb
        · exact z.new b hb
        · rw [List.mem_singleton.mp hb]
          exact .inr (x1.none_of hp hpm)
    exact q _ _ _ _ _ w2 rel' xx (.ref (by rw [← cu2.rel.len, List.getElem?_append_right (Nat.le_refl _)]; simp))
theorem wipe_sub {σ : L2.St} {vs : List Nat} : ∀ {us : List Nat}, (∀ i ∈ us, i ∈ vs) → wipe (wipe σ us) vs = wipe σ vs
  | [], _ => rfl
  | u :: us, h => by
    show wipe ((wipe σ us).set u none) vs = wipe σ vs
    rw [wipe_set (α := Nat) (h u (List.mem_cons_self ..)), wipe_sub fun i hi => h i (List.mem_cons_of_mem _ hi)]
theorem wipeD_sub {r : Rho} {vs : List Nat} : ∀ {us : List Nat}, (∀ i ∈ us, i ∈ vs) → wipeD (wipeD r us) vs = wipeD r vs
  | [], _ => rfl
  | u :: us, h => by
    show wipeD ((wipeD r us).set u none) vs = wipeD r vs
    rw [wipeD_set (h u (List.mem_cons_self ..)), wipeD_sub fun i hi => h i (List.mem_cons_of_mem _ hi)]
/-- a list comprehension's reading, two clauses -/
theorem lc2_r {elt : E} {g g1 : G} {it it1 : It} {cs cs1 : Es} {own vs1 : List Nat} (hown : ∀ i ∈ slotsG g, i ∈ own) (hown1 : ∀ i ∈ slotsG g1, i ∈ vs1) (hvs : ∀ i ∈ vs1, i ∈ own) {σ : L2.St} {H : Hp} {Q : VK} (h : TrE X.K m0 H0 (wpE C (.lc2 elt g it cs g1 it1 cs1 own vs1)) σ H Q) :
    tLc2 (TrI X.K m0 H0 (wpI C it)) (TrG X.K m0 H0 (slotsG g) (wpG C g)) (TrT X.K m0 H0 (wpTs C cs)) (TrI X.K m0 H0 (wpI C it1)) (TrG X.K m0 H0 (slotsG g1) (wpG C g1)) (TrT X.K m0 H0 (wpTs C cs1)) (TrE X.K m0 H0 (wpE C elt)) own vs1 σ H Q := by
  obtain ⟨m, r, S, Qd, cu, w, q⟩ := h
  refine ⟨m, r, S, _, cu, w, fun src S1 m1 H1 J w1 rel1 x1 wk p hp => ?_⟩
  have cu1 := cu.move rel1 x1
  have hpm : p ∉ m1 := rel1.fresh hp
  have h0p : H0 p = none := cu1.ext.none_of hp hpm
  let inner : Rho → Store → List D → (List D → Store → Prop) → Prop := fun r1 S2 acc K => wpI C it1 r1 S2 fun src1 S3 => lcLoop src1.stay (wpG C g1) (wpTs C cs1) (wp C elt).v (wipeD r1 vs1) src1.its S3 acc K
  let fin : List D → Store → Prop := fun acc S2 => Qd (.ref S2.length) (S2 ++ [.lst acc])
  let Inv1 : Nat → Hp → Prop := fun i H2 => ∃ m2 S2 acc av, Cur X.K m0 H0 m2 (wipeD r own) S2 (wipe σ own) H2 ∧ Ext m1 H1 m2 H2 ∧ H2 p = some (.lst av) ∧ RDs X.K m2 H2 acc av ∧ p ∉ m2 ∧
      lc2Loop src.stay (wpG C g) (wpTs C cs) inner (wipeD r own) (src.its.drop i) S2 acc fin
  refine ⟨fun i n H2 => Inv1 i H2 ∧ n = src.its.length - i ∧ i ≤ src.its.length,
    ⟨src.its.length, ⟨m1, S1, [], [], (cu1.wipe own).move (cu1.rel.laid hp) (.laid hp), .laid hp, upd_same, .nil, hpm, (by rw [List.drop_zero]; exact w1)⟩, by simp, Nat.zero_le _⟩, ?_⟩
  rintro i n H2 ⟨⟨m2, S2, acc, av, cu2, x2, e2, ra, np, w2⟩, rfl, hi⟩
  by_cases hlt : i < src.its.length
  · rw [List.drop_eq_getElem_cons hlt] at w2
    obtain ⟨st, w2⟩ := w2
    refine .inr ⟨wk.go i m2 S2 H2 cu2.rel x2.w st hlt, Inv1 (i + 1), fun H' z => ⟨src.its.length - (i + 1), by omega, z, rfl, hlt⟩, fun x H3 y => ?_⟩
    obtain ⟨d, ed, rel3, x3, rd⟩ := wk.yld i m2 S2 H2 x H3 cu2.rel x2.w st y hlt
    rw [List.getElem?_eq_getElem hlt] at ed
    cases ed
    have cu3 := cu2.move rel3 x3
    refine ⟨m2, _, S2, _, _, cu3, rd, w2, fun r4 S4 σ4 m4 H4 w4 cu4 x4 sm => ?_⟩
    obtain ⟨s1, s2⟩ := sm own hown
    rw [wipe_wipe] at s1
    rw [wipeD_wipeD] at s2
    refine ⟨s1, TrT.of cu4 w4 fun b S5 m5 H5 w5 cu5 x5 => ?_⟩
    have back : ∀ {m6 S6 H6 r5 σ5}, wipe σ5 own = wipe σ own → wipeD r5 own = wipeD r own → Cur X.K m0 H0 m6 r5 S6 σ5 H6 → Cur X.K m0 H0 m6 (wipeD r own) S6 (wipe σ own) H6 := fun {m6 S6 H6 r5 σ5} t1 t2 cu6 => by
      have z := cu6.wipe own
      rw [t1, t2] at z
      exact z
    have x25 : Ext m2 H2 m5 H5 := (x3.trans x4).trans x5
    cases b with
    | false =>
      refine iteF ⟨m5, S5, acc, av, back s1 s2 cu5, x2.trans x25, x25.keep p _ e2 np trivial, ra.mono x25 cu2.rel, x25.nin e2 np, ?_⟩
      exact (if_neg Bool.false_ne_true).mp w5
    | true =>
      have w5 := (if_pos rfl).mp w5
      refine iteT ⟨m5, r4, S5, _, cu5, w5, fun src1 S6 m6 H6 J1 w6 rel6 x6 wk1 => ?_⟩
      have cu6 := cu5.move rel6 x6
      have x26 := x25.trans x6
      let Inv2 : Nat → Hp → Prop := fun j H7 => ∃ m7 S7 acc av, Cur X.K m0 H0 m7 (wipeD r4 vs1) S7 (wipe σ4 vs1) H7 ∧ ExtW m6 H6 m7 H7 ∧ Ext m1 H1 m7 H7 ∧ H7 p = some (.lst av) ∧ RDs X.K m7 H7 acc av ∧ p ∉ m7 ∧
        lcLoop src1.stay (wpG C g1) (wpTs C cs1) (wp C elt).v (wipeD r4 vs1) (src1.its.drop j) S7 acc (fun acc' S3 => lc2Loop src.stay (wpG C g) (wpTs C cs) inner (wipeD r own) (src.its.drop (i + 1)) S3 acc' fin)
      refine ⟨fun j n H7 => Inv2 j H7 ∧ n = src1.its.length - j ∧ j ≤ src1.its.length,
        ⟨src1.its.length, ⟨m6, S6, acc, av, cu6.wipe vs1, Ext.refl.w, x2.trans x26, x26.keep p _ e2 np trivial, ra.mono x26 cu2.rel, x26.nin e2 np, (by rw [List.drop_zero]; exact w6)⟩, by simp, Nat.zero_le _⟩, ?_⟩
      rintro j n H7 ⟨⟨m7, S7, acc7, av7, cu7, x67, x17, e7, ra7, np7, w7⟩, rfl, hj⟩
      have t1 : wipe (wipe σ4 vs1) own = wipe σ own := by rw [wipe_sub hvs, s1]
      have t2 : wipeD (wipeD r4 vs1) own = wipeD r own := by rw [wipeD_sub hvs, s2]
      by_cases hlt1 : j < src1.its.length
      · rw [List.drop_eq_getElem_cons hlt1] at w7
        obtain ⟨st7, w7⟩ := w7
        refine .inr ⟨wk1.go j m7 S7 H7 cu7.rel x67 st7 hlt1, Inv2 (j + 1), fun H' z => ⟨src1.its.length - (j + 1), by omega, z, rfl, hlt1⟩, fun x' H8 y' => ?_⟩
        obtain ⟨d', ed', rel8, x8, rd'⟩ := wk1.yld j m7 S7 H7 x' H8 cu7.rel x67 st7 y' hlt1
        rw [List.getElem?_eq_getElem hlt1] at ed'
        cases ed'
        have cu8 := cu7.move rel8 x8
        refine ⟨m7, _, S7, _, _, cu8, rd', w7, fun r9 S9 σ9 m9 H9 w9 cu9 x9 sm9 => ?_⟩
        obtain ⟨u1, u2⟩ := sm9 vs1 hown1
        rw [wipe_wipe] at u1
        rw [wipeD_wipeD] at u2
        refine ⟨u1, TrT.of cu9 w9 fun b1 S10 m10 H10 w10 cu10 x10 => ?_⟩
        have back1 : ∀ {m6 S6 H6}, Cur X.K m0 H0 m6 r9 S6 σ9 H6 → Cur X.K m0 H0 m6 (wipeD r4 vs1) S6 (wipe σ4 vs1) H6 := fun {m6 S6 H6} cu6 => by
          have z := cu6.wipe vs1
          rw [u1, u2] at z
          exact z
        have x710 : Ext m7 H7 m10 H10 := (x8.trans x9).trans x10
        cases b1 with
        | false =>
          refine iteF ⟨m10, S10, acc7, av7, back1 cu10, x67.on x710, x17.trans x710, x710.keep p _ e7 np7 trivial, ra7.mono x710 cu7.rel, x710.nin e7 np7, ?_⟩
          exact (if_neg Bool.false_ne_true).mp w10
        | true =>
          refine iteT (TrE.of cu10 ((if_pos rfl).mp w10) fun y S11 yv m11 H11 w11 cu11 x11 ry => ?_)
          obtain ⟨hz, w11⟩ := w11
          have x711 := x710.trans x11
          have e11 := x711.keep p _ e7 np7 trivial
          have n11 := x711.nin e7 np7
          have ra11 := ra7.mono x711 cu7.rel
          have h6p : p ∉ m6 := x26.nin e2 np
          exact ⟨av7, e11, by rw [← ra7.length]; exact hz, m11, S11, acc7 ++ [y], av7 ++ [yv], (back1 cu11).other e11 n11 h0p, (x67.on x711).other h6p ⟨_, x26.keep p _ e2 np trivial⟩ e11, (x17.trans x711).other hp, upd_same, (ra11.app (.cons ry .nil)).other e11, n11, w11⟩
      · have hj2 : j = src1.its.length := by omega
        subst hj2
        rw [List.drop_length] at w7
        obtain ⟨st7, w7⟩ := w7
        exact .inl ⟨wk1.stop _ m7 S7 H7 cu7.rel x67 st7 (Nat.le_refl _), m7, S7, acc7, av7, back t1 t2 cu7, x17, e7, ra7, np7, w7⟩
  · have hi2 : i = src.its.length := by omega
    subst hi2
    rw [List.drop_length] at w2
    obtain ⟨st, w2⟩ := w2
    refine .inl ⟨wk.stop _ m2 S2 H2 cu2.rel x2.w st (Nat.le_refl _), ?_⟩
    obtain ⟨rel', mono⟩ := cu2.rel.adopt e2 np ra
    have xx : Ext m H (m2 ++ [p]) H2 := by
      have z := x1.trans x2
      refine ⟨?_, fun b hb => ?_, z.keep, z.tb⟩
      · obtain ⟨t, et⟩ := z.pre
        exact ⟨t ++ [p], by rw [et, List.append_assoc]⟩
      · rcases List.mem_append.mp hb with hb | hb
        · exact z.new b hb
        · rw [List.mem_singleton.mp hb]
          exact .inr (x1.none_of hp hpm)
    exact q _ _ _ _ _ w2 rel' xx (.ref (by rw [← cu2.rel.len, List.getElem?_append_right (Nat.le_refl _)]; simp))
end
end Ev
set_option Elab.async false
set_option linter.all false
set_option maxRecDepth 100000
set_option maxHeartbeats 8000000
namespace Ev
open PySem PySem.Spec PyProof.Rows L2
/-! ## generator expressions -/
def gkKy (k : GK) (Q : VK) : List V → V → Hp → (List V → Hp → Prop) → Prop := match k with
  | .any => Gx.KyQ true fun H => Q (.bl true) H
  | .all => Gx.KyQ false fun H => Q (.bl false) H
  | .max => Gx.KyM
  | .min => Gx.KyM
  | _ => Gx.KyL
def gkZ (k : GK) (Q : VK) (vs : List V) (H : Hp) : Prop := match k with
  | .any => Q (.bl false) H
  | .all => Q (.bl true) H
  | .tuple => vs.length ≤ sizeLine ∧ ∀ p, H p = none → Q (.ref p) (upd H p (.tup vs))
  | .max => ∃ a ns, vs = (a :: ns).map V.int ∧ Q (.int (maxL a ns)) H
  | .min => ∃ a ns, vs = (a :: ns).map V.int ∧ Q (.int (minL a ns)) H
  | _ => False
section
variable {K : FR} {m : List Addr} {S : Store} {H H' : Hp} {P : Addr}
theorem tab_rel (r : Rel K m S H) (g : GxR.TabG H P) (t : GxR.Tabbed P H H') : Rel K m S H' ∧ Ext m H m H' := by
  obtain ⟨ps, e, _⟩ := g
  have nm := r.tabNot e
  obtain ⟨⟨qs, e2, ok2⟩, oth⟩ := t
  have x : Ext m H m H' := ⟨⟨[], by simp⟩, fun b hb => .inl hb, fun b o eb _ nt => by
    rw [oth b fun z => ?_]
    · exact eb
    · rw [z, e] at eb
      cases eb
      exact nt, fun b ps' eb _ => by
    by_cases z : b = P
    · subst z
      exact ⟨qs, e2, fun _ => ok2⟩
    · exact ⟨ps', by rw [oth b z]; exact eb, id⟩⟩
  exact ⟨⟨r.len, r.nd, fun n o a h1 h2 => (r.ob n o a h1 h2).mono x r (oth a fun z => nm (z ▸ List.mem_of_getElem? h2))⟩, x⟩
end
section
variable {X : Cx} {c : Cxt} {C : CallH} {k : Nat} {m0 : List Addr} {H0 : Hp}
/-- a generator expression's reading -/
theorem gen_r {gk : GK} (hk : gkOk gk = true) {elt : E} {g : G} {it : It} {cs : Es} {own : List Nat} {P : Addr} (hown : ∀ i ∈ slotsG g, i ∈ own) (hP : GxR.TabG H0 P ∧ P ∉ m0) {σ : L2.St} {H : Hp} {Q : VK} (h : TrE X.K m0 H0 (wpE C (.gen gk elt g it cs own)) σ H Q) :
    Gx.tGen (gkKy gk) (gkZ gk) P (TrI X.K m0 H0 (wpI C it)) (TrG X.K m0 H0 (slotsG g) (wpG C g)) (TrT X.K m0 H0 (wpTs C cs)) (TrE X.K m0 H0 (wpE C elt)) own σ H Q := by
  obtain ⟨m, r, S, Qd, cu, w, q⟩ := h
  refine ⟨m, r, S, _, cu, w, fun src S1 m1 H1 J w1 rel1 x1 wk => ?_⟩
  have cu1 := cu.move rel1 x1
  have tg : GxR.TabG H1 P := by
    obtain ⟨ps, e, ok⟩ := hP.1
    obtain ⟨qs, e2, ok2⟩ := cu1.ext.tb P ps e hP.2
    exact ⟨qs, e2, ok2 ok⟩
  refine ⟨tg, fun H2 tb => ?_⟩
  obtain ⟨rel2, x2⟩ := tab_rel rel1 tg tb
  refine ⟨fun i n vs H => ∃ m2 S2 acc, Cur X.K m0 H0 m2 (wipeD r own) S2 (wipe σ own) H ∧ Ext m1 H1 m2 H ∧ RDs X.K m2 H acc vs ∧ gLoop src.stay (wpG C g) (wpTs C cs) (wpE C elt) (wipeD r own) (gStep gk Qd) (gFin gk Qd) (src.its.drop i) S2 acc ∧
      (gk = .tuple → acc.length ≤ sizeLine) ∧ n = src.its.length - i ∧ i ≤ src.its.length,
    ⟨src.its.length, m1, S1, [], (cu1.wipe own).move rel2 x2, x2, .nil, (by rw [List.drop_zero]; exact w1), (fun _ => Nat.zero_le _), by simp, Nat.zero_le _⟩, ?_⟩
  rintro i n vs H3 ⟨m3, S3, acc, cu3, x3, ra, w3, hz, rfl, hi⟩
  by_cases hlt : i < src.its.length
  · rw [List.drop_eq_getElem_cons hlt] at w3
    obtain ⟨st, w3⟩ := w3
    refine .inr ⟨wk.go i m3 S3 H3 cu3.rel x3.w st hlt, fun vs' H' => ∃ m2 S2 acc, Cur X.K m0 H0 m2 (wipeD r own) S2 (wipe σ own) H' ∧ Ext m1 H1 m2 H' ∧ RDs X.K m2 H' acc vs' ∧ gLoop src.stay (wpG C g) (wpTs C cs) (wpE C elt) (wipeD r own) (gStep gk Qd) (gFin gk Qd) (src.its.drop (i + 1)) S2 acc ∧ (gk = .tuple → acc.length ≤ sizeLine),
      fun vs' H' ⟨a1, a2, a3, b1, b2, b3, b4, b5⟩ => ⟨src.its.length - (i + 1), by omega, a1, a2, a3, b1, b2, b3, b4, b5, rfl, hlt⟩, fun x H4 y => ?_⟩
    obtain ⟨d, ed, rel4, x4, rd⟩ := wk.yld i m3 S3 H3 x H4 cu3.rel x3.w st y hlt
    rw [List.getElem?_eq_getElem hlt] at ed
    cases ed
    have cu4 := cu3.move rel4 x4
    refine ⟨m3, _, S3, _, _, cu4, rd, w3, fun r5 S5 σ5 m5 H5 w5 cu5 x5 sm => ?_⟩
    obtain ⟨s1, s2⟩ := sm own hown
    rw [wipe_wipe] at s1
    rw [wipeD_wipeD] at s2
    refine ⟨s1, TrT.of cu5 w5 fun b S6 m6 H6 w6 cu6 x6 => ?_⟩
    have back : ∀ {m S H}, Cur X.K m0 H0 m r5 S σ5 H → Cur X.K m0 H0 m (wipeD r own) S (wipe σ own) H := fun {m S H} cu' => by
      have z := cu'.wipe own
      rw [s1, s2] at z
      exact z
    have x36 : Ext m3 H3 m6 H6 := (x4.trans x5).trans x6
    cases b with
    | false =>
      refine iteF ⟨m6, S6, acc, back cu6, x3.trans x36, ra.mono x36 cu3.rel, ?_, hz⟩
      exact (if_neg Bool.false_ne_true).mp w6
    | true =>
      refine iteT (TrE.of cu6 ((if_pos rfl).mp w6) fun y S7 yv m7 H7 w7 cu7 x7 ry => ?_)
      have x37 := x36.trans x7
      have ra7 := ra.mono x37 cu3.rel
      have x07 : Ext m H m7 H7 := x1.trans (x3.trans x37)
      cases gk with
      | any =>
        obtain ⟨t, rfl, w7⟩ := w7
        cases ry
        refine ⟨t, rfl, ?_⟩
        cases t with
        | true => exact iteT (q _ _ _ _ _ ((if_pos rfl).mp w7) cu7.rel x07 (.bl _))
        | false => exact iteF ⟨m7, S7, _, back cu7, x3.trans x37, ra7.app (.cons (.bl _) .nil), (if_neg Bool.false_ne_true).mp w7, fun z => by cases z⟩
      | all =>
        obtain ⟨t, rfl, w7⟩ := w7
        cases ry
        refine ⟨t, rfl, ?_⟩
        cases t with
        | true =>
          rw [if_neg (by decide)]
          exact ⟨m7, S7, _, back cu7, x3.trans x37, ra7.app (.cons (.bl _) .nil), (if_pos rfl).mp w7, fun z => by cases z⟩
        | false =>
          rw [if_pos rfl]
          exact q _ _ _ _ _ ((if_neg Bool.false_ne_true).mp w7) cu7.rel x07 (.bl _)
      | tuple =>
        obtain ⟨hl, w7⟩ := w7
        exact ⟨by rw [← ra.length]; exact hl, m7, S7, _, back cu7, x3.trans x37, ra7.app (.cons ry .nil), w7, fun _ => by rw [List.length_append]; exact hl⟩
      | list => cases hk
      | sum => cases hk
      | max =>
        obtain ⟨_, ⟨i, rfl⟩, w7⟩ := w7
        cases ry
        exact ⟨i, rfl, m7, S7, _, back cu7, x3.trans x37, ra7.app (.cons (.int _) .nil), w7, fun z => by cases z⟩
      | min =>
        obtain ⟨_, ⟨i, rfl⟩, w7⟩ := w7
        cases ry
        exact ⟨i, rfl, m7, S7, _, back cu7, x3.trans x37, ra7.app (.cons (.int _) .nil), w7, fun z => by cases z⟩
  · have hi2 : i = src.its.length := by omega
    subst hi2
    rw [List.drop_length] at w3
    obtain ⟨st, w3⟩ := w3
    refine .inl ⟨wk.stop _ m3 S3 H3 cu3.rel x3.w st (Nat.le_refl _), ?_⟩
    have x03 := x1.trans x3
    cases gk with
    | any => exact q _ _ _ _ _ w3 cu3.rel x03 (.bl _)
    | all => exact q _ _ _ _ _ w3 cu3.rel x03 (.bl _)
    | tuple => exact ⟨by rw [← ra.length]; exact hz rfl, (q.back x03).newT cu3.rel ra w3⟩
    | list => cases hk
    | sum => cases hk
    | max =>
      obtain ⟨a, ns, ei, w3⟩ := w3
      exact ⟨a, ns, ints_of ra ei, q _ _ _ _ _ w3 cu3.rel x03 (.int _)⟩
    | min =>
      obtain ⟨a, ns, ei, w3⟩ := w3
      exact ⟨a, ns, ints_of ra ei, q _ _ _ _ _ w3 cu3.rel x03 (.int _)⟩
theorem Good.gx {X : Cx} {c : Cxt} (G : Good X c C k m0 H0) (hg : c.g = false) {A : Around} {s4 : Shared} {H4 : Hp} {ce : Env} {fp : List Addr} {scope : Scope} (at_ : Gx.GxAt X scope A ce) : Good (Gx.gcx X A s4 H4 ce fp) (c.gx scope) C k m0 H0 where
  N := G.N
  nd := G.nd
  sc := at_.sc
  fn := fun x h => by cases h
  calm := G.calm
  room := by
    have r := G.room3 hg
    refine ⟨at_.hd.trans r.hd, ?_, ?_⟩
    · have h1 := r.dp
      have h2 := at_.dp
      show A.depth + 3 * (2 * k + 2) + 5 < _
      omega
    · have h1 := r.un
      have h2 := at_.un
      show A.units + 16 * (2 * k + 2) + 200 < _
      omega
  room3 := fun h => by cases h
  own := PassesOwn.never
  tab := G.tab
  tk := fun h => by cases h
  tbs := G.tbs
  code := fun h => by cases h
  fr := fun h => by cases h
theorem genC_ok {scope : Scope} (h : genC scope = true) : scope.isCoroutine = false ∧ scope.names.lookup (".0" : Str) = some NameKind.local ∧ ∀ y ∈ scope.names, y.2 ≠ .cell := by
  obtain ⟨h1, h⟩ := and2 h
  obtain ⟨h2, h3⟩ := and2 h
  refine ⟨by simpa using h1, ?_, fun y hy z => ?_⟩
  · cases e : scope.names.lookup (".0" : Str) with
    | none => rw [e] at h2; cases h2
    | some kd =>
      rw [e] at h2
      cases kd <;> first
        | rfl
        | cases h2
  · have q := List.all_eq_true.mp h3 y hy
    rw [z] at q
    cases q
theorem fold_gen {iter : Expr} {env : Env} (h : ∀ l n p, iter ≠ .Set l n p) (h2 : ∀ l p, iter ≠ .List l p) : ∀ v, genFold iter env v = pure v := by
  intro v
  cases iter <;> first
    | rfl
    | exact absurd rfl (h _ _ _)
    | exact absurd rfl (h2 _ _)

theorem s_gen {gk : GK} (hk : gkOk gk = true) {elt : E} {g : G} {it : It} {cs : Es} {own : List Nat} {x : Str} {e tg iter : Expr} {ifs : List Expr} {scope : Scope} {p gp pos : Pos} (G : Good X c C k m0 H0) (hg : c.g = false) (hgl : c.glb x = true) (hx : x = gkName gk) (hpi : plainIter iter = true) (hgc : genC scope = true)
    (h1 : blkC c.N c.sc scope (ownOf c.N own) = true) (ho : (ownOf c.N own).map (·.2) = own) (hown : ∀ i ∈ slotsG g, i ∈ own) (hI : SI X C m0 H0 it tg iter)
    (hG : ∀ A s4 H4 ce fp, Gx.GxAt X scope A ce → PG (Gx.gcx X A s4 H4 ce fp) tg (TrG X.K m0 H0 (slotsG g) (wpG C g))) (hT : ∀ A s4 H4 ce fp, Gx.GxAt X scope A ce → PTs (Gx.gcx X A s4 H4 ce fp) ifs (TrT X.K m0 H0 (wpTs C cs)))
    (hE : ∀ A s4 H4 ce fp, Gx.GxAt X scope A ce → PE (Gx.gcx X A s4 H4 ce fp) e (TrE X.K m0 H0 (wpE C elt))) : SE X C m0 H0 (.gen gk elt g it cs own) (.Call (.Name x p) [.GeneratorExp e [⟨tg, iter, ifs, 0⟩] scope gp] [] pos) := by
  obtain ⟨cc, P, hcode, TB, tg0, nm⟩ := G.code hg
  obtain ⟨g1, g2⟩ := c.glb_ok G.sc hgl
  obtain ⟨co, d0, nc⟩ := genC_ok hgc
  have hb : BlkOk X.N X.env.scope scope (ownOf c.N own) := by
    rw [G.N, G.sc]
    exact blkOk_by h1
  have hh := G.room.hd
  have hd := G.room.depth
  have hs : ∀ v, genFold iter X.env v = pure v := fold_gen (fun l n p z => by rw [z] at hpi; cases hpi) (fun l p z => by rw [z] at hpi; cases hpi)
  have imp : ∀ σ H Q, TrE X.K m0 H0 (wpE C (.gen gk elt g it cs own)) σ H Q → Gx.tGen (gkKy gk) (gkZ gk) P (TrI X.K m0 H0 (wpI C it)) (TrG X.K m0 H0 (slotsG g) (wpG C g)) (TrT X.K m0 H0 (wpTs C cs)) (TrE X.K m0 H0 (wpE C elt)) ((ownOf c.N own).map (·.2)) σ H Q := fun σ H Q w => by
    rw [ho]
    exact gen_r hk hown ⟨tg0, nm⟩ w
  subst hx
  cases gk with
  | any => exact PE.imp (Gx.pe_gen (f := .builtin "any") (.inl ⟨_, rfl⟩) (fun pins σ H2 s4 ce fp C go gi s5 Q G => Gx.eat_any hh hd G) g1 G.tab.anyall.1 (by decide +kernel) (by decide +kernel) g2 G.calm hd TB hcode hI hb (by rw [G.N]; exact G.nd) nc d0 co hs hG hT hE) imp
  | all => exact PE.imp (Gx.pe_gen (f := .builtin "all") (.inl ⟨_, rfl⟩) (fun pins σ H2 s4 ce fp C go gi s5 Q G => Gx.eat_all hh hd G) g1 G.tab.anyall.2 (by decide +kernel) (by decide +kernel) g2 G.calm hd TB hcode hI hb (by rw [G.N]; exact G.nd) nc d0 co hs hG hT hE) imp
  | tuple => exact PE.imp (Gx.pe_gen (f := .type "tuple") (.inr ⟨_, rfl⟩) (fun pins σ H2 s4 ce fp C go gi s5 Q G => Gx.eat_tuple hh hd G) g1 (G.tab.bis .tuple) (by decide +kernel) (by decide +kernel) g2 G.calm hd TB hcode hI hb (by rw [G.N]; exact G.nd) nc d0 co hs hG hT hE) imp
  | list => cases hk
  | sum => cases hk
  | max => exact PE.imp (Gx.pe_gen (f := .builtin "max") (.inl ⟨_, rfl⟩) (fun pins σ H2 s4 ce fp C go gi s5 Q G => Gx.eat_max hh hd G) g1 (G.tab.bis .max) (by decide +kernel) (by decide +kernel) g2 G.calm hd TB hcode hI hb (by rw [G.N]; exact G.nd) nc d0 co hs hG hT hE) imp
  | min => exact PE.imp (Gx.pe_gen (f := .builtin "min") (.inl ⟨_, rfl⟩) (fun pins σ H2 s4 ce fp C go gi s5 Q G => Gx.eat_min hh hd G) g1 (G.tab.bis .min) (by decide +kernel) (by decide +kernel) g2 G.calm hd TB hcode hI hb (by rw [G.N]; exact G.nd) nc d0 co hs hG hT hE) imp
/-! ## dicts -/
section
variable {K : FR} {m : List Addr} {S : Store} {H : Hp} {l : List (Key × D)} {kvs : List (Key × V)}
theorem RKs.val : ∀ {l : List (Key × D)} {kvs : List (Key × V)}, RKs K m H l kvs → ∀ ky, (valD l ky = none ∧ valV kvs ky = none) ∨ ∃ d v, valD l ky = some d ∧ valV kvs ky = some v ∧ RD K m H d v
  | [], [], _, ky => .inl ⟨rfl, rfl⟩
  | [], _ :: _, h, ky => by cases h.1
  | _ :: _, [], h, ky => by cases h.1
  | (a, d) :: l, (b, v) :: kvs, h, ky => by
    obtain ⟨h1, h2⟩ := h
    simp only [List.map_cons, List.cons.injEq] at h1
    cases h2 with
    | cons rd rs =>
      by_cases e : b = ky
      · refine .inr ⟨d, v, ?_, valV_pos e, rd⟩
        unfold valD
        rw [List.find?_cons_of_pos (by show decide (a = ky) = true; rw [← h1.1]; exact decide_eq_true e)]
        rfl
      · have ea : ¬ a = ky := fun z => e (h1.1.trans z)
        have e1 : valD ((a, d) :: l) ky = valD l ky := by
          unfold valD
          rw [List.find?_cons_of_neg (by show ¬ decide (a = ky) = true; simpa using ea)]
        rw [e1, valV_neg (p := (b, v)) e]
        exact RKs.val (l := l) (kvs := kvs) ⟨h1.2, rs⟩ ky
theorem RKs.len (h : RKs K m H l kvs) : l.length = kvs.length := by
  have := h.2.length
  simpa using this
theorem RKs.any (h : RKs K m H l kvs) (ky : Key) : (l.any fun kv => decide (kv.1 = ky)) = kvs.any fun kv => decide (kv.1 = ky) := by
  have z := congrArg (fun q : List Key => q.any fun x => decide (x = ky)) h.1
  simp only [List.any_map] at z
  exact z.symm
theorem RKs.repl {ky : Key} {d : D} {v : V} (rd : RD K m H d v) : ∀ {l : List (Key × D)} {kvs : List (Key × V)}, RKs K m H l kvs → RKs K m H (l.map fun kv => if kv.1 = ky then (kv.1, d) else kv) (kvs.map fun kv => if kv.1 = ky then (kv.1, v) else kv)
  | [], [], _ => ⟨rfl, .nil⟩
  | [], _ :: _, h => by cases h.1
  | _ :: _, [], h => by cases h.1
  | (a, d0) :: l, (b, v0) :: kvs, h => by
    obtain ⟨h1, h2⟩ := h
    simp only [List.map_cons, List.cons.injEq] at h1
    cases h2 with
    | cons r0 rs =>
      obtain ⟨i1, i2⟩ := RKs.repl (ky := ky) rd (l := l) (kvs := kvs) ⟨h1.2, rs⟩
      obtain ⟨h0, _⟩ := h1
      subst h0
      simp only [List.map_cons]
      by_cases e : b = ky
      · rw [if_pos e, if_pos e]
        exact ⟨by simp only [List.map_cons]; rw [i1], .cons rd i2⟩
      · rw [if_neg e, if_neg e]
        exact ⟨by simp only [List.map_cons]; rw [i1], .cons r0 i2⟩
theorem RKs.put (h : RKs K m H l kvs) {ky : Key} {d : D} {v : V} (rd : RD K m H d v) : RKs K m H (putD l ky d) (putK kvs ky v) := by
  unfold putD putK
  rw [h.any ky]
  by_cases e : (kvs.any fun kv => decide (kv.1 = ky)) = true
  · rw [if_pos e, if_pos e]
    exact RKs.repl rd h
  · rw [if_neg e, if_neg e]
    refine ⟨by simp only [List.map_append, List.map_cons, List.map_nil]; rw [h.1], ?_⟩
    simp only [List.map_append, List.map_cons, List.map_nil]
    exact h.2.app (.cons rd .nil)
theorem key_r {d : D} {ky : Key} {v : V} (h : keyD d = some ky) (r : RD K m H d v) : v = kV ky := by
  cases r <;> first
    | (cases h; rfl)
    | cases h
theorem Rel.dic (r : Rel K m S H) {n : Nat} {a : Addr} (e : S[n]? = some (.dic l)) (h : m[n]? = some a) : ∃ kvs, H a = some (.dK kvs) ∧ RKs K m H l kvs := r.ob n _ a e h
end
theorem noSl {q : Expr} (h : notSlice q = true) : NoSl q := by
  intro ov iv
  cases q <;> first
    | rfl
    | cases h
theorem s_dnew {pos : Pos} : SE X C m0 H0 .dnew (.Dict [] [] pos) :=
  PE.imp pe_dnewK fun σ H Q ⟨m, r, S, Qd, cu, w, q⟩ p np => q _ _ _ _ _ w (cu.rel.newO (o := .dic []) np ⟨rfl, .nil⟩) (.alloc np (cu.rel.fresh np)) (.ref (by rw [← cu.rel.len, List.getElem?_append_right (Nat.le_refl _)]; simp))
theorem hu1 (G : Good X c C k m0 H0) : X.A.units + 1 < cLine := by have := G.room.un; omega
theorem s_dget {o i : E} {p q : Expr} {pos : Pos} (G : Good X c C k m0 H0) (hn : notSlice q = true) (ho : SE X C m0 H0 o p) (hi : SE X C m0 H0 i q) : SE X C m0 H0 (.dget o i) (.Subscript p q pos) := by
  refine PE.imp (pe_dget (hu1 G) ho hi (noSl hn)) fun σ H Q ⟨m, r, S, Qd, cu, w, q⟩ => TrE.of cu w fun x S1 xv m1 H1 w1 cu1 x1 rx => TrE.of cu1 w1 fun y S2 yv m2 H2 w2 cu2 x2 ry => ?_
  obtain ⟨n, rfl, l, e, ky, ek, d, ed, w2⟩ := w2
  cases rx.mono x2 cu1.rel with
  | ref hn =>
    obtain ⟨kvs, hk, rk⟩ := cu2.rel.dic e hn
    rw [key_r ek ry]
    rcases rk.val ky with ⟨e1, _⟩ | ⟨d', v, e1, e2, rd⟩
    · rw [ed] at e1; cases e1
    · rw [ed] at e1
      cases e1
      refine ⟨_, v, rfl, ?_, (q.back (x1.trans x2)).here cu2.rel w2 rd⟩
      have z := DGet.k (k := ky) hk
      rw [e2] at z
      exact z
theorem s_din {neg : Bool} {o i : E} {op : CmpOp} {p q : Expr} {pos : Pos} (G : Good X c C k m0 H0) (hop : copIs op (if neg then .notin else .inn) = true) (hm : behindInMarks op q = false) (hi : SE X C m0 H0 i p) (ho : SE X C m0 H0 o q) : SE X C m0 H0 (.din neg i o) (.Compare p [op] [q] pos) := by
  have e := copIs_eq hop
  have go : ∀ (σ : L2.St) (H : Hp) (Q : VK), TrE X.K m0 H0 (wpE C (.din neg i o)) σ H Q → TrE X.K m0 H0 (wpE C i) σ H fun y H1 => TrE X.K m0 H0 (wpE C o) σ H1 fun x H2 => ∃ a u, x = .ref a ∧ DGet H2 a y u ∧ Q (.bl (neg != u.isSome)) H2 :=
    fun σ H Q ⟨m, r, S, Qd, cu, w, q⟩ => TrE.of cu w fun y S1 yv m1 H1 w1 cu1 x1 ry => TrE.of cu1 w1 fun x S2 xv m2 H2 w2 cu2 x2 rx => by
      obtain ⟨n, rfl, l, e, ky, ek, w2⟩ := w2
      cases rx with
      | ref hn =>
        obtain ⟨kvs, hk, rk⟩ := cu2.rel.dic e hn
        rw [key_r ek ry]
        refine ⟨_, _, rfl, DGet.k hk, ?_⟩
        have es : (valV kvs ky).isSome = (valD l ky).isSome := by
          rcases rk.val ky with ⟨e1, e2⟩ | ⟨d', v, e1, e2, rd⟩ <;> rw [e1, e2] <;> rfl
        rw [es]
        exact (q.back (x1.trans x2)).here cu2.rel w2 (.bl _)
  cases neg with
  | false =>
    have e : op = .In := e
    subst e
    refine PE.imp (pe_cmp (pc_din (hu1 G) hi ho) hm) fun σ H Q h => ?_
    have z := go σ H Q h
    simpa [tDIn] using z
  | true =>
    have e : op = .NotIn := e
    subst e
    refine PE.imp (pe_cmp (pc_dnotin (hu1 G) hi ho) hm) fun σ H Q h => ?_
    have z := go σ H Q h
    simpa [tDNotIn] using z

theorem t_din {neg : Bool} {o i : E} {op : CmpOp} {p q : Expr} {pos : Pos} (G : Good X c C k m0 H0) (hop : copIs op (if neg then .notin else .inn) = true) (hm : behindInMarks op q = false) (hi : SE X C m0 H0 i p) (ho : SE X C m0 H0 o q) : STt X C m0 H0 (.din neg i o) (.Compare p [op] [q] pos) := by
  have e := copIs_eq hop
  have go : ∀ (σ : L2.St) (H : Hp) (Q : Bool → Hp → Prop), TrT X.K m0 H0 (wpT C (.din neg i o)) σ H Q → TrE X.K m0 H0 (wpE C i) σ H fun y H1 => TrE X.K m0 H0 (wpE C o) σ H1 fun x H2 => ∃ a u, x = .ref a ∧ DGet H2 a y u ∧ (fun v H' => ∃ b, v = V.bl b ∧ Q b H') (.bl (neg != u.isSome)) H2 :=
    fun σ H Q ⟨m, r, S, Qd, cu, w, q⟩ => TrE.of cu w fun y S1 yv m1 H1 w1 cu1 x1 ry => TrE.of cu1 w1 fun x S2 xv m2 H2 w2 cu2 x2 rx => by
      obtain ⟨n, rfl, l, e, ky, ek, b, eb, w2⟩ := w2
      cases eb
      cases rx with
      | ref hn =>
        obtain ⟨kvs, hk, rk⟩ := cu2.rel.dic e hn
        rw [key_r ek ry]
        refine ⟨_, _, rfl, DGet.k hk, ?_⟩
        have es : (valV kvs ky).isSome = (valD l ky).isSome := by
          rcases rk.val ky with ⟨e1, e2⟩ | ⟨d', v, e1, e2, rd⟩ <;> rw [e1, e2] <;> rfl
        rw [es]
        exact ⟨_, rfl, q _ _ _ _ w2 cu2.rel (x1.trans x2)⟩
  cases neg with
  | false =>
    have e : op = .In := e
    subst e
    refine PT.imp (pt_cmp (pc_din (hu1 G) hi ho) hm) fun σ H Q h => ?_
    have z := go σ H Q h
    simpa [tB, tDIn] using z
  | true =>
    have e : op = .NotIn := e
    subst e
    refine PT.imp (pt_cmp (pc_dnotin (hu1 G) hi ho) hm) fun σ H Q h => ?_
    have z := go σ H Q h
    simpa [tB, tDNotIn] using z
def rSetD (K : FR) : V → V → V → Hp → (Hp → Prop) → Prop := fun o i v H Q => ∃ a H', o = .ref a ∧ DPut H a i v H' ∧ Q H'
theorem set_dic (G : Good X c C k m0 H0) : PSet X (rSetD X.K) := fun pins s σ H o i v ov iv u Q I r1 r2 r3 h => by
  obtain ⟨a, H', rfl, g, q⟩ := h
  cases r1
  exact d_setItem (hu1 G) I g r2 r3 fun s' I' => ⟨H', I', q⟩
theorem g_subD {o i : E} {p q : Expr} {pos : Pos} (G : Good X c C k m0 H0) (hn : notSlice q = true) (ho : SE X C m0 H0 o p) (hi : SE X C m0 H0 i q) : SG X C m0 H0 (.subD o i) (.Subscript p q pos) := by
  refine PG.imp (pg_sub ho hi (set_dic G) (assign_sub hn)) fun v σ H Q ⟨m, r, S, d, Qd, cu, rd, w, q⟩ => TrE.of cu w fun x S1 xv m1 H1 w1 cu1 x1 rx => TrE.of cu1 w1 fun y S2 yv m2 H2 w2 cu2 x2 ry => ?_
  obtain ⟨n, rfl, l, e, ky, ek, hz, w2⟩ := w2
  cases rx.mono x2 cu1.rel with
  | ref hn =>
    obtain ⟨kvs, hk, rk⟩ := cu2.rel.dic e hn
    have rd2 := (rd.mono x1 cu.rel).mono x2 cu1.rel
    rw [key_r ek ry]
    have x3 : Ext m2 H2 m2 (upd H2 _ (.dK (putK kvs ky v))) := .upd (List.mem_of_getElem? hn)
    refine ⟨_, _, rfl, DPut.k hk (by rw [← rk.len]; exact hz), ?_⟩
    exact q _ _ _ m2 _ w2 (cu2.move (cu2.rel.updO (o := .dic (putD l ky d)) hn (rk.put rd2)) x3) ((x1.trans x2).trans x3) fun vs hv => ⟨rfl, rfl⟩
/-! a dict display with texts as keys -/
def SPs (X : Cx) (C : CallH) (m0 : List Addr) (H0 : Hp) (pos : Pos) (ks : List Str) (es : Es) (keys : List (Option Expr)) (l : List Expr) : Prop :=
  ∃ trs, PPs X pos keys l trs ∧ ∀ σ H K, TrA X.K m0 H0 (lenEs es) (wpEs C es) σ H (fun vs H' => K ((ks.map V.str).zip vs) H') → tPairs trs σ H K
theorem p_nil {pos : Pos} : SPs X C m0 H0 pos [] .nil [] [] := ⟨[], pps_nil, fun σ H K ⟨m, r, S, Qd, cu, w, q⟩ => q [] S [] m H w cu.rel .refl .nil rfl⟩
theorem p_cons {pos kp : Pos} {k : Str} {ks : List Str} {j : Nat} {e : E} {es : Es} {p : Expr} {keys : List (Option Expr)} {l : List Expr} (he : SE X C m0 H0 e p) (hs : SPs X C m0 H0 pos ks es keys l) : SPs X C m0 H0 pos (k :: ks) (.cons e es) (some (.Constant (.str k) j kp) :: keys) (p :: l) := by
  obtain ⟨trs, pp, f⟩ := hs
  refine ⟨(tC (.str k), TrE X.K m0 H0 (wpE C e)) :: trs, pps_cons pe_str he pp, fun σ H K ⟨m, r, S, Qd, cu, w, q⟩ => ?_⟩
  exact TrE.of cu w fun d S1 v m1 H1 w1 cu1 x1 rd => f σ H1 _ (TrA.of cu1 w1 fun ds S2 vs m2 H2 w2 cu2 x2 rs hl => q (d :: ds) S2 (v :: vs) m2 H2 w2 cu2.rel (x1.trans x2) (.cons (rd.mono x2 cu1.rel) rs) (congrArg (· + 1) hl))
theorem merge_rk : ∀ {ks : List Str} {ds : List D} {vs : List V} {acc : List (Key × D)} {accv : List (Key × V)}, RKs X.K m H acc accv → RDs X.K m H ds vs → RKs X.K m H (mergeD acc ((ks.map Sum.inr).zip ds)) (mergeK accv ((ks.map Sum.inr).zip vs))
  | [], _, _, _, _, h, _ => h
  | _ :: _, _, _, _, _, h, .nil => h
  | k :: ks, _, _, _, _, h, .cons rd rs => merge_rk (ks := ks) (h.put rd) rs
theorem zip_kv : ∀ {ks : List Str} {vs : List V}, (ks.map V.str).zip vs = (((ks.map Sum.inr).zip vs : List (Key × V))).map fun kv => (kV kv.1, kv.2)
  | [], _ => rfl
  | _ :: _, [] => rfl
  | k :: ks, v :: vs => by
    show (V.str k, v) :: (ks.map V.str).zip vs = (kV (.inr k), v) :: _
    rw [zip_kv]
    rfl
theorem s_dlit {ks : List Str} {es : Es} {keys : List (Option Expr)} {l : List Expr} {pos : Pos} (h : SPs X C m0 H0 pos ks es keys l) (hall : keys.all (·.isSome) = true) (hl : keys.length = l.length) (h0 : keys ≠ []) (h15 : keys.length ≤ 15) (hk : ks.length ≤ 15) : SE X C m0 H0 (.dlit ks es) (.Dict keys l pos) := by
  obtain ⟨trs, pp, f⟩ := h
  refine PE.imp (pe_disp pp hall hl h0 h15) fun σ H Q ⟨m, r, S, Qd, cu, w, q⟩ p np => ?_
  have x0 : Ext m H (m ++ [p]) (upd H p (.dK [])) := .alloc np (cu.rel.fresh np)
  have cu0 := cu.move (cu.rel.newO (o := .dic []) (u := .dK []) np ⟨rfl, .nil⟩) x0
  have hp : (m ++ [p])[S.length]? = some p := by rw [← cu.rel.len, List.getElem?_append_right (Nat.le_refl _)]; simp
  refine f σ _ _ (TrA.of cu0 w fun ds S1 vs m1 H1 w1 cu1 x1 rs hl1 => ?_)
  obtain ⟨e1, w1⟩ := w1
  have hp1 : m1[S.length]? = some p := x1.get hp
  obtain ⟨kvs, hk1, rk⟩ := cu1.rel.dic e1 hp1
  have ek : kvs = [] := List.eq_nil_of_length_eq_zero rk.len.symm
  subst ek
  refine ⟨hk1, _, zip_kv, ?_, ?_⟩
  · rw [List.length_zip, List.length_map]; omega
  have x2 : Ext m1 H1 m1 (upd H1 p (.dK (mergeK [] ((ks.map Sum.inr).zip vs)))) := .upd (List.mem_of_getElem? hp1)
  exact q _ _ _ m1 _ w1 (cu1.rel.updO (o := .dic (mergeD [] ((ks.map Sum.inr).zip ds))) hp1 (merge_rk rk rs)) ((x0.trans x1).trans x2) (.ref hp1)
theorem rds_rng {K : FR} {m : List Addr} {H : Hp} (a b : Int) : RDs K m H (rngL a (b - a).toNat) (rgV a b) := by
  unfold rngL rgV
  have key : ∀ l : List Nat, RDs K m H (l.map fun i : Nat => D.int (a + (i : Int))) (l.map fun i : Nat => V.int (a + (i : Int))) := by
    intro l
    induction l with
    | nil => exact .nil
    | cons i l ih => exact .cons (.int _) ih
  exact key _
theorem s_lsI1 {x : E} {f y : Str} {e : Expr} {p p2 pos pos2 : Pos} (G : Good X c C k m0 H0) (hg : c.glb f = true) (hf : f = ("list" : Str)) (hg2 : c.glb y = true) (hy : y = ("range" : Str)) (hst : ∀ v o, e ≠ .Starred v o) (hx : SE X C m0 H0 x e) :
    SE X C m0 H0 (.lsI (.rng1 x)) (.Call (.Name f p) [.Call (.Name y p2) [e] [] pos2] [] pos) := by
  obtain ⟨g1, -⟩ := c.glb_ok G.sc hg
  obtain ⟨h1, -⟩ := c.glb_ok G.sc hg2
  subst hf hy
  refine PE.imp (pe_listRg G.calm g1 (G.tab.bis .list) (prg_1 h1 G.tab.others.2.1 hx (star_of hst)) rfl) fun σ H Q ⟨m, r, S, Qd, cu, w, q⟩ => TrE.of cu w fun d S1 v m1 H1 w1 cu1 x1 rd => ?_
  obtain ⟨j, rfl, b1, b2, b3, w1⟩ := w1
  cases rd
  have e0 : (j - 0).toNat = j.toNat := by rw [Int.sub_zero]
  refine ⟨j, rfl, ⟨by omega, by omega, b1, b2, ?_⟩, ?_⟩
  · have b3 : (rngL 0 j.toNat).length ≤ 1000000 := b3
    unfold rngL at b3
    rw [List.length_map, List.length_range] at b3
    omega
  · have rr := rds_rng (K := X.K) (m := m1) (H := H1) 0 j
    rw [e0] at rr
    exact (q.back x1).newL cu1.rel rr w1
theorem s_lsI2 {x z : E} {f y : Str} {e e2 : Expr} {p p2 pos pos2 : Pos} (G : Good X c C k m0 H0) (hg : c.glb f = true) (hf : f = ("list" : Str)) (hg2 : c.glb y = true) (hy : y = ("range" : Str)) (hst : ∀ v o, e ≠ .Starred v o) (hst2 : ∀ v o, e2 ≠ .Starred v o) (hx : SE X C m0 H0 x e) (hz : SE X C m0 H0 z e2) :
    SE X C m0 H0 (.lsI (.rng2 x z)) (.Call (.Name f p) [.Call (.Name y p2) [e, e2] [] pos2] [] pos) := by
  obtain ⟨g1, -⟩ := c.glb_ok G.sc hg
  obtain ⟨h1, -⟩ := c.glb_ok G.sc hg2
  subst hf hy
  refine PE.imp (pe_listRg G.calm g1 (G.tab.bis .list) (prg_2 h1 G.tab.others.2.1 hx hz (star_of hst) (star_of hst2) (noStar (fun e' he => by rw [List.mem_singleton.mp he]; exact hst2) pos2)) rfl) fun σ H Q ⟨m, r, S, Qd, cu, w, q⟩ => TrE.of cu w fun d S1 v m1 H1 w1 cu1 x1 rd => TrE.of cu1 w1 fun d2 S2 v2 m2 H2 w2 cu2 x2 rd2 => ?_
  obtain ⟨i, rfl, j, rfl, ⟨b1, b2, b4, b5⟩, b3, w2⟩ := w2
  cases rd
  cases rd2
  refine ⟨i, j, rfl, rfl, ⟨b1, b2, b4, b5, ?_⟩, ?_⟩
  · have b3 : (rngL i (j - i).toNat).length ≤ 1000000 := b3
    unfold rngL at b3
    rw [List.length_map, List.length_range] at b3
    omega
  · exact (q.back (x1.trans x2)).newL cu2.rel (rds_rng i j) w2
end
end Ev
set_option Elab.async false
set_option linter.all false
set_option maxRecDepth 100000
set_option maxHeartbeats 8000000
namespace Ev
open PySem PySem.Spec PyProof.Rows L2
section
variable {C : CallH} {k : Nat} {m0 : List Addr} {H0 : Hp}
theorem Good.blk {X : Cx} {c : Cxt} (G : Good X c C k m0 H0) {s : Shared} {H : Hp} {scope : Scope} {cl : List (Str × Addr)} {a : Addr} {fp : List Addr} : Good (X.blk s H scope (compEnvC scope cl a X.env) fp) (c.blk scope) C k m0 H0 where
  N := G.N
  nd := G.nd
  sc := by
    show relS scope X.env.scope = relS scope c.sc
    rw [G.sc]
  fn := fun x h => h
  calm := G.calm
  room := G.room
  room3 := G.room3
  own := PassesOwn.never
  tab := G.tab
  tk := fun h => by cases h
  tbs := G.tbs
  code := G.code
  fr := fun h => by cases h
section
variable {X : Cx} {c : Cxt}
theorem both {e : E} {a : Expr} (h : SE X C m0 H0 e a) (hp : plainTest a = true) (hw : wpT C e = (dfl (wpE C e)).t) : SE X C m0 H0 e a ∧ STt X C m0 H0 e a := ⟨h, s_test h hp hw⟩
theorem t_cmp {op : Cop} {x y : E} {p q : Expr} {o : CmpOp} {pos : Pos} (G : Good X c C k m0 H0) (ho : copIs o op = true) (hm : behindInMarks o q = false) (hx : SE X C m0 H0 x p) (hy : SE X C m0 H0 y q) : STt X C m0 H0 (.cmp op x y) (.Compare p [o] [q] pos) := by
  have e := copIs_eq ho
  subst e
  refine PT.imp (pt_cmpR (op_cmp (hu65 G) op) hx hy hm) fun σ H Q ⟨m, r, S, Qd, cu, w, q⟩ => TrE.of cu w fun x S1 xv m1 H1 w1 cu1 x1 rx => TrE.of cu1 w1 fun y S2 yv m2 H2 w2 cu2 x2 ry => ?_
  refine cmp_r op cu2.rel (rx.mono x2 cu1.rel) ry (wpCmp_bl w2) fun d S3 v m3 H3 w3 rel3 x3 rd => ?_
  obtain ⟨b, rfl, w3⟩ := w3
  cases rd
  exact ⟨b, rfl, q b S3 m3 H3 w3 rel3 ((x1.trans x2).trans x3)⟩
theorem t_chain {o1 o2 : Cop} {x y z : E} {p q r : Expr} {k1 k2 : CmpOp} {pos : Pos} (G : Good X c C k m0 H0) (h1 : copIs k1 o1 = true) (h2 : copIs k2 o2 = true) (hm : lastMarks [k1, k2] [q, r] = false) (hx : SE X C m0 H0 x p) (hy : SE X C m0 H0 y q) (hz : SE X C m0 H0 z r) :
    STt X C m0 H0 (.chain o1 o2 x y z) (.Compare p [k1, k2] [q, r] pos) := by
  have e1 := copIs_eq h1
  have e2 := copIs_eq h2
  subst e1 e2
  refine PT.imp (pt_chain (op_cmp (hu65 G) o1) (op_cmp (hu65 G) o2) hx hy hz hm) fun σ H Q ⟨m, r, S, Qd, cu, w, q⟩ => TrE.of cu w fun x S1 xv m1 H1 w1 cu1 x1 rx => TrE.of cu1 w1 fun y S2 yv m2 H2 w2 cu2 x2 ry => ?_
  refine cmp_r o1 cu2.rel (rx.mono x2 cu1.rel) ry w2 fun d S3 v m3 H3 w3 rel3 x3 rd => ?_
  obtain ⟨b, rfl, w3⟩ := w3
  cases rd
  refine ⟨b, rfl, ?_⟩
  have cu3 := cu2.move rel3 x3
  have x03 := (x1.trans x2).trans x3
  cases b with
  | false =>
    obtain ⟨b', eb, w3⟩ := w3
    cases eb
    exact iteF ⟨false, rfl, q false S3 m3 H3 w3 cu3.rel x03⟩
  | true =>
    refine iteT (TrE.of cu3 w3 fun z S4 zv m4 H4 w4 cu4 x4 rz => cmp_r o2 cu4.rel (ry.mono (x3.trans x4) cu2.rel) rz (wpCmp_bl w4) fun d S5 v m5 H5 w5 rel5 x5 rd => ?_)
    obtain ⟨b', rfl, w5⟩ := w5
    cases rd
    exact ⟨b', rfl, q b' S5 m5 H5 w5 rel5 ((x03.trans x4).trans x5)⟩
theorem pwOf {op : BoolOp} {vs : List Expr} {pos : Pos} {t : TT} (h : PT X (.BoolOp op vs pos) t) : PW X (.BoolOp op vs pos) t := ⟨fun _ pins s σ H Q I q => h.run pins s σ H Q I q⟩
theorem fold_of {iter : Expr} (h : ∀ l n p, iter ≠ .Set l n p) : ∀ x, foldedSetIterable iter X.env x = pure x := by
  intro x
  cases iter <;> first
    | rfl
    | exact absurd rfl (h _ _ _)
theorem mI_set {it : It} {a : Expr} (h : mI it c a = true) : ∀ l n p, a ≠ .Set l n p := by
  intro l n p z
  subst z
  cases it <;> simp [mI] at h
theorem own_eq {N : List Str} {own : List Nat} (h : (ownOf N own).map (·.2) = own) : (ownOf N own).map (·.2) = own := h
end
theorem mG_star : ∀ (g : G) {c : Cxt} {a : Expr}, mG g c a = true → ∀ v p, a ≠ .Starred v p := by
  intro g c a h v p z
  subst z
  cases g <;> simp [mG] at h
theorem mGs_len : ∀ (gs : Gs) {c : Cxt} {es : List Expr} {env : Env}, mGs gs c es = true → lenGs gs = es.length ∧ (assignEach es env).length = es.length ∧ (assignEach es env).findIdx? (·.1) = none
  | .nil, _, es, env, h => by
    cases es with
    | nil => exact ⟨rfl, rfl, rfl⟩
    | cons _ _ => cases h
  | .cons g gs, c, es, env, h => by
    cases es with
    | nil => cases h
    | cons p ps =>
      obtain ⟨h1, h2⟩ := and2 (show (mG g c p && mGs gs c ps) = true from h)
      obtain ⟨i1, i2, i3⟩ := mGs_len (env := env) gs h2
      obtain ⟨_, a2, a3⟩ := assignEach_of (env := env) (es := ps) (mG_star g h1)
      exact ⟨congrArg (· + 1) i1, by rw [a2, i2]; rfl, a3 i3⟩
theorem s_lc {elt : E} {g : G} {it : It} {cs : Es} {own : List Nat} {X : Cx} {c : Cxt} {e tg iter : Expr} {ifs : List Expr} {scope : Scope} {pos : Pos} (G : Good X c C k m0 H0) (h1 : blkC c.N c.sc scope (ownOf c.N own) = true) (ho : (ownOf c.N own).map (·.2) = own)
    (hown : ∀ i ∈ slotsG g, i ∈ own) (hset : ∀ l n p, iter ≠ .Set l n p) (hI : SI X C m0 H0 it tg iter) (hG : ∀ (s : Shared) (H : Hp) (a : Addr) (cl : List (Str × Addr)) (fp : List Addr), PG (X.blk s H scope (compEnvC scope cl a X.env) fp) tg (TrG X.K m0 H0 (slotsG g) (wpG C g)))
    (hT : ∀ (s : Shared) (H : Hp) (a : Addr) (cl : List (Str × Addr)) (fp : List Addr), PTs (X.blk s H scope (compEnvC scope cl a X.env) fp) ifs (TrT X.K m0 H0 (wpTs C cs)))
    (hE : ∀ (s : Shared) (H : Hp) (a : Addr) (cl : List (Str × Addr)) (fp : List Addr), PE (X.blk s H scope (compEnvC scope cl a X.env) fp) e (TrE X.K m0 H0 (wpE C elt))) : SE X C m0 H0 (.lc elt g it cs own) (.ListComp e [⟨tg, iter, ifs, 0⟩] scope pos) := by
  have hb : BlkOk X.N X.env.scope scope (ownOf c.N own) := by
    rw [G.N, G.sc]
    exact blkOk_by h1
  refine PE.imp (pe_lc (own := ownOf c.N own) G.calm (by rw [G.N]; exact G.nd) hI hb hG hT hE (fold_of hset)) fun σ H Q w => ?_
  rw [ho]
  exact lc_r hown w
theorem fold_any {iter : Expr} (h : ∀ l n p, iter ≠ .Set l n p) : ∀ (env : Env) x, foldedSetIterable iter env x = pure x := by
  intro env x
  cases iter <;> first
    | rfl
    | exact absurd rfl (h _ _ _)
theorem s_lc2 {elt : E} {g g1 : G} {it it1 : It} {cs cs1 : Es} {own vs1 : List Nat} {X : Cx} {c : Cxt} {e tg iter tg1 iter1 : Expr} {ifs ifs1 : List Expr} {scope : Scope} {pos : Pos} (G : Good X c C k m0 H0) (h1 : blkC c.N c.sc scope (ownOf c.N own) = true) (ho : (ownOf c.N own).map (·.2) = own)
    (hown : ∀ i ∈ slotsG g, i ∈ own) (hown1 : ∀ i ∈ slotsG g1, i ∈ vs1) (hvs : ∀ i ∈ vs1, i ∈ own) (hset : ∀ l n p, iter ≠ .Set l n p) (hset1 : ∀ l n p, iter1 ≠ .Set l n p) (hI : SI X C m0 H0 it tg iter)
    (hG : ∀ (s : Shared) (H : Hp) (a : Addr) (cl : List (Str × Addr)) (fp : List Addr), PG (X.blk s H scope (compEnvC scope cl a X.env) fp) tg (TrG X.K m0 H0 (slotsG g) (wpG C g)))
    (hT : ∀ (s : Shared) (H : Hp) (a : Addr) (cl : List (Str × Addr)) (fp : List Addr), PTs (X.blk s H scope (compEnvC scope cl a X.env) fp) ifs (TrT X.K m0 H0 (wpTs C cs)))
    (hI1 : ∀ (s : Shared) (H : Hp) (a : Addr) (cl : List (Str × Addr)) (fp : List Addr), PI (X.blk s H scope (compEnvC scope cl a X.env) fp) tg1 iter1 (TrI X.K m0 H0 (wpI C it1)))
    (hG1 : ∀ (s : Shared) (H : Hp) (a : Addr) (cl : List (Str × Addr)) (fp : List Addr), PG (X.blk s H scope (compEnvC scope cl a X.env) fp) tg1 (TrG X.K m0 H0 (slotsG g1) (wpG C g1)))
    (hT1 : ∀ (s : Shared) (H : Hp) (a : Addr) (cl : List (Str × Addr)) (fp : List Addr), PTs (X.blk s H scope (compEnvC scope cl a X.env) fp) ifs1 (TrT X.K m0 H0 (wpTs C cs1)))
    (hE : ∀ (s : Shared) (H : Hp) (a : Addr) (cl : List (Str × Addr)) (fp : List Addr), PE (X.blk s H scope (compEnvC scope cl a X.env) fp) e (TrE X.K m0 H0 (wpE C elt))) : SE X C m0 H0 (.lc2 elt g it cs g1 it1 cs1 own vs1) (.ListComp e [⟨tg, iter, ifs, 0⟩, ⟨tg1, iter1, ifs1, 0⟩] scope pos) := by
  have hb : BlkOk X.N X.env.scope scope (ownOf c.N own) := by
    rw [G.N, G.sc]
    exact blkOk_by h1
  refine PE.imp (pe_lc2 (own := ownOf c.N own) (vs1 := vs1) G.calm (by rw [G.N]; exact G.nd) hI hb (by rw [ho]; exact hvs) hG hT hI1 hG1 hT1 hE (fold_of hset) (fold_any hset1)) fun σ H Q w => ?_
  rw [ho]
  exact lc2_r hown hown1 hvs w
mutual
theorem snd_E : ∀ (e : E) {X : Cx} {c : Cxt} {a : Expr}, Good X c C k m0 H0 → mE e c a = true → SE X C m0 H0 e a ∧ STt X C m0 H0 e a
  | .var i, X, c, a, G, h => by
    refine both (s_var G h) ?_ rfl
    cases a <;> first
      | (cases h; done)
      | rfl
  | .cst n, X, c, a, G, h => by
    refine both (s_cst (c := c) h) ?_ rfl
    cases a <;> first
      | (cases h; done)
      | rfl
  | .bin op x y, X, c, a, G, h => by
    cases a <;> first
      | (cases h; done)
      | skip
    obtain ⟨h1, h2⟩ := and2 h
    obtain ⟨h2, h3⟩ := and2 h2
    exact both (s_bin h1 (snd_E x G h2).1 (snd_E y G h3).1) rfl rfl
  | .neg x, X, c, a, G, h => by
    cases a <;> first
      | (cases h; done)
      | skip
    rename_i op p pos
    cases op <;> first
      | (cases h; done)
      | skip
    exact both (s_neg (snd_E x G h).1) rfl rfl
  | .cmp op x y, X, c, a, G, h => by
    cases a <;> first
      | (cases h; done)
      | skip
    rename_i p os qs pos
    match os, qs, h with
    | [o], [q], h =>
      obtain ⟨h1, h2⟩ := and2 h
      obtain ⟨h2, h3⟩ := and2 h2
      obtain ⟨h3, h4⟩ := and2 h3
      have hm : behindInMarks o q = false := by simpa using h2
      exact ⟨s_cmp G h1 hm (snd_E x G h3).1 (snd_E y G h4).1, t_cmp G h1 hm (snd_E x G h3).1 (snd_E y G h4).1⟩
  | .chain o1 o2 x y z, X, c, a, G, h => by
    cases a <;> first
      | (cases h; done)
      | skip
    rename_i p os qs pos
    match os, qs, h with
    | [k1, k2], [q, r], h =>
      obtain ⟨h1, h2⟩ := and2 h
      obtain ⟨h2, h3⟩ := and2 h2
      obtain ⟨h3, h4⟩ := and2 h3
      obtain ⟨h4, h5⟩ := and2 h4
      obtain ⟨h5, h6⟩ := and2 h5
      have hm : lastMarks [k1, k2] [q, r] = false := by simpa using h3
      exact ⟨s_chain G h1 h2 hm (snd_E x G h4).1 (snd_E y G h5).1 (snd_E z G h6).1, t_chain G h1 h2 hm (snd_E x G h4).1 (snd_E y G h5).1 (snd_E z G h6).1⟩
  | .and x y, X, c, a, G, h => by
    cases a <;> first
      | (cases h; done)
      | skip
    rename_i op l pos
    cases op <;> first
      | (cases h; done)
      | skip
    match l, h with
    | p :: q :: [], h =>
      obtain ⟨h1, h2⟩ := and2 h
      obtain ⟨x1, x2⟩ := snd_E x G h1
      obtain ⟨y1, y2⟩ := snd_E y G h2
      exact ⟨s_andv x1 (pe_one y1), (s_andt x2 (pw_and1 y2)).pt⟩
    | p :: q :: r0 :: rs, h =>
      obtain ⟨h1, h2⟩ := and2 h
      obtain ⟨x1, x2⟩ := snd_E x G h1
      obtain ⟨y1, y2⟩ := snd_E y G h2
      exact ⟨s_andv x1 y1, (s_andt x2 (pwOf y2)).pt⟩
  | .or x y, X, c, a, G, h => by
    cases a <;> first
      | (cases h; done)
      | skip
    rename_i op l pos
    cases op <;> first
      | (cases h; done)
      | skip
    match l, h with
    | p :: q :: [], h =>
      obtain ⟨h1, h2⟩ := and2 h
      obtain ⟨x1, x2⟩ := snd_E x G h1
      obtain ⟨y1, y2⟩ := snd_E y G h2
      exact ⟨s_orv x1 (pe_one y1), (s_ort x2 (pw_or1 y2)).pt⟩
    | p :: q :: r0 :: rs, h =>
      obtain ⟨h1, h2⟩ := and2 h
      obtain ⟨x1, x2⟩ := snd_E x G h1
      obtain ⟨y1, y2⟩ := snd_E y G h2
      exact ⟨s_orv x1 y1, (s_ort x2 (pwOf y2)).pt⟩
  | .not x, X, c, a, G, h => by
    cases a <;> first
      | (cases h; done)
      | skip
    rename_i op p pos
    cases op <;> first
      | (cases h; done)
      | skip
    obtain ⟨x1, x2⟩ := snd_E x G h
    exact ⟨s_notv x1, s_nott x2⟩
  | .ite t x y, X, c, a, G, h => by
    cases a <;> first
      | (cases h; done)
      | skip
    obtain ⟨h1, h2⟩ := and2 h
    obtain ⟨h2, h3⟩ := and2 h2
    exact ⟨s_ite (snd_E t G h1).2 (snd_E x G h2).1 (snd_E y G h3).1, ⟨fun _ _ _ _ _ _ ⟨_, _, _, _, _, w, _⟩ => (show False from w).elim⟩⟩
  | .tup es, X, c, a, G, h => by
    cases a <;> first
      | (cases h; done)
      | skip
    obtain ⟨h1, h2⟩ := and2 h
    exact both (s_tup (snd_Es es G h2) (of_decide_eq_true h1)) rfl rfl
  | .lst es, X, c, a, G, h => by
    cases a <;> first
      | (cases h; done)
      | skip
    obtain ⟨h1, h2⟩ := and2 h
    exact both (s_lst (snd_Es es G h2) (of_decide_eq_true h1)) rfl rfl
  | .idx x y, X, c, a, G, h => by
    cases a <;> first
      | (cases h; done)
      | skip
    obtain ⟨h1, h2⟩ := and2 h
    obtain ⟨h2, h3⟩ := and2 h2
    exact both (s_idx h1 (snd_E x G h2).1 (snd_E y G h3).1) rfl rfl
  | .slc x lo hi, X, c, a, G, h => by
    cases a <;> first
      | (cases h; done)
      | skip
    rename_i p q pos
    cases q <;> first
      | (cases h; done)
      | skip
    rename_i l u st pos2
    cases st with
    | some _ => cases h
    | none =>
      obtain ⟨h1, h2⟩ := and2 h
      obtain ⟨h2, h3⟩ := and2 h2
      exact both (s_slc (snd_E x G h1).1 (snd_Eo lo G h2) (snd_Eo hi G h3)) rfl rfl
  | .call f es, X, c, a, G, h => by
    cases a <;> first
      | (cases h; done)
      | skip
    rename_i fn l ks pos
    cases fn <;> first
      | (cases h; done)
      | skip
    rename_i x pos2
    match ks, h with
    | [], h =>
      obtain ⟨h1, g2⟩ := and2 h
      obtain ⟨g3, h3⟩ := and2 g2
      cases q : c.T[f]? with
      | none => rw [q] at g3; cases g3
      | some i =>
        rw [q] at g3
        obtain ⟨g4, g5⟩ := and2 g3
        have hS := snd_Es es G h3
        cases l with
        | nil =>
          cases es with
          | nil => exact both (s_call0 G h1 q (of_decide_eq_true g4) (of_decide_eq_true g5)) rfl rfl
          | cons _ _ => cases h3
        | cons e l => exact both (s_call G h1 q (of_decide_eq_true g4) (of_decide_eq_true g5) (mEs_star es h3) hS) rfl rfl
  | .callX f es, X, c, a, G, h => by
    have hh := and2 (show (!c.q && _) = true from h)
    have hq : c.q = false := by
      have z := hh.1
      cases e : c.q
      · rfl
      · rw [e] at z; cases z
    replace h := hh.2
    clear hh
    cases a <;> first
      | (cases h; done)
      | skip
    rename_i fn l ks pos
    cases fn <;> first
      | (cases h; done)
      | skip
    rename_i x pos2
    match ks, h with
    | [], h =>
      obtain ⟨h1, g2⟩ := and2 h
      obtain ⟨g3, h3⟩ := and2 g2
      cases q : c.T[f]? with
      | none => rw [q] at g3; cases g3
      | some i =>
        rw [q] at g3
        obtain ⟨g4, g5⟩ := and2 g3
        have hS := snd_Es es G h3
        cases l with
        | nil =>
          cases es with
          | nil => exact both (s_callX0 G hq h1 q (of_decide_eq_true g4) (of_decide_eq_true g5)) rfl rfl
          | cons _ _ => cases h3
        | cons e l => exact both (s_callX G hq h1 q (of_decide_eq_true g4) (of_decide_eq_true g5) (mEs_star es h3) hS) rfl rfl
  | .callK f es ks zs perm, X, c, a, G, h => by
    cases a <;> first
      | (cases h; done)
      | skip
    rename_i fn l kws pos
    cases fn <;> first
      | (cases h; done)
      | skip
    rename_i x pos2
    obtain ⟨h1, h2⟩ := and2 h
    obtain ⟨h2, h3⟩ := and2 h2
    obtain ⟨h3, h4⟩ := and2 h3
    obtain ⟨h4, h5⟩ := and2 h4
    cases q : c.T[f]? with
    | none => rw [q] at h2; cases h2
    | some i =>
      rw [q] at h2
      obtain ⟨h2, h6⟩ := and2 h2
      obtain ⟨h6, h7⟩ := and2 h6
      have h7 : i.ps.length = perm.length ∧ lenEs zs = ks.length ∧ ∀ j ∈ perm, j < lenEs es + lenEs zs := of_decide_eq_true h7
      refine both (s_callK G h1 q (of_decide_eq_true h2) (of_decide_eq_true h6) (of_decide_eq_true h3) h7.1 h7.2.1 h7.2.2 (mEs_star es h4) (fun hl => ?_) (snd_Es es G h4) (snd_Ks zs G h5)) rfl rfl
      subst hl
      cases es with
      | nil => rfl
      | cons _ _ => cases h4
  | .callKX f es ks zs perm, X, c, a, G, h => by
    have hh := and2 (show (!c.q && _) = true from h)
    have hqq : c.q = false := by
      have z := hh.1
      cases e : c.q
      · rfl
      · rw [e] at z; cases z
    replace h := hh.2
    clear hh
    cases a <;> first
      | (cases h; done)
      | skip
    rename_i fn l kws pos
    cases fn <;> first
      | (cases h; done)
      | skip
    rename_i x pos2
    obtain ⟨h1, h2⟩ := and2 h
    obtain ⟨h2, h3⟩ := and2 h2
    obtain ⟨h3, h4⟩ := and2 h3
    obtain ⟨h4, h5⟩ := and2 h4
    cases q : c.T[f]? with
    | none => rw [q] at h2; cases h2
    | some i =>
      rw [q] at h2
      obtain ⟨h2, h6⟩ := and2 h2
      obtain ⟨h6, h7⟩ := and2 h6
      have h7 : i.ps.length = perm.length ∧ lenEs zs = ks.length ∧ ∀ j ∈ perm, j < lenEs es + lenEs zs := of_decide_eq_true h7
      refine both (s_callKX G hqq h1 q (of_decide_eq_true h2) (of_decide_eq_true h6) (of_decide_eq_true h3) h7.1 h7.2.1 h7.2.2 (mEs_star es h4) (fun hl => ?_) (snd_Es es G h4) (snd_Ks zs G h5)) rfl rfl
      subst hl
      cases es with
      | nil => rfl
      | cons _ _ => cases h4
  | .bi b es, X, c, a, G, h => by
    cases a <;> first
      | (cases h; done)
      | skip
    rename_i fn l ks pos
    cases fn <;> first
      | (cases h; done)
      | skip
    rename_i x pos2
    match l, ks, h with
    | e :: l, [], h =>
      obtain ⟨h1, h2⟩ := and2 h
      obtain ⟨h2, h3⟩ := and2 h2
      exact both (s_bi G h1 (of_decide_eq_true h2) (mEs_star es h3) (snd_Es es G h3)) rfl rfl
  | .isi x t, X, c, a, G, h => by
    cases a <;> first
      | (cases h; done)
      | skip
    rename_i fn l ks pos
    cases fn <;> first
      | (cases h; done)
      | skip
    rename_i f pos2
    match l, ks, h with
    | [p, .Name ty p3], [], h =>
      obtain ⟨h1, h2⟩ := and2 h
      obtain ⟨h2, h3⟩ := and2 h2
      obtain ⟨h3, h4⟩ := and2 h3
      obtain ⟨h4, h5⟩ := and2 h4
      exact both (s_isi G h1 (of_decide_eq_true h2) h3 (of_decide_eq_true h4) (mE_star x h5) (snd_E x G h5).1) rfl rfl
  | .meth me o es, X, c, a, G, h => by
    cases a <;> first
      | (cases h; done)
      | skip
    rename_i fn l ks pos
    cases fn <;> first
      | (cases h; done)
      | skip
    rename_i p x ap
    match ks, h with
    | [], h =>
      obtain ⟨h1, g1⟩ := and2 h
      obtain ⟨g2, g3⟩ := and2 g1
      obtain ⟨h3, g4⟩ := and2 g3
      obtain ⟨h4, g5⟩ := and2 g4
      obtain ⟨h5, h6⟩ := and2 g5
      have h2 : l.length < 29 ∧ (l.isEmpty = true → me.zero = true) := of_decide_eq_true g2
      cases l with
      | nil =>
        cases es with
        | nil =>
          have hz := h2.2 rfl
          cases me <;> first
            | (cases hz; done)
            | exact both (s_meth0 (of_decide_eq_true h1) h3 h4 (snd_E o G h5).1) rfl rfl
        | cons _ _ => cases h6
      | cons e l => exact both (s_meth (of_decide_eq_true h1) h2.1 h3 h4 (mEs_star es h6) (snd_E o G h5).1 (snd_Es es G h6)) rfl rfl
  | .lc elt g it cs own, X, c, a, G, h => by
    cases a <;> first
      | (cases h; done)
      | skip
    rename_i e gens scope pos
    match gens, h with
    | [⟨tg, iter, ifs, 0⟩], h =>
      obtain ⟨h1, g1⟩ := and2 h
      obtain ⟨h2, g2⟩ := and2 g1
      obtain ⟨h3, g3⟩ := and2 g2
      obtain ⟨h4, g4⟩ := and2 g3
      obtain ⟨h5, g5⟩ := and2 g4
      obtain ⟨h6, h7⟩ := and2 g5
      exact both (s_lc G h1 (of_decide_eq_true h2) (of_decide_eq_true h3) (mI_set (and2 h4).2) (snd_I it G (and2 h4).2 (and2 h4).1) (fun s H a cl fp => snd_G g G.blk h5) (fun s H a cl fp => snd_Ts cs G.blk h6) (fun s H a cl fp => (snd_E elt G.blk h7).1)) rfl rfl
  | .lc2 elt g it cs g1 it1 cs1 own vs1, X, c, a, G, h => by
    cases a <;> first
      | (cases h; done)
      | skip
    rename_i e gens scope pos
    match gens, h with
    | [⟨tg, iter, ifs, 0⟩, ⟨tg1, iter1, ifs1, 0⟩], h =>
      obtain ⟨h1, k1⟩ := and2 h
      obtain ⟨h2, k2⟩ := and2 k1
      obtain ⟨h3, k3⟩ := and2 k2
      obtain ⟨h3a, h3b⟩ := and2 h3
      obtain ⟨h3b, h3c⟩ := and2 h3b
      obtain ⟨h4, k4⟩ := and2 k3
      obtain ⟨k5, h7⟩ := and2 k4
      obtain ⟨h5, k6⟩ := and2 k5
      obtain ⟨h6, k7⟩ := and2 k6
      obtain ⟨h8, k8⟩ := and2 k7
      obtain ⟨h9, h10⟩ := and2 k8
      exact both (s_lc2 G h1 (of_decide_eq_true h2) (of_decide_eq_true h3a) (of_decide_eq_true h3b) (of_decide_eq_true h3c) (mI_set (and2 h4).2) (mI_set (and2 h8).2) (snd_I it G (and2 h4).2 (and2 h4).1) (fun s H a cl fp => snd_G g G.blk h5) (fun s H a cl fp => snd_Ts cs G.blk h6)
        (fun s H a cl fp => snd_I it1 G.blk (and2 h8).2 (and2 h8).1) (fun s H a cl fp => snd_G g1 G.blk h9) (fun s H a cl fp => snd_Ts cs1 G.blk h10) (fun s H a cl fp => (snd_E elt G.blk h7).1)) rfl rfl
  | .gen gk elt g it cs own, X, c, a, G, h => by
    have hh := and2 (show (!c.g && _) = true from h)
    have hg : c.g = false := by
      have z := hh.1
      cases e : c.g
      · rfl
      · rw [e] at z; cases z
    have hk := (and2 hh.2).1
    replace h := (and2 hh.2).2
    clear hh
    cases a <;> first
      | (cases h; done)
      | skip
    rename_i fn l ks pos
    cases fn <;> first
      | (cases h; done)
      | skip
    rename_i x pos2
    match l, ks, h with
    | [.GeneratorExp e [⟨tg, iter, ifs, 0⟩] scope gp], [], h =>
      obtain ⟨h1, g1⟩ := and2 h
      obtain ⟨h2, g2⟩ := and2 g1
      obtain ⟨h3, g3⟩ := and2 g2
      obtain ⟨h3, h3'⟩ := and2 h3
      obtain ⟨h4, g4⟩ := and2 g3
      obtain ⟨h5, g5⟩ := and2 g4
      obtain ⟨h6, g6⟩ := and2 g5
      obtain ⟨h7, g7⟩ := and2 g6
      obtain ⟨h8, g8⟩ := and2 g7
      obtain ⟨h9, h10⟩ := and2 g8
      exact both (s_gen hk G hg h1 (of_decide_eq_true h2) h3 h3' h4 (of_decide_eq_true h5) (of_decide_eq_true h6) (snd_I it G (and2 h7).2 (and2 h7).1) (fun A s4 H4 ce fp at_ => snd_G g (G.gx hg at_) h8) (fun A s4 H4 ce fp at_ => snd_Ts cs (G.gx hg at_) h9) (fun A s4 H4 ce fp at_ => (snd_E elt (G.gx hg at_) h10).1)) rfl rfl
  | .lsI it, X, c, a, G, h => by
    have hr := (and2 (show (isRng it && _) = true from h)).1
    replace h := (and2 (show (isRng it && _) = true from h)).2
    cases a <;> first
      | (cases h; done)
      | skip
    rename_i fn l ks pos
    cases fn <;> first
      | (cases h; done)
      | skip
    rename_i x pos2
    match l, ks, h with
    | [p], [], h =>
      obtain ⟨h1, g1⟩ := and2 h
      obtain ⟨h2, h3⟩ := and2 g1
      cases it with
      | val _ => cases hr
      | zip _ _ => cases hr
      | rng1 z =>
        cases p <;> first
          | (cases h3; done)
          | skip
        rename_i fn l ks pos
        cases fn <;> first
          | (cases h3; done)
          | skip
        match l, ks, h3 with
        | [p], [], h =>
          obtain ⟨a1, h⟩ := and2 h
          obtain ⟨a2, a3⟩ := and2 h
          exact both (s_lsI1 G h1 (of_decide_eq_true h2) a1 (of_decide_eq_true a2) (mE_star z a3) (snd_E z G a3).1) rfl rfl
      | rng2 z u =>
        cases p <;> first
          | (cases h3; done)
          | skip
        rename_i fn l ks pos
        cases fn <;> first
          | (cases h3; done)
          | skip
        match l, ks, h3 with
        | [p, q], [], h =>
          obtain ⟨a1, h⟩ := and2 h
          obtain ⟨a2, h⟩ := and2 h
          obtain ⟨a3, a4⟩ := and2 h
          exact both (s_lsI2 G h1 (of_decide_eq_true h2) a1 (of_decide_eq_true a2) (mE_star z a3) (mE_star u a4) (snd_E z G a3).1 (snd_E u G a4).1) rfl rfl
  | .dnew, X, c, a, G, h => by
    cases a <;> first
      | (cases h; done)
      | skip
    rename_i ks vs pos
    match ks, vs, h with
    | [], [], h => exact both s_dnew rfl rfl
  | .dget o i, X, c, a, G, h => by
    cases a <;> first
      | (cases h; done)
      | skip
    obtain ⟨h1, h2⟩ := and2 h
    obtain ⟨h2, h3⟩ := and2 h2
    exact both (s_dget G h1 (snd_E o G h2).1 (snd_E i G h3).1) rfl rfl
  | .din neg i o, X, c, a, G, h => by
    cases a <;> first
      | (cases h; done)
      | skip
    rename_i p os qs pos
    match os, qs, h with
    | [op], [q], h =>
      obtain ⟨h1, h2⟩ := and2 h
      obtain ⟨h2, h3⟩ := and2 h2
      obtain ⟨h3, h4⟩ := and2 h3
      have hm : behindInMarks op q = false := by simpa using h2
      exact ⟨s_din G h1 hm (snd_E i G h3).1 (snd_E o G h4).1, t_din G h1 hm (snd_E i G h3).1 (snd_E o G h4).1⟩
  | .rev x, X, c, a, G, h => by
    match a, h with
    | .Subscript p (.Slice none none (some (.UnaryOp .USub (.Constant (.int 1) _ _) _)) _) _, h => exact both (s_rev (snd_E x G h).1) rfl rfl
  | .dlit ks es, X, c, a, G, h => by
    cases a <;> first
      | (cases h; done)
      | skip
    rename_i keys l pos
    obtain ⟨h1, h2⟩ := and2 h
    obtain ⟨h2, h3⟩ := and2 h2
    have h2 : 0 < lenEs es ∧ lenEs es ≤ 15 ∧ ks.length = lenEs es := of_decide_eq_true h2
    obtain ⟨a1, a2, a3, a4⟩ := snd_Ps es G ks keys pos h1 h2.2.2 h3
    refine both (s_dlit a1 a2 a3 (fun z => ?_) (by omega) (by omega)) rfl rfl
    rw [z] at a4
    have : (0 : Nat) = ks.length := a4
    omega
  | .dgetM _ _, X, c, a, G, h => by cases h
  | .dead, X, c, a, G, h => ⟨⟨fun _ _ _ _ _ _ ⟨_, _, _, _, _, w, _⟩ => False.elim w⟩, ⟨fun _ _ _ _ _ _ ⟨_, _, _, _, _, w, _⟩ => False.elim w⟩⟩
theorem snd_Es : ∀ (es : Es) {X : Cx} {c : Cxt} {l : List Expr}, Good X c C k m0 H0 → mEs es c l = true → SA X C m0 H0 es l
  | .nil, X, c, l, G, h => by
    cases l with
    | nil => exact a_nil
    | cons _ _ => cases h
  | .cons e r, X, c, l, G, h => by
    cases l with
    | nil => cases h
    | cons p ps =>
      obtain ⟨h1, h2⟩ := and2 (show (mE e c p && mEs r c ps) = true from h)
      exact a_cons (mE_star e h1) (snd_E e G h1).1 (snd_Es r G h2)
theorem snd_Ks : ∀ (es : Es) {X : Cx} {c : Cxt} {l : List Keyword}, Good X c C k m0 H0 → mKs es c l = true → SK X C m0 H0 es l
  | .nil, X, c, l, G, h => by
    cases l with
    | nil => exact k_nil
    | cons _ _ => cases h
  | .cons e r, X, c, l, G, h => by
    cases l with
    | nil => cases h
    | cons p ps =>
      obtain ⟨n, p, o⟩ := p
      obtain ⟨h1, h2⟩ := and2 (show (mE e c p && mKs r c ps) = true from h)
      exact k_cons (snd_E e G h1).1 (snd_Ks r G h2)
theorem snd_Ps : ∀ (es : Es) {X : Cx} {c : Cxt} {l : List Expr}, Good X c C k m0 H0 → ∀ (ks : List Str) (keys : List (Option Expr)) (pos : Pos), keyIs ks keys = true → ks.length = lenEs es → mEs es c l = true → SPs X C m0 H0 pos ks es keys l ∧ keys.all (·.isSome) = true ∧ keys.length = l.length ∧ keys.length = ks.length
  | .nil, X, c, l, G, ks, keys, pos, h1, h2, h3 => by
    have : ks = [] := List.eq_nil_of_length_eq_zero h2
    subst this
    cases keys with
    | nil =>
      cases l with
      | nil => exact ⟨p_nil, rfl, rfl, rfl⟩
      | cons _ _ => cases h3
    | cons _ _ => cases h1
  | .cons e r, X, c, l, G, ks, keys, pos, h1, h2, h3 => by
    cases l with
    | nil => cases h3
    | cons p ps =>
      match ks, keys, h1, h2 with
      | k :: ks, some (.Constant (.str z) j kp) :: keys, h1, h2 =>
        obtain ⟨g1, g2⟩ := and2 h1
        have g1 : z = k := of_decide_eq_true g1
        subst g1
        obtain ⟨h4, h5⟩ := and2 (show (mE e c p && mEs r c ps) = true from h3)
        obtain ⟨a1, a2, a3, a4⟩ := snd_Ps r G ks keys pos g2 (by have : ks.length + 1 = lenEs r + 1 := h2; omega) h5
        exact ⟨p_cons (snd_E e G h4).1 a1, a2, by rw [List.length_cons, List.length_cons, a3], by rw [List.length_cons, List.length_cons, a4]⟩
theorem snd_Ts : ∀ (es : Es) {X : Cx} {c : Cxt} {l : List Expr}, Good X c C k m0 H0 → mTs es c l = true → PTs X l (TrT X.K m0 H0 (wpTs C es))
  | .nil, X, c, l, G, h => by
    cases l with
    | nil => exact PTs.imp pts_nil fun σ H Q ⟨m, r, S, Qd, cu, w, q⟩ => q true S m H w cu.rel .refl
    | cons _ _ => cases h
  | .cons e r, X, c, l, G, h => by
    match l, h with
    | [p], h => exact pts_one (snd_E e G h).2
theorem snd_Eo : ∀ (e : Eo) {X : Cx} {c : Cxt} {l : Option Expr}, Good X c C k m0 H0 → mEo e c l = true → SO X C m0 H0 e l
  | .none, X, c, l, G, h => by
    cases l with
    | none => exact o_none
    | some _ => cases h
  | .some e, X, c, l, G, h => by
    cases l with
    | none => cases h
    | some p => exact o_some (snd_E e G h).1
theorem snd_G : ∀ (g : G) {X : Cx} {c : Cxt} {a : Expr}, Good X c C k m0 H0 → mG g c a = true → SG X C m0 H0 g a
  | .name i, X, c, a, G, h => by
    cases a <;> first
      | (cases h; done)
      | skip
    exact g_name G h
  | .tup gs, X, c, a, G, h => by
    cases a <;> first
      | (cases h; done)
      | skip
    rename_i es n pos
    obtain ⟨l1, l2, l3⟩ := mGs_len (env := X.env) gs (show mGs gs c es = true from h)
    exact g_tup G l3 l2 l1 (snd_Gs gs G h)
  | .sub o i, X, c, a, G, h => by
    cases a <;> first
      | (cases h; done)
      | skip
    obtain ⟨h1, h2⟩ := and2 h
    obtain ⟨h2, h3⟩ := and2 h2
    exact g_sub h1 (snd_E o G h2).1 (snd_E i G h3).1
  | .subD o i, X, c, a, G, h => by
    cases a <;> first
      | (cases h; done)
      | skip
    obtain ⟨h1, h2⟩ := and2 h
    obtain ⟨h2, h3⟩ := and2 h2
    exact g_subD G h1 (snd_E o G h2).1 (snd_E i G h3).1
theorem snd_Gs : ∀ (gs : Gs) {X : Cx} {c : Cxt} {l : List Expr}, Good X c C k m0 H0 → mGs gs c l = true → SGs X C m0 H0 gs l
  | .nil, X, c, l, G, h => by
    cases l with
    | nil => exact gs_nil
    | cons _ _ => cases h
  | .cons g r, X, c, l, G, h => by
    cases l with
    | nil => cases h
    | cons p ps =>
      obtain ⟨h1, h2⟩ := and2 (show (mG g c p && mGs r c ps) = true from h)
      exact gs_cons (mG_star g h1) (snd_G g G h1) (snd_Gs r G h2)
theorem snd_I : ∀ (it : It) {X : Cx} {c : Cxt} {tg a : Expr}, Good X c C k m0 H0 → mI it c a = true → tgOk it tg = true → SI X C m0 H0 it tg a
  | .val e, X, c, tg, a, G, h, _ => by
    have h' : mE e c a = true := by cases a <;> first
      | exact h
      | (cases h)
    exact i_val (snd_E e G h').1
  | .rng1 x, X, c, tg, a, G, h, _ => by
    cases a <;> first
      | (cases h; done)
      | skip
    rename_i fn l ks pos
    cases fn <;> first
      | (cases h; done)
      | skip
    match l, ks, h with
    | [p], [], h =>
      obtain ⟨h1, h2⟩ := and2 h
      obtain ⟨h2, h3⟩ := and2 h2
      exact i_rng1 G h1 (of_decide_eq_true h2) (mE_star x h3) (snd_E x G h3).1
  | .zip x y, X, c, tg, a, G, h, ht => by
    cases a <;> first
      | (cases h; done)
      | skip
    rename_i fn l ks pos
    cases fn <;> first
      | (cases h; done)
      | skip
    cases tg <;> first
      | (cases ht; done)
      | skip
    match l, ks, h with
    | [p, q], [], h =>
      obtain ⟨h1, h2⟩ := and2 h
      obtain ⟨h2, h3⟩ := and2 h2
      obtain ⟨h3, h4⟩ := and2 h3
      exact i_zip G h1 (of_decide_eq_true h2) (mE_star x h3) (mE_star y h4) (snd_E x G h3).1 (snd_E y G h4).1
  | .rng2 x y, X, c, tg, a, G, h, _ => by
    cases a <;> first
      | (cases h; done)
      | skip
    rename_i fn l ks pos
    cases fn <;> first
      | (cases h; done)
      | skip
    match l, ks, h with
    | [p, q], [], h =>
      obtain ⟨h1, h2⟩ := and2 h
      obtain ⟨h2, h3⟩ := and2 h2
      obtain ⟨h3, h4⟩ := and2 h3
      exact i_rng2 G h1 (of_decide_eq_true h2) (mE_star x h3) (mE_star y h4) (snd_E x G h3).1 (snd_E y G h4).1
end
end
end Ev
set_option Elab.async false
set_option linter.all false
set_option maxRecDepth 100000
set_option maxHeartbeats 8000000
namespace Ev
open PySem PySem.Spec PyProof.Rows L2
/-! ## own exception classes -/
/-- the __init__'s body: self.f = f, one behind the other (slots of the parameters in N) -/
def storesF (N : List Str) (sc : Scope) : List Str → Nat → List Stmt → Bool
  | [], _, [] => true
  | f :: fs, j, st :: r => (match st with
    | .Assign [.Attribute (.Name s _) g _] (.Name p _) _ => decide (N[0]? = some s) && (decide (N[j]? = some p) && (decide (g = f) && (seen (sc.names.lookup s) && (seen (sc.names.lookup p) && (!(s == ("__debug__" : Str)) && (!(s == ("__classdict__" : Str)) && (!(p == ("__debug__" : Str)) && !(p == ("__classdict__" : Str)))))))))
    | _ => false) && storesF N sc fs (j + 1) r
  | _, _, _ => false
def tSt (K : FR) : List Str → Nat → TS
  | [], _ => tNext
  | f :: fs, j => tSeq (tOst K f (tVar 0) (tVar j)) (tSt K fs (j + 1))
theorem vis_seen {sc : Scope} {x : Str} (h : seen (sc.names.lookup x) = true) : Vis sc x := by
  unfold Vis
  unfold seen at h
  split at h
  · rename_i e; exact .inl e
  · rename_i e; first | exact .inr (.inl e) | exact .inr e
  · rename_i e; first | exact .inr (.inr e) | exact .inr e
  · cases h
theorem stores_ok {X : Cx} {sc : Scope} (hs : X.env.scope = sc) : ∀ (fs : List Str) (j : Nat) (l : List Stmt), storesF X.N sc fs j l = true → PSs X l (tSt X.K fs j)
  | [], j, [], _ => pss_nil
  | [], j, _ :: _, h => by cases h
  | f :: fs, j, [], h => by cases h
  | f :: fs, j, st :: r, h => by
    unfold storesF at h
    obtain ⟨h1, h2⟩ := and2 h
    split at h1
    · rename_i s p1 g p2 p p3 p4
      obtain ⟨a1, h1⟩ := and2 h1
      obtain ⟨a2, h1⟩ := and2 h1
      obtain ⟨a3, h1⟩ := and2 h1
      obtain ⟨a4, h1⟩ := and2 h1
      obtain ⟨a5, h1⟩ := and2 h1
      obtain ⟨a6, h1⟩ := and2 h1
      obtain ⟨a7, h1⟩ := and2 h1
      obtain ⟨a8, a9⟩ := and2 h1
      have nn : ∀ {b : Bool}, (!b) = true → b = false := fun {b} z => by
        cases b
        · rfl
        · cases z
      have e3 := of_decide_eq_true a3
      subst e3
      exact pss_cons (ps_ost (pe_var (of_decide_eq_true a1) (by rw [hs]; exact vis_seen a4) (nn a6) (nn a7)) (pe_var (of_decide_eq_true a2) (by rw [hs]; exact vis_seen a5) (nn a8) (nn a9)) rfl) (stores_ok hs fs (j + 1) r h2)
    · cases h1
/-- what the stores leave: the first one makes the dict -/
theorem st_old {K : FR} {C a dx : Addr} (T : OexC K C) : ∀ (fs : List Str) (j : Nat) (ys : List V) (σ : L2.St) (H : Hp) (xs : List (Str × V)) (D : Ends), σ[0]? = some (some (.ref a)) → (∀ (n : Nat) (y : V), ys[n]? = some y → σ[j + n]? = some (some y)) → fs.length = ys.length →
    (∀ f ∈ fs, PySem.W.findIn K (.ref C) f = some none) → H a = some (exo a C (some dx)) → H dx = some (exd dx xs) → dx ≠ a → xs.length + fs.length ≤ 900 →
    (∀ H', H' a = some (exo a C (some dx)) → H' dx = some (exd dx ((fs.zip ys).reverse ++ xs)) → (∀ b, b ≠ a → b ≠ dx → H' b = H b) → D.nx σ H') → tSt K fs j D σ H
  | [], j, [], σ, H, xs, D, h0, hy, hl, hn, ha, hd, ne, hz, q => q H ha (by simpa using hd) fun _ _ _ => rfl
  | [], j, _ :: _, σ, H, xs, D, h0, hy, hl, hn, ha, hd, ne, hz, q => by cases hl
  | _ :: _, j, [], σ, H, xs, D, h0, hy, hl, hn, ha, hd, ne, hz, q => by cases hl
  | f :: fs, j, y :: ys, σ, H, xs, D, h0, hy, hl, hn, ha, hd, ne, hz, q => by
    have z : xs.length + (fs.length + 1) ≤ 900 := hz
    refine ⟨y, hy 0 y rfl, .ref a, h0, a, C, rfl, T, hn f List.mem_cons_self, .inr ⟨dx, xs, ha, hd, by omega, ?_⟩⟩
    refine st_old T fs (j + 1) ys σ _ ((f, y) :: xs) D h0 (fun n u e => by rw [show j + 1 + n = j + (n + 1) by omega]; exact hy (n + 1) u e) (by simpa using hl) (fun g hg => hn g (List.mem_cons_of_mem _ hg)) (by rw [upd_ne (Ne.symm ne)]; exact ha) upd_same ne (by show xs.length + 1 + fs.length ≤ 900; omega) fun H' e1 e2 e3 => q H' e1 (by rw [e2]; simp) fun b b1 b2 => by rw [e3 b b1 b2, upd_ne b2]
theorem st_new {K : FR} {C a : Addr} (T : OexC K C) {f : Str} {fs : List Str} {y : V} {ys : List V} {σ : L2.St} {H : Hp} {D : Ends} (h0 : σ[0]? = some (some (.ref a))) (hy : ∀ (n : Nat) (u : V), (y :: ys)[n]? = some u → σ[1 + n]? = some (some u)) (hl : fs.length = ys.length)
    (hn : ∀ g ∈ f :: fs, PySem.W.findIn K (.ref C) g = some none) (ha : H a = some (exo a C none)) (hz : fs.length ≤ 800)
    (q : ∀ dx H', H dx = none → dx ≠ a → H' a = some (exo a C (some dx)) → H' dx = some (exd dx (((f :: fs).zip (y :: ys)).reverse)) → (∀ b, b ≠ a → b ≠ dx → H' b = H b) → D.nx σ H') : tSt K (f :: fs) 1 D σ H := by
  refine ⟨y, hy 0 y rfl, .ref a, h0, a, C, rfl, T, hn f List.mem_cons_self, .inl ⟨ha, fun dx nd ne => ?_⟩⟩
  refine st_old T fs 2 ys σ _ [(f, y)] D h0 (fun n u e => by rw [show 2 + n = 1 + (n + 1) by omega]; exact hy (n + 1) u e) hl (fun g hg => hn g (List.mem_cons_of_mem _ hg)) upd_same (by rw [upd_ne ne]; exact upd_same) ne (by show 1 + fs.length ≤ 900; omega) fun H' e1 e2 e3 => q dx H' nd ne e1 (by rw [e2]; simp) fun b b1 b2 => by rw [e3 b b1 b2, upd_ne b1, upd_ne b2]
theorem init_ok {P : Program} {w : World} {K : FR} {mg : Str → Option Value} {base : Heap} {C fI : Addr} {k : Nat} {fd : FuncData} {x qual f : Str} {fs ps : List Str} {params : Arguments} {body : List Stmt} {scope : Scope}
    (F : FunD K x qual params body scope [] [] fI fd) (S : FnScope ps ps scope) (T : OexC K C) (hb : storesF ps scope (f :: fs) 1 body = true) (hn : ∀ g ∈ f :: fs, PySem.W.findIn K (.ref C) g = some none) (hl : ps.length = fs.length + 2) (hz : fs.length ≤ 800) :
    FnOk P w K mg base (L2.CX P w) (k + 1) fI fd ps (spI K C (f :: fs)) := by
  refine F.ok S (fun vs H Q E ⟨a, ws, e, l, _⟩ => by rw [e, List.length_cons, l, hl]; rfl) fun cdv A outer s H vs Q E hr h => ?_
  obtain ⟨a, ws, rfl, l, ha, q⟩ := h
  cases ws with
  | nil => cases l
  | cons y ys =>
    refine ⟨tSt K (f :: fs) 1, stores_ok (X := cxOf (L2.CX P w) P w K mg base ps qual scope fI cdv A outer s H E) rfl (f :: fs) 1 body hb, st_new T rfl (fun n u e => ?_) (by simpa using l.symm) hn ha hz fun dx H' n ne e1 e2 e3 => q dx H' n ne e1 e2 e3⟩
    have hlt : n < (y :: ys).length := (List.getElem?_eq_some_iff.mp e).1
    unfold L2.start
    rw [List.getElem?_append_left (by rw [List.length_map, List.length_cons]; omega), List.getElem?_map, show 1 + n = n + 1 by omega, List.getElem?_cons_succ, e]
    rfl
theorem look_zip : ∀ {fs : List Str} {vs : List V}, fs.Nodup → vs.length = fs.length → fs.map (fun f => (fs.zip vs).reverse.lookup f) = vs.map some
  | [], [], _, _ => rfl
  | [], _ :: _, _, h => by cases h
  | _ :: _, [], _, h => by cases h
  | f :: fs, v :: vs, nd, hl => by
    obtain ⟨n1, n2⟩ := List.nodup_cons.mp nd
    have hl' : vs.length = fs.length := by simpa using hl
    have ih := look_zip (fs := fs) (vs := vs) n2 hl'
    have keys : ∀ g, g ∉ fs → (fs.zip vs).reverse.lookup g = none := fun g hg => by
      rw [List.lookup_eq_none_iff]
      intro p hp
      have := (List.of_mem_zip (List.mem_reverse.mp hp)).1
      have h3 : g ≠ p.1 := fun e => hg (e ▸ this)
      simpa using h3
    rw [List.zip_cons_cons, List.reverse_cons, List.map_cons, List.map_cons]
    congr 1
    · rw [List.lookup_append, keys f n1]
      simp [List.lookup]
    · rw [← ih]
      refine List.map_congr_left fun g hg => ?_
      rw [List.lookup_append]
      have : ∃ u, (fs.zip vs).reverse.lookup g = some u := by
        obtain ⟨n, hn, e⟩ := List.getElem_of_mem hg
        have z := congrArg (fun l => l[n]?) ih
        simp only [List.getElem?_map, List.getElem?_eq_getElem hn, e, List.getElem?_eq_getElem (show n < vs.length by omega), Option.map_some, Option.some.injEq] at z
        exact ⟨_, z⟩
      obtain ⟨u, hu⟩ := this
      rw [hu]
      rfl
section
variable {C : CallH} {k : Nat} {m0 : List Addr} {H0 : Hp} {X : Cx} {c : Cxt}
theorem s_raise {i : Nat} {es : Es} {x : Str} {e : Expr} {l : List Expr} {p pos cpos : Pos} {ci : ClI} (G : Good X c C k m0 H0) (hq : c.q = false) (hg : c.glb x = true) (hi : c.CT[i]? = some ci) (hx : ci.name = x) (hn : ci.flds.length = lenEs es) (nd : ci.flds.Nodup) (hz : lenEs es ≤ 800)
    (hst : ∀ a ∈ e :: l, ∀ v o, a ≠ .Starred v o) (hs : SA X C m0 H0 es (e :: l)) : PS X (.Raise (some (.Call (.Name x p) (e :: l) [] cpos)) none pos) (TrS X.K m0 H0 (wpS C (.raise i es))) := by
  obtain ⟨g1, g2⟩ := c.glb_ok G.sc hg
  obtain ⟨Ca, fI, fd, ps, hm, T, -, iC, tI, hb, F1⟩ := G.tab.cls i ci hi
  rw [hx] at hm
  have mk := pmk_oex (p := p) (pos := cpos) T iC tI F1 (G.room.mono (by omega)) hb .nil (passN (X := X)) g1 hm hs g2 (star_of (hst e List.mem_cons_self)) (noStar (fun e' he => hst e' (List.mem_cons_of_mem _ he)) cpos)
  refine PS.imp (ps_raise G.calm (G.tk hq) mk) fun De σ H ⟨m, r, S, N, cu, w, h1, h2, h3, h4⟩ => TrA.of cu w fun ds S1 vs m1 H1 w1 cu1 x1 rs hl => ⟨by rw [← rs.length, hl]; omega, fun a na => ?_⟩
  rw [List.append_nil]
  have hlen : vs.length = ci.flds.length := by rw [← rs.length, hl, hn]
  refine ⟨a, vs, rfl, hlen, upd_same, fun dx H' nd' ne e1 e2 e3 => ⟨rfl, dx, _, e1, e2, ?_, ?_⟩⟩
  · rw [upd_ne ne] at nd'
    exact nd'
  · rw [upd_ne ne] at nd'
    have eh : upd (del H' a) dx (.xd (ci.flds.zip vs).reverse) = upd H1 dx (.xd (ci.flds.zip vs).reverse) := by
      funext b
      by_cases b1 : b = dx
      · rw [b1, upd_same, upd_same]
      · rw [upd_ne b1, upd_ne b1]
        by_cases b2 : b = a
        · rw [b2, del_same, na]
        · rw [del_ne b2, e3 b b2 b1, upd_ne b2]
    rw [eh]
    exact ⟨i, ds, S1, m1, w1, cu1.rel.laid nd', cu1.ext.trans (.laid nd'), ci, Ca, dx, _, vs, hi, by rw [hx]; exact hm, rfl, rfl, upd_same, look_zip nd hlen, rs.mono (.laid nd') cu1.rel⟩
end
end Ev
set_option Elab.async false
set_option linter.all false
set_option maxRecDepth 100000
set_option maxHeartbeats 8000000
namespace Ev
open PySem PySem.Spec PyProof.Rows L2
/-! ## try .. except an own class: return of constants and fields -/
def cstV : Cst → V
  | .non => .non
  | .bl b => .bl b
  | .int i => .int i
  | .str x => .str x
theorem cst_rd {K : FR} {m : List Addr} {H : Hp} (c : Cst) : RD K m H c.d (cstV c) := by
  cases c
  · exact .non
  · exact .bl _
  · exact .int _
  · exact .str _
/-- an item of the suite: its value at the exception's dict -/
def HI.at_ (xs : List (Str × V)) : HI → Option V
  | .cst c => some (cstV c)
  | .fld f => xs.lookup f
/-- readings of the suite's items, where the exception is of class C, has its dict at dd, which holds xs -/
def tHI (Ca : Addr) (cls : Value) (d : Option Addr) (i : HI) : TE := fun _ H Q => cls = .ref Ca ∧ ∃ dd xs v, d = some dd ∧ H dd = some (.xd xs) ∧ i.at_ xs = some v ∧ Q v H
def tHIs (Ca : Addr) (cls : Value) (d : Option Addr) : List HI → TA
  | [] => tNil
  | i :: l => tCons (tHI Ca cls d i) (tHIs Ca cls d l)
def tHE (Ca : Addr) (cls : Value) (d : Option Addr) : HE → TE
  | .one i => tHI Ca cls d i
  | .tup l => tTup (tHIs Ca cls d l)
theorem noStr {n : Str} {h : (!(n == ("__debug__" : Str))) = true} : (n == ("__debug__" : Str)) = false := by simpa using h
section
variable {X : Cx} {a Ca : Addr} {oe : Obj} {cls : Value} {d : Option Addr} {pn : List (Addr × Obj)} {h : Hn} {n : Str} {sl : Nat}
theorem pe_cstV {k : Cst} {v : Const} {j : Nat} {pos : Pos} (e : cstIs k v = true) : PE X (.Constant v j pos) (tC (cstV k)) := by
  cases k <;> cases v <;> first
    | (simp [cstIs] at e; done)
    | skip
  · exact pe_non
  · obtain rfl := (show _ = _ by simpa [cstIs] using e)
    exact pe_bl
  · obtain rfl := (show _ = _ by simpa [cstIs] using e)
    exact pe_int
  · obtain rfl := (show _ = _ by simpa [cstIs] using e)
    exact pe_str
/-- what the named exception needs -/
structure SuiteOk (X : Cx) (h : Hn) (n : Str) (Ca : Addr) (sl : Option Nat) : Prop where
  xf : XfC X.K Ca
  no : ∀ f ∈ h.fl, PySem.W.findIn X.K (.ref Ca) f = some none
  at_ : ∀ i, sl = some i → X.N[i]? = some n ∧ Vis X.env.scope n
theorem pe_HI (O : SuiteOk X h n Ca (some sl)) (hz : Zc cls d oe) (hf : ∃ vs, oe.data = .fields vs) (i : HI) (e : Expr) (me : mHI h n i e = true) : PE (X.suite a ((a, oe) :: pn)) e (fun σ H Q => σ[sl]? = some (some (.ref a)) ∧ tHI Ca cls d i σ H Q) := by
  cases i with
  | cst k =>
    cases e <;> first
      | (cases me; done)
      | skip
    refine PE.imp (pe_cstV (k := k) me) fun σ H Q ⟨_, _, dd, xs, v, _, _, e, q⟩ => ?_
    cases e
    exact q
  | fld f =>
    cases e <;> first
      | (cases me; done)
      | skip
    rename_i o g pos
    cases o <;> first
      | (cases me; done)
      | skip
    rename_i x p
    obtain ⟨h1, me⟩ := and2 me
    obtain ⟨h2, me⟩ := and2 me
    obtain ⟨h3, me⟩ := and2 me
    obtain ⟨h4, h5⟩ := and2 me
    have e1 := of_decide_eq_true h1
    have e4 := of_decide_eq_true h4
    subst e1 e4
    obtain ⟨n1, n2⟩ := O.at_ sl rfl
    have pv : PE (X.suite a ((a, oe) :: pn)) (.Name x p) (tVar sl) := pe_var n1 n2 (by simpa using h2) (by simpa using h3)
    refine PE.imp (pe_xf O.xf (O.no _ (of_decide_eq_true h5)) hz hf pv) fun σ H Q ⟨hs, hc, dd, xs, v, ed, eh, ev, q⟩ => ?_
    exact ⟨_, hs, rfl, hc, dd, xs, v, ed, eh, ev, q⟩
theorem star_HI {i : HI} {e : Expr} (me : mHI h n i e = true) : ∀ v o, e ≠ .Starred v o := by
  intro v o z
  subst z
  cases i <;> cases me
theorem pa_HIs (O : SuiteOk X h n Ca (some sl)) (hz : Zc cls d oe) (hf : ∃ vs, oe.data = .fields vs) : ∀ (l : List HI) (es : List Expr), mHIs h n l es = true → PA (X.suite a ((a, oe) :: pn)) es (fun σ H Q => σ[sl]? = some (some (.ref a)) ∧ tHIs Ca cls d l σ H Q)
  | [], [], _ => PA.imp pa_nil fun σ H Q w => w.2
  | [], _ :: _, me => by cases me
  | _ :: _, [], me => by cases me
  | i :: l, e :: es, me => by
    obtain ⟨m1, m2⟩ := and2 (show (mHI h n i e && mHIs h n l es) = true from me)
    refine PA.imp (pa_cons (pe_HI O hz hf i e m1) (pa_HIs O hz hf l es m2) (star_of (star_HI m1))) fun σ H Q ⟨hs, hc, dd, xs, v, ed, eh, ev, q⟩ => ?_
    exact ⟨hs, hc, dd, xs, v, ed, eh, ev, hs, q⟩
theorem pe_HE (O : SuiteOk X h n Ca (some sl)) (hz : Zc cls d oe) (hf : ∃ vs, oe.data = .fields vs) {e : Expr} (me : mHE h n e = true) : PE (X.suite a ((a, oe) :: pn)) e (fun σ H Q => σ[sl]? = some (some (.ref a)) ∧ tHE Ca cls d h.he σ H Q) := by
  unfold mHE at me
  cases q : h.he with
  | one i =>
    rw [q] at me
    exact pe_HI O hz hf i e me
  | tup l =>
    rw [q] at me
    cases e <;> first
      | (cases me; done)
      | skip
    obtain ⟨m1, m2⟩ := and2 me
    exact PE.imp (pe_tup (pa_HIs O hz hf l _ m2)) fun σ H Q w => w
end
/-! what it comes to -/
section
variable {K : FR} {m : List Addr} {S : Store} {H : Hp} {xs : List (Str × V)}
theorem fld_at : ∀ {fl : List Str} {fs : List D} {vs : List V} {f : Str} {dv : D}, fl.map (fun f => xs.lookup f) = vs.map some → RDs K m H fs vs → (fl.zip fs).lookup f = some dv → ∃ v, xs.lookup f = some v ∧ RD K m H dv v
  | [], _, _, _, _, _, _, e => by simp at e
  | g :: fl, [], _, _, _, _, _, e => by simp at e
  | g :: fl, d :: fs, [], _, _, e1, _, _ => by simp at e1
  | g :: fl, d :: fs, v :: vs, f, dv, e1, .cons r rs, e => by
    simp only [List.map_cons, List.cons.injEq] at e1
    rw [List.zip_cons_cons, List.lookup_cons] at e
    cases hb : f == g with
    | true =>
      rw [hb] at e
      cases e
      have : f = g := by simpa using hb
      rw [this]
      exact ⟨v, e1.1, r⟩
    | false =>
      rw [hb] at e
      exact fld_at e1.2 rs e
theorem hi_at {fl : List Str} {fs : List D} {vs : List V} (e1 : fl.map (fun f => xs.lookup f) = vs.map some) (rs : RDs K m H fs vs) {i : HI} {dv : D} (e : i.val fl fs = some dv) : ∃ v, i.at_ xs = some v ∧ RD K m H dv v := by
  cases i with
  | cst c =>
    cases e
    exact ⟨_, rfl, cst_rd c⟩
  | fld f => exact fld_at e1 rs e
theorem mapM_len {α β : Type} {f : α → Option β} : ∀ {l : List α} {ds : List β}, l.mapM f = some ds → ds.length = l.length
  | [], ds, e => by simp at e; subst e; rfl
  | i :: l, ds, e => by
    rw [List.mapM_cons] at e
    cases ei : f i with
    | none => rw [ei] at e; cases e
    | some dv =>
      rw [ei] at e
      cases el : l.mapM f with
      | none => rw [el] at e; cases e
      | some dl =>
        rw [el] at e
        cases e
        rw [List.length_cons, List.length_cons, mapM_len el]
theorem his_at {Ca : Addr} {cls : Value} {d : Option Addr} {dd : Addr} {fl : List Str} {fs : List D} {vs : List V} {σ : L2.St} (hc : cls = .ref Ca) (hd : d = some dd) (hx : H dd = some (.xd xs)) (e1 : fl.map (fun f => xs.lookup f) = vs.map some) (rs : RDs K m H fs vs) : ∀ {l : List HI} {ds : List D} {Q : List V → Hp → Prop},
    l.mapM (HI.val fl fs) = some ds → (∀ ws, RDs K m H ds ws → Q ws H) → tHIs Ca cls d l σ H Q
  | [], ds, Q, e, q => by
    simp at e
    subst e
    exact q [] .nil
  | i :: l, ds, Q, e, q => by
    rw [List.mapM_cons] at e
    cases ei : HI.val fl fs i with
    | none => rw [ei] at e; cases e
    | some dv =>
      rw [ei] at e
      cases el : l.mapM (HI.val fl fs) with
      | none => rw [el] at e; cases e
      | some dl =>
        rw [el] at e
        cases e
        obtain ⟨v, ev, rv⟩ := hi_at e1 rs ei
        exact ⟨hc, dd, xs, v, hd, hx, ev, his_at hc hd hx e1 rs el fun ws r => q _ (.cons rv r)⟩
theorem he_at {Ca : Addr} {cls : Value} {d : Option Addr} {dd : Addr} {fl : List Str} {fs : List D} {vs : List V} {σ : L2.St} (r : Rel K m S H) (hc : cls = .ref Ca) (hd : d = some dd) (hx : H dd = some (.xd xs)) (e1 : fl.map (fun f => xs.lookup f) = vs.map some) (rs : RDs K m H fs vs) {he : HE} {dv : D} {Q : VK} (hl : ∀ l, he = .tup l → l.length < 1000)
    (e : he.val fl fs = some dv) (q : ∀ v H', Rel K m S H' → Ext m H m H' → RD K m H' dv v → Q v H') : tHE Ca cls d he σ H Q := by
  cases he with
  | one i =>
    obtain ⟨v, ev, rv⟩ := hi_at e1 rs (show i.val fl fs = some dv from e)
    exact ⟨hc, dd, xs, v, hd, hx, ev, q v H r .refl rv⟩
  | tup l =>
    have e : (l.mapM (HI.val fl fs)).map D.tup = some dv := e
    cases el : l.mapM (HI.val fl fs) with
    | none => rw [el] at e; cases e
    | some ds =>
      rw [el] at e
      cases e
      refine his_at hc hd hx e1 rs el fun ws rw_ => ⟨?_, fun p np => ?_⟩
      · have h1 := mapM_len el
        have h2 := hl l rfl
        have h3 := rw_.length
        rw [sizeLine_eq]
        omega
      · exact q _ _ (r.laid np) (.laid np) (.tup (.inl (.inl upd_same)) (rw_.mono (.laid np) r))
end

/-! the statement -/
section
variable {C : CallH} {k : Nat} {m0 : List Addr} {H0 : Hp} {X : Cx} {c : Cxt}
/-- from a state further on -/
theorem Good.on (G : Good X c C k m0 H0) {m1 : List Addr} {H1 : Hp} (x : Ext m0 H0 m1 H1) {C' : CallH} (hgo : C'.go = C.go) {pn : List (Addr × Obj)} {xe : Value → Shared → Prop} (own : PassesOwn (model X.prog X.w) X.A X.env xe)
    (tk : Takes (X.tr pn xe) (fun cls d _ H => wishX X.K X.mg c.CT m1 H1 C'.ex cls d H)) : Good (X.tr pn xe) c C' k m1 H1 where
  N := G.N
  nd := G.nd
  sc := G.sc
  fn := G.fn
  calm := G.calm
  room := G.room
  room3 := G.room3
  own := own
  tab := by rw [hgo]; exact G.tab
  tk := fun _ => tk
  tbs := G.tbs.mono x
  code := fun hg => by
    obtain ⟨cc, P, h1, h2, ⟨ps, h3, h4⟩, h5⟩ := G.code hg
    obtain ⟨qs, e, ok⟩ := x.tb P ps h3 h5
    exact ⟨cc, P, h1, h2, ⟨qs, e, ok h4⟩, x.nin h3 h5⟩
  fr := G.fr
theorem Takes.tr {W : WX} (h : Takes X W) : Takes X W := h
theorem exAt_cls {K : FR} {mg : Str → Option Value} {CT : List ClI} {m : List Addr} {H : Hp} {i : Nat} {fs : List D} {cls : Value} {d : Option Addr} {ci : ClI} {Ca : Addr} (h : ExAt K mg CT m H i fs cls d) (hi : CT[i]? = some ci) (hm : mg ci.name = some (.ref Ca)) :
    cls = .ref Ca ∧ ∃ dd xs vs, d = some dd ∧ H dd = some (.xd xs) ∧ ci.flds.map (fun f => xs.lookup f) = vs.map some ∧ RDs K m H fs vs := by
  obtain ⟨cj, Cj, dd, xs, vs, e1, e2, e3, e4, e5, e6, e7⟩ := h
  rw [hi] at e1
  cases e1
  rw [hm] at e2
  cases e2
  exact ⟨e3, dd, xs, vs, e4, e5, e6, e7⟩
theorem s_tryR {b : Bs} {h : Hn} {body : List Stmt} {x : Str} {nm : Option Str} {e : Expr} {np rp hp pos : Pos} {ci : ClI} (G : Good X c C k m0 H0) (hq : c.q = false) (hg : c.glb x = true) (hi : c.CT[h.cl]? = some ci) (hx : ci.name = x) (hfl : ci.flds = h.fl)
    (hs : (∃ i n, h.sl = some i ∧ nm = some n ∧ c.N[i]? = some n ∧ c.kind n = some .local ∧ mHE h n e = true)) (hb : ∀ {C' : CallH} {m1 : List Addr} {H1 : Hp} {pn : List (Addr × Obj)} {xe : Value → Shared → Prop}, Good (X.tr pn xe) c C' k m1 H1 → PSs (X.tr pn xe) body (TrS X.K m1 H1 (wpB C' b))) :
    PS X (.Try body [.ExceptHandler (some (.Name x np)) nm [.Return (some e) rp] hp] [] [] pos) (TrS X.K m0 H0 (wpS C (.tryR b h))) := by
  obtain ⟨sl, n, es, rfl, hN, hk, me⟩ := hs
  obtain ⟨g1, g2⟩ := c.glb_ok G.sc hg
  obtain ⟨Ca, fI, fd, ps, hm, T, cx, iC, tI, hbb, F1⟩ := G.tab.cls h.cl ci hi
  have hm' := hm
  rw [hx] at hm'
  obtain ⟨f1, f2⟩ := G.fr hq
  have nN : X.N[sl]? = some n := by rw [G.N]; exact hN
  have nk : X.env.scope.names.lookup n = some .local := by rw [G.sc]; exact hk
  have O : SuiteOk X h n Ca (some sl) := ⟨cx.xf, by rw [← hfl]; exact cx.no, fun i z => by cases z; exact ⟨nN, .inl nk⟩⟩
  have hl : ∀ l, h.he = .tup l → l.length < 1000 := fun l z => by
    unfold mHE at me
    rw [z] at me
    cases e <;> first
      | (cases me; done)
      | exact of_decide_eq_true (and2 me).1
  refine PS.imp (ps_try_as (i := sl) (x := x) (n := n) (c := .ref Ca) (Wout := fun cls d _ H => wishX X.K X.mg c.CT m0 H0 C.ex cls d H)
    (tb := fun W => fun D σ H => ∃ (C' : CallH) (m1 : List Addr), C'.go = C.go ∧ Ext m0 H0 m1 H ∧ (∀ cls d σ' H', wishX X.K X.mg c.CT m1 H C'.ex cls d H' → W cls d σ' H') ∧ TrS X.K m1 H (wpB C' b) D σ H)
    (ts := fun a cls d => fun D σ H => (sl < σ.length → σ[sl]? = some (some (.ref a))) ∧ tHE Ca cls d h.he σ H fun v H' => D.rt v H')
    f1 f2 (by rw [G.N]; exact G.nd) nN nk ⟨g1, g2, .inl hm'⟩ (G.tk hq) (fun W pn xe tk own => ?_) (fun a oe cls d pn hz hf => ?_)) fun De σ H ⟨m, r, S, N, cu, w, h1, h2, h3, h4⟩ => ?_
  · refine ⟨fun pins s σ H D I ⟨C', m1, hgo, xt, hW, tr⟩ => ?_⟩
    exact (hb (G.on xt hgo own (Takes.imp tk fun cls d σ' H' z => hW cls d σ' H' z))).run pins s σ H D I tr
  · refine ⟨fun pins s σ H D I z => (pss_one (ps_ret (pe_HE O hz hf me))).run pins s σ H D I ⟨z.1 ?_, z.2⟩⟩
    have e := I.len
    rw [e]
    exact (List.getElem?_eq_some_iff.mp nN).1
  · refine ⟨⟨C.go, fun j fs S' => if j = h.cl then ∃ v, h.he.val h.fl fs = some v ∧ N.rt v S' else C.ex j fs S'⟩, m, rfl, cu.ext, fun cls d σ' H' z => ?_, m, r, S, N, ⟨cu.rel, .refl, cu.len, cu.loc⟩, w, ?_, h2, ?_, ?_⟩
    · obtain ⟨j, fs, S', m', ex, rel', x', at_⟩ := z
      obtain ⟨cj, Cj, dd, xs, vs, q1, q2, q3, q4, q5, q6, q7⟩ := id at_
      refine ⟨decide (j = h.cl), ?_, fun hj a na => ?_, fun hj => ?_⟩
      · rw [q3]
        exact G.tab.exm h.cl j ci cj Ca Cj hi q1 hm q2
      · have hj := of_decide_eq_true hj
        subst hj
        obtain ⟨p1, dd', xs', vs', p2, p3, p4, p5⟩ := exAt_cls at_ hi hm
        have ex : ∃ v, h.he.val h.fl fs = some v ∧ N.rt v S' := by
          have z : (if h.cl = h.cl then ∃ v, h.he.val h.fl fs = some v ∧ N.rt v S' else C.ex h.cl fs S') := ex
          rwa [if_pos rfl] at z
        obtain ⟨dv, ev, nr⟩ := ex
        rw [← hfl] at ev
        refine ⟨fun hlen => List.getElem?_set_self (by simpa using hlen), he_at rel' p1 p2 p3 p4 p5 hl ev fun v H2 rel2 x2 rv => ?_⟩
        exact h2 _ _ _ _ _ nr rel2 (x'.trans x2) rv
      · have hj := of_decide_eq_false hj
        have z : (if j = h.cl then ∃ v, h.he.val h.fl fs = some v ∧ N.rt v S' else C.ex j fs S') := ex
        rw [if_neg hj] at z
        exact ⟨j, fs, S', m', z, rel', cu.ext.trans x', at_⟩
    · exact fun r' S' σ' m' H' z cu' x' => h1 r' S' σ' m' H' z ⟨cu'.rel, cu.ext.trans x', cu'.len, cu'.loc⟩ x'
    · exact fun r' S' σ' m' H' z cu' x' => h3 r' S' σ' m' H' z ⟨cu'.rel, cu.ext.trans x', cu'.len, cu'.loc⟩ x'
    · exact fun r' S' σ' m' H' z cu' x' => h4 r' S' σ' m' H' z ⟨cu'.rel, cu.ext.trans x', cu'.len, cu'.loc⟩ x'
/-! two handlers -/
theorem otherC_at {CT : List ClI} {h : Hn} {y : Str} (e : otherC CT h y = true) : ∃ j ci, CT[j]? = some ci ∧ ci.name = y ∧ j ≠ h.cl := by
  obtain ⟨j, hj, e⟩ := List.any_eq_true.mp e
  cases q : CT[j]? with
  | none => rw [q] at e; cases e
  | some ci =>
    rw [q] at e
    obtain ⟨e1, e2⟩ := and2 e
    exact ⟨j, ci, q, of_decide_eq_true e1, of_decide_eq_true e2⟩
theorem pe_HX {h : Hn} {n : Str} {sl : Nat} {Ca a dd : Addr} {oe : Obj} {pn : List (Addr × Obj)} {e : Expr} {ci : ClI} (G : Good X c C k m0 H0) (hi : c.CT[h.cl]? = some ci) (hm : X.mg ci.name = some (.ref Ca)) (hX : ExcC X.K Ca) (O : SuiteOk X h n Ca (some sl)) (hz : Zc (.ref Ca) (some dd) oe) (hf : ∃ vs, oe.data = .fields vs) (me : mHX c h n e = true) :
    PE (X.suite a ((a, oe) :: pn)) e (fun σ H Q => σ[sl]? = some (some (.ref a)) ∧ (∃ xs, H dd = some (.xd xs)) ∧ tHE Ca (.ref Ca) (some dd) h.he σ H Q) := by
  unfold mHX at me
  rw [Bool.or_eq_true] at me
  rcases me with me | me
  · exact PE.imp (pe_HE O hz hf me) fun σ H Q w => ⟨w.1, w.2.2⟩
  · split at me
    · rename_i f fp x xp y yp cp tq b ip
      obtain ⟨g1, me1⟩ := and2 me
      obtain ⟨g2, me2⟩ := and2 me1
      obtain ⟨g3, me3⟩ := and2 me2
      obtain ⟨g4, me4⟩ := and2 me3
      obtain ⟨g5, me5⟩ := and2 me4
      obtain ⟨g6, me6⟩ := and2 me5
      obtain ⟨g7, me7⟩ := and2 me6
      have g2 := of_decide_eq_true g2
      have g3 := of_decide_eq_true g3
      subst g2 g3
      obtain ⟨f1, f2⟩ := c.glb_ok G.sc g1
      obtain ⟨y1, y2⟩ := c.glb_ok G.sc g6
      obtain ⟨j, cj, ej, ny, nj⟩ := otherC_at g7
      obtain ⟨Cj, fI, fd, ps, hmj, _⟩ := G.tab.cls j cj ej
      obtain ⟨n1, n2⟩ := O.at_ sl rfl
      have pv : PE (X.suite a ((a, oe) :: pn)) (.Name x xp) (tVar sl) := pe_var n1 n2 (by simpa using g4) (by simpa using g5)
      have py : PE (X.suite a ((a, oe) :: pn)) (.Name y yp) (tC (.ref Cj)) := pe_glob y1 (by rw [← ny]; exact hmj) rfl y2
      have pc : PE (X.suite a ((a, oe) :: pn)) (.Call (.Name ("isinstance" : Str) fp) [.Name x xp, .Name y yp] [] cp) _ := pe_callB (call_isD hX hz hf) f1 G.tab.others.1 (by decide +kernel) (pa_cons pv (pa_cons py pa_nil) rfl) (by decide +kernel) f2 rfl rfl
      have pq : PE (X.suite a ((a, oe) :: pn)) tq (fun _ _ _ => False) := ⟨fun _ _ _ _ _ _ z => z.elim⟩
      have hk : PySem.W.kitOne X.K (.ref Ca) (.ref Cj) = some false := by
        have e1 := G.tab.exm j h.cl cj ci Cj Ca ej hi hmj hm
        have e2 := G.tab.exm j j cj cj Cj Cj ej ej hmj hmj
        rw [decide_eq_false (fun z => nj z.symm)] at e1
        rw [decide_eq_true rfl] at e2
        have ne : ¬ ((Value.ref Ca == Value.ref Cj) = true) := fun z => by
          have : Ca = Cj := Value.ref.inj (beq_iff_eq.mp z)
          subst this
          rw [e1] at e2
          cases e2
        unfold PySem.W.kitOne
        rw [if_neg ne]
        unfold PySem.W.exmOne at e1
        split at e1
        · exact e1
        · cases e1
      refine PE.imp (pe_ifExp (pt_truth pc fun _ => rfl) pq (pe_HE O hz hf me7)) fun σ H Q ⟨w1, ⟨xs, w2⟩, w3⟩ => ?_
      have hr : rIsD X.K Ca a dd [.ref a, .ref Cj] H (fun x H' => ∃ k, TruV (X.suite a ((a, oe) :: pn)).K x H' k ∧ (if k = true then False else (σ[sl]? = some (some (V.ref a)) ∧ tHE Ca (.ref Ca) (some dd) h.he σ H' Q))) := by
        refine ⟨.ref Cj, .ref Cj, false, xs, rfl, fun u z => by cases z; rfl, w2, hk, false, ?_, ?_⟩
        · exact (rfl : false = false)
        · rw [if_neg (by decide)]
          exact ⟨w1, w3⟩
      exact ⟨_, w1, hr⟩
    · cases me
/-- what is known of a handler -/
structure HnOk (X : Cx) (c : Cxt) (h : Hn) (x n : Str) (e : Expr) (ci : ClI) (i : Nat) : Prop where
  g : c.glb x = true
  ct : c.CT[h.cl]? = some ci
  nm : ci.name = x
  fl : ci.flds = h.fl
  sl : h.sl = some i
  N : c.N[i]? = some n
  k : c.kind n = some .local
  me : mHX c h n e = true
theorem hnOk_at {X : Cx} {c : Cxt} {h : Hn} {x n : Str} {e : Expr} (q : hnOk c h x n e = true) : ∃ ci i, HnOk X c h x n e ci i := by
  obtain ⟨q1, q⟩ := and2 q
  obtain ⟨q2, q3⟩ := and2 q
  cases ec : c.CT[h.cl]? with
  | none => rw [ec] at q2; cases q2
  | some ci =>
    rw [ec] at q2
    obtain ⟨a1, a2⟩ := and2 q2
    cases es : h.sl with
    | none => rw [es] at q3; cases q3
    | some i =>
      rw [es] at q3
      obtain ⟨b1, b2⟩ := and2 q3
      obtain ⟨b2, b3⟩ := and2 b2
      exact ⟨ci, i, q1, ec, of_decide_eq_true a1, of_decide_eq_true a2, es, of_decide_eq_true b1, of_decide_eq_true b2, b3⟩
/-- a handler's suite, as the layer wants it -/
def tHn (Ca : Addr) (h : Hn) (sl : Nat) : Addr → Value → Option Addr → TS := fun a cls d => fun D σ H => (sl < σ.length → σ[sl]? = some (some (.ref a))) ∧ (cls = .ref Ca ∧ ∃ dd xs, d = some dd ∧ H dd = some (.xd xs)) ∧ tHE Ca cls d h.he σ H fun v H' => D.rt v H'
theorem hn_suite {h : Hn} {x n : Str} {e : Expr} {rp : Pos} {ci : ClI} {sl : Nat} {Ca : Addr} (G : Good X c C k m0 H0) (K : HnOk X c h x n e ci sl) (hm : X.mg ci.name = some (.ref Ca)) (cx : ClX X.K Ca ci) (a : Addr) (oe : Obj) (cls : Value) (d : Option Addr) (pn : List (Addr × Obj)) (hz : Zc cls d oe) (hf : ∃ vs, oe.data = .fields vs) :
    PSs (X.suite a ((a, oe) :: pn)) [.Return (some e) rp] (tHn Ca h sl a cls d) := by
  have nN : X.N[sl]? = some n := by rw [G.N]; exact K.N
  have nk : X.env.scope.names.lookup n = some .local := by rw [G.sc]; exact K.k
  have O : SuiteOk X h n Ca (some sl) := ⟨cx.xf, by rw [← K.fl]; exact cx.no, fun i z => by cases z; exact ⟨nN, .inl nk⟩⟩
  refine ⟨fun pins s σ H D I z => ?_⟩
  obtain ⟨z1, ⟨hc, dd, xs, hd, hx⟩, z2⟩ := z
  subst hc hd
  have e := I.len
  exact (pss_one (ps_ret (pe_HX G K.ct hm cx.is_ O hz hf K.me))).run pins s σ H D I ⟨z1 (by rw [e]; exact (List.getElem?_eq_some_iff.mp nN).1), ⟨xs, hx⟩, z2⟩
theorem mHX_len {h : Hn} {n : Str} {e : Expr} (me : mHX c h n e = true) : ∀ l, h.he = .tup l → l.length < 1000 := by
  intro l z
  have key : ∀ e', mHE h n e' = true → l.length < 1000 := fun e' me => by
    unfold mHE at me
    rw [z] at me
    cases e' <;> first
      | (cases me; done)
      | exact of_decide_eq_true (and2 me).1
  unfold mHX at me
  rw [Bool.or_eq_true] at me
  rcases me with me | me
  · exact key e me
  · split at me
    · exact key _ (and2 (and2 (and2 (and2 (and2 (and2 (and2 me).2).2).2).2).2).2).2
    · cases me
theorem s_try2 {b : Bs} {h1 h2 : Hn} {body : List Stmt} {x1 n1 x2 n2 : Str} {e1 e2 : Expr} {p1 r1 q1 p2 r2 q2 pos : Pos} {c1 c2 : ClI} {i1 i2 : Nat} (G : Good X c C k m0 H0) (hq : c.q = false) (K1 : HnOk X c h1 x1 n1 e1 c1 i1) (K2 : HnOk X c h2 x2 n2 e2 c2 i2)
    (hb : ∀ {C' : CallH} {m1 : List Addr} {H1 : Hp} {pn : List (Addr × Obj)} {xe : Value → Shared → Prop}, Good (X.tr pn xe) c C' k m1 H1 → PSs (X.tr pn xe) body (TrS X.K m1 H1 (wpB C' b))) :
    PS X (.Try body [.ExceptHandler (some (.Name x1 p1)) (some n1) [.Return (some e1) r1] q1, .ExceptHandler (some (.Name x2 p2)) (some n2) [.Return (some e2) r2] q2] [] [] pos) (TrS X.K m0 H0 (wpS C (.try2 b h1 h2))) := by
  obtain ⟨g1, g2⟩ := c.glb_ok G.sc K1.g
  obtain ⟨g3, g4⟩ := c.glb_ok G.sc K2.g
  obtain ⟨A1, _, _, _, hm1, _, cx1, _⟩ := G.tab.cls h1.cl c1 K1.ct
  obtain ⟨A2, _, _, _, hm2, _, cx2, _⟩ := G.tab.cls h2.cl c2 K2.ct
  have hm1' := hm1
  rw [K1.nm] at hm1'
  have hm2' := hm2
  rw [K2.nm] at hm2'
  obtain ⟨f1, f2⟩ := G.fr hq
  have nN1 : X.N[i1]? = some n1 := by rw [G.N]; exact K1.N
  have nk1 : X.env.scope.names.lookup n1 = some .local := by rw [G.sc]; exact K1.k
  have nN2 : X.N[i2]? = some n2 := by rw [G.N]; exact K2.N
  have nk2 : X.env.scope.names.lookup n2 = some .local := by rw [G.sc]; exact K2.k
  refine PS.imp (ps_try_manyAs (l := [(.ref A1, i1, tHn A1 h1 i1), (.ref A2, i2, tHn A2 h2 i2)]) (Wout := fun cls d _ H => wishX X.K X.mg c.CT m0 H0 C.ex cls d H)
    (tb := fun W => fun D σ H => ∃ (C' : CallH) (m1 : List Addr), C'.go = C.go ∧ Ext m0 H0 m1 H ∧ (∀ cls d σ' H', wishX X.K X.mg c.CT m1 H C'.ex cls d H' → W cls d σ' H') ∧ TrS X.K m1 H (wpB C' b) D σ H)
    f1 f2 (by rw [G.N]; exact G.nd) (G.tk hq) (fun W pn xe tk own => ?_)
    (.cons ⟨g1, g2, .inl hm1'⟩ nN1 nk1 (fun a oe cls d pn hz hf => hn_suite G K1 hm1 cx1 a oe cls d pn hz hf) (.cons ⟨g3, g4, .inl hm2'⟩ nN2 nk2 (fun a oe cls d pn hz hf => hn_suite G K2 hm2 cx2 a oe cls d pn hz hf) .nil)))
    fun De σ H ⟨m, r, S, N, cu, w, w1, w2, w3, w4⟩ => ?_
  · refine ⟨fun pins s σ H D I ⟨C', m1, hgo, xt, hW, tr⟩ => ?_⟩
    exact (hb (G.on xt hgo own (Takes.imp tk fun cls d σ' H' z => hW cls d σ' H' z))).run pins s σ H D I tr
  · refine ⟨⟨C.go, fun j fs S' => if j = h1.cl then ∃ v, h1.he.val h1.fl fs = some v ∧ N.rt v S' else if j = h2.cl then ∃ v, h2.he.val h2.fl fs = some v ∧ N.rt v S' else C.ex j fs S'⟩, m, rfl, cu.ext, fun cls d σ' H' z => ?_, m, r, S, N, ⟨cu.rel, .refl, cu.len, cu.loc⟩, w, ?_, w2, ?_, ?_⟩
    · obtain ⟨j, fs, S', m', ex, rel', x', at_⟩ := z
      obtain ⟨cj, Cj, dd, xs, vs, q1, q2, q3, q4, q5, q6, q7⟩ := id at_
      have fire : ∀ (h : Hn) (x n : Str) (e : Expr) (ci : ClI) (i : Nat) (A : Addr), HnOk X c h x n e ci i → X.mg ci.name = some (.ref A) → j = h.cl → (∃ v, h.he.val h.fl fs = some v ∧ N.rt v S') → ∀ a, H' a = none → tHn A h i a cls d { nx := fun σ' H' => De.nx (σ'.set i none) H', rt := De.rt, bk := fun σ' H' => De.bk (σ'.set i none) H', ct := fun σ' H' => De.ct (σ'.set i none) H' } (σ'.set i (some (.ref a))) H' := by
        intro h x n e ci i A K hm hj ⟨dv, ev, nr⟩ a na
        subst hj
        obtain ⟨p1, dd', xs', vs', p2, p3, p4, p5⟩ := exAt_cls at_ K.ct hm
        rw [← K.fl] at ev
        refine ⟨fun hlen => List.getElem?_set_self (by simpa using hlen), ⟨p1, dd', xs', p2, p3⟩, he_at rel' p1 p2 p3 p4 p5 (mHX_len K.me) ev fun v H2 rel2 x2 rv => ?_⟩
        exact w2 _ _ _ _ _ nr rel2 (x'.trans x2) rv
      refine ⟨decide (j = h1.cl), ?_, fun hj a na => ?_, fun hj => ⟨decide (j = h2.cl), ?_, fun hj2 a na => ?_, fun hj2 => ?_⟩⟩
      · rw [q3]
        exact G.tab.exm h1.cl j c1 cj A1 Cj K1.ct q1 hm1 q2
      · have hj := of_decide_eq_true hj
        have ex : (if j = h1.cl then ∃ v, h1.he.val h1.fl fs = some v ∧ N.rt v S' else if j = h2.cl then ∃ v, h2.he.val h2.fl fs = some v ∧ N.rt v S' else C.ex j fs S') := ex
        rw [if_pos hj] at ex
        exact fire h1 x1 n1 e1 c1 i1 A1 K1 hm1 hj ex a na
      · rw [q3]
        exact G.tab.exm h2.cl j c2 cj A2 Cj K2.ct q1 hm2 q2
      · have hj := of_decide_eq_false hj
        have hj2 := of_decide_eq_true hj2
        have ex : (if j = h1.cl then ∃ v, h1.he.val h1.fl fs = some v ∧ N.rt v S' else if j = h2.cl then ∃ v, h2.he.val h2.fl fs = some v ∧ N.rt v S' else C.ex j fs S') := ex
        rw [if_neg hj, if_pos hj2] at ex
        exact fire h2 x2 n2 e2 c2 i2 A2 K2 hm2 hj2 ex a na
      · have hj := of_decide_eq_false hj
        have hj2 := of_decide_eq_false hj2
        have ex : (if j = h1.cl then ∃ v, h1.he.val h1.fl fs = some v ∧ N.rt v S' else if j = h2.cl then ∃ v, h2.he.val h2.fl fs = some v ∧ N.rt v S' else C.ex j fs S') := ex
        rw [if_neg hj, if_neg hj2] at ex
        exact ⟨j, fs, S', m', ex, rel', cu.ext.trans x', at_⟩
    · exact fun r' S' σ' m' H' z cu' x' => w1 r' S' σ' m' H' z ⟨cu'.rel, cu.ext.trans x', cu'.len, cu'.loc⟩ x'
    · exact fun r' S' σ' m' H' z cu' x' => w3 r' S' σ' m' H' z ⟨cu'.rel, cu.ext.trans x', cu'.len, cu'.loc⟩ x'
    · exact fun r' S' σ' m' H' z cu' x' => w4 r' S' σ' m' H' z ⟨cu'.rel, cu.ext.trans x', cu'.len, cu'.loc⟩ x'
theorem swaps_no {e : Expr} (h : notComp e = true) (t : Option Expr) (l : Nat) (env : Env) : swapsWith e t l env = pure false := by
  cases e <;> first
    | rfl
    | (simp [notComp] at h)
/-! a suite whose looks at the error's class are known -/
def PIx (sl nl : Nat) (a dd : Addr) (env : List (Str × Nat × Bool)) (σ : L2.St) (H : Hp) : Prop := σ[sl]? = some (some (.ref a)) ∧ (∃ xs, H dd = some (.xd xs)) ∧ (∀ t ∈ env, σ[t.2.1]? = some (some (V.bl t.2.2))) ∧ σ.length = nl
theorem tHIs_σ {Ca : Addr} {cls : Value} {d : Option Addr} {σ σ' : L2.St} {H : Hp} : ∀ {l : List HI} {Q : List V → Hp → Prop}, tHIs Ca cls d l σ H Q → tHIs Ca cls d l σ' H Q
  | [], _, h => h
  | i :: l, Q, ⟨hc, dd, xs, v, e1, e2, e3, h⟩ => ⟨hc, dd, xs, v, e1, e2, e3, tHIs_σ h⟩
theorem tHE_σ {Ca : Addr} {cls : Value} {d : Option Addr} {σ σ' : L2.St} {H : Hp} {he : HE} {Q : VK} (h : tHE Ca cls d he σ H Q) : tHE Ca cls d he σ' H Q := by
  cases he with
  | one i => exact h
  | tup l => exact tHIs_σ h
theorem env_mem {y : Str} {p : Nat × Bool} : ∀ {l : List (Str × Nat × Bool)}, l.lookup y = some p → (y, p) ∈ l
  | [], h => by cases h
  | (z, c) :: l, h => by
    rw [List.lookup_cons] at h
    cases e : y == z with
    | true =>
      rw [e] at h
      cases h
      rw [beq_iff_eq.mp e]
      exact List.mem_cons_self ..
    | false =>
      rw [e] at h
      exact List.mem_cons_of_mem _ (env_mem h)
theorem blt_VE : bootBuiltins "ValueError" = some (.type "ValueError") ∧ ("ValueError" : Str) ≠ "__name__" := ⟨by decide +kernel, by decide +kernel⟩
theorem hcB_ok {h : Hn} {n : Str} {sl : Nat} {Ca a dd : Addr} {oe : Obj} {pn : List (Addr × Obj)} {ci : ClI} {env : List (Str × Nat × Bool)} (G : Good X c C k m0 H0) (hi : c.CT[h.cl]? = some ci) (hm : X.mg ci.name = some (.ref Ca)) (hX : ExcC X.K Ca) (O : SuiteOk X h n Ca (some sl)) (hz : Zc (.ref Ca) (some dd) oe) (hf : ∃ vs, oe.data = .fields vs)
    (he : ∀ t ∈ env, X.N[t.2.1]? = some t.1 ∧ Vis X.env.scope t.1) : ∀ (j : Nat) (e : Expr) (b : Bool), hcB c ci n env j e = some b → PE (X.suite a ((a, oe) :: pn)) e (fun σ H Q => PIx sl X.N.length a dd env σ H ∧ Q (.bl b) H)
  | 0, e, b, me => by cases me
  | j + 1, e, b, me => by
    unfold hcB at me
    split at me
    · rename_i f fp x xp y yp cp
      split at me
      · rename_i q
        obtain ⟨g1, me1⟩ := and2 q
        obtain ⟨g2, me2⟩ := and2 me1
        obtain ⟨g3, me3⟩ := and2 me2
        obtain ⟨g4, me4⟩ := and2 me3
        obtain ⟨g5, g6⟩ := and2 me4
        have g2 := of_decide_eq_true g2
        have g3 := of_decide_eq_true g3
        subst g2 g3
        obtain ⟨f1, f2⟩ := c.glb_ok G.sc g1
        obtain ⟨y1, y2⟩ := c.glb_ok G.sc g6
        obtain ⟨n1, n2⟩ := O.at_ sl rfl
        have pv : PE (X.suite a ((a, oe) :: pn)) (.Name x xp) (tVar sl) := pe_var n1 n2 (by simpa using g4) (by simpa using g5)
        have fin : ∀ (v : V) (u : Value), PE (X.suite a ((a, oe) :: pn)) (.Name y yp) (tC v) → (∀ z, RelV v z → z = u) → PySem.W.kitOne X.K (.ref Ca) u = some b → PE (X.suite a ((a, oe) :: pn)) (.Call (.Name ("isinstance" : Str) fp) [.Name x xp, .Name y yp] [] cp) (fun σ H Q => PIx sl X.N.length a dd env σ H ∧ Q (.bl b) H) := by
          intro v u py hu hk
          have pc : PE (X.suite a ((a, oe) :: pn)) (.Call (.Name ("isinstance" : Str) fp) [.Name x xp, .Name y yp] [] cp) _ := pe_callB (call_isD hX hz hf) f1 G.tab.others.1 (by decide +kernel) (pa_cons pv (pa_cons py pa_nil) rfl) (by decide +kernel) f2 rfl rfl
          refine PE.imp pc fun σ H Q ⟨⟨w1, ⟨xs, w2⟩, w3, w4⟩, q⟩ => ?_
          have hr : rIsD X.K Ca a dd [.ref a, v] H Q := ⟨v, u, b, xs, rfl, hu, w2, hk, q⟩
          exact ⟨_, w1, hr⟩
        rcases G.tab.kin h.cl ci Ca hi hm y b me with ⟨D, hD, hk⟩ | ⟨rfl, hn, hk⟩
        · exact fin (.ref D) (.ref D) (pe_glob y1 hD rfl y2) (fun z e => e) hk
        · exact fin (.ty "ValueError") (.type "ValueError") (pe_bltn y1 hn blt_VE.1 rfl blt_VE.2 y2) (fun z e => e) hk
      · cases me
    · rename_i z zp
      split at me
      · rename_i q
        obtain ⟨q1, q2⟩ := and2 q
        obtain ⟨p, hp, rfl⟩ := Option.map_eq_some_iff.mp me
        have hp := env_mem hp
        obtain ⟨n1, n2⟩ := he _ hp
        have pv : PE (X.suite a ((a, oe) :: pn)) (.Name z zp) (tVar p.1) := pe_var n1 n2 (by simpa using q1) (by simpa using q2)
        exact PE.imp pv fun σ H Q ⟨⟨w1, w2, w3, w4⟩, q⟩ => ⟨_, w3 _ hp, q⟩
      · cases me
    · obtain ⟨b', hb, rfl⟩ := Option.map_eq_some_iff.mp me
      exact PE.imp (pe_not (hcB_ok G hi hm hX O hz hf he j _ _ hb)) fun σ H Q ⟨w, q⟩ => ⟨w, b', rfl, q⟩
    · exact pe_one (hcB_ok G hi hm hX O hz hf he j _ _ me)
    · exact pe_one (hcB_ok G hi hm hX O hz hf he j _ _ me)
    · split at me
      · rename_i p q h1 h2
        cases me
        refine PE.imp (pe_or (hcB_ok G hi hm hX O hz hf he j _ _ h1) (hcB_ok G hi hm hX O hz hf he j _ _ h2)) fun σ H Q ⟨w, z⟩ => ⟨w, p, rfl, ?_⟩
        cases p
        · rw [if_neg (by decide)]; exact ⟨w, z⟩
        · rw [if_pos rfl]; exact z
      · cases me
    · split at me
      · rename_i p q h1 h2
        cases me
        refine PE.imp (pe_and (hcB_ok G hi hm hX O hz hf he j _ _ h1) (hcB_ok G hi hm hX O hz hf he j _ _ h2)) fun σ H Q ⟨w, z⟩ => ⟨w, p, rfl, ?_⟩
        cases p
        · rw [if_neg (by decide)]; exact z
        · rw [if_pos rfl]; exact ⟨w, z⟩
      · cases me
    · cases me
/-- .. as tests -/
theorem hcT_ok {h : Hn} {n : Str} {sl : Nat} {Ca a dd : Addr} {oe : Obj} {pn : List (Addr × Obj)} {ci : ClI} {env : List (Str × Nat × Bool)} (G : Good X c C k m0 H0) (hi : c.CT[h.cl]? = some ci) (hm : X.mg ci.name = some (.ref Ca)) (hX : ExcC X.K Ca) (O : SuiteOk X h n Ca (some sl)) (hz : Zc (.ref Ca) (some dd) oe) (hf : ∃ vs, oe.data = .fields vs)
    (he : ∀ t ∈ env, X.N[t.2.1]? = some t.1 ∧ Vis X.env.scope t.1) : ∀ (j : Nat) (e : Expr) (b : Bool), hcB c ci n env j e = some b → PT (X.suite a ((a, oe) :: pn)) e (fun σ H Q => PIx sl X.N.length a dd env σ H ∧ Q b H) ∧ ((∃ op as pos, e = .BoolOp op as pos) → PW (X.suite a ((a, oe) :: pn)) e (fun σ H Q => PIx sl X.N.length a dd env σ H ∧ Q b H))
  | 0, e, b, me => by cases me
  | j + 1, e, b, me => by
    have val := hcB_ok (a := a) (dd := dd) (oe := oe) (pn := pn) G hi hm hX O hz hf he (j + 1) e b me
    have one : ∀ {t : TT}, PW (X.suite a ((a, oe) :: pn)) e t → (∀ σ H Q, (PIx sl X.N.length a dd env σ H ∧ Q b H) → t σ H Q) → PT (X.suite a ((a, oe) :: pn)) e (fun σ H Q => PIx sl X.N.length a dd env σ H ∧ Q b H) ∧ ((∃ op as pos, e = .BoolOp op as pos) → PW (X.suite a ((a, oe) :: pn)) e (fun σ H Q => PIx sl X.N.length a dd env σ H ∧ Q b H)) := fun hp hq => by
      have : PW (X.suite a ((a, oe) :: pn)) e (fun σ H Q => PIx sl X.N.length a dd env σ H ∧ Q b H) := ⟨fun wh pins s σ H Q I h => hp.run wh pins s σ H Q I (hq _ _ _ h)⟩
      exact ⟨this.pt, fun _ => this⟩
    unfold hcB at me
    split at me
    · refine ⟨⟨fun pins s σ H Q I h => (pt_val val).run pins s σ H Q I ⟨h.1, b, rfl, h.2⟩⟩, fun ⟨_, _, _, z⟩ => by cases z⟩
    · refine ⟨⟨fun pins s σ H Q I h => (pt_val val).run pins s σ H Q I ⟨h.1, b, rfl, h.2⟩⟩, fun ⟨_, _, _, z⟩ => by cases z⟩
    · obtain ⟨b', hb, rfl⟩ := Option.map_eq_some_iff.mp me
      refine ⟨⟨fun pins s σ H Q I h => (pt_not (hcT_ok G hi hm hX O hz hf he j _ _ hb).1).run pins s σ H Q I h⟩, fun ⟨_, _, _, z⟩ => by cases z⟩
    · exact one (pw_or1 (hcT_ok G hi hm hX O hz hf he j _ _ me).1) fun _ _ _ h => h
    · exact one (pw_and1 (hcT_ok G hi hm hX O hz hf he j _ _ me).1) fun _ _ _ h => h
    · split at me
      · rename_i p q h1 h2
        cases me
        refine one (pw_or (hcT_ok G hi hm hX O hz hf he j _ _ h1).1 ((hcT_ok G hi hm hX O hz hf he j _ _ h2).2 ⟨_, _, _, rfl⟩)) fun σ H Q ⟨w, z⟩ => ⟨w, ?_⟩
        cases p
        · exact ⟨w, z⟩
        · exact z
      · cases me
    · split at me
      · rename_i p q h1 h2
        cases me
        refine one (pw_and (hcT_ok G hi hm hX O hz hf he j _ _ h1).1 ((hcT_ok G hi hm hX O hz hf he j _ _ h2).2 ⟨_, _, _, rfl⟩)) fun σ H Q ⟨w, z⟩ => ⟨w, ?_⟩
        cases p
        · exact z
        · exact ⟨w, z⟩
      · cases me
    · cases me
section
variable {h : Hn} {n : Str} {sl : Nat} {Ca a dd : Addr} {oe : Obj} {pn : List (Addr × Obj)} {ci : ClI} {env : List (Str × Nat × Bool)}
theorem hiB_ok (G : Good X c C k m0 H0) (hi : c.CT[h.cl]? = some ci) (hm : X.mg ci.name = some (.ref Ca)) (hX : ExcC X.K Ca) (O : SuiteOk X h n Ca (some sl)) (hz : Zc (.ref Ca) (some dd) oe) (hf : ∃ vs, oe.data = .fields vs)
    (he : ∀ t ∈ env, X.N[t.2.1]? = some t.1 ∧ Vis X.env.scope t.1) {i : HI} {e : Expr} (me : hiB c ci n env h i e = true) : PE (X.suite a ((a, oe) :: pn)) e (fun σ H Q => PIx sl X.N.length a dd env σ H ∧ tHI Ca (.ref Ca) (some dd) i σ H Q) := by
  unfold hiB at me
  rw [Bool.or_eq_true] at me
  rcases me with me | me
  · exact PE.imp (pe_HI O hz hf i e me) fun σ H Q w => ⟨w.1.1, w.2⟩
  · split at me
    · rename_i t p q pos
      have pq : ∀ e, PE (X.suite a ((a, oe) :: pn)) e (fun _ _ _ => False) := fun e => ⟨fun _ _ _ _ _ _ z => z.elim⟩
      split at me
      · rename_i hb
        exact PE.imp (pe_ifExp (hcT_ok (a := a) (dd := dd) (oe := oe) (pn := pn) G hi hm hX O hz hf he 40 t _ hb).1 (pe_HI O hz hf i p me) (pq q)) fun σ H Q w => ⟨w.1, w.1.1, w.2⟩
      · rename_i hb
        exact PE.imp (pe_ifExp (hcT_ok (a := a) (dd := dd) (oe := oe) (pn := pn) G hi hm hX O hz hf he 40 t _ hb).1 (pq p) (pe_HI O hz hf i q me)) fun σ H Q w => ⟨w.1, w.1.1, w.2⟩
      · cases me
    · cases me
theorem star_hiB {i : HI} {e : Expr} (me : hiB c ci n env h i e = true) : ∀ v o, e ≠ .Starred v o := by
  intro v o z
  subst z
  unfold hiB at me
  rw [Bool.or_eq_true] at me
  rcases me with me | me
  · exact star_HI me v o rfl
  · cases me
theorem hisB_ok (G : Good X c C k m0 H0) (hi : c.CT[h.cl]? = some ci) (hm : X.mg ci.name = some (.ref Ca)) (hX : ExcC X.K Ca) (O : SuiteOk X h n Ca (some sl)) (hz : Zc (.ref Ca) (some dd) oe) (hf : ∃ vs, oe.data = .fields vs)
    (he : ∀ t ∈ env, X.N[t.2.1]? = some t.1 ∧ Vis X.env.scope t.1) : ∀ (l : List HI) (es : List Expr), hisB c ci n env h l es = true → PA (X.suite a ((a, oe) :: pn)) es (fun σ H Q => PIx sl X.N.length a dd env σ H ∧ tHIs Ca (.ref Ca) (some dd) l σ H Q)
  | [], [], _ => PA.imp pa_nil fun σ H Q w => w.2
  | [], _ :: _, me => by cases me
  | _ :: _, [], me => by cases me
  | i :: l, e :: es, me => by
    obtain ⟨m1, m2⟩ := and2 (show (hiB c ci n env h i e && hisB c ci n env h l es) = true from me)
    refine PA.imp (pa_cons (hiB_ok G hi hm hX O hz hf he m1) (hisB_ok G hi hm hX O hz hf he l es m2) (star_of (star_hiB m1))) fun σ H Q ⟨hs, hc, dd, xs, v, ed, eh, ev, q⟩ => ?_
    exact ⟨hs, hc, dd, xs, v, ed, eh, ev, hs, q⟩
theorem heB_ok (G : Good X c C k m0 H0) (hi : c.CT[h.cl]? = some ci) (hm : X.mg ci.name = some (.ref Ca)) (hX : ExcC X.K Ca) (O : SuiteOk X h n Ca (some sl)) (hz : Zc (.ref Ca) (some dd) oe) (hf : ∃ vs, oe.data = .fields vs)
    (he : ∀ t ∈ env, X.N[t.2.1]? = some t.1 ∧ Vis X.env.scope t.1) {e : Expr} (me : heB c ci n env h e = true) : PE (X.suite a ((a, oe) :: pn)) e (fun σ H Q => PIx sl X.N.length a dd env σ H ∧ tHE Ca (.ref Ca) (some dd) h.he σ H Q) := by
  unfold heB at me
  cases q : h.he with
  | one i =>
    rw [q] at me
    exact hiB_ok G hi hm hX O hz hf he me
  | tup l =>
    rw [q] at me
    cases e <;> first
      | (cases me; done)
      | skip
    obtain ⟨m1, m2⟩ := and2 me
    exact PE.imp (pe_tup (hisB_ok G hi hm hX O hz hf he l _ m2)) fun σ H Q w => w
theorem suiteB_ok (G : Good X c C k m0 H0) (hi : c.CT[h.cl]? = some ci) (hm : X.mg ci.name = some (.ref Ca)) (hX : ExcC X.K Ca) (O : SuiteOk X h n Ca (some sl)) (hz : Zc (.ref Ca) (some dd) oe) (hf : ∃ vs, oe.data = .fields vs) :
    ∀ (l : List Stmt) (env : List (Str × Nat × Bool)), (∀ t ∈ env, X.N[t.2.1]? = some t.1 ∧ Vis X.env.scope t.1) → suiteB c ci n h sl env l = true → PSs (X.suite a ((a, oe) :: pn)) l (fun D σ H => PIx sl X.N.length a dd env σ H ∧ tHE Ca (.ref Ca) (some dd) h.he σ H fun v H' => D.rt v H')
  | [], env, _, me => by cases me
  | s :: r, env, he, me => by
    unfold suiteB at me
    split at me
    · rename_i e p
      obtain ⟨m1, m2⟩ := and2 me
      cases r with
      | cons _ _ => cases m1
      | nil => exact pss_one (ps_ret (heB_ok G hi hm hX O hz hf he m2))
    · rename_i z zp e p
      split at me
      · rename_i b i hb hz'
        obtain ⟨m1, m2⟩ := and2 me
        obtain ⟨m2, m3⟩ := and2 m2
        obtain ⟨m3, m4⟩ := and2 m3
        obtain ⟨m4, m5⟩ := and2 m4
        have hN : X.N[i]? = some z := by rw [G.N]; exact of_decide_eq_true m1
        have hk : X.env.scope.names.lookup z = some .local := by rw [G.sc]; exact of_decide_eq_true m2
        have hsl := of_decide_eq_true m3
        have ih := suiteB_ok G hi hm hX O hz hf r _ (fun t ht => by
          rcases List.mem_cons.mp ht with rfl | ht
          · exact ⟨hN, .inl hk⟩
          · exact he t (List.mem_filter.mp ht).1) m5
        have pg : PG (X.suite a ((a, oe) :: pn)) (.Name z zp) (gName i) := pg_name (by show X.N.Nodup; rw [G.N]; exact G.nd) hN (.inl hk) (.inr hk)
        have hst : ∀ v o, (Expr.Name z zp) ≠ .Starred v o := fun _ _ h => by cases h
        refine PSs.imp (pss_cons (ps_asg (hcB_ok G hi hm hX O hz hf he 40 e b hb) pg (by cases e <;> first | rfl | (simp [notComp] at m4)) (by cases e <;> first | rfl | (simp [notComp] at m4)) (by rw [(assignEach_of hst).1]; rfl)) ih) fun D σ H ⟨w, t⟩ => ⟨w, ⟨?_, w.2.1, fun t' ht => ?_, ?_⟩, tHE_σ t⟩
        · rw [List.getElem?_set_ne hsl]; exact w.1
        · rcases List.mem_cons.mp ht with rfl | ht
          · exact List.getElem?_set_self (by rw [w.2.2.2]; exact (List.getElem?_eq_some_iff.mp hN).1)
          · obtain ⟨h1, h2⟩ := List.mem_filter.mp ht
            have h2 := of_decide_eq_true h2
            rw [List.getElem?_set_ne (fun z => h2 z.symm)]
            exact w.2.2.1 _ h1
        · rw [List.length_set]; exact w.2.2.2
      · cases me
    · cases me
end
theorem heB_len {c : Cxt} {ci : ClI} {n : Str} {env : List (Str × Nat × Bool)} {h : Hn} {e : Expr} (me : heB c ci n env h e = true) : ∀ l, h.he = .tup l → l.length < 1000 := by
  intro l z
  unfold heB at me
  rw [z] at me
  cases e <;> first
    | (cases me; done)
    | exact of_decide_eq_true (and2 me).1
theorem suiteB_len {c : Cxt} {ci : ClI} {n : Str} {h : Hn} {sl : Nat} : ∀ {l : List Stmt} {env : List (Str × Nat × Bool)}, suiteB c ci n h sl env l = true → ∀ l, h.he = .tup l → l.length < 1000
  | [], env, me => by cases me
  | s :: r, env, me => by
    unfold suiteB at me
    split at me
    · exact heB_len (and2 me).2
    · split at me
      · exact suiteB_len (and2 (and2 (and2 (and2 me).2).2).2).2
      · cases me
    · cases me
theorem s_tryI {b : Bs} {h : Hn} {body suite : List Stmt} {s0 : Stmt} {x n : Str} {np hp pos : Pos} {ci : ClI} {sl : Nat} (G : Good X c C k m0 H0) (hq : c.q = false) (hg : c.glb x = true) (hi : c.CT[h.cl]? = some ci) (hx : ci.name = x) (hfl : ci.flds = h.fl)
    (hsl : h.sl = some sl) (hN : c.N[sl]? = some n) (hk : c.kind n = some .local) (me : suiteB c ci n h sl [] (s0 :: suite) = true) (hb : ∀ {C' : CallH} {m1 : List Addr} {H1 : Hp} {pn : List (Addr × Obj)} {xe : Value → Shared → Prop}, Good (X.tr pn xe) c C' k m1 H1 → PSs (X.tr pn xe) body (TrS X.K m1 H1 (wpB C' b))) :
    PS X (.Try body [.ExceptHandler (some (.Name x np)) (some n) (s0 :: suite) hp] [] [] pos) (TrS X.K m0 H0 (wpS C (.tryR b h))) := by
  obtain ⟨g1, g2⟩ := c.glb_ok G.sc hg
  obtain ⟨Ca, fI, fd, ps, hm, T, cx, iC, tI, hbb, F1⟩ := G.tab.cls h.cl ci hi
  have hm' := hm
  rw [hx] at hm'
  obtain ⟨f1, f2⟩ := G.fr hq
  have nN : X.N[sl]? = some n := by rw [G.N]; exact hN
  have nk : X.env.scope.names.lookup n = some .local := by rw [G.sc]; exact hk
  have O : SuiteOk X h n Ca (some sl) := ⟨cx.xf, by rw [← hfl]; exact cx.no, fun i z => by cases z; exact ⟨nN, .inl nk⟩⟩
  refine PS.imp (ps_try_as (i := sl) (x := x) (n := n) (c := .ref Ca) (Wout := fun cls d _ H => wishX X.K X.mg c.CT m0 H0 C.ex cls d H)
    (tb := fun W => fun D σ H => ∃ (C' : CallH) (m1 : List Addr), C'.go = C.go ∧ Ext m0 H0 m1 H ∧ (∀ cls d σ' H', wishX X.K X.mg c.CT m1 H C'.ex cls d H' → W cls d σ' H') ∧ TrS X.K m1 H (wpB C' b) D σ H)
    (ts := tHn Ca h sl)
    f1 f2 (by rw [G.N]; exact G.nd) nN nk ⟨g1, g2, .inl hm'⟩ (G.tk hq) (fun W pn xe tk own => ?_) (fun a oe cls d pn hz hf => ?_)) fun De σ H ⟨m, r, S, N, cu, w, h1, h2, h3, h4⟩ => ?_
  · refine ⟨fun pins s σ H D I ⟨C', m1, hgo, xt, hW, tr⟩ => ?_⟩
    exact (hb (G.on xt hgo own (Takes.imp tk fun cls d σ' H' z => hW cls d σ' H' z))).run pins s σ H D I tr
  · refine ⟨fun pins s σ H D I z => ?_⟩
    obtain ⟨z1, ⟨hc, dd, xs, hd, hx⟩, z2⟩ := z
    subst hc hd
    have e := I.len
    exact (suiteB_ok (a := a) (dd := dd) (oe := oe) (pn := pn) G hi hm cx.is_ O hz hf _ [] (fun t ht => by cases ht) me).run pins s σ H D I ⟨⟨z1 (by rw [e]; exact (List.getElem?_eq_some_iff.mp nN).1), ⟨xs, hx⟩, (fun t ht => by cases ht), e⟩, z2⟩
  · refine ⟨⟨C.go, fun j fs S' => if j = h.cl then ∃ v, h.he.val h.fl fs = some v ∧ N.rt v S' else C.ex j fs S'⟩, m, rfl, cu.ext, fun cls d σ' H' z => ?_, m, r, S, N, ⟨cu.rel, .refl, cu.len, cu.loc⟩, w, ?_, h2, ?_, ?_⟩
    · obtain ⟨j, fs, S', m', ex, rel', x', at_⟩ := z
      obtain ⟨cj, Cj, dd, xs, vs, q1, q2, q3, q4, q5, q6, q7⟩ := id at_
      refine ⟨decide (j = h.cl), ?_, fun hj a na => ?_, fun hj => ?_⟩
      · rw [q3]
        exact G.tab.exm h.cl j ci cj Ca Cj hi q1 hm q2
      · have hj := of_decide_eq_true hj
        subst hj
        obtain ⟨p1, dd', xs', vs', p2, p3, p4, p5⟩ := exAt_cls at_ hi hm
        have ex : ∃ v, h.he.val h.fl fs = some v ∧ N.rt v S' := by
          have z : (if h.cl = h.cl then ∃ v, h.he.val h.fl fs = some v ∧ N.rt v S' else C.ex h.cl fs S') := ex
          rwa [if_pos rfl] at z
        obtain ⟨dv, ev, nr⟩ := ex
        rw [← hfl] at ev
        refine ⟨fun hlen => List.getElem?_set_self (by simpa using hlen), ⟨p1, dd', xs', p2, p3⟩, he_at rel' p1 p2 p3 p4 p5 (suiteB_len me) ev fun v H2 rel2 x2 rv => ?_⟩
        exact h2 _ _ _ _ _ nr rel2 (x'.trans x2) rv
      · have hj := of_decide_eq_false hj
        have z : (if j = h.cl then ∃ v, h.he.val h.fl fs = some v ∧ N.rt v S' else C.ex j fs S') := ex
        rw [if_neg hj] at z
        exact ⟨j, fs, S', m', z, rel', cu.ext.trans x', at_⟩
    · exact fun r' S' σ' m' H' z cu' x' => h1 r' S' σ' m' H' z ⟨cu'.rel, cu.ext.trans x', cu'.len, cu'.loc⟩ x'
    · exact fun r' S' σ' m' H' z cu' x' => h3 r' S' σ' m' H' z ⟨cu'.rel, cu.ext.trans x', cu'.len, cu'.loc⟩ x'
    · exact fun r' S' σ' m' H' z cu' x' => h4 r' S' σ' m' H' z ⟨cu'.rel, cu.ext.trans x', cu'.len, cu'.loc⟩ x'
end
end Ev
set_option Elab.async false
set_option linter.all false
set_option maxRecDepth 100000
set_option maxHeartbeats 8000000
namespace Ev
open PySem PySem.Spec PyProof.Rows L2
/-! ## statements -/
section
variable {C : CallH} {k : Nat} {m0 : List Addr} {H0 : Hp} {X : Cx} {c : Cxt}
abbrev SS (X : Cx) (C : CallH) (m0 : List Addr) (H0 : Hp) (s : Sm) (a : Stmt) : Prop := PS X a (TrS X.K m0 H0 (wpS C s))
abbrev SB (X : Cx) (C : CallH) (m0 : List Addr) (H0 : Hp) (s : Bs) (a : List Stmt) : Prop := PSs X a (TrS X.K m0 H0 (wpB C s))
section
variable {K : FR} {m m1 : List Addr} {H H1 : Hp}
/-- the four ways out, from further on -/
theorem TrS.on {De : Ends} {σ : L2.St} {r : Rho} {S : Store} {N : Dn} {w : Dn → Rho → Store → Prop} (cu : Cur K m0 H0 m1 r S σ H1) (x : Ext m H m1 H1) (h : w N r S)
    (h1 : ∀ r' S' σ' m' H', N.nx r' S' → Cur K m0 H0 m' r' S' σ' H' → Ext m H m' H' → De.nx σ' H') (h2 : ∀ d S' v m' H', N.rt d S' → Rel K m' S' H' → Ext m H m' H' → RD K m' H' d v → De.rt v H')
    (h3 : ∀ r' S' σ' m' H', N.bk r' S' → Cur K m0 H0 m' r' S' σ' H' → Ext m H m' H' → De.bk σ' H') (h4 : ∀ r' S' σ' m' H', N.ct r' S' → Cur K m0 H0 m' r' S' σ' H' → Ext m H m' H' → De.ct σ' H') : TrS K m0 H0 w De σ H1 :=
  ⟨m1, r, S, N, cu, h, fun r' S' σ' m' H' a b y => h1 r' S' σ' m' H' a b (x.trans y), fun d S' v m' H' a b y z => h2 d S' v m' H' a b (x.trans y) z, fun r' S' σ' m' H' a b y => h3 r' S' σ' m' H' a b (x.trans y), fun r' S' σ' m' H' a b y => h4 r' S' σ' m' H' a b (x.trans y)⟩
end
theorem s_expr {e : E} {a : Expr} {pos : Pos} (hn : notComp a = true) (h : SE X C m0 H0 e a) : SS X C m0 H0 (.expr e) (.Expr a pos) :=
  PS.imp (ps_expr h (swaps_no hn _ _ _)) fun De σ H ⟨m, r, S, N, cu, w, h1, h2, h3, h4⟩ => TrE.of cu w fun d S1 v m1 H1 w1 cu1 x1 rd => h1 _ _ _ _ _ w1 cu1 x1
theorem s_ret {e : E} {a : Expr} {pos : Pos} (h : SE X C m0 H0 e a) : SS X C m0 H0 (.ret e) (.Return (some a) pos) :=
  PS.imp (ps_ret h) fun De σ H ⟨m, r, S, N, cu, w, h1, h2, h3, h4⟩ => TrE.of cu w fun d S1 v m1 H1 w1 cu1 x1 rd => h2 _ _ _ _ _ w1 cu1.rel x1 rd
theorem s_retN {pos : Pos} : SS X C m0 H0 .retN (.Return none pos) :=
  PS.imp ps_retN fun De σ H ⟨m, r, S, N, cu, w, h1, h2, h3, h4⟩ => h2 _ _ _ _ _ w cu.rel .refl .non
theorem s_pass {pos : Pos} : SS X C m0 H0 .pass (.Pass pos) := PS.imp ps_pass fun De σ H ⟨m, r, S, N, cu, w, h1, h2, h3, h4⟩ => h1 _ _ _ _ _ w cu .refl
theorem s_brk {pos : Pos} : SS X C m0 H0 .brk (.Break pos) := PS.imp ps_break fun De σ H ⟨m, r, S, N, cu, w, h1, h2, h3, h4⟩ => h3 _ _ _ _ _ w cu .refl
theorem s_cont {pos : Pos} : SS X C m0 H0 .cont (.Continue pos) := PS.imp ps_continue fun De σ H ⟨m, r, S, N, cu, w, h1, h2, h3, h4⟩ => h4 _ _ _ _ _ w cu .refl
theorem s_ifs {t : E} {a b : Bs} {p : Expr} {q r : List Stmt} {pos : Pos} (ht : STt X C m0 H0 t p) (ha : SB X C m0 H0 a q) (hb : SB X C m0 H0 b r) : SS X C m0 H0 (.ifs t a b) (.If p q r pos) := by
  refine PS.imp (ps_if ht ha hb) fun De σ H ⟨m, r, S, N, cu, w, h1, h2, h3, h4⟩ => TrT.of cu w fun d S1 m1 H1 w1 cu1 x1 => ?_
  cases d with
  | true => exact iteT (TrS.on cu1 x1 w1 h1 h2 h3 h4)
  | false => exact iteF (TrS.on cu1 x1 w1 h1 h2 h3 h4)
theorem s_whl {t : E} {b : Bs} {p : Expr} {q : List Stmt} {pos : Pos} (G : Good X c C k m0 H0) (ht : STt X C m0 H0 t p) (hb : SB X C m0 H0 b q) : SS X C m0 H0 (.whl t b) (.While p q [] pos) := by
  refine PS.imp (ps_while G.own ht hb) fun De σ H ⟨m, r, S, N, cu, w, h1, h2, h3, h4⟩ => ?_
  obtain ⟨W, ⟨n0, w0⟩, turn⟩ := w
  refine ⟨fun n σ' H' => ∃ m' r' S', Cur X.K m0 H0 m' r' S' σ' H' ∧ Ext m H m' H' ∧ W n r' S', ⟨n0, m, r, S, cu, .refl, w0⟩, ?_⟩
  rintro n σ1 H1 ⟨m1, r1, S1, cu1, x1, w1⟩
  refine TrT.of cu1 (turn n r1 S1 w1) fun d S2 m2 H2 w2 cu2 x2 => ?_
  cases d with
  | false => exact iteF (h1 _ _ _ _ _ w2 cu2 (x1.trans x2))
  | true =>
    refine iteT ⟨fun σ' H' => ∃ n', n' < n ∧ ∃ m' r' S', Cur X.K m0 H0 m' r' S' σ' H' ∧ Ext m H m' H' ∧ W n' r' S', fun σ' H' ⟨n', hn, z⟩ => ⟨n', hn, z⟩, ?_⟩
    refine TrS.on (m := m) (H := H) cu2 (x1.trans x2) w2 ?_ h2 ?_ ?_
    · rintro r' S' σ' m' H' ⟨n', hn, z⟩ cu' x'
      exact ⟨n', hn, m', r', S', cu', x', z⟩
    · exact fun r' S' σ' m' H' z cu' x' => h1 r' S' σ' m' H' z cu' x'
    · rintro r' S' σ' m' H' ⟨n', hn, z⟩ cu' x'
      exact ⟨n', hn, m', r', S', cu', x', z⟩
theorem s_fors {g : G} {it : It} {b : Bs} {p q : Expr} {l : List Stmt} {pos : Pos} (G : Good X c C k m0 H0) (hset : ∀ l n o, q ≠ .Set l n o) (hg : SG X C m0 H0 g p) (hi : SI X C m0 H0 it p q) (hb : SB X C m0 H0 b l) : SS X C m0 H0 (.fors g it b) (.For p q l [] pos) := by
  refine PS.imp (ps_for G.own G.calm hi hg hb (fold_of hset)) fun De σ H ⟨m, r, S, N, cu, w, h1, h2, h3, h4⟩ => ?_
  refine ⟨m, r, S, _, cu, w, fun src S1 m1 H1 J w1 rel1 x1 wk => ?_⟩
  refine ⟨fun i n σ' H' => ∃ m' r' S', Cur X.K m0 H0 m' r' S' σ' H' ∧ Ext m1 H1 m' H' ∧ forLoop src.stay (wpG C g) (wpB C b) N (src.its.drop i) r' S' ∧ n = src.its.length - i ∧ i ≤ src.its.length,
    ⟨src.its.length, m1, r, S1, cu.move rel1 x1, .refl, (by rw [List.drop_zero]; exact w1), by simp, Nat.zero_le _⟩, ?_⟩
  rintro i n σ2 H2 ⟨m2, r2, S2, cu2, x2, w2, rfl, hi⟩
  by_cases hlt : i < src.its.length
  · rw [List.drop_eq_getElem_cons hlt] at w2
    obtain ⟨st, w2⟩ := w2
    refine .inr ⟨wk.go i m2 S2 H2 cu2.rel x2.w st hlt, fun σ' H' => ∃ m' r' S', Cur X.K m0 H0 m' r' S' σ' H' ∧ Ext m1 H1 m' H' ∧ forLoop src.stay (wpG C g) (wpB C b) N (src.its.drop (i + 1)) r' S',
      fun σ' H' ⟨m', r', S', a, b', d⟩ => ⟨src.its.length - (i + 1), by omega, m', r', S', a, b', d, rfl, hlt⟩, fun x H3 y => ?_⟩
    obtain ⟨d, ed, rel3, x3, rd⟩ := wk.yld i m2 S2 H2 x H3 cu2.rel x2.w st y hlt
    rw [List.getElem?_eq_getElem hlt] at ed
    cases ed
    refine ⟨m2, r2, S2, _, _, cu2.move rel3 x3, rd, w2, fun r4 S4 σ4 m4 H4 w4 cu4 x4 sm => ?_⟩
    have x14 := (x2.trans x3).trans x4
    refine TrS.on (m := m1) (H := H1) cu4 x14 w4 ?_ ?_ ?_ ?_
    · exact fun r' S' σ' m' H' z cu' x' => ⟨m', r', S', cu', x', z⟩
    · exact fun d S' v m' H' z rel' x' rd' => h2 d S' v m' H' z rel' (x1.trans x') rd'
    · exact fun r' S' σ' m' H' z cu' x' => h1 r' S' σ' m' H' z cu' (x1.trans x')
    · exact fun r' S' σ' m' H' z cu' x' => ⟨m', r', S', cu', x', z⟩
  · have hi2 : i = src.its.length := by omega
    subst hi2
    rw [List.drop_length] at w2
    obtain ⟨st, w2⟩ := w2
    exact .inl ⟨wk.stop _ m2 S2 H2 cu2.rel x2.w st (Nat.le_refl _), h1 _ _ _ _ _ w2 cu2 (x1.trans x2)⟩
theorem asg_r {g : G} {e : E} {De : Ends} {σ : L2.St} {H : Hp} (h : TrS X.K m0 H0 (wpS C (.asg g e)) De σ H) : tAsg (TrE X.K m0 H0 (wpE C e)) (TrG X.K m0 H0 (slotsG g) (wpG C g)) De σ H := by
  obtain ⟨m, r, S, N, cu, w, h1, h2, h3, h4⟩ := h
  exact TrE.of cu w fun d S1 v m1 H1 w1 cu1 x1 rd => ⟨m1, r, S1, d, N.nx, cu1, rd, w1, fun r' S' σ' m' H' z cu' x' _ => h1 r' S' σ' m' H' z cu' (x1.trans x')⟩
theorem s_asg {g : G} {e : E} {p q : Expr} {pos : Pos} (hn : notComp q = true) (ht : (notTup p || notTup q) = true) (hst : ∀ v o, p ≠ .Starred v o) (hg : SG X C m0 H0 g p) (he : SE X C m0 H0 e q) : SS X C m0 H0 (.asg g e) (.Assign [p] q pos) := by
  refine PS.imp (ps_asg he hg (swaps_no hn _ _ _) ?_ (by rw [(assignEach_of hst).1]; rfl)) fun De σ H h => asg_r h
  cases p <;> first
    | rfl
    | (cases q <;> first
        | rfl
        | (simp [notTup] at ht))
theorem s_asgLc2 {i : Nat} {elt : E} {g g1 : G} {it it1 : It} {cs cs1 : Es} {own vs1 : List Nat} {y : Str} {py : Pos} {e tg iter tg1 iter1 : Expr} {ifs ifs1 : List Expr} {scope : Scope} {pos spos : Pos} (G : Good X c C k m0 H0) (hl : c.loc i y = true) (hk : c.kind y = some .local)
    (hline : (py.line == pos.line) = true) (hany : (scope.names.any fun (n, k) => n == y && (k == .local || k == .cell)) = false) (h1 : blkC c.N c.sc scope (ownOf c.N own) = true) (ho : (ownOf c.N own).map (·.2) = own)
    (hown : ∀ i ∈ slotsG g, i ∈ own) (hown1 : ∀ i ∈ slotsG g1, i ∈ vs1) (hvs : ∀ i ∈ vs1, i ∈ own) (hset : ∀ l n p, iter ≠ .Set l n p) (hset1 : ∀ l n p, iter1 ≠ .Set l n p) (hI : SI X C m0 H0 it tg iter) (hG : ∀ (s : Shared) (H : Hp) (a : Addr) (cl : List (Str × Addr)) (fp : List Addr), PG (X.blk s H scope (compEnvC scope cl a X.env) fp) tg (TrG X.K m0 H0 (slotsG g) (wpG C g)))
    (hT : ∀ (s : Shared) (H : Hp) (a : Addr) (cl : List (Str × Addr)) (fp : List Addr), PTs (X.blk s H scope (compEnvC scope cl a X.env) fp) ifs (TrT X.K m0 H0 (wpTs C cs)))
    (hI1 : ∀ (s : Shared) (H : Hp) (a : Addr) (cl : List (Str × Addr)) (fp : List Addr), PI (X.blk s H scope (compEnvC scope cl a X.env) fp) tg1 iter1 (TrI X.K m0 H0 (wpI C it1)))
    (hG1 : ∀ (s : Shared) (H : Hp) (a : Addr) (cl : List (Str × Addr)) (fp : List Addr), PG (X.blk s H scope (compEnvC scope cl a X.env) fp) tg1 (TrG X.K m0 H0 (slotsG g1) (wpG C g1)))
    (hT1 : ∀ (s : Shared) (H : Hp) (a : Addr) (cl : List (Str × Addr)) (fp : List Addr), PTs (X.blk s H scope (compEnvC scope cl a X.env) fp) ifs1 (TrT X.K m0 H0 (wpTs C cs1)))
    (hE : ∀ (s : Shared) (H : Hp) (a : Addr) (cl : List (Str × Addr)) (fp : List Addr), PE (X.blk s H scope (compEnvC scope cl a X.env) fp) e (TrE X.K m0 H0 (wpE C elt))) : SS X C m0 H0 (.asg (.name i) (.lc2 elt g it cs g1 it1 cs1 own vs1)) (.Assign [.Name y py] (.ListComp e [⟨tg, iter, ifs, 0⟩, ⟨tg1, iter1, ifs1, 0⟩] scope pos) spos) := by
  have hb : BlkOk X.N X.env.scope scope (ownOf c.N own) := by
    rw [G.N, G.sc]
    exact blkOk_by h1
  obtain ⟨n1, n2, n3⟩ := c.loc_ok G.N G.sc G.fn hl
  have hyl : X.env.scope.names.lookup y = some .local := by rw [G.sc]; exact hk
  refine ⟨fun pins s σ H D I h => ?_⟩
  have hsw := sw_true (elt := e) (gs := [⟨tg, iter, ifs, 0⟩, ⟨tg1, iter1, ifs1, 0⟩]) (py := py) (l := spos.line) (env := X.env) (pos := pos) I.ok.kind hyl hline hany
  refine (ps_setLc2 (own := ownOf c.N own) (vs1 := vs1) G.calm (by rw [G.N]; exact G.nd) n1 hyl hsw hI hb (by rw [ho]; exact hvs) hG hT hI1 hG1 hT1 hE (fold_of hset) (fold_any hset1)).run pins s σ H D I ?_
  rw [ho]
  obtain ⟨m, r, S, N, cu, w, h1, h2, h3, h4⟩ := h
  refine lc2_r hown hown1 hvs (TrE.of cu w fun d S1 v m1 H1 w1 cu1 x1 rd => ?_)
  exact h1 _ _ _ _ _ w1 (cu1.set rd i) x1
theorem s_asgLc {i : Nat} {elt : E} {g : G} {it : It} {cs : Es} {own : List Nat} {y : Str} {py : Pos} {e tg iter : Expr} {ifs : List Expr} {scope : Scope} {pos spos : Pos} (G : Good X c C k m0 H0) (hl : c.loc i y = true) (hk : c.kind y = some .local)
    (hline : (py.line == pos.line) = true) (hany : (scope.names.any fun (n, k) => n == y && (k == .local || k == .cell)) = false) (h1 : blkC c.N c.sc scope (ownOf c.N own) = true) (ho : (ownOf c.N own).map (·.2) = own)
    (hown : ∀ i ∈ slotsG g, i ∈ own) (hset : ∀ l n p, iter ≠ .Set l n p) (hI : SI X C m0 H0 it tg iter) (hG : ∀ (s : Shared) (H : Hp) (a : Addr) (cl : List (Str × Addr)) (fp : List Addr), PG (X.blk s H scope (compEnvC scope cl a X.env) fp) tg (TrG X.K m0 H0 (slotsG g) (wpG C g)))
    (hT : ∀ (s : Shared) (H : Hp) (a : Addr) (cl : List (Str × Addr)) (fp : List Addr), PTs (X.blk s H scope (compEnvC scope cl a X.env) fp) ifs (TrT X.K m0 H0 (wpTs C cs)))
    (hE : ∀ (s : Shared) (H : Hp) (a : Addr) (cl : List (Str × Addr)) (fp : List Addr), PE (X.blk s H scope (compEnvC scope cl a X.env) fp) e (TrE X.K m0 H0 (wpE C elt))) : SS X C m0 H0 (.asg (.name i) (.lc elt g it cs own)) (.Assign [.Name y py] (.ListComp e [⟨tg, iter, ifs, 0⟩] scope pos) spos) := by
  have hb : BlkOk X.N X.env.scope scope (ownOf c.N own) := by
    rw [G.N, G.sc]
    exact blkOk_by h1
  obtain ⟨n1, n2, n3⟩ := c.loc_ok G.N G.sc G.fn hl
  have hyl : X.env.scope.names.lookup y = some .local := by rw [G.sc]; exact hk
  have hkf : X.env.scope.kind = .function ∨ True := .inr trivial
  refine ⟨fun pins s σ H D I h => ?_⟩
  have hsw := sw_true (elt := e) (gs := [⟨tg, iter, ifs, 0⟩]) (py := py) (l := spos.line) (env := X.env) (pos := pos) I.ok.kind hyl hline hany
  refine (ps_setLc (own := ownOf c.N own) G.calm (by rw [G.N]; exact G.nd) n1 hyl hsw hI hb hG hT hE (fold_of hset)).run pins s σ H D I ?_
  rw [ho]
  obtain ⟨m, r, S, N, cu, w, h1, h2, h3, h4⟩ := h
  refine lc_r hown (TrE.of cu w fun d S1 v m1 H1 w1 cu1 x1 rd => ?_)
  exact h1 _ _ _ _ _ w1 (cu1.set rd i) x1
/-! augmented -/
def rAug (op : Bop) : R2 := rI (arithOk op) fun i j => .int (arith op i j)
theorem op_aug : ∀ op : Bop, op ≠ .pow → OpR X (inplaceOp (opOf op)) (rAug op)
  | .add, _ => opI fun _ _ _ _ _ _ _ _ q => iadd_int q
  | .sub, _ => opI fun _ _ _ _ _ _ _ _ q => isub_int q
  | .mul, _ => opI fun _ _ _ _ _ _ _ hc q => imul_int q hc
  | .fdiv, _ => opI fun _ _ _ _ _ _ _ hc q => ifloordiv_int hc.1 q (.inl (noPy hc.2))
  | .mod, _ => opI fun _ _ _ _ _ _ _ hc q => imod_int hc q
  | .pow, h => absurd rfl h
theorem aug_r {K : FR} {m : List Addr} {H : Hp} {S : Store} {Qd : DK} {Q : VK} {x y : D} {xv yv : V} (op : Bop) (r : Rel K m S H) (rx : RD K m H x xv) (ry : RD K m H y yv) (h : wpAug op x y S Qd) (q : Imp K m H Qd Q) : rAug op xv yv H Q := by
  obtain ⟨i, j, rfl, rfl, h1, h2⟩ := h
  cases rx
  cases ry
  exact ⟨i, j, rfl, rfl, h1, q.here r h2 (.int _)⟩
theorem s_aug {i : Nat} {op : Bop} {e : E} {x : Str} {o : Operator} {p : Expr} {p2 pos : Pos} (G : Good X c C k m0 H0) (hl : c.loc i x = true) (ho : opIs o op = true) (hp : op ≠ .pow) (he : SE X C m0 H0 e p) : SS X C m0 H0 (.aug i op e) (.AugAssign (.Name x p2) o p pos) := by
  obtain ⟨n1, n2, n3⟩ := c.loc_ok G.N G.sc G.fn hl
  rw [opIs_eq ho]
  refine PS.imp (ps_aug (by rw [G.N]; exact G.nd) n1 n2 he (op_aug op hp) n3) fun De σ H ⟨m, r, S, N, cu, w, h1, h2, h3, h4⟩ => ?_
  obtain ⟨d, ed, w⟩ := w
  obtain ⟨v, e1, rd⟩ := cu.loc i d ed
  refine ⟨v, e1, TrE.of cu w fun y S1 yv m1 H1 w1 cu1 x1 ry => aug_r op cu1.rel (rd.mono x1 cu.rel) ry w1 fun z S2 zv m2 H2 w2 rel2 x2 rz => ?_⟩
  exact h1 _ _ _ _ _ w2 ((cu1.move rel2 x2).set rz i) (x1.trans x2)
def rGetL (K : FR) : V → V → Hp → VK → Prop := fun x y H Q => ∃ p xs i v, x = .ref p ∧ y = .int i ∧ SqL K H p xs ∧ 0 ≤ i ∧ atI xs i = some v ∧ Q v H
theorem get_list : PGet X (rGetL X.K) := fun pins s σ H o i ov iv Q I r1 r2 h => by
  obtain ⟨p, xs, i, z, rfl, rfl, hq, h0, he, q⟩ := h
  cases r1
  obtain ⟨t, rfl⟩ := r2
  obtain ⟨its, r, pl, hz⟩ := I.list hq
  obtain ⟨j, h1, h2, h3, h4, h5⟩ := atI_get he
  obtain ⟨u, ew, rz⟩ := r.get h2
  have hj : i.toNat = j := by
    rw [seqIndex_of h0 h5] at h1
    exact Option.some.inj h1
  have hn := line63
  exact wpAny_getItem_list pl.isList h0 (by omega) (by rw [hj]; simpa using ew) ⟨z, H, I, rz, q⟩
theorem s_augS {o i e : E} {op : Bop} {p q r : Expr} {f : Operator} {p2 pos : Pos} (hn : notSlice q = true) (ho : opIs f op = true) (hp : op ≠ .pow) (h1 : SE X C m0 H0 o p) (h2 : SE X C m0 H0 i q) (h3 : SE X C m0 H0 e r) : SS X C m0 H0 (.augS o i op e) (.AugAssign (.Subscript p q p2) f r pos) := by
  rw [opIs_eq ho]
  refine PS.imp (ps_augS h1 h2 get_list h3 (op_aug op hp) set_list ?_) fun De σ H ⟨m, r, S, N, cu, w, q1, q2, q3, q4⟩ => TrE.of cu w fun x S1 xv m1 H1 w1 cu1 x1 rx => TrE.of cu1 w1 fun y S2 yv m2 H2 w2 cu2 x2 ry => ?_
  · intro ov iv new
    cases q <;> first
      | rfl
      | (simp [notSlice] at hn)
  · obtain ⟨n, rfl, k, rfl, l, e1, k0, d, e2, w2⟩ := w2
    cases ry
    cases rx.mono x2 cu1.rel with
    | ref hm =>
      obtain ⟨vs, hv, rs⟩ := cu2.rel.lst e1 hm
      obtain ⟨v, ev, rv⟩ := rs.atI e2
      refine ⟨_, vs, k, v, rfl, rfl, .inl (.inl hv), k0, ev, TrE.of cu2 w2 fun z S3 zv m3 H3 w3 cu3 x3 rz => aug_r op cu3.rel (rv.mono x3 cu2.rel) rz w3 fun u S4 uv m4 H4 w4 rel4 x4 ru => ?_⟩
      obtain ⟨l', f1, j, f2, w4⟩ := w4
      have hm4 := x4.get (x3.get hm)
      obtain ⟨ws, hw, rs4⟩ := rel4.lst f1 hm4
      have x5 : Ext m4 H4 m4 (upd H4 _ (.lst (ws.set j uv))) := .upd (List.mem_of_getElem? hm4)
      refine ⟨_, ws, k, j, rfl, rfl, hw, by rw [← rs4.length]; exact f2, ?_⟩
      exact q1 _ _ _ _ _ w4 ((cu3.move rel4 x4).move (rel4.upd hm4 (RDs.set ru j rs4)) x5) ((((x1.trans x2).trans x3).trans x4).trans x5)
theorem notPow_ok {op : Bop} (h : notPow op = true) : op ≠ .pow := by
  intro z
  subst z
  cases h
theorem asg_any1 (g : G) (e : E) {p q : Expr} {pos : Pos} (G : Good X c C k m0 H0) (h1 : mG g c p = true) (h2 : mE e c q = true) (h3 : asgOk1 c p q = true) (hg : SG X C m0 H0 g p) (he : SE X C m0 H0 e q) : SS X C m0 H0 (.asg g e) (.Assign [p] q pos) := by
  by_cases hn : (notComp q && (notTup p || notTup q)) = true
  · obtain ⟨n1, n2⟩ := and2 hn
    exact s_asg n1 n2 (mG_star g h1) hg he
  · unfold asgOk1 at h3
    rw [show (notComp q && (notTup p || notTup q)) = false by simpa using hn, Bool.false_or] at h3
    cases p <;> first
      | (cases h3; done)
      | skip
    cases q <;> first
      | (cases h3; done)
      | skip
    rename_i y py ex gens scope lpos
    obtain ⟨a1, a2⟩ := and2 h3
    obtain ⟨a2, a3⟩ := and2 a2
    cases g <;> first
      | (cases h1; done)
      | skip
    rename_i i
    cases e <;> first
      | exact ⟨fun _ _ _ _ _ _ ⟨_, _, _, _, _, w, _⟩ => False.elim w⟩
      | (cases h2; done)
      | (exact Bool.noConfusion (and2 h2).2)
      | (exact Bool.noConfusion (and2 (and2 h2).2).2)
      | skip
    case lc2 elt g it cs g1 it1 cs1 own vs1 =>
      match gens, h2 with
      | [⟨tg, iter, ifs, 0⟩, ⟨tg1, iter1, ifs1, 0⟩], h =>
        obtain ⟨b1, k1⟩ := and2 h
        obtain ⟨b2, k2⟩ := and2 k1
        obtain ⟨b3, k3⟩ := and2 k2
        obtain ⟨b3a, b3b⟩ := and2 b3
        obtain ⟨b3b, b3c⟩ := and2 b3b
        obtain ⟨b4, k4⟩ := and2 k3
        obtain ⟨k5, b7⟩ := and2 k4
        obtain ⟨b5, k6⟩ := and2 k5
        obtain ⟨b6, k7⟩ := and2 k6
        obtain ⟨b8, k8⟩ := and2 k7
        obtain ⟨b9, b10⟩ := and2 k8
        exact s_asgLc2 G h1 (of_decide_eq_true a1) a2 (by simpa using a3) b1 (of_decide_eq_true b2) (of_decide_eq_true b3a) (of_decide_eq_true b3b) (of_decide_eq_true b3c) (mI_set (and2 b4).2) (mI_set (and2 b8).2) (snd_I it G (and2 b4).2 (and2 b4).1) (fun s H a cl fp => snd_G g G.blk b5) (fun s H a cl fp => snd_Ts cs G.blk b6)
          (fun s H a cl fp => snd_I it1 G.blk (and2 b8).2 (and2 b8).1) (fun s H a cl fp => snd_G g1 G.blk b9) (fun s H a cl fp => snd_Ts cs1 G.blk b10) (fun s H a cl fp => (snd_E elt G.blk b7).1)
    rename_i elt g it cs own
    match gens, h2 with
    | [⟨tg, iter, ifs, 0⟩], h =>
      obtain ⟨b1, g1⟩ := and2 h
      obtain ⟨b2, g2⟩ := and2 g1
      obtain ⟨b3, g3⟩ := and2 g2
      obtain ⟨b4, g4⟩ := and2 g3
      obtain ⟨b5, g5⟩ := and2 g4
      obtain ⟨b6, b7⟩ := and2 g5
      exact s_asgLc G h1 (of_decide_eq_true a1) a2 (by simpa using a3) b1 (of_decide_eq_true b2) (of_decide_eq_true b3) (mI_set (and2 b4).2) (snd_I it G (and2 b4).2 (and2 b4).1) (fun s H a cl fp => snd_G g G.blk b5) (fun s H a cl fp => snd_Ts cs G.blk b6) (fun s H a cl fp => (snd_E elt G.blk b7).1)
theorem not_f {b : Bool} (h : (!b) = true) : b = false := by
  cases b
  · rfl
  · cases h
theorem star_eq (vs : List Expr) : (vs.any fun x => match x with
    | .Starred .. => true
    | _ => false) = vs.any isStarE := by
  congr 1
theorem sw_par2 {x y : Str} {px py pt pt2 : Pos} {kt k2 : Nat} {a b : Expr} {env : Env} (hk : env.scope.kind = .function) (hx : env.scope.names.lookup x = some .local) (hy : env.scope.names.lookup y = some .local)
    (hl : (py.line == px.line) = true) (hne : (y == x) = false) (hv : parVals [a, b] = true) : swappedStores [.Tuple [.Name x px, .Name y py] kt pt] (.Tuple [a, b] k2 pt2) env = pure (some [x, y]) := by
  have kx : env.kindOf x = some .local := hx
  have ky : env.kindOf y = some .local := hy
  have hb : env.blockKind = .function := by unfold Env.blockKind; rw [hk]; rfl
  obtain ⟨v1, v23⟩ := and2 hv
  obtain ⟨v2, v3⟩ := and2 v23
  have v1 := not_f v1
  have v2 := not_f v2
  have v3 := not_f v3
  have n : ([x, y].eraseDups).length = 2 := by
    simp [List.eraseDups_cons, hne]
  have nm : ([Expr.Name x px, Expr.Name y py].filterMap fun t => match t with
      | .Name id pos => if (env.kindOf id == some .local && pos.line == px.line) = true then some id else none
      | _ => none) = [x, y] := by
    simp only [List.filterMap_cons, List.filterMap_nil, kx, ky, hl, BEq.rfl, Bool.and_self, if_true]
  unfold swappedStores
  show (if (!(2 == 2 || 2 == 3) || 2 != 2 || env.blockKind != .function) = true then pure none else _) = _
  rw [hb, if_neg (by decide)]
  show (if ([a, b].any fun x => match x with
    | .Starred .. => true
    | _ => false) = true then pure none else _) = _
  rw [star_eq, v1, if_neg (by decide)]
  show (let names := ([Expr.Name x px, Expr.Name y py].filterMap fun t => match t with
      | .Name id pos => if (env.kindOf id == some .local && pos.line == px.line) = true then some id else none
      | _ => none); if (names.length != 2 || names.eraseDups.length != names.length) = true then pure none else _) = _
  rw [nm]
  show (if (2 != 2 || [x, y].eraseDups.length != 2) = true then (pure none : Sem (Option (List Str))) else if [a, b].all (foldedForSure 8) = true then (pure none : Sem (Option (List Str))) else if [a, b].all (constantsAlone 8) = true then _ else _) = _
  rw [n, if_neg (by decide), v2, if_neg (by decide), v3, if_neg (by decide)]
  exact congrArg (fun z => (pure (some z) : Sem (Option (List Str)))) nm
theorem sw_par3 {x y z : Str} {px py pz pt pt2 : Pos} {kt k2 : Nat} {a b d : Expr} {env : Env} (hk : env.scope.kind = .function) (hx : env.scope.names.lookup x = some .local) (hy : env.scope.names.lookup y = some .local) (hz : env.scope.names.lookup z = some .local)
    (hl : (py.line == px.line) = true) (hl2 : (pz.line == px.line) = true) (hne : (y == x) = false) (hne2 : (z == x) = false) (hne3 : (z == y) = false) (hv : parVals [a, b, d] = true) : swappedStores [.Tuple [.Name x px, .Name y py, .Name z pz] kt pt] (.Tuple [a, b, d] k2 pt2) env = pure (some [x, y, z]) := by
  have kx : env.kindOf x = some .local := hx
  have ky : env.kindOf y = some .local := hy
  have kz : env.kindOf z = some .local := hz
  have hb : env.blockKind = .function := by unfold Env.blockKind; rw [hk]; rfl
  obtain ⟨v1, v23⟩ := and2 hv
  obtain ⟨v2, v3⟩ := and2 v23
  have v1 := not_f v1
  have v2 := not_f v2
  have v3 := not_f v3
  have n : ([x, y, z].eraseDups).length = 3 := by
    simp [List.eraseDups_cons, hne, hne2, hne3]
  have nm : ([Expr.Name x px, Expr.Name y py, Expr.Name z pz].filterMap fun t => match t with
      | .Name id pos => if (env.kindOf id == some .local && pos.line == px.line) = true then some id else none
      | _ => none) = [x, y, z] := by
    simp only [List.filterMap_cons, List.filterMap_nil, kx, ky, kz, hl, hl2, BEq.rfl, Bool.and_self, if_true]
  unfold swappedStores
  show (if (!(3 == 2 || 3 == 3) || 3 != 3 || env.blockKind != .function) = true then pure none else _) = _
  rw [hb, if_neg (by decide)]
  show (if ([a, b, d].any fun x => match x with
    | .Starred .. => true
    | _ => false) = true then pure none else _) = _
  rw [star_eq, v1, if_neg (by decide)]
  show (let names := ([Expr.Name x px, Expr.Name y py, Expr.Name z pz].filterMap fun t => match t with
      | .Name id pos => if (env.kindOf id == some .local && pos.line == px.line) = true then some id else none
      | _ => none); if (names.length != 3 || names.eraseDups.length != names.length) = true then pure none else _) = _
  rw [nm]
  show (if (3 != 3 || [x, y, z].eraseDups.length != 3) = true then (pure none : Sem (Option (List Str))) else if [a, b, d].all (foldedForSure 8) = true then (pure none : Sem (Option (List Str))) else if [a, b, d].all (constantsAlone 8) = true then _ else _) = _
  rw [n, if_neg (by decide), v2, if_neg (by decide), v3, if_neg (by decide)]
  exact congrArg (fun u => (pure (some u) : Sem (Option (List Str)))) nm
theorem loc_ne {c : Cxt} {i j : Nat} {x y : Str} (hi : c.N[i]? = some x) (hj : c.N[j]? = some y) (h : (y == x) = false) : i ≠ j := by
  intro e
  subst e
  rw [hi] at hj
  cases hj
  simp at h
theorem gn_name {g : G} {c : Cxt} {x : Str} {p : Pos} (h : mG g c (.Name x p) = true) : ∃ i, g = .name i ∧ c.loc i x = true := by
  cases g with
  | name i => exact ⟨i, rfl, h⟩
  | tup gs => cases h
  | sub o i => cases h
  | subD o i => cases h
theorem gn_cons {gs : Gs} {c : Cxt} {p : Expr} {ps : List Expr} (h : mGs gs c (p :: ps) = true) : ∃ g r, gs = .cons g r ∧ mG g c p = true ∧ mGs r c ps = true := by
  cases gs with
  | nil => cases h
  | cons g r =>
    obtain ⟨h1, h2⟩ := and2 (show (mG g c p && mGs r c ps) = true from h)
    exact ⟨g, r, rfl, h1, h2⟩
theorem gn_nil {gs : Gs} {c : Cxt} (h : mGs gs c [] = true) : gs = .nil := by
  cases gs with
  | nil => rfl
  | cons g r => cases h
theorem asg_par (g : G) (e : E) {p q : Expr} {pos : Pos} (G : Good X c C k m0 H0) (h1 : mG g c p = true) (h2 : mE e c q = true) (h3 : asgPar c p q = true) : SS X C m0 H0 (.asg g e) (.Assign [p] q pos) := by
  unfold asgPar at h3
  split at h3
  · rename_i ts kt pt vs k2 pt2
    cases g <;> first
      | (cases h1; done)
      | skip
    rename_i gs
    cases e <;> first
      | exact ⟨fun _ _ _ _ _ _ ⟨_, _, _, _, _, w, _⟩ => False.elim w⟩
      | (cases h2; done)
      | (exact Bool.noConfusion (and2 h2).2)
      | (exact Bool.noConfusion (and2 (and2 h2).2).2)
      | skip
    rename_i es
    have h1' : mGs gs c ts = true := h1
    have h2' := (and2 (show (_ && mEs es c vs) = true from h2)).2
    have sa := snd_Es (m0 := m0) (H0 := H0) es G h2'
    unfold parOk at h3
    split at h3
    · rename_i x px y py a b
      obtain ⟨a1, h3⟩ := and2 h3
      obtain ⟨a2, h3⟩ := and2 h3
      obtain ⟨a3, h3⟩ := and2 h3
      obtain ⟨a4, a5⟩ := and2 h3
      have a4 := not_f a4
      obtain ⟨g1, r1, rfl, c1, h1'⟩ := gn_cons h1'
      obtain ⟨g2, r2, rfl, c2, h1'⟩ := gn_cons h1'
      obtain rfl := gn_nil h1'
      obtain ⟨i, rfl, b1⟩ := gn_name c1
      obtain ⟨j, rfl, b2⟩ := gn_name c2
      · skip
        obtain ⟨n1, -, -⟩ := c.loc_ok G.N G.sc G.fn b1
        obtain ⟨n2, -, -⟩ := c.loc_ok G.N G.sc G.fn b2
        have kx : X.env.scope.names.lookup x = some .local := by rw [G.sc]; exact of_decide_eq_true a1
        have ky : X.env.scope.names.lookup y = some .local := by rw [G.sc]; exact of_decide_eq_true a2
        have hij : i ≠ j := loc_ne (c := c) (by rw [← G.N]; exact n1) (by rw [← G.N]; exact n2) a4
        refine ⟨fun pins s σ H D I h => (ps_par G.calm (by rw [G.N]; exact G.nd) n1 n2 hij kx ky sa (sw_par2 I.ok.kind kx ky a3 a4 a5)).run pins s σ H D I ?_⟩
        obtain ⟨m, r, S, N, cu, w, q1, q2, q3, q4⟩ := h
        refine TrA.of cu w fun ds S1 vs m1 H1 w1 cu1 x1 rs hl => ?_
        obtain ⟨ds', e1, -, d1, dr, e2, d2, dr2, e3, e4, w2⟩ := w1
        cases e1
        subst e2 e3 e4
        cases rs with
        | cons r1 rs =>
          cases rs with
          | cons r2 rs =>
            cases rs
            exact ⟨_, _, rfl, q1 _ _ _ _ _ w2 ((cu1.set r1 i).set r2 j) x1⟩
    · rename_i x px y py z pz a b d
      obtain ⟨a1, h3⟩ := and2 h3
      obtain ⟨a2, h3⟩ := and2 h3
      obtain ⟨a3, h3⟩ := and2 h3
      obtain ⟨l1, h3⟩ := and2 h3
      obtain ⟨l2, h3⟩ := and2 h3
      obtain ⟨f1, h3⟩ := and2 h3
      obtain ⟨f2, h3⟩ := and2 h3
      obtain ⟨f3, a5⟩ := and2 h3
      have f1 := not_f f1
      have f2 := not_f f2
      have f3 := not_f f3
      obtain ⟨g1, r1, rfl, c1, h1'⟩ := gn_cons h1'
      obtain ⟨g2, r2, rfl, c2, h1'⟩ := gn_cons h1'
      obtain ⟨g3, r3, rfl, c3, h1'⟩ := gn_cons h1'
      obtain rfl := gn_nil h1'
      obtain ⟨i, rfl, b1⟩ := gn_name c1
      obtain ⟨j, rfl, b2⟩ := gn_name c2
      obtain ⟨l, rfl, b3⟩ := gn_name c3
      · skip
        obtain ⟨n1, -, -⟩ := c.loc_ok G.N G.sc G.fn b1
        obtain ⟨n2, -, -⟩ := c.loc_ok G.N G.sc G.fn b2
        obtain ⟨n3, -, -⟩ := c.loc_ok G.N G.sc G.fn b3
        have kx : X.env.scope.names.lookup x = some .local := by rw [G.sc]; exact of_decide_eq_true a1
        have ky : X.env.scope.names.lookup y = some .local := by rw [G.sc]; exact of_decide_eq_true a2
        have kz : X.env.scope.names.lookup z = some .local := by rw [G.sc]; exact of_decide_eq_true a3
        have m1 : c.N[i]? = some x := by rw [← G.N]; exact n1
        have m2 : c.N[j]? = some y := by rw [← G.N]; exact n2
        have m3 : c.N[l]? = some z := by rw [← G.N]; exact n3
        refine ⟨fun pins s σ H D I h => (ps_par3 G.calm (by rw [G.N]; exact G.nd) n1 n2 n3 (loc_ne m1 m2 f1) (loc_ne m1 m3 f2) (loc_ne m2 m3 f3) kx ky kz sa (sw_par3 I.ok.kind kx ky kz l1 l2 f1 f2 f3 a5)).run pins s σ H D I ?_⟩
        obtain ⟨m, r, S, N, cu, w, q1, q2, q3, q4⟩ := h
        refine TrA.of cu w fun ds S1 vs m1 H1 w1 cu1 x1 rs hl => ?_
        obtain ⟨ds', e1, -, d1, dr, e2, d2, dr2, e3, d3, dr3, e4, e5, w2⟩ := w1
        cases e1
        subst e2 e3 e4 e5
        cases rs with
        | cons r1 rs =>
          cases rs with
          | cons r2 rs =>
            cases rs with
            | cons r3 rs =>
              cases rs
              exact ⟨_, _, _, rfl, q1 _ _ _ _ _ w2 (((cu1.set r1 i).set r2 j).set r3 l) x1⟩
    · cases h3
  · cases h3
theorem filt_le {α β : Type} {f g : α → Option β} (h : ∀ x, (f x).isSome = true → (g x).isSome = true) : ∀ l : List α, (l.filterMap f).length ≤ (l.filterMap g).length
  | [] => Nat.le_refl _
  | a :: l => by
    have ih := filt_le h l
    rw [List.filterMap_cons, List.filterMap_cons]
    cases hf : f a with
    | none =>
      cases g a with
      | none => exact ih
      | some z => exact Nat.le_succ_of_le ih
    | some y =>
      have hg := h a (by rw [hf]; rfl)
      cases hg' : g a with
      | none => rw [hg'] at hg; cases hg
      | some z => exact Nat.succ_le_succ ih
theorem sw_cell {ts vs : List Expr} {kt k2 : Nat} {pt pt2 : Pos} {env : Env} (h : (locNames env.kindOf ts).length < ts.length) : swappedStores [.Tuple ts kt pt] (.Tuple vs k2 pt2) env = pure none := by
  have key : ∀ line : Nat, (ts.filterMap fun t => match t with
      | .Name id pos => if (env.kindOf id == some .local && pos.line == line) = true then some id else none
      | _ => none).length < ts.length := fun line => Nat.lt_of_le_of_lt (filt_le (fun x hx => by
    cases x with
    | Name id pos =>
      by_cases z : (env.kindOf id == some .local && pos.line == line) = true
      · obtain ⟨z1, -⟩ := and2 z
        show (if (env.kindOf id == some .local) = true then some id else none).isSome = true
        rw [if_pos z1]
        rfl
      · rw [show (match Expr.Name id pos with
          | .Name id pos => if (env.kindOf id == some .local && pos.line == line) = true then some id else none
          | _ => none) = (none : Option Str) from if_neg z] at hx
        cases hx
    | _ => cases hx) ts) h
  unfold swappedStores
  dsimp only
  split
  · rfl
  · split
    · rfl
    · have k := key ((ts.head?.map (·.pos.line)).getD 0)
      rw [if_pos]
      rw [Bool.or_eq_true]
      refine .inl ?_
      rw [bne_iff_ne]
      exact Nat.ne_of_lt k
theorem sw_long {ts vs : List Expr} {kt pt k2 pt2} {env : Env} (h : 3 < ts.length) : swappedStores [.Tuple ts kt pt] (.Tuple vs k2 pt2) env = pure none := by
  unfold swappedStores
  dsimp only
  rw [if_pos]
  simp
  omega
theorem asg_cell (g : G) (e : E) {p q : Expr} {pos : Pos} (G : Good X c C k m0 H0) (h3 : asgCell c p q = true) (hg : SG X C m0 H0 g p) (he : SE X C m0 H0 e q) : SS X C m0 H0 (.asg g e) (.Assign [p] q pos) := by
  unfold asgCell at h3
  split at h3
  · rename_i ts kt pt vs k2 pt2
    rw [Bool.or_eq_true] at h3
    have hs : swappedStores [.Tuple ts kt pt] (.Tuple vs k2 pt2) X.env = pure none := by
      rcases h3 with h3 | h3
      · have hk : (locNames X.env.kindOf ts).length < ts.length := by
          have e : X.env.kindOf = c.kind := by
            funext x
            show X.env.scope.names.lookup x = _
            rw [G.sc]
            rfl
          rw [e]
          exact of_decide_eq_true h3
        exact sw_cell hk
      · exact sw_long (of_decide_eq_true h3)
    exact PS.imp (ps_asg he hg (swaps_no (e := .Tuple vs k2 pt2) rfl (some (.Tuple ts kt pt)) pos.line X.env) hs rfl) fun De σ H h => asg_r h
  · cases h3
theorem swaps_cell {e : Expr} {y : Str} {py : Pos} {l : Nat} {env : Env} (hk : env.kindOf y = some .cell) : swapsWith e (some (.Name y py)) l env = pure false := by
  cases e <;> first
    | rfl
    | (unfold swapsWith
       have z : (env.kindOf y == some NameKind.local) = false := by rw [hk]; rfl
       simp only [z, Bool.and_false, Bool.false_and]
       try rfl)
theorem swaps_sub {e a b : Expr} {pos : Pos} {l : Nat} {env : Env} : swapsWith e (some (.Subscript a b pos)) l env = pure false := by
  cases e <;> rfl
theorem asg_free (g : G) (e : E) {p q : Expr} {pos : Pos} (G : Good X c C k m0 H0) (h3 : asgFree c p = true) (hg : SG X C m0 H0 g p) (he : SE X C m0 H0 e q) : SS X C m0 H0 (.asg g e) (.Assign [p] q pos) := by
  cases p <;> first
    | (cases h3; done)
    | skip
  · rename_i a b ps
    exact PS.imp (ps_asg he hg (swaps_sub (a := a) (b := b) (pos := ps) (l := pos.line) (env := X.env)) rfl rfl) fun De σ H h => asg_r h
  · rename_i y py
    have hk : X.env.kindOf y = some .cell := by
      show X.env.scope.names.lookup y = _
      rw [G.sc]
      exact of_decide_eq_true h3
    exact PS.imp (ps_asg he hg (swaps_cell (l := pos.line) hk) rfl rfl) fun De σ H h => asg_r h
theorem asg_un (g : G) (e : E) {p q : Expr} {pos : Pos} (G : Good X c C k m0 H0) (h3 : asgUn p q = true) (hg : SG X C m0 H0 g p) (he : SE X C m0 H0 e q) : SS X C m0 H0 (.asg g e) (.Assign [p] q pos) := by
  cases p <;> first
    | (cases h3; done)
    | skip
  cases q <;> first
    | (cases h3; done)
    | skip
  exact PS.imp (ps_asg he hg (by rfl) rfl rfl) fun De σ H h => asg_r h
theorem asg_any (g : G) (e : E) {p q : Expr} {pos : Pos} (G : Good X c C k m0 H0) (h1 : mG g c p = true) (h2 : mE e c q = true) (h3 : asgOk c p q = true) (hg : SG X C m0 H0 g p) (he : SE X C m0 H0 e q) : SS X C m0 H0 (.asg g e) (.Assign [p] q pos) := by
  unfold asgOk at h3
  by_cases un : asgUn p q = true
  · exact asg_un g e G un hg he
  rw [show asgUn p q = false by simpa using un, Bool.or_false] at h3
  rw [Bool.or_assoc, Bool.or_assoc] at h3
  by_cases z : asgOk1 c p q = true
  · exact asg_any1 g e G h1 h2 z hg he
  · rw [show asgOk1 c p q = false by simpa using z, Bool.false_or] at h3
    by_cases y : asgPar c p q = true
    · exact asg_par g e G h1 h2 y
    · rw [show asgPar c p q = false by simpa using y, Bool.false_or] at h3
      by_cases u : asgCell c p q = true
      · exact asg_cell g e G u hg he
      · rw [show asgCell c p q = false by simpa using u, Bool.false_or] at h3
        exact asg_free g e G h3 hg he
/-! blocks -/
theorem b_nil : SB X C m0 H0 .nil [] := PSs.imp pss_nil fun De σ H ⟨m, r, S, N, cu, w, h1, h2, h3, h4⟩ => h1 _ _ _ _ _ w cu .refl
theorem b_cons {s : Sm} {b : Bs} {a : Stmt} {l : List Stmt} (hs : SS X C m0 H0 s a) (hb : SB X C m0 H0 b l) : SB X C m0 H0 (.cons s b) (a :: l) := by
  refine PSs.imp (pss_cons hs hb) fun De σ H ⟨m, r, S, N, cu, w, h1, h2, h3, h4⟩ => ?_
  exact ⟨m, r, S, _, cu, w, fun r' S' σ' m' H' z cu' x' => TrS.on cu' x' (Eq.mp (later_eq (wpB C b N) r' S') z) h1 h2 h3 h4, h2, h3, h4⟩
mutual
theorem snd_S : ∀ (s : Sm) {X : Cx} {C : CallH} {m0 : List Addr} {H0 : Hp} {a : Stmt}, Good X c C k m0 H0 → mS s c a = true → SS X C m0 H0 s a
  | .expr e, X, C, m0, H0, a, G, h => by
    cases a <;> first
      | (cases h; done)
      | skip
    obtain ⟨h1, h2⟩ := and2 h
    exact s_expr h1 (snd_E e G h2).1
  | .ret e, X, C, m0, H0, a, G, h => by
    cases a <;> first
      | (cases h; done)
      | skip
    rename_i v pos
    cases v with
    | none => cases h
    | some p => exact s_ret (snd_E e G h).1
  | .retN, X, C, m0, H0, a, G, h => by
    cases a <;> first
      | (cases h; done)
      | skip
    rename_i v pos
    cases v with
    | none => exact s_retN
    | some p => cases h
  | .ifs t x y, X, C, m0, H0, a, G, h => by
    cases a <;> first
      | (cases h; done)
      | skip
    obtain ⟨h1, h2⟩ := and2 h
    obtain ⟨h2, h3⟩ := and2 h2
    exact s_ifs (snd_E t G h1).2 (snd_B x G h2) (snd_B y G h3)
  | .whl t x, X, C, m0, H0, a, G, h => by
    cases a <;> first
      | (cases h; done)
      | skip
    rename_i p q els pos
    cases els with
    | nil =>
      obtain ⟨h1, h2⟩ := and2 h
      exact s_whl G (snd_E t G h1).2 (snd_B x G h2)
    | cons _ _ => cases h
  | .fors g it x, X, C, m0, H0, a, G, h => by
    cases a <;> first
      | (cases h; done)
      | skip
    rename_i p q l els pos
    cases els with
    | nil =>
      obtain ⟨h1, h2⟩ := and2 h
      obtain ⟨h2, h3⟩ := and2 h2
      exact s_fors G (mI_set (and2 h2).2) (snd_G g G h1) (snd_I it G (and2 h2).2 (and2 h2).1) (snd_B x G h3)
    | cons _ _ => cases h
  | .asg g e, X, C, m0, H0, a, G, h => by
    cases a <;> first
      | (cases h; done)
      | skip
    rename_i l q pos
    match l, h with
    | [p], h =>
      obtain ⟨h1, h2⟩ := and2 h
      obtain ⟨h2, h3⟩ := and2 h2
      exact asg_any g e G h1 h2 h3 (snd_G g G h1) (snd_E e G h2).1
  | .aug i op e, X, C, m0, H0, a, G, h => by
    cases a <;> first
      | (cases h; done)
      | skip
    rename_i t o q pos
    cases t <;> first
      | (cases h; done)
      | skip
    obtain ⟨h1, h2⟩ := and2 h
    obtain ⟨h2, h3⟩ := and2 h2
    obtain ⟨h3, h4⟩ := and2 h3
    exact s_aug G h1 h2 (notPow_ok h3) (snd_E e G h4).1
  | .augS o i op e, X, C, m0, H0, a, G, h => by
    cases a <;> first
      | (cases h; done)
      | skip
    rename_i t f q pos
    cases t <;> first
      | (cases h; done)
      | skip
    obtain ⟨h1, h2⟩ := and2 h
    obtain ⟨h2, h3⟩ := and2 h2
    obtain ⟨h3, h4⟩ := and2 h3
    obtain ⟨h4, h5⟩ := and2 h4
    obtain ⟨h5, h6⟩ := and2 h5
    exact s_augS h1 h4 (notPow_ok h5) (snd_E o G h2).1 (snd_E i G h3).1 (snd_E e G h6).1
  | .pass, X, C, m0, H0, a, G, h => by
    cases a <;> first
      | (cases h; done)
      | exact s_pass
  | .brk, X, C, m0, H0, a, G, h => by
    cases a <;> first
      | (cases h; done)
      | exact s_brk
  | .cont, X, C, m0, H0, a, G, h => by
    cases a <;> first
      | (cases h; done)
      | exact s_cont
  | .dead, X, C, m0, H0, a, G, h => ⟨fun _ _ _ _ _ _ ⟨_, _, _, _, _, w, _⟩ => False.elim w⟩
  | .raise i es, X, C, m0, H0, a, G, h => by
    have hh := and2 (show (!c.q && _) = true from h)
    have hq : c.q = false := not_f hh.1
    replace h := hh.2
    clear hh
    cases a <;> first
      | (cases h; done)
      | skip
    rename_i ex from_ pos
    cases ex <;> first
      | (cases h; done)
      | skip
    rename_i ce
    cases ce <;> first
      | (cases h; done)
      | skip
    rename_i fn l ks cpos
    cases fn <;> first
      | (cases h; done)
      | skip
    rename_i x p
    match ks, from_, h with
    | [], none, h =>
      obtain ⟨h1, g2⟩ := and2 h
      obtain ⟨g3, h3⟩ := and2 g2
      cases q : c.CT[i]? with
      | none => rw [q] at g3; cases g3
      | some ci =>
        rw [q] at g3
        obtain ⟨g4, g5⟩ := and2 g3
        obtain ⟨g5, g6⟩ := and2 g5
        obtain ⟨g6, g7⟩ := and2 g6
        obtain ⟨g7, g8⟩ := and2 g7
        have hS := snd_Es (m0 := m0) (H0 := H0) es G h3
        cases l with
        | nil =>
          cases es with
          | nil => exact absurd (of_decide_eq_true g6) (by decide)
          | cons _ _ => cases h3
        | cons e l => exact s_raise G hq h1 q (of_decide_eq_true g4) (of_decide_eq_true g5) (of_decide_eq_true g7) (of_decide_eq_true g8) (mEs_star es h3) hS
  | .delD _ _, X, C, m0, H0, a, G, h => by cases h
  | .try2 b k1 k2, X, C, m0, H0, a, G, h => by
    have hh := and2 (show (!c.q && _) = true from h)
    have hq : c.q = false := not_f hh.1
    replace h := hh.2
    clear hh
    cases ta : tryOf2 a with
    | none => rw [ta] at h; cases h
    | some t =>
      obtain ⟨body, x1, n1, e1, x2, n2, e2⟩ := t
      rw [ta] at h
      obtain ⟨p1, r1, q1, p2, r2, q2, pos, rfl⟩ := tryOf2_eq ta
      obtain ⟨h1, g2⟩ := and2 h
      obtain ⟨g3, g4⟩ := and2 g2
      obtain ⟨c1, i1, K1⟩ := hnOk_at (X := X) h1
      obtain ⟨c2, i2, K2⟩ := hnOk_at (X := X) g3
      exact s_try2 G hq K1 K2 (fun G' => snd_B b G' g4)
  | .tryR b hn, X, C, m0, H0, a, G, h => by
    have hh := and2 (show (!c.q && _) = true from h)
    have hq : c.q = false := not_f hh.1
    replace h := hh.2
    clear hh
    cases ta : tryOf a with
    | none =>
      rw [ta] at h
      cases tb : tryOfI a with
      | none => dsimp only at h; rw [tb] at h; cases h
      | some t =>
        obtain ⟨body, x, n, s0, suite⟩ := t
        dsimp only at h
        rw [tb] at h
        obtain ⟨p, q, pos, rfl⟩ := tryOfI_eq tb
        obtain ⟨h1, g2⟩ := and2 h
        obtain ⟨g3, g4⟩ := and2 g2
        cases q1 : c.CT[hn.cl]? with
        | none => rw [q1] at g3; cases g3
        | some ci =>
          cases q2 : hn.sl with
          | none => rw [q1, q2] at g3; cases g3
          | some i =>
            rw [q1, q2] at g3
            obtain ⟨a1, a2⟩ := and2 g3
            obtain ⟨a2, a3⟩ := and2 a2
            obtain ⟨a3, a4⟩ := and2 a3
            obtain ⟨a4, a5⟩ := and2 a4
            exact s_tryI G hq h1 q1 (of_decide_eq_true a1) (of_decide_eq_true a2) q2 (of_decide_eq_true a3) (of_decide_eq_true a4) a5 (fun G' => snd_B b G' g4)
    | some t =>
      obtain ⟨body, x, np, nm, e, rp, hp, pos⟩ := t
      rw [ta] at h
      obtain rfl := tryOf_eq ta
      obtain ⟨h1, g2⟩ := and2 h
      obtain ⟨g3, g4⟩ := and2 g2
      obtain ⟨g4, g5⟩ := and2 g4
      cases q : c.CT[hn.cl]? with
      | none => rw [q] at g3; cases g3
      | some ci =>
        rw [q] at g3
        obtain ⟨a1, a2⟩ := and2 g3
        refine s_tryR G hq h1 q (of_decide_eq_true a1) (of_decide_eq_true a2) ?_ (fun G' => snd_B b G' g5)
        cases e1 : hn.sl with
        | none =>
          rw [e1] at g4
          cases nm <;> cases g4
        | some i =>
          rw [e1] at g4
          cases nm with
          | none => cases g4
          | some n =>
            obtain ⟨b1, b2⟩ := and2 g4
            obtain ⟨b2, b3⟩ := and2 b2
            exact ⟨i, n, rfl, rfl, of_decide_eq_true b1, of_decide_eq_true b2, b3⟩
theorem snd_B : ∀ (b : Bs) {X : Cx} {C : CallH} {m0 : List Addr} {H0 : Hp} {l : List Stmt}, Good X c C k m0 H0 → mB b c l = true → SB X C m0 H0 b l
  | .nil, X, C, m0, H0, l, G, h => by
    cases l with
    | nil => exact b_nil
    | cons _ _ => cases h
  | .cons s r, X, C, m0, H0, l, G, h => by
    cases l with
    | nil => cases h
    | cons p ps =>
      obtain ⟨h1, h2⟩ := and2 (show (mS s c p && mB r c ps) = true from h)
      exact b_cons (snd_S s G h1) (snd_B r G h2)
end
end
end Ev
set_option Elab.async false
set_option linter.all false
set_option maxRecDepth 100000
set_option maxHeartbeats 8000000
namespace Ev
open PySem PySem.Spec PyProof.Rows L2
/-! ## defs -/
mutual
def clD (n : Nat) : D → Bool
  | .ref k => decide (k < n)
  | .tup l => clDs n l
  | .cl l => clDs n l
  | _ => true
def clDs (n : Nat) : List D → Bool
  | [] => true
  | d :: ds => clD n d && clDs n ds
end
def clO (n : Nat) : Ob → Bool
  | .lst l => clDs n l
  | .dic l => clDs n (l.map (·.2))
/-- what a def hands back: as it is, or without what nobody can reach any more -/
def Ret (S : Store) (d : D) (S' : Store) (Q : DK) : Prop :=
  Q d S' ∨ ∃ S1 g, S' = S1 ++ g ∧ S1.length = S.length ∧ clD S.length d = true ∧ (∀ o ∈ S1, o ∈ S ∨ clO S.length o = true) ∧ Q d S1
structure DefI where
  i : FnI
  N : List Str
  body : Bs
def startD (N : List Str) (ds : List D) : Rho := ds.map some ++ List.replicate (N.length - ds.length) none
def run (T : List DefI) : Nat → Nat → List D → Store → DK → EK → Prop
  | 0, _, _, _, _, _ => False
  | n + 1, f, ds, S, Q, Ex => ∃ d, T[f]? = some d ∧ wpB ⟨run T n, Ex⟩ d.body { nx := fun _ S' => Ret S .non S' Q, rt := fun v S' => Ret S v S' Q, bk := fun _ _ => False, ct := fun _ _ => False } (startD d.N ds) S
mutual
theorem RD.clo {K : FR} {m : List Addr} {H : Hp} : ∀ {d : D} {v : V}, RD K m H d v → clD m.length d = true
  | _, _, .non => rfl
  | _, _, .bl _ => rfl
  | _, _, .int _ => rfl
  | _, _, .str _ => rfl
  | _, _, .tup _ rs => RDs.clo rs
  | _, _, .cl _ rs => RDs.clo rs
  | _, _, .ref h => decide_eq_true (List.getElem?_eq_some_iff.mp h).1
theorem RDs.clo {K : FR} {m : List Addr} {H : Hp} : ∀ {d : List D} {v : List V}, RDs K m H d v → clDs m.length d = true
  | _, _, .nil => rfl
  | _, _, .cons a b => by
    show (clD m.length _ && clDs m.length _) = true
    rw [RD.clo a, RDs.clo b]; rfl
end
mutual
theorem RD.cut {K : FR} {m t : List Addr} {H : Hp} : ∀ {d : D} {v : V}, RD K (m ++ t) H d v → clD m.length d = true → RD K m H d v
  | _, _, .non, _ => .non
  | _, _, .bl b, _ => .bl b
  | _, _, .int i, _ => .int i
  | _, _, .str x, _ => .str x
  | _, _, .tup hs rs, h => .tup hs (RDs.cut1 rs h)
  | _, _, .cl hs rs, h => .cl hs (RDs.cut1 rs h)
  | _, _, .ref hn, h => .ref (by rw [List.getElem?_append_left (of_decide_eq_true h)] at hn; exact hn)
theorem RDs.cut1 {K : FR} {m t : List Addr} {H : Hp} : ∀ {d : List D} {v : List V}, RDs K (m ++ t) H d v → clDs m.length d = true → RDs K m H d v
  | _, _, .nil, _ => .nil
  | _, _, .cons a b, h => by
    obtain ⟨h1, h2⟩ := and2 h
    exact .cons (RD.cut a h1) (RDs.cut1 b h2)
end
theorem ret_r {K : FR} {m m' : List Addr} {H H' : Hp} {S S' : Store} {d : D} {v : V} {Qd : DK} {Q : VK} (rel : Rel K m S H) (rel' : Rel K m' S' H') (x : Ext m H m' H') (rd : RD K m' H' d v) (h : Ret S d S' Qd) (q : Imp K m H Qd Q) : Q v H' := by
  rcases h with h | ⟨S1, g, e, hl, hd, ho, h⟩
  · exact q _ _ _ _ _ h rel' x rd
  · obtain ⟨t, et⟩ := x.pre
    subst et
    subst e
    have lm : m.length = S1.length := rel.len.trans hl.symm
    have ls : S.length = m.length := rel.len.symm
    rw [ls] at hd
    refine q d S1 v m H' h ⟨lm, (List.nodup_append.mp rel'.nd).1, fun n o a h1 h2 => ?_⟩ ⟨⟨[], by simp⟩, fun b hb => .inl hb, x.keep, x.tb⟩ (rd.cut hd)
    have hn : n < S1.length := (List.getElem?_eq_some_iff.mp h1).1
    have hm : n < m.length := by rw [lm]; exact hn
    have z := rel'.ob n o a (by rw [List.getElem?_append_left hn]; exact h1) (by rw [List.getElem?_append_left hm]; exact h2)
    have cl : clO m.length o = true := by
      rcases ho o (List.mem_of_getElem? h1) with ho | ho
      · obtain ⟨k, hk, e⟩ := List.getElem_of_mem ho
        have e1 : S[k]? = some o := by rw [List.getElem?_eq_getElem hk, e]
        have hk2 : k < m.length := by rw [rel.len]; exact hk
        have z := rel.ob k o m[k] e1 (List.getElem?_eq_getElem hk2)
        cases o with
        | lst l => obtain ⟨_, _, rs⟩ := z; exact rs.clo
        | dic l => obtain ⟨_, _, _, rs⟩ := z; exact rs.clo
      · rw [ls] at ho; exact ho
    cases o with
    | lst l => obtain ⟨vs, hv, rs⟩ := z; exact ⟨vs, hv, rs.cut1 cl⟩
    | dic l => obtain ⟨vs, hv, r1, rs⟩ := z; exact ⟨vs, hv, r1, rs.cut1 cl⟩
theorem start_cur {K : FR} {m : List Addr} {H : Hp} {S : Store} {N : List Str} {ds : List D} {vs : List V} (rel : Rel K m S H) (rs : RDs K m H ds vs) : Cur K m H m (startD N ds) S (L2.start N vs) H := by
  have hl := rs.length
  refine ⟨rel, .refl, by simp [startD, L2.start, hl], fun i d e => ?_⟩
  unfold startD at e
  by_cases hi : i < ds.length
  · rw [List.getElem?_append_left (by simpa using hi), List.getElem?_map] at e
    cases q : ds[i]? with
    | none => rw [q] at e; cases e
    | some d' =>
      rw [q] at e
      cases e
      obtain ⟨v, e1, r1⟩ := rs.get q
      refine ⟨v, ?_, r1⟩
      unfold L2.start
      rw [List.getElem?_append_left (by simpa using (by omega : i < vs.length)), List.getElem?_map, e1]
      rfl
  · rw [List.getElem?_append_right (by simpa using hi), List.getElem?_replicate] at e
    split at e <;> cases e
/-- a def of the text, and the term for its body -/
def ctxOf (CT : List ClI) (T : List DefI) (d : DefI) (sc : Scope) : Cxt := { N := d.N, sc := sc, fnc := fun _ => true, T := T.map (·.i), CT := CT }
def scopeOk (N P : List Str) (sc : Scope) : Bool := decide (sc.kind = .function) && (!sc.isCoroutine && (!sc.isGenerator && (decide N.Nodup && (decide (N.take P.length = P) && ((P.all fun x => match sc.names.lookup x with
  | some .local => true
  | some .cell => true
  | _ => false) && sc.names.all fun y => match y.2 with
  | .free => false
  | _ => true)))))
theorem scope_of {N P : List Str} {sc : Scope} (h : scopeOk N P sc = true) : FnScope N P sc := by
  obtain ⟨h1, h⟩ := and2 h
  obtain ⟨h2, h⟩ := and2 h
  obtain ⟨h3, h⟩ := and2 h
  obtain ⟨h4, h⟩ := and2 h
  obtain ⟨h5, h⟩ := and2 h
  obtain ⟨h6, h7⟩ := and2 h
  refine ⟨of_decide_eq_true h1, by simpa using h2, by simpa using h3, of_decide_eq_true h4, of_decide_eq_true h5, fun x hx => ?_, fun y hy z => ?_⟩
  · have q := List.all_eq_true.mp h6 x hx
    cases e : sc.names.lookup x with
    | none => rw [e] at q; cases q
    | some k =>
      rw [e] at q
      cases k <;> first
        | exact .inl rfl
        | exact .inr rfl
        | cases q
  · have q := List.all_eq_true.mp h7 y hy
    rw [z] at q
    cases q
def defOk (CT : List ClI) (T : List DefI) (st : Stmt) (d : DefI) : Bool := scopeOk d.N d.i.ps (defScope st) && mB d.body (ctxOf CT T d (defScope st)) (defBody st)
section
variable {P : Program} {w : World} {K : FR} {mg : Str → Option Value} {base : Heap}
/-- the tables of the defs' code objects, at the base -/
def Codes (K : FR) (mg : Str → Option Value) (base : Heap) (T : List DefI) : Prop := ∀ d ∈ T, GxR.TabB base mg (He.cT K (d.i.name, none)).1 (He.cT K (d.i.name, none)).2
theorem def_ok {CT : List ClI} {T : List DefI} {st : Stmt} {d : DefI} {f n : Nat} {fd : FuncData} {x qual : Str} (hf : T[f]? = some d) (F : FunD K x qual (defArgs st) (defBody st) (defScope st) [] [] (He.fAd K (d.i.name, none)) fd) (ok : defOk CT T st d = true)
    (TB : Codes K mg base T) (tab : TabOk P w K mg base CT n (run T n) (T.map (·.i))) : FnOk P w K mg base (L2.CX P w) (2 * (n + 1) + 2) (He.fAd K (d.i.name, none)) fd d.i.ps (spD K mg CT (T.map (·.i)) (run T (n + 1) f) d.i.ps.length) := by
  obtain ⟨h1, h2⟩ := and2 ok
  have S := scope_of h1
  have hd := List.mem_of_getElem? hf
  obtain ⟨oc, od, dV, kV, doc, pm, an, cdv, ct, osl, rfl, lk, hcd, _, _⟩ := F.ex
  obtain ⟨cc, rfl⟩ := He.codeIn_ref hcd
  have ec : (He.cT K (d.i.name, none)).1 = cc := He.codeOf_eq lk rfl
  refine fn_of (k := 2 * n + 3) lk hcd S (fun vs H Q E h => spD_len h) fun A outer s H vs Q E hr h => ?_
  obtain ⟨m, St, ds, Qd, Ed, rel, tb, rs, hl, ⟨d', e, wb⟩, q, qe⟩ := h
  rw [hf] at e
  cases e
  have G : Good (cxOf (L2.CX P w) P w K mg base d.N qual (defScope st) (He.fAd K (d.i.name, none)) (.ref cc) A outer s H E) (ctxOf CT T d (defScope st)) ⟨run T n, Ed⟩ n m H :=
    { N := rfl, nd := S.nd, sc := rfl, fn := fun _ _ => rfl, calm := rfl, room := hr.mono (by omega), room3 := fun _ => hr, own := passes_of rfl, tab := tab,
      tk := fun _ => Takes.imp (takes_of rfl rfl rfl rfl) fun cls d σ H' ⟨i, fs, S', m', z, rel', x, e⟩ => qe i fs S' m' H' cls d z rel' x e,
      tbs := tb, fr := fun _ => ⟨rfl, rfl⟩,
      code := fun _ => ⟨cc, tabA K d.i, rfl, ec ▸ TB d hd, tb d.i (List.mem_map.mpr ⟨d, hd, rfl⟩)⟩ }
  refine ⟨TrS K m H (wpB ⟨run T n, Ed⟩ d.body), snd_B d.body G h2, m, _, St, _, start_cur rel rs, wb, ?_, ?_, ?_, ?_⟩
  · exact fun r' S' σ' m' H' z cu' x' => ret_r rel cu'.rel x' .non z q
  · exact fun d S' v m' H' z rel' x' rd => ret_r rel rel' x' rd z q
  · exact fun r' S' σ' m' H' z cu' x' => (show False from z).elim
  · exact fun r' S' σ' m' H' z cu' x' => (show False from z).elim
/-- what is known of an own exception class -/
def ClsF (K : FR) (mg : Str → Option Value) (ci : ClI) : Prop := ∃ (C fI : Addr) (fd : FuncData) (ps : List Str) (x qual : Str) (params : Arguments) (body : List Stmt) (scope : Scope) (f : Str) (fs : List Str), mg ci.name = some (.ref C) ∧ OexC K C ∧ (XfC K C ∧ ExcC K C) ∧
  PySem.W.findIn K (.ref C) "__init__" = some (some (.ref fI)) ∧ PySem.W.typeIn K (.ref fI) = some (.type "function") ∧ Binds K fd ps [] ∧ FunD K x qual params body scope [] [] fI fd ∧ FnScope ps ps scope ∧ ci.flds = f :: fs ∧
  storesF ps scope (f :: fs) 1 body = true ∧ (∀ g ∈ f :: fs, PySem.W.findIn K (.ref C) g = some none) ∧ ps.length = fs.length + 2 ∧ fs.length ≤ 800
/-- what is known of the text's defs -/
structure TabF (K : FR) (mg : Str → Option Value) (CT : List ClI) (T : List DefI) (sts : List Stmt) : Prop where
  fns : ∀ (f : Nat) (d : DefI), T[f]? = some d → ∃ (st : Stmt) (a : Addr) (fd : FuncData) (x qual : Str), sts[f]? = some st ∧ a = He.fAd K (d.i.name, none) ∧ mg d.i.name = some (.ref a) ∧ FunD K x qual (defArgs st) (defBody st) (defScope st) [] [] a fd ∧ defOk CT T st d = true ∧ Binds K fd d.i.ps [] ∧
    ∀ n ks perm, (n, ks, perm) ∈ d.i.kws → KBn K fd d.i.ps n ks (fun us ws => perm.filterMap fun j => (us ++ ws)[j]?) (fun vs zs => perm.filterMap fun j => (vs ++ zs)[j]?)
  cls : ∀ (i : Nat) (ci : ClI), CT[i]? = some ci → ClsF K mg ci
  bis : ∀ b, mg (biName b) = none
  exm : ∀ (i j : Nat) (ci cj : ClI) (Ci Cj : Addr), CT[i]? = some ci → CT[j]? = some cj → mg ci.name = some (.ref Ci) → mg cj.name = some (.ref Cj) → PySem.W.exmOne K (.ref Cj) (.ref Ci) = some (decide (j = i))
  anyall : mg "any" = none ∧ mg "all" = none
  others : mg "isinstance" = none ∧ mg "range" = none ∧ ∀ t, mg (Str.ofString (tyName t)) = none
  zips : mg "zip" = none ∧ mg "set" = none ∧ mg "enumerate" = none ∧ mg "dict" = none ∧ mg "repr" = none
  kin : ∀ (i : Nat) (ci : ClI) (Ca : Addr), CT[i]? = some ci → mg ci.name = some (.ref Ca) → ∀ (y : Str) (b : Bool), ci.kin.lookup y = some b → KinAt K mg Ca y b
theorem cls_ok {K : FR} {mg : Str → Option Value} {ci : ClI} (h : ClsF K mg ci) : ∃ C fI fd ps, mg ci.name = some (.ref C) ∧ OexC K C ∧ ClX K C ci ∧ PySem.W.findIn K (.ref C) "__init__" = some (some (.ref fI)) ∧ PySem.W.typeIn K (.ref fI) = some (.type "function") ∧ Binds K fd ps [] ∧
    FnOk P w K mg base (L2.CX P w) 1 fI fd ps (spI K C ci.flds) := by
  obtain ⟨C, fI, fd, ps, x, qual, params, body, scope, f, fs, h1, h2, hx, h3, h4, h5, h6, h7, h8, h9, h10, h11, h12⟩ := h
  have hx : ClX K C ci := ⟨hx.1, hx.2, fun g hg => h10 g (h8 ▸ hg)⟩
  rw [h8]
  exact ⟨C, fI, fd, ps, h1, h2, hx, h3, h4, h5, init_ok (k := 0) h6 h7 h2 h9 h10 h11 h12⟩
theorem tab_ok {CT : List ClI} {T : List DefI} {sts : List Stmt} (F : TabF K mg CT T sts) (TB : Codes K mg base T) : ∀ n, TabOk P w K mg base CT n (run T n) (T.map (·.i))
  | 0 => by
      refine { cls := fun i ci h => cls_ok (F.cls i ci h), bis := F.bis, exm := F.exm, anyall := F.anyall, others := F.others, zips := F.zips, kin := F.kin, fns := fun f i h => ?_ }
      rw [List.getElem?_map] at h
      cases e : T[f]? with
      | none => rw [e] at h; cases h
      | some d =>
        rw [e] at h
        cases h
        obtain ⟨st, a, fd, x, qual, _, _, h1, h2, h3, h4, h5⟩ := F.fns f d e
        exact ⟨a, fd, h1, h2.kp, h4, h5, ⟨fun vs H Q E h => spD_len h, fun A outer s H args us vs Q E hr he hb hv hs => by
          obtain ⟨m, S, ds, Qd, Ed, _, _, _, _, z, _⟩ := hs
          exact (show False from z).elim⟩⟩
  | n + 1 => by
      refine { cls := fun i ci h => cls_ok (F.cls i ci h), bis := F.bis, exm := F.exm, anyall := F.anyall, others := F.others, zips := F.zips, kin := F.kin, fns := fun f i h => ?_ }
      rw [List.getElem?_map] at h
      cases e : T[f]? with
      | none => rw [e] at h; cases h
      | some d =>
        rw [e] at h
        cases h
        obtain ⟨st, a, fd, x, qual, _, rfl, h1, h2, h3, h4, h5⟩ := F.fns f d e
        exact ⟨_, fd, h1, h2.kp, h4, h5, def_ok e h2 h3 TB (tab_ok F TB n)⟩
end
end Ev
set_option Elab.async false
set_option linter.all false
set_option maxRecDepth 100000
set_option maxHeartbeats 8000000
namespace Ev
open PySem PySem.Spec PyProof.Rows L2
/-! ## the text's end -/
/-- how a def binds its arguments -/
structure Bnd (st : Stmt) (i : FnI) : Prop where
  pos : ∀ (x qual : Str) (kV doc pm : Value) (an : Option Addr) (cdv ct : Value) (us : List Value), us.length = i.ps.length → bindArgs (PySem.W.fnOf x qual (defArgs st) (defBody st) (defScope st) .none kV doc pm an cdv ct) ⟨us, []⟩ = pure (i.ps.zip us)
  kws : ∀ n ks perm, (n, ks, perm) ∈ i.kws → ∀ (x qual : Str) (kV doc pm : Value) (an : Option Addr) (cdv ct : Value) (us ws : List Value), us.length = n → ws.length = ks.length →
    bindArgs (PySem.W.fnOf x qual (defArgs st) (defBody st) (defScope st) .none kV doc pm an cdv ct) ⟨us, ks.zip ws⟩ = pure (i.ps.zip (perm.filterMap fun j => (us ++ ws)[j]?))
theorem Vals.perm {vs : List V} {us : List Value} (r : Vals vs us) : ∀ perm : List Nat, Vals (perm.filterMap fun i => vs[i]?) (perm.filterMap fun i => us[i]?)
  | [] => .nil
  | i :: p => by
    rw [List.filterMap_cons, List.filterMap_cons]
    cases e : vs[i]? with
    | none =>
      rw [r.none_of e]
      exact Vals.perm r p
    | some v =>
      obtain ⟨u, e2, ru⟩ := r.get e
      rw [e2]
      exact .cons ru (Vals.perm r p)
theorem Bnd.kbn {K : FR} {st : Stmt} {i : FnI} {x qual : Str} {a : Addr} {fd : FuncData} (b : Bnd st i) (F : FunD K x qual (defArgs st) (defBody st) (defScope st) [] [] a fd) :
    Binds K fd i.ps [] ∧ ∀ n ks perm, (n, ks, perm) ∈ i.kws → KBn K fd i.ps n ks (fun us ws => perm.filterMap fun j => (us ++ ws)[j]?) (fun vs zs => perm.filterMap fun j => (vs ++ zs)[j]?) := by
  refine ⟨F.bindsN fun kV doc pm an cdv ct us hl => b.pos x qual kV doc pm an cdv ct us hl, fun n ks perm hm => ?_⟩
  obtain ⟨oc, od, dV, kV, doc, pm, an, cdv, ct, osl, rfl, lk, hcd, hD, hK⟩ := F.ex
  rcases hD with ⟨_, rfl⟩ | ⟨e, _⟩
  · exact ⟨fun s us ws _ h1 h2 => .of_eq (b.kws n ks perm hm x qual kV doc pm an cdv ct us ws h1 h2), fun r1 r2 => Vals.perm (r1.append r2) perm⟩
  · exact absurd rfl e
def AllD (CT : List ClI) (T : List DefI) : List DefI → List Stmt → Prop
  | [], [] => True
  | d :: ds, s :: ss => (defOk CT T s d = true ∧ Bnd s d.i) ∧ AllD CT T ds ss
  | _, _ => False
theorem AllD.get {CT : List ClI} {T : List DefI} : ∀ {ds : List DefI} {ss : List Stmt} {f : Nat} {d : DefI}, AllD CT T ds ss → ds[f]? = some d → ∃ s, ss[f]? = some s ∧ defOk CT T s d = true ∧ Bnd s d.i
  | [], [], _, _, _, h => by simp at h
  | d :: ds, s :: ss, 0, _, h, e => by
    simp at e
    subst e
    exact ⟨s, rfl, h.1.1, h.1.2⟩
  | d :: ds, s :: ss, f + 1, _, h, e => by
    obtain ⟨s', e', z⟩ := AllD.get (f := f) h.2 (by simpa using e)
    exact ⟨s', by simpa using e', z⟩
def datD (d : DefI) (s : Stmt) : He.DefD := ⟨(d.i.name, none), d.i.name, d.i.name, defArgs s, defBody s, defScope s, [], []⟩
def fnL (T : List DefI) (sts : List Stmt) : List He.DefD := T.zipWith datD sts
def frees : List Str := ["len", "int", "abs", "tuple", "list", "sum", "sorted", "max", "min", "isinstance", "range", "bool", "str", "any", "all", "zip", "set", "enumerate", "dict", "repr"]
def faL (T : List DefI) : List He.Fa := T.map (fun d => .glo d.i.name) ++ frees.map .free
/-- H2 is H, but that a list at a is locked -/
structure Lkd (a : Addr) (H H2 : Hp) : Prop where
  els : ∀ b, b ≠ a → H2 b = H b
  at_ : (∃ xs o, H a = some (.lst xs) ∧ H2 a = some (.frz o (.lst xs))) ∨ ((∀ xs, H a ≠ some (.lst xs)) ∧ H2 a = H a)
theorem Lkd.none_iff {a b : Addr} {H H2 : Hp} (l : Lkd a H H2) : H2 b = none ↔ H b = none := by
  by_cases hb : b = a
  · subst hb
    rcases l.at_ with ⟨xs, o, e1, e2⟩ | ⟨_, e⟩
    · rw [e1, e2]; exact ⟨fun z => (by cases z), fun z => (by cases z)⟩
    · rw [e]
  · rw [l.els b hb]
theorem Lkd.up {a b : Addr} {H H2 : Hp} {u : HO} (l : Lkd a H H2) (h : H b = some u) (n : ∀ xs, u ≠ .lst xs) : H2 b = some u := by
  by_cases hb : b = a
  · subst hb
    rcases l.at_ with ⟨xs, o, e1, _⟩ | ⟨_, e⟩
    · rw [h] at e1; cases e1; exact absurd rfl (n xs)
    · rw [e]; exact h
  · rw [l.els b hb]; exact h
theorem Lkd.un {a : Addr} {H H2 H' : Hp} {fs ex : List Addr} {h h' : Heap} (l : Lkd a H H2) (u : Un fs ex H2 H' h h') : Un fs ex H H' h h' :=
  ⟨fun b o e n => u.keep b o e (l.none_iff.mpr n), fun b o e n => u.slot b o e (l.none_iff.mpr n), fun b o e n => u.free b o e (l.none_iff.mpr n), u.there,
    fun b xs e => u.tups b xs (l.up e fun _ z => by cases z), fun b o v e => u.frzs b o v (l.up e fun _ z => by cases z), fun b ps e => u.tbls b ps (l.up e fun _ z => by cases z)⟩
theorem lkd_ex {P : Program} {w : World} {H : Hp} {h : Heap} (a : Addr) (ok : HOk P w H h) : ∃ H2, Lkd a H H2 ∧ HOk P w H2 h := by
  by_cases q : ∃ xs, H a = some (.lst xs)
  · obtain ⟨xs, q⟩ := q
    have z := ok a _ q
    obtain ⟨hl, its, n, hv, hg⟩ := z
    have l : Lkd a H (upd H a (.frz _ (.lst xs))) := ⟨fun b hb => upd_ne hb, .inl ⟨xs, { cls := .type "list", data := .seq its.toArray n }, q, upd_same⟩⟩
    refine ⟨_, l, fun b u e => ?_⟩
    by_cases hb : b = a
    · subst hb
      rw [upd_same] at e
      cases e
      exact ⟨hg, hl, its, n, hv, hg⟩
    · rw [upd_ne hb] at e
      exact (ok b u e).stay (fun c v _ r => r) (fun c r => l.up r fun _ z => by cases z) fun c ys r => l.up r fun _ z => by cases z
  · exact ⟨H, ⟨fun _ _ => rfl, .inr ⟨fun xs e => q ⟨xs, e⟩, rfl⟩⟩, ok⟩
/-- an exception behind a call, in some world, from a heap like that -/
def anyX (P : Program) : CXT := fun outer _ s E u s' => ∃ w H2, L2.CX P w outer H2 s E u s'
theorem fn_lkd {P : Program} {w : World} {K : FR} {mg : Str → Option Value} {base : Heap} {k : Nat} {a : Addr} {fd : FuncData} {ps : List Str} {sp : Sp} (F : FnOk P w K mg base (L2.CX P w) k a fd ps sp) (hl : ps.length = 1) :
    FnOk P w K mg base (Ev.anyX P) k a fd ps fun vs H Q E => ∃ b, vs = [.ref b] ∧ ∀ H2, Lkd b H H2 → sp vs H2 Q E := by
  refine ⟨fun vs H Q E ⟨b, e, _⟩ => by rw [e, hl]; rfl, fun A outer s H args us vs Q E hr he hb hv hs => ?_⟩
  obtain ⟨b, e, z⟩ := hs
  obtain ⟨H2, l, ok⟩ := lkd_ex b he.hok
  have he2 : Env0 P w K mg base A outer s H2 := ⟨he.frames, he.mod, fun b o e => ⟨(he.bs b o e).1, l.none_iff.mpr (he.bs b o e).2⟩, he.bsz, he.funs, fun b hb => l.none_iff.mpr (he.frf b hb), ok, he.bare⟩
  refine codeAny_mono (F.run A outer s H2 args us vs Q E hr he2 hb hv (z H2 l)) fun r s' h => ?_
  cases r with
  | error u => exact ⟨w, H2, h⟩
  | ok fl =>
    cases fl with
    | ret u =>
      obtain ⟨v, H', os, bare, un, rest⟩ := h
      exact ⟨v, H', os, bare, l.un un, rest⟩
    | next => exact h
    | brk => exact h
    | cont => exact h
end Ev
set_option Elab.async false
set_option linter.all false
set_option maxRecDepth 100000
set_option maxHeartbeats 8000000
namespace Ev
open PySem PySem.Spec PyProof.Rows L2
/-! ## own exception classes: their facts as one Bool -/
/-- a class of the text: its __init__'s statement, the parameters -/
structure ClT where
  c : ClI
  ps : List Str
  st : Stmt
/-- a class statement's __init__ -/
def initS (s : Stmt) : Stmt := (match s with
  | .ClassDef _ _ _ b _ _ _ _ _ _ _ => (b.find? fun t => match t with
    | .FunctionDef n _ _ _ _ _ _ _ _ _ => n == ("__init__" : Str)
    | _ => false).getD s
  | _ => s)
def isVE (K : FR) (C : Addr) : Bool := (match K.lookup C with
  | some ⟨.type "type", _, .cls cd, sl⟩ => (match cd.mro, sl.toList with
    | .ref D :: bm, [_, _, _, _, some (.builtin n), _] => D == C && (n == "ValueError.__new__" && (cd.hasDict && (!cd.hasDel && PySem.HandSPX.refsVE bm)))
    | _, _ => false)
  | _ => false)
theorem isVE_ok {K : FR} {C : Addr} (h : isVE K C = true) : ∃ nm q N bs bm sn sub ab col dd k0 k1 k2 k3 k5, K.lookup C = some (excClassObj nm q C N bs bm true sn sub ab col dd k0 k1 k2 k3 k5 "ValueError.__new__") ∧ PySem.HandSPX.refsVE bm = true := by
  unfold isVE at h
  split at h
  · rename_i dd cd sl ho
    split at h
    · rename_i D bm k0 k1 k2 k3 n k5 hm hs
      obtain ⟨h1, h⟩ := and2 h
      obtain ⟨h2, h⟩ := and2 h
      obtain ⟨h3, h⟩ := and2 h
      obtain ⟨h4, h5⟩ := and2 h
      replace h1 := beq_iff_eq.mp h1
      replace h2 := beq_iff_eq.mp h2
      replace h4 := not_f h4
      clear h
      obtain ⟨nm, bs, mro, ns, qn, hd, sn, sub, ab, col, dl⟩ := cd
      dsimp only at hm h3 h4
      subst hm h3 h4 h1 h2
      have e : sl = #[k0, k1, k2, k3, some (.builtin "ValueError.__new__"), k5] := by
        obtain ⟨l⟩ := sl
        simp only at hs
        rw [hs]
      subst e
      exact ⟨nm, qn, ns, bs, bm, sn, sub, ab, col, dd, k0, k1, k2, k3, k5, ho, h5⟩
    · cases h
  · cases h
/-- the class asks isinstance rightly -/
def isB (K : FR) (C : Addr) : Bool := decide (PySem.W.findIn K (.ref C) "__class__" = some (some (.builtin "object.__class__"))) && (decide (PySem.W.specialIn K (.builtin "object.__class__") "__get__" = some (some (.builtin "getset_descriptor.__get__"))) &&
  (decide (PySem.W.takesIn K (.builtin "object.__class__") = some true) && decide (PySem.W.mroIn K C (.type "object") = some true)))
theorem isB_ok {K : FR} {C : Addr} (x : XfC K C) (h : isB K C = true) : ExcC K C := by
  obtain ⟨h1, h⟩ := and2 h
  obtain ⟨h2, h⟩ := and2 h
  obtain ⟨h3, h4⟩ := and2 h
  exact ⟨x.ga, x.gg, x.exC, x.hdC, of_decide_eq_true h1, of_decide_eq_true h2, of_decide_eq_true h3, of_decide_eq_true h4⟩
/-- what ex tells of a class -/
def clsB (K : FR) (t : ClT) : Bool := isVE K (He.ga K t.c.name) && (decide (PySem.W.nsIn K mainGlobals t.c.name = some (some (.ref (He.ga K t.c.name)))) && (decide (PySem.W.findIn K (.ref (He.ga K t.c.name)) "__setattr__" = some (some (.builtin "object.__setattr__"))) &&
  (decide (PySem.W.subIn K (.ref (He.ga K t.c.name)) (.type "BaseException") = some true) && (decide (PySem.W.typeIn K (.ref (He.ga K t.c.name)) = some (.type "type")) && (PySem.W.keepIn K (.ref (He.ga K t.c.name)) &&
  (decide (PySem.W.findIn K (.ref (He.ga K t.c.name)) "__init__" = some (some (.ref (He.ma K (He.ga K t.c.name) "__init__")))) && (decide (PySem.W.typeIn K (.ref (He.ma K (He.ga K t.c.name) "__init__")) = some (.type "function")) &&
  ((xfB K (He.ga K t.c.name) && isB K (He.ga K t.c.name)) && t.c.flds.all fun g => decide (PySem.W.findIn K (.ref (He.ga K t.c.name)) g = some none)))))))))
/-- the text's part: the __init__'s statement -/
structure ClOk (t : ClT) : Prop where
  sc : scopeOk t.ps t.ps (defScope t.st) = true
  st : storesF t.ps (defScope t.st) t.c.flds 1 (defBody t.st) = true
  len : t.ps.length = t.c.flds.length + 1 ∧ 0 < t.c.flds.length ∧ t.c.flds.length ≤ 800
  bn : Bnd t.st ⟨"__init__", t.ps, []⟩
def datC (t : ClT) : He.DefD := ⟨(t.c.name, some "__init__"), "__init__", t.c.name ++ ".__init__", defArgs t.st, defBody t.st, defScope t.st, [], []⟩
theorem cls_of {K : FR} {h : Heap} {mg : Str → Option Value} {t : ClT} (X : K.In h) (G : h.Ns mainGlobals mg) (b : clsB K t = true) (ok : ClOk t) (F : ∃ fd, FunD K "__init__" (t.c.name ++ ".__init__") (defArgs t.st) (defBody t.st) (defScope t.st) [] [] (He.ma K (He.ga K t.c.name) "__init__") fd) : ClsF K mg t.c := by
  obtain ⟨fd, F⟩ := F
  obtain ⟨h1, b⟩ := and2 b
  obtain ⟨h2, b⟩ := and2 b
  obtain ⟨h3, b⟩ := and2 b
  obtain ⟨h4, b⟩ := and2 b
  obtain ⟨h5, b⟩ := and2 b
  obtain ⟨h6, b⟩ := and2 b
  obtain ⟨h7, b⟩ := and2 b
  obtain ⟨h8, b⟩ := and2 b
  obtain ⟨hx, h9⟩ := and2 b
  obtain ⟨l1, l2, l3⟩ := ok.len
  cases hf : t.c.flds with
  | nil => rw [hf] at l2; cases l2
  | cons f fs =>
    have hs := ok.st
    rw [hf] at hs l1 l3 h9
    refine ⟨He.ga K t.c.name, _, fd, t.ps, _, _, _, _, _, f, fs, He.glo_ok X G (show (He.Fa.glo t.c.name).ok K = true from ?_), ⟨isVE_ok h1, of_decide_eq_true h3, of_decide_eq_true h4, of_decide_eq_true h5, h6⟩, ⟨xfB_ok (and2 hx).1, isB_ok (xfB_ok (and2 hx).1) (and2 hx).2⟩, of_decide_eq_true h7, of_decide_eq_true h8, ?_, F, scope_of ok.sc, hf, hs, fun g hg => of_decide_eq_true (List.all_eq_true.mp h9 g hg), l1, ?_⟩
    · exact h2
    · exact (ok.bn.kbn F).1
    · simp only [List.length_cons] at l3
      omega
/-- which of the classes an except clause of another catches: itself alone -/
def exmB (K : FR) (CTs : List ClT) : Bool := (List.range CTs.length).all fun i => (List.range CTs.length).all fun j => match CTs[i]?, CTs[j]? with
  | some ti, some tj => decide (PySem.W.exmOne K (.ref (He.ga K tj.c.name)) (.ref (He.ga K ti.c.name)) = some (decide (j = i)))
  | _, _ => true
theorem exmB_at {K : FR} {CTs : List ClT} (h : exmB K CTs = true) {i j : Nat} {ti tj : ClT} (ei : CTs[i]? = some ti) (ej : CTs[j]? = some tj) : PySem.W.exmOne K (.ref (He.ga K tj.c.name)) (.ref (He.ga K ti.c.name)) = some (decide (j = i)) := by
  have q := List.all_eq_true.mp (List.all_eq_true.mp h i (List.mem_range.mpr (List.getElem?_eq_some_iff.mp ei).1)) j (List.mem_range.mpr (List.getElem?_eq_some_iff.mp ej).1)
  rw [ei, ej] at q
  exact of_decide_eq_true q
/-- the told kinships of the classes -/
def kinB (K : FR) (CTs : List ClT) : Bool := CTs.all fun t => t.c.kin.all fun p => (decide (PySem.W.nsIn K mainGlobals p.1 = some (some (.ref (He.ga K p.1)))) && decide (PySem.W.kitOne K (.ref (He.ga K t.c.name)) (.ref (He.ga K p.1)) = some p.2)) ||
  (decide (p.1 = "ValueError") && ((He.Fa.free p.1).ok K && decide (PySem.W.kitOne K (.ref (He.ga K t.c.name)) (.type "ValueError") = some p.2)))
theorem lookup_mem {α β : Type} [BEq α] [LawfulBEq α] {y : α} {b : β} : ∀ {l : List (α × β)}, l.lookup y = some b → (y, b) ∈ l
  | [], h => by cases h
  | (z, c) :: l, h => by
    rw [List.lookup_cons] at h
    cases e : y == z with
    | true =>
      rw [e] at h
      cases h
      rw [beq_iff_eq.mp e]
      exact List.mem_cons_self ..
    | false =>
      rw [e] at h
      exact List.mem_cons_of_mem _ (lookup_mem h)
theorem kinB_at {K : FR} {h : Heap} {mg : Str → Option Value} (X : K.In h) (G : h.Ns mainGlobals mg) {CTs : List ClT} (q : kinB K CTs = true) {t : ClT} (ht : t ∈ CTs) {y : Str} {b : Bool} (e : t.c.kin.lookup y = some b) : KinAt K mg (He.ga K t.c.name) y b := by
  have q := List.all_eq_true.mp (List.all_eq_true.mp q t ht) _ (lookup_mem e)
  rw [Bool.or_eq_true] at q
  rcases q with q | q
  · obtain ⟨q1, q2⟩ := and2 q
    exact .inl ⟨_, He.glo_ok X G (show (He.Fa.glo y).ok K = true from q1), of_decide_eq_true q2⟩
  · obtain ⟨q1, q2⟩ := and2 q
    obtain ⟨q2, q3⟩ := and2 q2
    exact .inr ⟨of_decide_eq_true q1, He.free_ok X G q2, of_decide_eq_true q3⟩
/-- all that ex tells -/
def exB (CTs : List ClT) (K : FR) : Bool := CTs.all (clsB K) && (exmB K CTs && kinB K CTs)
theorem clsB_glo {K : FR} {h : Heap} {mg : Str → Option Value} {t : ClT} (X : K.In h) (G : h.Ns mainGlobals mg) (b : clsB K t = true) : mg t.c.name = some (.ref (He.ga K t.c.name)) :=
  He.glo_ok X G (show (He.Fa.glo t.c.name).ok K = true from (and2 (and2 b).2).1)
theorem facts_ofX {K : FR} {h : Heap} {mg : Str → Option Value} {T : List DefI} {sts : List Stmt} (X : K.In h) (G : h.Ns mainGlobals mg) {CTs : List ClT} (c : He.SaysD (faL T) (fnL T sts ++ CTs.map datC) K) (cb : exB CTs K = true) (oks : ∀ t ∈ CTs, ClOk t) (al : AllD (CTs.map (·.c)) T T sts) : TabF K mg (CTs.map (·.c)) T sts := by
  have fr : ∀ (j : Nat) (x : Str), frees[j]? = some x → mg x = none := fun j x e => by
    refine He.free_ok X G (c.fact (T.length + j) (f := .free x) ?_)
    unfold faL
    rw [List.getElem?_append_right (by simp)]
    simp [e]
  obtain ⟨cb, cx⟩ := and2 cb
  obtain ⟨cx, ck⟩ := and2 cx
  refine ⟨fun f d e => ?_, fun i ci e => ?_, fun b => ?_, fun i j ci cj Ci Cj ei ej mi mj => ?_, ⟨fr 13 _ rfl, fr 14 _ rfl⟩, ⟨fr 9 _ rfl, fr 10 _ rfl, fun t => ?_⟩, ⟨fr 15 _ rfl, fr 16 _ rfl, fr 17 _ rfl, fr 18 _ rfl, fr 19 _ rfl⟩, fun i ci Ca e m y b l => ?_⟩
  · obtain ⟨s, es, ok, bn⟩ := al.get e
    have e1 : (fnL T sts ++ CTs.map datC)[f]? = some (datD d s) := by
      have e0 : (fnL T sts)[f]? = some (datD d s) := by
        unfold fnL
        rw [List.getElem?_zipWith, e, es]
      rw [List.getElem?_append_left (List.getElem?_eq_some_iff.mp e0).1]
      exact e0
    obtain ⟨fd, F⟩ := c.def_ f e1
    have g := He.glo_ok X G (c.fact f (f := .glo d.i.name) (by
      unfold faL
      have hf := (List.getElem?_eq_some_iff.mp e).1
      rw [List.getElem?_append_left (by simpa using hf), List.getElem?_map, e]
      rfl))
    obtain ⟨b1, b2⟩ := bn.kbn F
    exact ⟨s, _, fd, _, _, es, rfl, g, F, ok, b1, b2⟩
  · rw [List.getElem?_map] at e
    obtain ⟨t, et, rfl⟩ := Option.map_eq_some_iff.mp e
    have tm := List.mem_of_getElem? et
    refine cls_of X G (List.all_eq_true.mp cb t tm) (oks t tm) ?_
    have e1 : (fnL T sts ++ CTs.map datC)[(fnL T sts).length + i]? = some (datC t) := by
      rw [List.getElem?_append_right (by omega), Nat.add_sub_cancel_left, List.getElem?_map, et]
      rfl
    exact c.def_ _ e1
  · cases b
    · exact fr 0 _ rfl
    · exact fr 1 _ rfl
    · exact fr 2 _ rfl
    · exact fr 3 _ rfl
    · exact fr 4 _ rfl
    · exact fr 5 _ rfl
    · exact fr 6 _ rfl
    · exact fr 7 _ rfl
    · exact fr 8 _ rfl
    · exact fr 12 _ rfl
  · rw [List.getElem?_map] at ei ej
    obtain ⟨ti, ei2, rfl⟩ := Option.map_eq_some_iff.mp ei
    obtain ⟨tj, ej2, rfl⟩ := Option.map_eq_some_iff.mp ej
    rw [clsB_glo X G (List.all_eq_true.mp cb ti (List.mem_of_getElem? ei2))] at mi
    rw [clsB_glo X G (List.all_eq_true.mp cb tj (List.mem_of_getElem? ej2))] at mj
    cases mi
    cases mj
    exact exmB_at cx ei2 ej2
  · cases t
    · exact fr 1 _ rfl
    · exact fr 11 _ rfl
    · exact fr 3 _ rfl
    · exact fr 12 _ rfl
  · rw [List.getElem?_map] at e
    obtain ⟨t, et, rfl⟩ := Option.map_eq_some_iff.mp e
    have tm := List.mem_of_getElem? et
    rw [clsB_glo X G (List.all_eq_true.mp cb t tm)] at m
    cases m
    exact kinB_at X G ck tm l
/-- the defs, as the head's tables are told of -/
def defL (T : List DefI) : List (Str × Option Str) := T.map fun d => (d.i.name, none)
/-- what the head's run tells -/
def Told (T : List DefI) (sts : List Stmt) (CTs : List ClT) (h : Heap) (K : FR) : Prop := He.SaysD (faL T) (fnL T sts ++ CTs.map datC) K ∧ exB CTs K = true ∧
  ∀ p ∈ defL T, PySem.W.codeHdIn K (He.cT K p).1 (He.cT K p).2 = true ∧ K.lookup (He.cT K p).2 = none ∧ h.get? (He.cT K p).2 = some { cls := .none, data := .fields #[] }
theorem told_of {T : List DefI} {sts : List Stmt} {CTs : List ClT} {w : World} {h : Heap} {K : FR} (c : He.SaysX (faL T) (fnL T sts ++ CTs.map datC) [] (defL T) (exB CTs) w h K) : Told T sts CTs h K :=
  ⟨c.t.d, c.more, fun p hp => ⟨c.hd p hp, c.out p hp, c.empty p hp⟩⟩
theorem defs_mem {T : List DefI} {K : FR} {Z : Addr × Addr → Prop} (h : ∀ p ∈ defL T, Z (He.cT K p)) : ∀ p ∈ (defL T).map (He.cT K), Z p := fun p hp => by
  obtain ⟨q, hq, rfl⟩ := List.mem_map.mp hp
  exact h q hq
/-- the law's end: the text's terms, and that its call hands back True -/
theorem law_endX {l : PySem.W.OpenLaw} {q : Program} {loose : List Str} {XP : (Str → Option Value) → Heap → Prop} {d : DefRec} {T : List DefI} {sts : List Stmt} {f n : Nat} {dl : DefI} {sl : Stmt} {x : Str} {YP : World → Heap → Prop}
    (hn : l.most = some 63) (hdf : d.params.defaults = []) (hr : n < 100) {CTs : List ClT} (hY : ∀ w h, YP w h → ∃ K : FR, K.In h ∧ Told T sts CTs h K) (oks : ∀ t ∈ CTs, ClOk t) (al : AllD (CTs.map (·.c)) T T sts) (hf : T[f]? = some dl) (hs : sts[f]? = some sl) (hname : dl.i.name = d.name) (hps : dl.i.ps = [x])
    (law : ∀ ns : List Int, ns.length ≤ 63 → run T (n + 1) f [.cl (ns.map D.int)] [] (fun v _ => v = .bl true) noE) : PySem.W.WalkO q loose XP YP l.row.toRowW d [] (fun f vs => PySem.call f vs) := by
  have hroom : Room (2 * (n + 1) + 2) callerA := by
    refine ⟨rfl, ?_, ?_⟩
    · have : (callerA.depth : Nat) + 3 * 210 + 5 < recursionLimit := by decide
      omega
    · have : (callerA.units : Nat) + 16 * 210 + 200 < cLine := by decide
      omega
  refine LamX.walk_ofTsE (l := l) (n := 63) (k := 2 * (n + 1) + 2) (x := x) (CX := fun _ => anyX l.prog) hn (by rw [sizeLine_eq]; decide) hdf hroom ?F (fun _ _ _ _ _ ⟨_, _, z⟩ => by
    obtain ⟨_, _, _, _, _, _, _, _, _, _, _, _, e⟩ := z
    exact e.elim)
  intro w mg fa h Y G hmg
  obtain ⟨K, KX, c, cb, ct⟩ := hY w h Y
  have F := facts_ofX KX G c cb oks al
  obtain ⟨st, a, fd, x', qual, e1, rfl, hg, FD, ok, bd, _⟩ := F.fns f dl hf
  rw [hs] at e1
  cases e1
  have ea : fa = He.fAd K (dl.i.name, none) := by
    rw [hname] at hg ⊢
    rw [hmg] at hg
    cases hg; rfl
  subst ea
  obtain ⟨sl', es', _, bn⟩ := al.get hf
  rw [hs] at es'
  cases es'
  refine ⟨K, KX, fd, (defL T).map (He.cT K), fun vs H Q E => ∃ b, vs = [.ref b] ∧ ∀ H2, Lkd b H H2 → spD K mg (CTs.map (·.c)) (T.map (·.i)) (run T (n + 1) f) 1 vs H2 Q E, defs_mem fun p hp => (ct p hp).2.2, defs_mem fun p hp => (ct p hp).2.1,
    defs_mem fun p hp => PySem.W.codeHd_of_K KX (ct p hp).1, fun s u => ?_, fun H a ns hl _ hT hS => ⟨a, rfl, fun H2 lk => ?_⟩, fun base KB GB TB => ?_⟩
  · exact FD.bindsA (ps := [x]) (fun kV doc pm an cdv ct us hl => by
      have := bn.pos x' qual kV doc pm an cdv ct us (by rw [hps]; exact hl)
      rw [hps] at this
      exact this) s [u] rfl
  · have rds : ∀ ns : List Int, RDs K [] H2 (ns.map D.int) (ns.map V.int) := by
      intro ns
      induction ns with
      | nil => exact .nil
      | cons i r ih => exact .cons (.int i) ih
    have sc : SqC K H2 a (ns.map V.int) := by
      rcases hS with (hS | ⟨o, hS⟩) | hS
      · rcases lk.at_ with ⟨xs, o, z1, z2⟩ | ⟨z, _⟩
        · rw [hS] at z1; cases z1; exact .inl ⟨o, z2⟩
        · exact absurd hS (z _)
      · exact .inl ⟨o, lk.up hS fun _ z => (by cases z)⟩
      · exact .inr hS
    refine ⟨[], [], [.cl (ns.map D.int)], _, noE, ⟨rfl, List.nodup_nil, fun _ _ _ h => by simp at h⟩, fun i hi => ?_, .cons (.cl sc (rds ns)) .nil, rfl, law ns hl, fun d S' v m' H' e rel x rd => ?_, fun _ _ _ _ _ _ _ z => z.elim⟩
    · obtain ⟨dd, hd, rfl⟩ := List.mem_map.mp hi
      have z := hT _ (List.mem_map.mpr ⟨_, List.mem_map.mpr ⟨dd, hd, rfl⟩, rfl⟩)
      exact ⟨⟨#[], lk.up z fun _ z => (by cases z), trivial⟩, by simp⟩
    · subst e
      cases rd
      rfl
  · have cod : Codes K mg base T := fun dd hd => by
      obtain ⟨z1, z2, z3⟩ := TB _ (List.mem_map.mpr ⟨_, List.mem_map.mpr ⟨dd, hd, rfl⟩, rfl⟩)
      exact ⟨z1, z2, z3⟩
    have o := fn_lkd (def_ok (P := l.prog) (w := w) (base := base) hf FD ok cod (tab_ok F cod n)) (by rw [hps]; rfl)
    rw [hps] at o
    exact o
end Ev
set_option Elab.async false
set_option linter.all false
set_option maxRecDepth 100000
set_option maxHeartbeats 8000000
namespace Ev
open PySem PySem.Spec PyProof.Rows L2
/-! ## rows for going through a body -/
section
variable {S : Store} {Q : DK} {i j : Int} {r : Rho} {N : Dn} {A B : Dn → Rho → Store → Prop}
theorem bin_add : wpBin .add (.int i) (.int j) S Q = Q (.int (i + j)) S := by simp [wpBin, arithOk, arith]
theorem bin_sub : wpBin .sub (.int i) (.int j) S Q = Q (.int (i - j)) S := by simp [wpBin, arithOk, arith]
theorem mulOkL (h1 : -18446744073709551616 < i) (h2 : i < 18446744073709551616) : IntMulOk i j := .of_left (intBits_le_64 (by omega) (by omega))
theorem mulOkR (h1 : -18446744073709551616 < j) (h2 : j < 18446744073709551616) : IntMulOk i j := .of_right (intBits_le_64 (by omega) (by omega))
theorem bin_mul (h : IntMulOk i j) : wpBin .mul (.int i) (.int j) S Q = Q (.int (i * j)) S := by simp [wpBin, arithOk, arith, h]
theorem bin_mulL (h1 : -18446744073709551616 < i) (h2 : i < 18446744073709551616) : wpBin .mul (.int i) (.int j) S Q = Q (.int (i * j)) S := bin_mul (mulOkL h1 h2)
theorem bin_mulR (h1 : -18446744073709551616 < j) (h2 : j < 18446744073709551616) : wpBin .mul (.int i) (.int j) S Q = Q (.int (i * j)) S := bin_mul (mulOkR h1 h2)
theorem bin_mod (h : 0 < j) : wpBin .mod (.int i) (.int j) S Q = Q (.int (i % j)) S := by
  have e : i.fmod j = i % j := Int.fmod_eq_emod_of_nonneg i (by omega)
  have n : j ≠ 0 := by omega
  simp [wpBin, arithOk, arith, e, n]
theorem bin_div (h : 0 < j) (h2 : j < 340282366920938463463374607431768211456) : wpBin .fdiv (.int i) (.int j) S Q = Q (.int (i / j)) S := by
  have e : i.fdiv j = i / j := Int.fdiv_eq_ediv_of_nonneg i (by omega)
  have n : j ≠ 0 ∧ j.natAbs < 340282366920938463463374607431768211456 := ⟨by omega, by omega⟩
  simp [wpBin, arithOk, arith, e, n]
theorem bin_pow (h0 : 0 ≤ j) (h1 : j ≤ 1000000) (h2 : -18446744073709551616 < i) (h3 : i < 18446744073709551616) : wpBin .pow (.int i) (.int j) S Q = Q (.int (i ^ j.toNat)) S := by
  have n : 0 ≤ j ∧ j ≤ 1000000 ∧ i.natAbs < 2 ^ 64 := ⟨h0, h1, by omega⟩
  simp only [wpBin, arithOk, arith]
  rw [eq_iff_iff]
  exact ⟨fun z => z.2, fun z => ⟨n, z⟩⟩
theorem aug_add : wpAug .add (.int i) (.int j) S Q = Q (.int (i + j)) S := by simp [wpAug, arithOk, arith]
theorem aug_sub : wpAug .sub (.int i) (.int j) S Q = Q (.int (i - j)) S := by simp [wpAug, arithOk, arith]
theorem bin_tup {a b : List D} (h : a.length + b.length ≤ 16777216) : wpBin .add (.tup a) (.tup b) S Q = Q (.tup (a ++ b)) S := by
  have e : a.length + b.length ≤ sizeLine := by rw [sizeLine_eq]; exact h
  simp [wpBin, e]
theorem cmp_eq : wpCmp .eq (.int i) (.int j) S Q = Q (.bl (decide (i = j))) S := by
  simp only [wpCmp, pyS, py, Option.some.injEq]
  rw [eq_iff_iff]
  constructor
  · rintro ⟨d, e, rfl, rfl, _, _, z⟩
    rw [← Bool.beq_eq_decide_eq]
    exact z
  · intro z
    refine ⟨_, _, rfl, rfl, rfl, rfl, ?_⟩
    rw [← Bool.beq_eq_decide_eq] at z
    exact z
theorem cmp_ne : wpCmp .ne (.int i) (.int j) S Q = Q (.bl (decide (i ≠ j))) S := by
  simp only [wpCmp, pyS, py, Option.some.injEq]
  have e : decide (i ≠ j) = !(i == j) := by rw [Bool.beq_eq_decide_eq]; simp
  rw [eq_iff_iff, e]
  constructor
  · rintro ⟨d, e, rfl, rfl, _, _, z⟩
    exact z
  · intro z
    exact ⟨_, _, rfl, rfl, rfl, rfl, z⟩
theorem shaped_str {x : Str} : SeqAt.shaped (.str x) = PyData.strOk x := by
  unfold SeqAt.shaped
  rw [decide_eq_true (show PyData.depth (.str x) ≤ 64 from Nat.zero_le _), Bool.and_true]
  rfl
theorem cmp_eqs {x y : Str} : wpCmp .eq (.str x) (.str y) S Q = (PyData.strOk x = true ∧ PyData.strOk y = true ∧ Q (.bl (decide (x = y))) S) := by
  simp only [wpCmp, pyS, py, Option.some.injEq]
  have e : PyData.eqv (.str x) (.str y) = decide (x = y) := by
    show (x == y) = _
    rw [Bool.beq_eq_decide_eq]
  rw [eq_iff_iff]
  constructor
  · rintro ⟨d, f, rfl, rfl, h1, h2, z⟩
    rw [e] at z
    exact ⟨shaped_str ▸ h1, shaped_str ▸ h2, z⟩
  · exact fun ⟨h1, h2, z⟩ => ⟨_, _, rfl, rfl, shaped_str.trans h1, shaped_str.trans h2, by rw [e]; exact z⟩
theorem cmp_eqb {x y : Bool} : wpCmp .eq (.bl x) (.bl y) S Q = Q (.bl (x == y)) S := by
  simp only [wpCmp, pyS, py, Option.some.injEq]
  rw [eq_iff_iff]
  constructor
  · rintro ⟨d, f, rfl, rfl, _, _, z⟩
    exact z
  · exact fun z => ⟨_, _, rfl, rfl, rfl, rfl, z⟩
theorem cmp_lt : wpCmp .lt (.int i) (.int j) S Q = Q (.bl (decide (i < j))) S := by simp [wpCmp]
theorem cmp_le : wpCmp .le (.int i) (.int j) S Q = Q (.bl (decide (i ≤ j))) S := by simp [wpCmp]
theorem cmp_gt : wpCmp .gt (.int i) (.int j) S Q = Q (.bl (decide (j < i))) S := by simp [wpCmp]
theorem cmp_ge : wpCmp .ge (.int i) (.int j) S Q = Q (.bl (decide (j ≤ i))) S := by simp [wpCmp]
theorem cmp_isN {x : D} : wpCmp .is x .non S Q = Q (.bl x.isNon) S := rfl
theorem cmp_notN {x : D} : wpCmp .isnot x .non S Q = Q (.bl (!x.isNon)) S := rfl
theorem cmp_isB {a b : Bool} : wpCmp .is (.bl a) (.bl b) S Q = Q (.bl (a == b)) S := by simp [wpCmp]
theorem ifK_t : ifK true A B N r S = A N r S := by simp [ifK]
theorem ifK_f : ifK false A B N r S = B N r S := by simp [ifK]
theorem ifK_d {p : Prop} [Decidable p] (h1 : p → A N r S) (h2 : ¬ p → B N r S) : ifK (decide p) A B N r S := by
  unfold ifK
  by_cases h : p
  · rw [if_pos (decide_eq_true h)]; exact h1 h
  · rw [if_neg (by simpa using h)]; exact h2 h
theorem ifK_b {c : Bool} (h1 : c = true → A N r S) (h2 : c = false → B N r S) : ifK c A B N r S := by
  unfold ifK
  cases c with
  | true => rw [if_pos rfl]; exact h1 rfl
  | false => rw [if_neg Bool.false_ne_true]; exact h2 rfl
/-- both branches come to P, from which all goes on -/
theorem ifK_join (P : Rho → Store → Prop) {c : Bool} (h : ∀ r S, P r S → N.nx r S) (h1 : ∀ K : Rho → Store → Prop, (∀ r S, P r S → K r S) → c = true → A { N with nx := K } r S) (h2 : ∀ K : Rho → Store → Prop, (∀ r S, P r S → K r S) → c = false → B { N with nx := K } r S) : ifK c A B N r S :=
  ifK_b (fun q => h1 N.nx h q) fun q => h2 N.nx h q
theorem later_in {w : Rho → Store → Prop} (h : w r S) : later w r S := by rw [later_eq]; exact h
end
/-! rows of the wishes -/
/-- one wish or the other, both shut -/
def ifC (c : Bool) (A B : Unit → Prop) : Prop := if c = true then A () else B ()
theorem ifC_t {A B : Unit → Prop} : ifC true A B = A () := by simp [ifC]
theorem ifC_f {A B : Unit → Prop} : ifC false A B = B () := by simp [ifC]
theorem ifC_d {p : Prop} [Decidable p] {A B : Unit → Prop} (h1 : p → A ()) (h2 : ¬ p → B ()) : ifC (decide p) A B := by
  unfold ifC
  by_cases h : p
  · rw [if_pos (decide_eq_true h)]; exact h1 h
  · rw [if_neg (by simpa using h)]; exact h2 h
theorem ifC_2 {p : Prop} [Decidable p] {A B : Unit → Prop} (hB : B ()) (h1 : B () → p → A ()) : ifC (decide p) A B := ifC_d (fun q => h1 hB q) fun _ => hB
theorem ifC_b {c : Bool} {A B : Unit → Prop} (h1 : c = true → A ()) (h2 : c = false → B ()) : ifC c A B := by
  cases c with
  | true => rw [ifC_t]; exact h1 rfl
  | false => rw [ifC_f]; exact h2 rfl
section
variable {C : CallH} {r : Rho} {S : Store} {Q : DK} {R : Bool → Store → Prop}
theorem v_var {i : Nat} : (wp C (.var i)).v r S Q = (∃ d, r[i]? = some (some d) ∧ Q d S) := rfl
theorem t_var' {i : Nat} : (wp C (.var i)).t r S R = ((wp C (.var i)).v r S fun x S1 => ∃ b, truth S1 x = some b ∧ R b S1) := rfl
theorem v_cst {c : Cst} : (wp C (.cst c)).v r S Q = (Q c.d S) := rfl
theorem t_cst' {c : Cst} : (wp C (.cst c)).t r S R = ((wp C (.cst c)).v r S fun x S1 => ∃ b, truth S1 x = some b ∧ R b S1) := rfl
theorem v_bin {op : Bop} {a b : E} : (wp C (.bin op a b)).v r S Q = ((wp C a).v r S fun x S1 => (wp C b).v r S1 fun y S2 => wpBin op x y S2 Q) := rfl
theorem t_bin' {op : Bop} {a b : E} : (wp C (.bin op a b)).t r S R = ((wp C (.bin op a b)).v r S fun x S1 => ∃ b, truth S1 x = some b ∧ R b S1) := rfl
theorem v_neg {a : E} : (wp C (.neg a)).v r S Q = ((wp C a).v r S fun x S1 => wpNeg x S1 Q) := rfl
theorem neg_int {i : Int} : wpNeg (.int i) S Q = Q (.int (-i)) S := rfl
theorem neg_bl {b : Bool} : wpNeg (.bl b) S Q = Q (.int (-b2n b)) S := rfl
theorem bin_addB {b : Bool} {j : Int} : wpBin .add (.bl b) (.int j) S Q = Q (.int (b2n b + j)) S := rfl
theorem bin_subB {b : Bool} {j : Int} : wpBin .sub (.bl b) (.int j) S Q = Q (.int (b2n b - j)) S := rfl
theorem bin_repS {z : Str} {k : Int} : wpBin .mul (.str z) (.int k) S Q = (z.length ≤ 16 ∧ -(2 ^ 63 : Int) ≤ k ∧ k ≤ 1048576 ∧ Q (.str (Txt.mul z k)) S) := rfl
theorem v_rev {a : E} : (wp C (.rev a)).v r S Q = ((wp C a).v r S fun x S1 => ∃ l, x = .tup l ∧ Q (.tup l.reverse) S1) := rfl
theorem bi_strb {b : Bool} : wpBi .str [.bl b] S Q = Q (.str (if b then "True" else "False")) S := by simp [wpBi]
theorem t_neg' {a : E} : (wp C (.neg a)).t r S R = ((wp C (.neg a)).v r S fun x S1 => ∃ b, truth S1 x = some b ∧ R b S1) := rfl
theorem v_cmp {op : Cop} {a b : E} : (wp C (.cmp op a b)).v r S Q = ((wp C a).v r S fun x S1 => (wp C b).v r S1 fun y S2 => wpCmp op x y S2 Q) := rfl
theorem t_cmp' {op : Cop} {a b : E} : (wp C (.cmp op a b)).t r S R = ((wp C (.cmp op a b)).v r S fun x S1 => ∃ b, truth S1 x = some b ∧ R b S1) := rfl
theorem v_chain {o1 o2 : Cop} {a b c : E} : (wp C (.chain o1 o2 a b c)).v r S Q = ((wp C a).v r S fun x S1 => (wp C b).v r S1 fun y S2 => wpCmp o1 x y S2 fun z S3 => ∃ k, z = .bl k ∧ ifC k (fun _ => (wp C c).v r S3 fun u S4 => wpCmp o2 y u S4 Q) (fun _ => Q (.bl false) S3)) := rfl
theorem t_chain' {o1 o2 : Cop} {a b c : E} : (wp C (.chain o1 o2 a b c)).t r S R = ((wp C (.chain o1 o2 a b c)).v r S fun x S1 => ∃ b, truth S1 x = some b ∧ R b S1) := rfl
theorem v_tup {es : Es} : (wp C (.tup es)).v r S Q = (wpEs C es r S fun xs S1 => Q (.tup xs) S1) := rfl
theorem t_tup' {es : Es} : (wp C (.tup es)).t r S R = ((wp C (.tup es)).v r S fun x S1 => ∃ b, truth S1 x = some b ∧ R b S1) := rfl
theorem v_lst {es : Es} : (wp C (.lst es)).v r S Q = (wpEs C es r S fun xs S1 => Q (.ref S1.length) (S1 ++ [.lst xs])) := rfl
theorem t_lst' {es : Es} : (wp C (.lst es)).t r S R = ((wp C (.lst es)).v r S fun x S1 => ∃ b, truth S1 x = some b ∧ R b S1) := rfl
theorem v_idx {a b : E} : (wp C (.idx a b)).v r S Q = ((wp C a).v r S fun x S1 => (wp C b).v r S1 fun y S2 => ∃ l, items S2 x = some l ∧ ∃ i, y = .int i ∧ ∃ d, ixAt l i = some d ∧ Q d S2) := rfl
theorem t_idx' {a b : E} : (wp C (.idx a b)).t r S R = ((wp C (.idx a b)).v r S fun x S1 => ∃ b, truth S1 x = some b ∧ R b S1) := rfl
theorem v_slc {a : E} {lo hi : Eo} : (wp C (.slc a lo hi)).v r S Q = ((wp C a).v r S fun x S1 => wpEo C lo r S1 fun l S2 => wpEo C hi r S2 fun h S3 => wpSlc x l h S3 Q) := rfl
theorem t_slc' {a : E} {lo hi : Eo} : (wp C (.slc a lo hi)).t r S R = ((wp C (.slc a lo hi)).v r S fun x S1 => ∃ b, truth S1 x = some b ∧ R b S1) := rfl
theorem v_call {f : Nat} {es : Es} : (wp C (.call f es)).v r S Q = (wpEs C es r S fun xs S1 => C.go f xs S1 Q noE) := rfl
theorem v_callX {f : Nat} {es : Es} : (wp C (.callX f es)).v r S Q = (wpEs C es r S fun xs S1 => C.go f xs S1 Q C.ex) := rfl
theorem t_callX' {f : Nat} {es : Es} : (wp C (.callX f es)).t r S R = ((wp C (.callX f es)).v r S fun x S1 => ∃ b, truth S1 x = some b ∧ R b S1) := rfl
theorem t_call' {f : Nat} {es : Es} : (wp C (.call f es)).t r S R = ((wp C (.call f es)).v r S fun x S1 => ∃ b, truth S1 x = some b ∧ R b S1) := rfl
theorem v_callKX {f : Nat} {es zs : Es} {ks : List Str} {perm : List Nat} : (wp C (.callKX f es ks zs perm)).v r S Q = (wpEs C es r S fun xs S1 => wpEs C zs r S1 fun ys S2 => C.go f (perm.filterMap fun i => (xs ++ ys)[i]?) S2 Q C.ex) := rfl
theorem t_callKX' {f : Nat} {es zs : Es} {ks : List Str} {perm : List Nat} : (wp C (.callKX f es ks zs perm)).t r S R = ((wp C (.callKX f es ks zs perm)).v r S fun x S1 => ∃ b, truth S1 x = some b ∧ R b S1) := rfl
theorem v_callK {f : Nat} {es zs : Es} {ks : List Str} {perm : List Nat} : (wp C (.callK f es ks zs perm)).v r S Q = (wpEs C es r S fun xs S1 => wpEs C zs r S1 fun ys S2 => C.go f (perm.filterMap fun i => (xs ++ ys)[i]?) S2 Q noE) := rfl
theorem t_callK' {f : Nat} {es zs : Es} {ks : List Str} {perm : List Nat} : (wp C (.callK f es ks zs perm)).t r S R = ((wp C (.callK f es ks zs perm)).v r S fun x S1 => ∃ b, truth S1 x = some b ∧ R b S1) := rfl
theorem v_bi {b : Bi} {es : Es} : (wp C (.bi b es)).v r S Q = (wpEs C es r S fun xs S1 => wpBi b xs S1 Q) := rfl
theorem t_bi' {b : Bi} {es : Es} : (wp C (.bi b es)).t r S R = ((wp C (.bi b es)).v r S fun x S1 => ∃ b, truth S1 x = some b ∧ R b S1) := rfl
theorem v_isi {a : E} {t : Ty} : (wp C (.isi a t)).v r S Q = ((wp C a).v r S fun x S1 => ∃ b, isTy t x = some b ∧ Q (.bl b) S1) := rfl
theorem t_isi' {a : E} {t : Ty} : (wp C (.isi a t)).t r S R = ((wp C (.isi a t)).v r S fun x S1 => ∃ b, truth S1 x = some b ∧ R b S1) := rfl
theorem v_meth {me : Me} {o : E} {es : Es} : (wp C (.meth me o es)).v r S Q = ((wp C o).v r S fun x S1 => (∃ n, x = .ref n ∧ ∃ l, S1[n]? = some (.lst l)) ∧ wpEs C es r S1 fun xs S2 => wpMe me x xs S2 Q) := rfl
theorem t_meth' {me : Me} {o : E} {es : Es} : (wp C (.meth me o es)).t r S R = ((wp C (.meth me o es)).v r S fun x S1 => ∃ b, truth S1 x = some b ∧ R b S1) := rfl
theorem v_lc {elt : E} {g : G} {it : It} {cs : Es} {own : List Nat} : (wp C (.lc elt g it cs own)).v r S Q = (wpI C it r S fun src S1 => lcLoop src.stay (wpG C g) (wpTs C cs) (wp C elt).v (wipeD r own) src.its S1 [] fun acc S2 => Q (.ref S2.length) (S2 ++ [.lst acc])) := rfl
theorem v_lc2 {elt : E} {g g1 : G} {it it1 : It} {cs cs1 : Es} {own vs1 : List Nat} : (wp C (.lc2 elt g it cs g1 it1 cs1 own vs1)).v r S Q = (wpI C it r S fun src S1 => lc2Loop src.stay (wpG C g) (wpTs C cs) (fun r1 S2 acc K => wpI C it1 r1 S2 fun src1 S3 => lcLoop src1.stay (wpG C g1) (wpTs C cs1) (wp C elt).v (wipeD r1 vs1) src1.its S3 acc K) (wipeD r own) src.its S1 [] fun acc S2 => Q (.ref S2.length) (S2 ++ [.lst acc])) := rfl
theorem t_lc' {elt : E} {g : G} {it : It} {cs : Es} {own : List Nat} : (wp C (.lc elt g it cs own)).t r S R = ((wp C (.lc elt g it cs own)).v r S fun x S1 => ∃ b, truth S1 x = some b ∧ R b S1) := rfl
theorem v_gen {k : GK} {elt : E} {g : G} {it : It} {cs : Es} {own : List Nat} : (wp C (.gen k elt g it cs own)).v r S Q = (wpI C it r S fun src S1 => gLoop src.stay (wpG C g) (wpTs C cs) (wp C elt).v (wipeD r own) (gStep k Q) (gFin k Q) src.its S1 []) := rfl
theorem t_gen' {k : GK} {elt : E} {g : G} {it : It} {cs : Es} {own : List Nat} : (wp C (.gen k elt g it cs own)).t r S R = ((wp C (.gen k elt g it cs own)).v r S fun x S1 => ∃ b, truth S1 x = some b ∧ R b S1) := rfl
theorem t_rev' {a : E} : (wp C (.rev a)).t r S R = ((wp C (.rev a)).v r S fun x S1 => ∃ b, truth S1 x = some b ∧ R b S1) := rfl
theorem v_lsI {it : It} : (wp C (.lsI it)).v r S Q = (wpI C it r S fun src S1 => src.its.length ≤ 1000000 ∧ Q (.ref S1.length) (S1 ++ [.lst src.its])) := rfl
theorem t_lsI' {it : It} : (wp C (.lsI it)).t r S R = ((wp C (.lsI it)).v r S fun x S1 => ∃ b, truth S1 x = some b ∧ R b S1) := rfl
theorem v_dlit {ks : List Str} {es : Es} : (wp C (.dlit ks es)).v r S Q = wpEs C es r (S ++ [.dic []]) fun xs S1 => S1[S.length]? = some (.dic []) ∧ Q (.ref S.length) (S1.set S.length (.dic (mergeD [] ((ks.map Sum.inr).zip xs)))) := rfl
theorem v_dnew : (wp C .dnew).v r S Q = Q (.ref S.length) (S ++ [.dic []]) := rfl
theorem v_dget {o i : E} : (wp C (.dget o i)).v r S Q = ((wp C o).v r S fun x S1 => (wp C i).v r S1 fun y S2 => ∃ n, x = .ref n ∧ ∃ l, S2[n]? = some (.dic l) ∧ ∃ c, keyD y = some c ∧ ∃ d, valD l c = some d ∧ Q d S2) := rfl
theorem t_dget' {o i : E} : (wp C (.dget o i)).t r S R = ((wp C (.dget o i)).v r S fun x S1 => ∃ b, truth S1 x = some b ∧ R b S1) := rfl
theorem v_din {neg : Bool} {i o : E} : (wp C (.din neg i o)).v r S Q = ((wp C i).v r S fun y S1 => (wp C o).v r S1 fun x S2 => ∃ n, x = .ref n ∧ ∃ l, S2[n]? = some (.dic l) ∧ ∃ c, keyD y = some c ∧ Q (.bl (neg != (valD l c).isSome)) S2) := rfl
theorem t_din' {neg : Bool} {i o : E} : (wp C (.din neg i o)).t r S R = ((wp C (.din neg i o)).v r S fun x S1 => ∃ b, truth S1 x = some b ∧ R b S1) := rfl
theorem key_int {n : Int} : keyD (.int n) = some (.inl n) := rfl
theorem key_str {z : Str} : keyD (.str z) = some (.inr z) := rfl
theorem gs_any {acc : List D} {y : D} {go : List D → Store → Prop} : gStep .any Q acc y S go = ∃ t, y = .bl t ∧ ifC t (fun _ => Q (.bl true) S) (fun _ => go (acc ++ [y]) S) := rfl
theorem gs_all {acc : List D} {y : D} {go : List D → Store → Prop} : gStep .all Q acc y S go = ∃ t, y = .bl t ∧ ifC t (fun _ => go (acc ++ [y]) S) (fun _ => Q (.bl false) S) := rfl
theorem gs_tup {acc : List D} {y : D} {go : List D → Store → Prop} : gStep .tuple Q acc y S go = (acc.length < sizeLine ∧ go (acc ++ [y]) S) := rfl
theorem gs_max {acc : List D} {y : D} {go : List D → Store → Prop} : gStep .max Q acc y S go = (acc.length < sizeLine ∧ (∃ i, y = .int i) ∧ go (acc ++ [y]) S) := rfl
theorem gs_min {acc : List D} {y : D} {go : List D → Store → Prop} : gStep .min Q acc y S go = (acc.length < sizeLine ∧ (∃ i, y = .int i) ∧ go (acc ++ [y]) S) := rfl
theorem gf_max {acc : List D} : gFin .max Q acc S = ∃ a ns, ints? acc = some (a :: ns) ∧ Q (.int (maxL a ns)) S := rfl
theorem gf_min {acc : List D} : gFin .min Q acc S = ∃ a ns, ints? acc = some (a :: ns) ∧ Q (.int (minL a ns)) S := rfl
theorem gf_any {acc : List D} : gFin .any Q acc S = Q (.bl false) S := rfl
theorem gf_all {acc : List D} : gFin .all Q acc S = Q (.bl true) S := rfl
theorem gf_tup {acc : List D} : gFin .tuple Q acc S = Q (.tup acc) S := rfl
theorem v_and {a b : E} : (wp C (.and a b)).v r S Q = ((wp C a).v r S fun x S1 => ∃ c, x = .bl c ∧ ifC c (fun _ => (wp C b).v r S1 Q) (fun _ => Q (.bl false) S1)) := rfl
theorem v_or {a b : E} : (wp C (.or a b)).v r S Q = ((wp C a).v r S fun x S1 => ∃ c, x = .bl c ∧ ifC c (fun _ => Q (.bl true) S1) (fun _ => (wp C b).v r S1 Q)) := rfl
theorem v_not {a : E} : (wp C (.not a)).v r S Q = ((wp C a).v r S fun x S1 => ∃ c, x = .bl c ∧ Q (.bl (!c)) S1) := rfl
theorem v_ite {t a b : E} : (wp C (.ite t a b)).v r S Q = ((wp C t).t r S fun c S1 => ifC c (fun _ => (wp C a).v r S1 Q) (fun _ => (wp C b).v r S1 Q)) := rfl
theorem tt_and {a b : E} : (wp C (.and a b)).t r S R = ((wp C a).t r S fun c S1 => ifC c (fun _ => (wp C b).t r S1 R) (fun _ => R false S1)) := rfl
theorem tt_or {a b : E} : (wp C (.or a b)).t r S R = ((wp C a).t r S fun c S1 => ifC c (fun _ => R true S1) (fun _ => (wp C b).t r S1 R)) := rfl
theorem tt_not {a : E} : (wp C (.not a)).t r S R = ((wp C a).t r S fun c S1 => R (!c) S1) := rfl
theorem e_v {e : E} : wpE C e r S Q = (wp C e).v r S Q := rfl
theorem e_t {e : E} : wpT C e r S R = (wp C e).t r S R := rfl
theorem bi_lenT {l : List D} : wpBi .len [.tup l] S Q = Q (.int l.length) S := by
  simp [wpBi, items]
theorem bi_lenC {l : List D} : wpBi .len [.cl l] S Q = Q (.int l.length) S := by
  simp [wpBi, items]
theorem bi_lenS {z : Str} : wpBi .len [.str z] S Q = (z.length ≤ sizeLine ∧ Q (.int z.length) S) := by
  simp [wpBi, items]
def Ob.len : Ob → Nat
  | .lst l => l.length
  | .dic l => l.length
theorem ol_lst {l : List D} : Ob.len (.lst l) = l.length := rfl
theorem ol_dic {l : List (Key × D)} : Ob.len (.dic l) = l.length := rfl
theorem its_ref {n : Nat} {l : List D} : (items S (.ref n) = some l) = (S[n]? = some (.lst l)) := by
  unfold items
  rw [eq_iff_iff]
  cases q : S[n]? with
  | none => simp [q]
  | some o => cases o <;> simp [q]
theorem bi_lenR {n : Nat} : wpBi .len [.ref n] S Q = ∃ o, S[n]? = some o ∧ Q (.int o.len) S := by
  rw [eq_iff_iff]
  constructor
  · rintro (⟨x, l, e, h, q⟩ | ⟨z, e, _⟩ | ⟨k, l, e, h, q⟩)
    · cases e
      rw [its_ref] at h
      exact ⟨_, h, q⟩
    · cases e
    · cases e
      exact ⟨_, h, q⟩
  · rintro ⟨o, h, q⟩
    cases o with
    | lst l => exact .inl ⟨_, l, rfl, by rw [its_ref]; exact h, q⟩
    | dic l => exact .inr (.inr ⟨n, l, rfl, h, q⟩)
theorem bi_str {i : Int} : wpBi .str [.int i] S Q = (i.natAbs.log2 < 1920 ∧ Q (.str (toString i)) S) := by simp [wpBi]
theorem bi_int {i : Int} : wpBi .int [.int i] S Q = Q (.int i) S := by simp [wpBi]
theorem bi_intb {b : Bool} : wpBi .int [.bl b] S Q = Q (.int (if b = true then 1 else 0)) S := by simp [wpBi]
theorem bi_abs {i : Int} : wpBi .abs [.int i] S Q = Q (.int (if i < 0 then -i else i)) S := by simp [wpBi]
theorem bi_tuple {x : D} : wpBi .tuple [x] S Q = ∃ l, items S x = some l ∧ Q (.tup l) S := by simp [wpBi]
theorem bi_list {x : D} : wpBi .list [x] S Q = ∃ l, items S x = some l ∧ Q (.ref S.length) (S ++ [.lst l]) := by simp [wpBi]
theorem bi_sum {x : D} : wpBi .sum [x] S Q = ∃ l, items S x = some l ∧ ∃ ns, ints? l = some ns ∧ Q (.int ns.sum) S := by simp [wpBi]
theorem bi_max {i j : Int} : wpBi .max [.int i, .int j] S Q = Q (.int (if j > i then j else i)) S := by
  rw [eq_iff_iff]
  constructor
  · rintro (⟨a, b, e, z⟩ | ⟨x, l, ns, e, _⟩)
    · cases e
      exact z
    · cases e
  · exact fun z => .inl ⟨i, j, rfl, z⟩
theorem bi_min {i j : Int} : wpBi .min [.int i, .int j] S Q = Q (.int (if j < i then j else i)) S := by
  rw [eq_iff_iff]
  constructor
  · rintro (⟨a, b, e, z⟩ | ⟨x, l, ns, e, _⟩)
    · cases e
      exact z
    · cases e
  · exact fun z => .inl ⟨i, j, rfl, z⟩
/-- the greatest of a list -/
theorem bi_maxR {n : Nat} : wpBi .max [.ref n] S Q = ∃ l ns, S[n]? = some (.lst l) ∧ ints? l = some ns ∧ 0 < ns.length ∧ ∀ m, m ∈ ns → (∀ y, y ∈ ns → y ≤ m) → Q (.int m) S := by
  rw [eq_iff_iff]
  constructor
  · rintro (⟨a, b, e, z⟩ | ⟨x, l, ns, e, _, h1, h2⟩)
    · cases e
    · cases e
      rw [its_ref] at h1
      exact ⟨l, ns, h1, h2⟩
  · exact fun ⟨l, ns, h1, h2⟩ => .inr ⟨_, l, ns, rfl, rfl, its_ref.mpr h1, h2⟩
theorem bi_minR {n : Nat} : wpBi .min [.ref n] S Q = ∃ l ns, S[n]? = some (.lst l) ∧ ints? l = some ns ∧ 0 < ns.length ∧ ∀ m, m ∈ ns → (∀ y, y ∈ ns → m ≤ y) → Q (.int m) S := by
  rw [eq_iff_iff]
  constructor
  · rintro (⟨a, b, e, z⟩ | ⟨x, l, ns, e, _, h1, h2⟩)
    · cases e
    · cases e
      rw [its_ref] at h1
      exact ⟨l, ns, h1, h2⟩
  · exact fun ⟨l, ns, h1, h2⟩ => .inr ⟨_, l, ns, rfl, rfl, its_ref.mpr h1, h2⟩
theorem bi_sortedR {n : Nat} : wpBi .sorted [.ref n] S Q = ∃ l ns, S[n]? = some (.lst l) ∧ ints? l = some ns ∧ ns.length < 64 ∧ ∀ ns' : List Int, ns'.Perm ns → ns'.Pairwise (· ≤ ·) → Q (.ref S.length) (S ++ [.lst (ns'.map D.int)]) := by
  rw [eq_iff_iff]
  constructor
  · rintro ⟨x, l, ns, e, _, h1, h2⟩
    cases e
    rw [its_ref] at h1
    exact ⟨l, ns, h1, h2⟩
  · exact fun ⟨l, ns, h1, h2⟩ => ⟨_, l, ns, rfl, rfl, its_ref.mpr h1, h2⟩
theorem me_extend {n k : Nat} : wpMe .extend (.ref n) [.ref k] S Q = ∃ l m, S[n]? = some (.lst l) ∧ S[k]? = some (.lst m) ∧ l.length + m.length ≤ sizeLine ∧ Q .non (S.set n (.lst (l ++ m))) := by simp [wpMe]
theorem me_append {n : Nat} {y : D} : wpMe .append (.ref n) [y] S Q = ∃ l, S[n]? = some (.lst l) ∧ l.length < sizeLine ∧ Q .non (S.set n (.lst (l ++ [y]))) := by simp [wpMe]
end
/-! rows of statements -/
section
variable {C : CallH} {r : Rho} {S : Store} {Q : DK} {N : Dn} {R : Bool → Store → Prop} {e o i : E} {a b rest : Bs} {s : Sm} {op : Bop} {g : G} {it : It} {k : Nat}
theorem sb_nil : wpB C .nil N r S = N.nx r S := rfl
theorem sb_cons : wpB C (.cons s rest) N r S = wpS C s { N with nx := later (wpB C rest N) } r S := rfl
theorem ss_expr : wpS C (.expr e) N r S = (wp C e).v r S fun _ S1 => N.nx r S1 := rfl
theorem ss_ret : wpS C (.ret e) N r S = (wp C e).v r S N.rt := rfl
theorem ss_retN : wpS C .retN N r S = N.rt .non S := rfl
theorem ss_ifs : wpS C (.ifs e a b) N r S = (wp C e).t r S fun c S1 => ifK c (wpB C a) (wpB C b) N r S1 := rfl
theorem ss_fors : wpS C (.fors g it b) N r S = wpI C it r S fun src S1 => forLoop src.stay (wpG C g) (wpB C b) N src.its r S1 := rfl
theorem ss_asg : wpS C (.asg g e) N r S = (wp C e).v r S fun x S1 => wpG C g x r S1 N.nx := rfl
theorem ss_aug : wpS C (.aug k op e) N r S = ∃ d, r[k]? = some (some d) ∧ (wp C e).v r S fun y S1 => wpAug op d y S1 fun z S2 => N.nx (r.set k (some z)) S2 := rfl
theorem ss_augS : wpS C (.augS o i op e) N r S = (wp C o).v r S fun x S1 => (wp C i).v r S1 fun y S2 => ∃ n, x = .ref n ∧ ∃ k, y = .int k ∧ ∃ l, S2[n]? = some (.lst l) ∧ 0 ≤ k ∧ ∃ d, ixAt l k = some d ∧
      (wp C e).v r S2 fun z S3 => wpAug op d z S3 fun u S4 => ∃ l', S4[n]? = some (.lst l') ∧ ∃ j, ixN l'.length k = some j ∧ N.nx r (S4.set n (.lst (l'.set j u))) := rfl
theorem ss_raise {es : Es} : wpS C (.raise k es) N r S = wpEs C es r S fun xs S1 => C.ex k xs S1 := rfl
theorem ss_pass : wpS C .pass N r S = N.nx r S := rfl
theorem ss_brk : wpS C .brk N r S = N.bk r S := rfl
theorem ss_cont : wpS C .cont N r S = N.ct r S := rfl
theorem se_nil {Q : List D → Store → Prop} : wpEs C .nil r S Q = Q [] S := rfl
theorem se_cons {es : Es} {Q : List D → Store → Prop} : wpEs C (.cons e es) r S Q = (wp C e).v r S fun x S1 => wpEs C es r S1 fun xs S2 => Q (x :: xs) S2 := rfl
theorem so_none {Q : Option Int → Store → Prop} : wpEo C .none r S Q = Q none S := rfl
theorem so_some {Q : Option Int → Store → Prop} : wpEo C (.some e) r S Q = (wp C e).v r S fun x S1 => ∃ i, x = .int i ∧ Q (some i) S1 := rfl
theorem sts_nil : wpTs C .nil r S R = R true S := rfl
theorem sts_cons {es : Es} : wpTs C (.cons e es) r S R = (wp C e).t r S R := rfl
theorem sg_name {d : D} {Q : Rho → Store → Prop} : wpG C (.name k) d r S Q = Q (r.set k (some d)) S := rfl
theorem sg_tup {l : List D} {gs : Gs} {Q : Rho → Store → Prop} : wpG C (.tup gs) (.tup l) r S Q = (l.length = lenGs gs ∧ wpGs C gs l r S Q) := by
  rw [eq_iff_iff]
  constructor
  · rintro ⟨ds, e, h⟩
    cases e
    exact h
  · exact fun h => ⟨l, rfl, h⟩
theorem sg_tupR {n : Nat} {gs : Gs} {Q : Rho → Store → Prop} : wpG C (.tup gs) (.ref n) r S Q = ∃ l, items S (.ref n) = some l ∧ l.length = lenGs gs ∧ wpGs C gs l r S Q := rfl
theorem sg_sub {d : D} {Q : Rho → Store → Prop} : wpG C (.sub o i) d r S Q = (wp C o).v r S fun x S1 => (wp C i).v r S1 fun y S2 => ∃ n, x = .ref n ∧ ∃ k, y = .int k ∧ ∃ l, S2[n]? = some (.lst l) ∧ ∃ j, ixN l.length k = some j ∧ Q r (S2.set n (.lst (l.set j d))) := rfl
theorem sg_subD {d : D} {Q : Rho → Store → Prop} : wpG C (.subD o i) d r S Q = (wp C o).v r S fun x S1 => (wp C i).v r S1 fun y S2 => ∃ n, x = .ref n ∧ ∃ l, S2[n]? = some (.dic l) ∧ ∃ c, keyD y = some c ∧ l.length < sizeLine ∧ Q r (S2.set n (.dic (putD l c d))) := rfl
/-- the wish about exceptions within a try -/
def tryEx (h : Hn) (N : Dn) (ex : EK) : EK := fun j fs S' => if j = h.cl then ∃ v, h.he.val h.fl fs = some v ∧ N.rt v S' else ex j fs S'
theorem ss_try2 {h1 h2 : Hn} : wpS C (.try2 b h1 h2) N r S = wpB ⟨C.go, tryEx h1 N (tryEx h2 N C.ex)⟩ b N r S := rfl
theorem ss_try {h : Hn} : wpS C (.tryR b h) N r S = wpB ⟨C.go, tryEx h N C.ex⟩ b N r S := rfl
theorem tryEx_at {h : Hn} {ex : EK} {fs : List D} : tryEx h N ex h.cl fs S = ∃ v, h.he.val h.fl fs = some v ∧ N.rt v S := if_pos rfl
theorem tryEx_ne {h : Hn} {ex : EK} {j : Nat} {fs : List D} (hj : j ≠ h.cl) : tryEx h N ex j fs S = ex j fs S := if_neg hj
theorem sgs_nil {Q : Rho → Store → Prop} : wpGs C .nil [] r S Q = Q r S := by
  rw [eq_iff_iff]
  exact ⟨fun h => h.2, fun h => ⟨rfl, h⟩⟩
theorem sgs_cons {d : D} {ds : List D} {gs : Gs} {Q : Rho → Store → Prop} : wpGs C (.cons g gs) (d :: ds) r S Q = wpG C g d r S fun r1 S1 => wpGs C gs ds r1 S1 Q := by
  rw [eq_iff_iff]
  constructor
  · rintro ⟨x, xs, e, h⟩
    cases e
    exact h
  · exact fun h => ⟨d, ds, rfl, h⟩
theorem si_val {Q : Src → Store → Prop} : wpI C (.val e) r S Q = (wp C e).v r S fun x S1 => wpSrc x S1 Q := rfl
theorem si_rng1 {Q : Src → Store → Prop} : wpI C (.rng1 e) r S Q = (wp C e).v r S fun x S1 => ∃ j : Int, x = .int j ∧ -(2 ^ 62) ≤ j ∧ j < 2 ^ 62 ∧ Q ⟨rngL 0 j.toNat, fun _ => True⟩ S1 := rfl
theorem si_rng2 {Q : Src → Store → Prop} : wpI C (.rng2 o i) r S Q = (wp C o).v r S fun x S1 => (wp C i).v r S1 fun y S2 => ∃ a : Int, x = .int a ∧ ∃ b : Int, y = .int b ∧ (-(2 ^ 62) ≤ a ∧ a < 2 ^ 62 ∧ -(2 ^ 62) ≤ b ∧ b < 2 ^ 62) ∧ Q ⟨rngL a (b - a).toNat, fun _ => True⟩ S2 := rfl
theorem si_zip {Q : Src → Store → Prop} : wpI C (.zip o i) r S Q = (wp C o).v r S fun x S1 => (wp C i).v r S1 fun y S2 => wpZip x y S2 Q := rfl
theorem zp_tup {l k : List D} {Q : Src → Store → Prop} : wpZip (.tup l) (.tup k) S Q = Q ⟨zipL l k, fun _ => True⟩ S := by
  rw [eq_iff_iff]
  constructor
  · rintro (⟨_, _, e1, e2, h⟩ | ⟨_, _, _, _, e1, _⟩)
    · cases e1; cases e2; exact h
    · cases e1
  · exact fun h => .inl ⟨l, k, rfl, rfl, h⟩
theorem src_tup {l : List D} {Q : Src → Store → Prop} : wpSrc (.tup l) S Q = Q ⟨l, fun _ => True⟩ S := rfl
theorem src_cl {l : List D} {Q : Src → Store → Prop} : wpSrc (.cl l) S Q = Q ⟨l, fun _ => True⟩ S := rfl
theorem src_ref {n : Nat} {Q : Src → Store → Prop} : wpSrc (.ref n) S Q = ∃ l, items S (.ref n) = some l ∧ Q (.live n S l) S := rfl
theorem slc_tup {l : List D} {lo hi : Option Int} : wpSlc (.tup l) lo hi S Q = Q (.tup (cut l lo hi)) S := rfl
theorem slc_cl {l : List D} {lo hi : Option Int} : wpSlc (.cl l) lo hi S Q = Q (.ref S.length) (S ++ [.lst (cut l lo hi)]) := rfl
theorem slc_str {z : Str} {lo hi : Option Int} : wpSlc (.str z) lo hi S Q = (z.length ≤ sizeLine ∧ Q (.str (cutS z lo hi)) S) := rfl
theorem slc_ref {n : Nat} {lo hi : Option Int} : wpSlc (.ref n) lo hi S Q = ∃ l, items S (.ref n) = some l ∧ Q (.ref S.length) (S ++ [.lst (cut l lo hi)]) := rfl
theorem its_tup {l : List D} : items S (.tup l) = some l := rfl
theorem its_cl {l : List D} : items S (.cl l) = some l := rfl
theorem tr_non : truth S .non = some false := rfl
theorem tr_bl {b : Bool} : truth S (.bl b) = some b := rfl
theorem tr_int {i : Int} : truth S (.int i) = some (i != 0) := rfl
theorem tr_tup {l : List D} : truth S (.tup l) = some (!l.isEmpty) := rfl
theorem nn_non : D.isNon .non = true := rfl
theorem nn_int {i : Int} : D.isNon (.int i) = false := rfl
theorem nn_tup {l : List D} : D.isNon (.tup l) = false := rfl
theorem nn_bl {b : Bool} : D.isNon (.bl b) = false := rfl
theorem nn_str {b : Str} : D.isNon (.str b) = false := rfl
theorem ty_int {i : Int} : isTy .int (.int i) = some true := rfl
theorem ty_intb {i : Bool} : isTy .int (.bl i) = some true := rfl
theorem ty_bool {i : Int} : isTy .bool (.int i) = some false := rfl
theorem ty_boolb {i : Bool} : isTy .bool (.bl i) = some true := rfl
theorem ty_boolt {i : List D} : isTy .bool (.tup i) = some false := rfl
theorem ty_intt {i : List D} : isTy .int (.tup i) = some false := rfl
theorem ty_tup {i : List D} : isTy .tuple (.tup i) = some true := rfl
theorem ty_tupi {i : Int} : isTy .tuple (.int i) = some false := rfl
theorem ty_tupb {i : Bool} : isTy .tuple (.bl i) = some false := rfl
theorem ty_inon : isTy .int .non = some false := rfl
theorem ty_bnon : isTy .bool .non = some false := rfl
theorem ty_tnon : isTy .tuple .non = some false := rfl
theorem ty_snon : isTy .str .non = some false := rfl
theorem ty_ints {x : Str} : isTy .int (.str x) = some false := rfl
theorem ty_bools {x : Str} : isTy .bool (.str x) = some false := rfl
theorem ty_tups {x : Str} : isTy .tuple (.str x) = some false := rfl
theorem ty_stri {x : Int} : isTy .str (.int x) = some false := rfl
theorem ty_strb {x : Bool} : isTy .str (.bl x) = some false := rfl
theorem ty_strt {x : List D} : isTy .str (.tup x) = some false := rfl
theorem ty_ref {t : Ty} {k : Nat} : isTy t (.ref k) = some false := rfl
theorem ty_sstr {x : Str} : isTy .str (.str x) = some true := rfl
theorem cst_int {n : Int} : Cst.d (.int n) = .int n := rfl
theorem cst_bl {n : Bool} : Cst.d (.bl n) = .bl n := rfl
theorem cst_str {n : Str} : Cst.d (.str n) = .str n := rfl
theorem cst_non : Cst.d .non = .non := rfl
theorem lg_nil : lenGs .nil = 0 := rfl
theorem lg_cons {gs : Gs} : lenGs (.cons g gs) = lenGs gs + 1 := rfl
theorem d_int {i j : Int} : (D.int i = D.int j) = (i = j) := by simp
theorem d_bl {i j : Bool} : (D.bl i = D.bl j) = (i = j) := by simp
theorem d_ref {i j : Nat} : (D.ref i = D.ref j) = (i = j) := by simp
end
/-! lists of ints -/
theorem ints_map : ∀ w : List Int, ints? (w.map D.int) = some w
  | [] => rfl
  | i :: r => by
    show (ints? (r.map D.int)).map (i :: ·) = _
    rw [ints_map r]; rfl
theorem ixAt_nat {l : List D} {i : Int} {d : D} (h0 : 0 ≤ i) (h : l[i.toNat]? = some d) : ixAt l i = some d := by
  have z := atI_nat (xs := l) (j := i.toNat) h
  have e : ((i.toNat : Nat) : Int) = i := by omega
  rw [e] at z
  exact z
theorem ixAt_ints {w : List Int} {i : Int} (h0 : 0 ≤ i) (h1 : i < w.length) : ixAt (w.map D.int) i = some (.int (w.getD i.toNat 0)) := by
  refine ixAt_nat h0 ?_
  have h : i.toNat < w.length := by omega
  rw [List.getElem?_map, List.getElem?_eq_getElem h, List.getD_eq_getElem?_getD, List.getElem?_eq_getElem h]
  rfl
theorem ix0 {a : D} {l : List D} : ixAt (a :: l) 0 = some a := ixAt_nat (by omega) rfl
/-! stores -/
theorem st_len (S : Store) (l : List Ob) : (S ++ l).length = S.length + l.length := List.length_append
theorem st_get (S : Store) (l : List Ob) (i : Nat) : (S ++ l)[S.length + i]? = l[i]? := by
  rw [List.getElem?_append_right (by omega)]
  congr 1
  omega
theorem st_get0 (S : Store) (l : List Ob) : (S ++ l)[S.length]? = l[0]? := by
  rw [List.getElem?_append_right (by omega)]
  simp
theorem st_set (S : Store) (l : List Ob) (i : Nat) (o : Ob) : (S ++ l).set (S.length + i) o = S ++ l.set i o := by
  rw [List.set_append, if_neg (by omega)]
  congr 2
  omega
theorem st_set0 (S : Store) (l : List Ob) (o : Ob) : (S ++ l).set S.length o = S ++ l.set 0 o := by
  rw [List.set_append, if_neg (by omega)]
  simp
theorem st_app (S : Store) (l k : List Ob) : (S ++ l) ++ k = S ++ (l ++ k) := List.append_assoc ..
theorem ret_pure {S : Store} {d : D} {g : List Ob} {Q : DK} (hc : clD S.length d = true) (h : Q d S) : Ret S d (S ++ g) Q := .inr ⟨S, g, rfl, rfl, hc, fun o ho => .inl ho, h⟩
theorem ret_same {S S' : Store} {d : D} {Q : DK} (h : Q d S') : Ret S d S' Q := .inl h
theorem ret_one {S S' : Store} {d : D} {g : List Ob} {n : Nat} {o : Ob} {Q : DK} (hc : clD S.length d = true) (ho : clO S.length o = true) (h : Q d (S.set n o)) : Ret S d (S.set n o ++ g) Q :=
  .inr ⟨S.set n o, g, rfl, by simp, hc, fun u hu => by
    rcases List.mem_or_eq_of_mem_set hu with z | z
    · exact .inl z
    · exact .inr (by rw [z]; exact ho), h⟩
end Ev
set_option Elab.async false
set_option linter.all false
set_option maxRecDepth 100000
set_option maxHeartbeats 8000000
namespace Ev
open PySem PySem.Spec PyProof.Rows L2
/-! ## loops -/
def ifL (c : Bool) (A B : Rho → Store → Prop) (r : Rho) (S : Store) : Prop := if c = true then A r S else B r S
theorem ifL_t {A B : Rho → Store → Prop} {r : Rho} {S : Store} : ifL true A B r S = later A r S := by rw [later_eq]; simp [ifL]
theorem ifL_f {A B : Rho → Store → Prop} {r : Rho} {S : Store} : ifL false A B r S = later B r S := by rw [later_eq]; simp [ifL]
theorem ifL_d {p : Prop} [Decidable p] {A B : Rho → Store → Prop} {r : Rho} {S : Store} (h1 : p → later A r S) (h2 : ¬ p → later B r S) : ifL (decide p) A B r S := by
  by_cases h : p
  · rw [decide_eq_true h, ifL_t]; exact h1 h
  · rw [decide_eq_false h, ifL_f]; exact h2 h
theorem ifL_b {c : Bool} {A B : Rho → Store → Prop} {r : Rho} {S : Store} (h1 : c = true → later A r S) (h2 : c = false → later B r S) : ifL c A B r S := by
  cases c with
  | true => rw [ifL_t]; exact h1 rfl
  | false => rw [ifL_f]; exact h2 rfl
section
variable {C : CallH} {r : Rho} {S : Store} {N : Dn} {t : E} {b : Bs}
/-- a while: I holds at each test, its number falls with each turn -/
theorem whl_by (I : Nat → Rho → Store → Prop) (m : Nat) (h0 : I m r S)
    (hs : ∀ m r S (K : Rho → Store → Prop), I m r S → (∀ m' r S, m' < m → I m' r S → K r S) → (wp C t).t r S fun c S1 => ifL c (wpB C b { nx := K, rt := N.rt, bk := N.nx, ct := K }) N.nx r S1) : wpS C (.whl t b) N r S :=
  ⟨I, ⟨m, h0⟩, fun m r S h => hs m r S _ h fun m' _ _ hm hi => ⟨m', hm, hi⟩⟩
/-- a for over known items: I holds ahead of each turn; K is what comes behind the turn -/
theorem for_by {stay : Store → Prop} {tg : D → Rho → Store → (Rho → Store → Prop) → Prop} {body : Dn → Rho → Store → Prop} {its : List D} (I : Nat → Rho → Store → Prop) (h0 : I 0 r S) (hst : ∀ i r S, I i r S → stay S)
    (hs : ∀ (i : Nat) x r S (K : Rho → Store → Prop), its[i]? = some x → I i r S → (∀ r S, I (i + 1) r S → K r S) → tg x r S fun r1 S1 => body { nx := K, rt := N.rt, bk := N.nx, ct := K } r1 S1) (hd : ∀ r S, I its.length r S → N.nx r S) : forLoop stay tg body N its r S := by
  have go : ∀ (l : List D) (i : Nat) (r : Rho) (S : Store), its.drop i = l → i ≤ its.length → I i r S → forLoop stay tg body N l r S := by
    intro l
    induction l with
    | nil =>
      intro i r S e hi h
      have : i = its.length := by
        have z := congrArg List.length e
        rw [List.length_drop, List.length_nil] at z
        omega
      subst this
      exact ⟨hst _ _ _ h, hd r S h⟩
    | cons x xs ih =>
      intro i r S e hi h
      have hlt : i < its.length := by
        have z := congrArg List.length e
        rw [List.length_drop, List.length_cons] at z
        omega
      rw [List.drop_eq_getElem_cons hlt] at e
      injection e with e1 e2
      exact ⟨hst _ _ _ h, hs i x r S _ (by rw [List.getElem?_eq_getElem hlt, e1]) h fun r' S' q => ih (i + 1) r' S' e2 hlt q⟩
  exact go its 0 r S (by simp) (Nat.zero_le _) h0
theorem rngL_at {lo : Int} {n i : Nat} {x : D} (h : (rngL lo n)[i]? = some x) : i < n ∧ x = .int (lo + (i : Int)) := by
  have hi : i < n := by
    have := (List.getElem?_eq_some_iff.mp h).1
    simpa [rngL] using this
  rw [rngL_get hi] at h
  exact ⟨hi, (Option.some.inj h).symm⟩
theorem rngL_length {lo : Int} {n : Nat} : (rngL lo n).length = n := by simp [rngL]
end
/-! ## stores that differ at one place -/
theorem get_set_self {S : Store} {n : Nat} {o : Ob} (h : n < S.length) : (S.set n o)[n]? = some o := List.getElem?_set_self h
theorem get_set_ne {S : Store} {n k : Nat} {o : Ob} (h : n ≠ k) : (S.set n o)[k]? = S[k]? := List.getElem?_set_ne h
theorem lt_of_get {S : Store} {n : Nat} {o : Ob} (h : S[n]? = some o) : n < S.length := (List.getElem?_eq_some_iff.mp h).1
theorem get_app {S : Store} {n : Nat} {l : List Ob} (h : n < S.length) : (S ++ l)[n]? = S[n]? := List.getElem?_append_left h
theorem set_app {S : Store} {n : Nat} {o : Ob} {l : List Ob} (h : n < S.length) : (S ++ l).set n o = S.set n o ++ l := by
  rw [List.set_append, if_pos h]
/-! list literals -/
section
variable {a0 a1 a2 a3 a4 a5 a6 a7 a8 : D} {l : List D}
theorem ix1 : ixAt (a0 :: a1 :: l) 1 = some a1 := ixAt_nat (by omega) rfl
theorem ix2 : ixAt (a0 :: a1 :: a2 :: l) 2 = some a2 := ixAt_nat (by omega) rfl
theorem ix3 : ixAt (a0 :: a1 :: a2 :: a3 :: l) 3 = some a3 := ixAt_nat (by omega) rfl
theorem ix4 : ixAt (a0 :: a1 :: a2 :: a3 :: a4 :: l) 4 = some a4 := ixAt_nat (by omega) rfl
theorem ix5 : ixAt (a0 :: a1 :: a2 :: a3 :: a4 :: a5 :: l) 5 = some a5 := ixAt_nat (by omega) rfl
theorem ix6 : ixAt (a0 :: a1 :: a2 :: a3 :: a4 :: a5 :: a6 :: l) 6 = some a6 := ixAt_nat (by omega) rfl
theorem ix7 : ixAt (a0 :: a1 :: a2 :: a3 :: a4 :: a5 :: a6 :: a7 :: l) 7 = some a7 := ixAt_nat (by omega) rfl
theorem ix8 : ixAt (a0 :: a1 :: a2 :: a3 :: a4 :: a5 :: a6 :: a7 :: a8 :: l) 8 = some a8 := ixAt_nat (by omega) rfl
theorem ixN_in {n : Nat} {k : Int} (h0 : 0 ≤ k) (h1 : k < n) : ixN n k = some k.toNat := by
  unfold ixN
  rw [if_pos h0, if_pos h1]
end
theorem bin_mulz {i : Int} {c : Bool} {S : Store} {Q : DK} : wpBin .mul (.int i) (.int (if c = true then 1 else 0)) S Q = Q (.int (if c = true then i else 0)) S := by
  cases c
  · have e : IntMulOk i 0 := mulOkR (by omega) (by omega)
    simp [wpBin, arithOk, arith, e]
  · have e : IntMulOk i 1 := mulOkR (by omega) (by omega)
    simp [wpBin, arithOk, arith, e]
/-! comprehensions -/
theorem wd_nil {r : Rho} : wipeD r [] = r := rfl
theorem wd_cons {r : Rho} {v : Nat} {vs : List Nat} : wipeD r (v :: vs) = (wipeD r vs).set v none := rfl
theorem lc_by {stay : Store → Prop} {tg : D → Rho → Store → (Rho → Store → Prop) → Prop} {cond : Rho → Store → (Bool → Store → Prop) → Prop} {elt : Rho → Store → DK → Prop} {r : Rho} {its : List D} {S : Store} {Q : List D → Store → Prop}
    (I : Nat → Store → List D → Prop) (h0 : I 0 S []) (hst : ∀ i S a, I i S a → stay S)
    (hs : ∀ i x S a (K : List D → Store → Prop), its[i]? = some x → I i S a → (∀ a' S', I (i + 1) S' a' → K a' S') → tg x r S fun r1 S1 => cond r1 S1 fun b S2 => ifC b (fun _ => elt r1 S2 fun y S3 => a.length < sizeLine ∧ K (a ++ [y]) S3) (fun _ => K a S2))
    (hd : ∀ a S, I its.length S a → Q a S) : lcLoop stay tg cond elt r its S [] Q := by
  have go : ∀ (l : List D) (i : Nat) (S : Store) (a : List D), its.drop i = l → i ≤ its.length → I i S a → lcLoop stay tg cond elt r l S a Q := by
    intro l
    induction l with
    | nil =>
      intro i S a e hi h
      have : i = its.length := by
        have z := congrArg List.length e
        rw [List.length_drop, List.length_nil] at z
        omega
      subst this
      exact ⟨hst _ _ _ h, hd a S h⟩
    | cons x xs ih =>
      intro i S a e hi h
      have hlt : i < its.length := by
        have z := congrArg List.length e
        rw [List.length_drop, List.length_cons] at z
        omega
      rw [List.drop_eq_getElem_cons hlt] at e
      injection e with e1 e2
      exact ⟨hst _ _ _ h, hs i x S a (fun a' S' => lcLoop stay tg cond elt r xs S' a' Q) (by rw [List.getElem?_eq_getElem hlt, e1]) h fun a' S' q => ih (i + 1) S' a' e2 hlt q⟩
  exact go its 0 S [] (by simp) (Nat.zero_le _) h0
/-- a comprehension's inner walk, begun with what is there -/
theorem lcs_by {stay : Store → Prop} {tg : D → Rho → Store → (Rho → Store → Prop) → Prop} {cond : Rho → Store → (Bool → Store → Prop) → Prop} {elt : Rho → Store → DK → Prop} {r : Rho} {its : List D} {S : Store} {a0 : List D} {Q : List D → Store → Prop}
    (I : Nat → Store → List D → Prop) (h0 : I 0 S a0) (hst : ∀ i S a, I i S a → stay S)
    (hs : ∀ i x S a (K : List D → Store → Prop), its[i]? = some x → I i S a → (∀ a' S', I (i + 1) S' a' → K a' S') → tg x r S fun r1 S1 => cond r1 S1 fun b S2 => ifC b (fun _ => elt r1 S2 fun y S3 => a.length < sizeLine ∧ K (a ++ [y]) S3) (fun _ => K a S2))
    (hd : ∀ a S, I its.length S a → Q a S) : lcLoop stay tg cond elt r its S a0 Q := by
  have go : ∀ (l : List D) (i : Nat) (S : Store) (a : List D), its.drop i = l → i ≤ its.length → I i S a → lcLoop stay tg cond elt r l S a Q := by
    intro l
    induction l with
    | nil =>
      intro i S a e hi h
      have : i = its.length := by
        have z := congrArg List.length e
        rw [List.length_drop, List.length_nil] at z
        omega
      subst this
      exact ⟨hst _ _ _ h, hd a S h⟩
    | cons x xs ih =>
      intro i S a e hi h
      have hlt : i < its.length := by
        have z := congrArg List.length e
        rw [List.length_drop, List.length_cons] at z
        omega
      rw [List.drop_eq_getElem_cons hlt] at e
      injection e with e1 e2
      exact ⟨hst _ _ _ h, hs i x S a (fun a' S' => lcLoop stay tg cond elt r xs S' a' Q) (by rw [List.getElem?_eq_getElem hlt, e1]) h fun a' S' q => ih (i + 1) S' a' e2 hlt q⟩
  exact go its 0 S a0 (by simp) (Nat.zero_le _) h0
/-- a comprehension of two clauses -/
theorem lc2_by {stay : Store → Prop} {tg : D → Rho → Store → (Rho → Store → Prop) → Prop} {cond : Rho → Store → (Bool → Store → Prop) → Prop} {inner : Rho → Store → List D → (List D → Store → Prop) → Prop} {r : Rho} {its : List D} {S : Store} {Q : List D → Store → Prop}
    (I : Nat → Store → List D → Prop) (h0 : I 0 S []) (hst : ∀ i S a, I i S a → stay S)
    (hs : ∀ i x S a (K : List D → Store → Prop), its[i]? = some x → I i S a → (∀ a' S', I (i + 1) S' a' → K a' S') → tg x r S fun r1 S1 => cond r1 S1 fun b S2 => ifC b (fun _ => inner r1 S2 a K) (fun _ => K a S2))
    (hd : ∀ a S, I its.length S a → Q a S) : lc2Loop stay tg cond inner r its S [] Q := by
  have go : ∀ (l : List D) (i : Nat) (S : Store) (a : List D), its.drop i = l → i ≤ its.length → I i S a → lc2Loop stay tg cond inner r l S a Q := by
    intro l
    induction l with
    | nil =>
      intro i S a e hi h
      have : i = its.length := by
        have z := congrArg List.length e
        rw [List.length_drop, List.length_nil] at z
        omega
      subst this
      exact ⟨hst _ _ _ h, hd a S h⟩
    | cons x xs ih =>
      intro i S a e hi h
      have hlt : i < its.length := by
        have z := congrArg List.length e
        rw [List.length_drop, List.length_cons] at z
        omega
      rw [List.drop_eq_getElem_cons hlt] at e
      injection e with e1 e2
      exact ⟨hst _ _ _ h, hs i x S a (fun a' S' => lc2Loop stay tg cond inner r xs S' a' Q) (by rw [List.getElem?_eq_getElem hlt, e1]) h fun a' S' q => ih (i + 1) S' a' e2 hlt q⟩
  exact go its 0 S [] (by simp) (Nat.zero_le _) h0
/-- a generator expression over known items -/
theorem gen_by {stay : Store → Prop} {tg : D → Rho → Store → (Rho → Store → Prop) → Prop} {cond : Rho → Store → (Bool → Store → Prop) → Prop} {elt : Rho → Store → DK → Prop} {r : Rho} {step : List D → D → Store → (List D → Store → Prop) → Prop} {fin : List D → Store → Prop} {its : List D} {S : Store}
    (I : Nat → Store → List D → Prop) (h0 : I 0 S []) (hst : ∀ i S a, I i S a → stay S)
    (hs : ∀ i x S a (K : List D → Store → Prop), its[i]? = some x → I i S a → (∀ a' S', I (i + 1) S' a' → K a' S') → tg x r S fun r1 S1 => cond r1 S1 fun b S2 => ifC b (fun _ => elt r1 S2 fun y S3 => step a y S3 K) (fun _ => K a S2))
    (hd : ∀ a S, I its.length S a → fin a S) : gLoop stay tg cond elt r step fin its S [] := by
  have go : ∀ (l : List D) (i : Nat) (S : Store) (a : List D), its.drop i = l → i ≤ its.length → I i S a → gLoop stay tg cond elt r step fin l S a := by
    intro l
    induction l with
    | nil =>
      intro i S a e hi h
      have : i = its.length := by
        have z := congrArg List.length e
        rw [List.length_drop, List.length_nil] at z
        omega
      subst this
      exact ⟨hst _ _ _ h, hd a S h⟩
    | cons x xs ih =>
      intro i S a e hi h
      have hlt : i < its.length := by
        have z := congrArg List.length e
        rw [List.length_drop, List.length_cons] at z
        omega
      rw [List.drop_eq_getElem_cons hlt] at e
      injection e with e1 e2
      exact ⟨hst _ _ _ h, hs i x S a (fun a' S' => gLoop stay tg cond elt r step fin xs S' a') (by rw [List.getElem?_eq_getElem hlt, e1]) h fun a' S' q => ih (i + 1) S' a' e2 hlt q⟩
  exact go its 0 S [] (by simp) (Nat.zero_le _) h0
theorem cut_hi {l : List D} {k : Int} (h : 0 ≤ k) : cut l none (some k) = l.take k.toNat := by
  obtain ⟨n, rfl⟩ : ∃ n : Nat, k = n := ⟨k.toNat, by omega⟩
  unfold cut
  rw [HT.sIx_none, HT.sIx_nat, List.drop_zero, Nat.sub_zero, Int.toNat_natCast]
  rcases Nat.le_total n l.length with z | z
  · rw [Nat.min_eq_left z]
  · rw [Nat.min_eq_right z, List.take_of_length_le (Nat.le_refl _), List.take_of_length_le z]
theorem cut_lo {l : List D} {k : Int} (h : 0 ≤ k) : cut l (some k) none = l.drop k.toNat := by
  obtain ⟨n, rfl⟩ : ∃ n : Nat, k = n := ⟨k.toNat, by omega⟩
  unfold cut
  rw [HT.sIx_none, HT.sIx_nat, Int.toNat_natCast]
  rcases Nat.le_total n l.length with z | z
  · rw [Nat.min_eq_left z, List.take_of_length_le (by rw [List.length_drop]; omega)]
  · rw [Nat.min_eq_right z, Nat.sub_self, List.take_zero, List.drop_of_length_le z]
theorem bin_tupR {a b : List D} {S : Store} {Q : DK} : wpBin .add (.tup a) (.tup b) S Q = (a.length + b.length ≤ sizeLine ∧ Q (.tup (a ++ b)) S) := rfl
theorem bin_lst {n k : Nat} {S : Store} {Q : DK} : wpBin .add (.ref n) (.ref k) S Q = ∃ a b, S[n]? = some (.lst a) ∧ S[k]? = some (.lst b) ∧ a.length + b.length ≤ sizeLine ∧ Q (.ref S.length) (S ++ [.lst (a ++ b)]) := rfl
/-! pairs of ints -/
def prD (p : Int × Int) : D := .tup [.int p.1, .int p.2]
def prP (p : Int × Int) : PyData := .tuple [.int p.1, .int p.2]
theorem prP_eqv {p q : Int × Int} : PyData.eqv (prP p) (prP q) = decide (p = q) := by
  obtain ⟨a, b⟩ := p
  obtain ⟨c, d⟩ := q
  show (PyData.eqv (.int a) (.int c) && (PyData.eqv (.int b) (.int d) && true)) = _
  show ((a == c) && ((b == d) && true)) = _
  simp [Bool.beq_eq_decide_eq]
theorem prs_py : ∀ l : List (Int × Int), pys (l.map prD) = some (l.map prP)
  | [] => rfl
  | p :: l => by
    show (match py (prD p), pys (l.map prD) with
      | some x, some y => some (x :: y)
      | _, _ => none) = _
    rw [prs_py l]
    rfl
theorem prs_lay : ∀ l : List (Int × Int), PyData.canLayAll0 (l.map prP) = true ∧ PyData.depthAll (l.map prP) ≤ 1
  | [] => by simp [PyData.canLayAll0, PyData.depthAll]
  | p :: l => by
    obtain ⟨h1, h2⟩ := prs_lay l
    refine ⟨?_, ?_⟩
    · show (PyData.canLay0 (prP p) && PyData.canLayAll0 (l.map prP)) = true
      rw [h1]
      rfl
    · show max (PyData.depth (prP p)) (PyData.depthAll (l.map prP)) ≤ 1
      have : PyData.depth (prP p) = 1 := rfl
      omega
theorem prs_shaped (l : List (Int × Int)) : SeqAt.shaped (.tuple (l.map prP)) = true := by
  obtain ⟨h1, h2⟩ := prs_lay l
  unfold SeqAt.shaped
  rw [Bool.and_eq_true, decide_eq_true_eq]
  refine ⟨h1, ?_⟩
  show PyData.depthAll (l.map prP) + 1 ≤ 64
  omega
theorem pr_shaped (p : Int × Int) : SeqAt.shaped (prP p) = true := by
  unfold SeqAt.shaped
  rw [Bool.and_eq_true, decide_eq_true_eq]
  refine ⟨rfl, ?_⟩
  show PyData.depth (prP p) ≤ 64
  have : PyData.depth (prP p) = 1 := rfl
  omega
theorem prs_any {p : Int × Int} : ∀ l : List (Int × Int), ((l.map prP).any fun z => PyData.eqv z (prP p)) = decide (p ∈ l)
  | [] => by simp
  | q :: l => by
    rw [List.map_cons, List.any_cons, prs_any l, prP_eqv, ← Bool.decide_or]
    congr 1
    rw [List.mem_cons, eq_comm (a := p) (b := q)]
theorem cmp_in_prs {p : Int × Int} {l : List (Int × Int)} {S : Store} {Q : DK} (h : Q (.bl (decide (p ∈ l))) S) : wpCmp .inn (prD p) (.tup (l.map prD)) S Q := by
  refine ⟨prP p, .tuple (l.map prP), l.map prP, rfl, ?_, pr_shaped p, prs_shaped l, rfl, by rw [prs_any]; exact h⟩
  show (pys (l.map prD)).map PyData.tuple = _
  rw [prs_py]
  rfl
theorem cmp_eq_prs {p q : Int × Int} {S : Store} {Q : DK} (h : Q (.bl (decide (p = q))) S) : wpCmp .eq (prD p) (prD q) S Q :=
  ⟨prP p, prP q, rfl, rfl, pr_shaped p, pr_shaped q, by rw [prP_eqv]; exact h⟩
theorem bin_rep {a : List D} {k : Int} {S : Store} {Q : DK} : wpBin .mul (.tup a) (.int k) S Q = (-1000 ≤ k ∧ k ≤ 1000 ∧ a.length ≤ 1000 ∧ Q (.tup (List.replicate k.toNat a).flatten) S) := rfl
theorem rep_one {x : D} : ∀ n : Nat, (List.replicate n [x]).flatten = List.replicate n x
  | 0 => rfl
  | n + 1 => by rw [List.replicate_succ, List.flatten_cons, rep_one n, List.replicate_succ]; rfl
end Ev
/-! Weeks: counting open days (plain). -/
namespace Wks
/-- 1 on open days -/
def op (w : List Int) (d : Int) : Int := w.getD (d % 7).toNat 0
structure Wk (w : List Int) : Prop where
  len : w.length = 7
  bit : ∀ i : Nat, i < 7 → w.getD i 0 = 0 ∨ w.getD i 0 = 1
  some : ∃ i : Nat, i < 7 ∧ w.getD i 0 = 1
def cnt (w : List Int) (d : Int) : Nat → Int
  | 0 => 0
  | k + 1 => cnt w d k + op w (d + ((k + 1 : Nat) : Int))
section
variable {w : List Int} {d : Int}
theorem op_bit (h : Wk w) (d : Int) : op w d = 0 ∨ op w d = 1 := h.bit (d % 7).toNat (by omega)
theorem op_add7 (d : Int) : op w (d + 7) = op w d := by
  unfold op
  rw [Int.add_emod_right]
theorem op_add7m (d : Int) (m : Nat) : op w (d + 7 * m) = op w d := by
  unfold op
  rw [show (d + 7 * (m : Int)) % 7 = d % 7 by omega]
theorem cnt_add (j k : Nat) : cnt w d (j + k) = cnt w d j + cnt w (d + j) k := by
  induction k with
  | zero => show cnt w d j = cnt w d j + 0; omega
  | succ k ih =>
    show cnt w d (j + k) + op w (d + ((j + k + 1 : Nat) : Int)) = cnt w d j + (cnt w (d + j) k + op w (d + j + ((k + 1 : Nat) : Int)))
    rw [ih, show d + ((j + k + 1 : Nat) : Int) = d + j + ((k + 1 : Nat) : Int) by omega]
    omega
theorem cnt_mono (h : Wk w) {j k : Nat} (hjk : j ≤ k) : cnt w d j ≤ cnt w d k := by
  induction k with
  | zero =>
    have : j = 0 := by omega
    subst this
    exact Int.le_refl _
  | succ k ih =>
    by_cases e : j = k + 1
    · subst e; exact Int.le_refl _
    · have := ih (by omega)
      have b := op_bit h (d + ((k + 1 : Nat) : Int))
      show cnt w d j ≤ cnt w d k + op w (d + ((k + 1 : Nat) : Int))
      omega
theorem cnt_lt (h : Wk w) {j k : Nat} (hj : j < k) (ho : op w (d + (k : Int)) = 1) : cnt w d j < cnt w d k := by
  obtain ⟨k, rfl⟩ : ∃ i, k = i + 1 := ⟨k - 1, by omega⟩
  have m := cnt_mono (d := d) h (show j ≤ k by omega)
  show cnt w d j < cnt w d k + op w (d + ((k + 1 : Nat) : Int))
  rw [ho]
  omega
theorem cnt7 (h : Wk w) : cnt w d 7 = w.sum := by
  have hl := h.len
  match w, hl with
  | [a0, a1, a2, a3, a4, a5, a6], _ =>
    have key : ∀ r : Nat, r < 7 → ∀ q : Int, cnt [a0, a1, a2, a3, a4, a5, a6] (7 * q + r) 7 = [a0, a1, a2, a3, a4, a5, a6].sum := by
      intro r hr q
      have e : ∀ (i : Nat), (7 * q + (r : Int) + ((i : Nat) : Int)) % 7 = ((r + i) % 7 : Nat) := by
        intro i
        omega
      simp only [cnt, op, e]
      have : r = 0 ∨ r = 1 ∨ r = 2 ∨ r = 3 ∨ r = 4 ∨ r = 5 ∨ r = 6 := by omega
      rcases this with rfl | rfl | rfl | rfl | rfl | rfl | rfl <;> simp [List.getD] <;> omega
    have z := key (d % 7).toNat (by omega) (d / 7)
    rw [show 7 * (d / 7) + (((d % 7).toNat : Nat) : Int) = d by omega] at z
    exact z
theorem sum_pos (h : Wk w) : 0 < w.sum ∧ w.sum ≤ 7 := by
  rw [← cnt7 (d := 0) h]
  obtain ⟨i, hi, e⟩ := h.some
  have b := fun j => op_bit h j
  have b1 := b 1
  have b2 := b 2
  have b3 := b 3
  have b4 := b 4
  have b5 := b 5
  have b6 := b 6
  have b7 := b 7
  have e0 : op w 7 = op w 0 := op_add7 (w := w) 0
  have ex : cnt w 0 7 = op w 1 + op w 2 + op w 3 + op w 4 + op w 5 + op w 6 + op w 7 := by
    simp [cnt]
  have eo : op w (i : Int) = 1 := by
    unfold op
    rw [show ((i : Int) % 7).toNat = i by omega]
    exact e
  have : i = 0 ∨ i = 1 ∨ i = 2 ∨ i = 3 ∨ i = 4 ∨ i = 5 ∨ i = 6 := by omega
  rw [ex]
  rcases this with rfl | rfl | rfl | rfl | rfl | rfl | rfl <;> simp at eo <;> omega
theorem cnt7m (h : Wk w) (m : Nat) : cnt w d (7 * m) = m * w.sum := by
  induction m with
  | zero => simp [cnt]
  | succ m ih =>
    rw [show 7 * (m + 1) = 7 * m + 7 by omega, cnt_add, ih, cnt7 h]
    rw [show ((m + 1 : Nat) : Int) = (m : Int) + 1 by omega, Int.add_mul, Int.one_mul]
/-- the least open day from d on -/
def Nx (w : List Int) (d e : Int) : Prop := d ≤ e ∧ e < d + 7 ∧ op w e = 1 ∧ ∀ x, d ≤ x → x < e → op w x ≠ 1
theorem nx_ex (h : Wk w) (d : Int) : ∃ e, Nx w d e := by
  obtain ⟨i, hi, e⟩ := h.some
  have key : ∀ n : Nat, n < 7 → op w (d + n) = 1 → ∃ m : Nat, m ≤ n ∧ op w (d + m) = 1 ∧ ∀ j : Nat, j < m → op w (d + j) ≠ 1 := by
    intro n
    induction n using Nat.strongRecOn with
    | ind n ih =>
      intro hn hop
      by_cases q : ∃ j, j < n ∧ op w (d + (j : Int)) = 1
      · obtain ⟨j, hj, ej⟩ := q
        obtain ⟨m, hm, z⟩ := ih j hj (by omega) ej
        exact ⟨m, by omega, z⟩
      · exact ⟨n, Nat.le_refl _, hop, fun j hj ej => q ⟨j, hj, ej⟩⟩
  have h7 : ((((i : Int) - d) % 7).toNat) < 7 := by omega
  obtain ⟨m, hm, em, z⟩ := key (((i : Int) - d) % 7).toNat h7 (by
    unfold op
    rw [show ((d + ((((i : Int) - d) % 7).toNat : Nat)) % 7).toNat = i by omega]
    exact e)
  refine ⟨d + m, by omega, by omega, em, fun x h1 h2 => ?_⟩
  have := z (x - d).toNat (by omega)
  rw [show d + (((x - d).toNat : Nat) : Int) = x by omega] at this
  exact this
theorem nx_same {e e' : Int} (h : Nx w d e) (h' : Nx w d e') : e = e' := by
  obtain ⟨a1, a2, a3, a4⟩ := h
  obtain ⟨b1, b2, b3, b4⟩ := h'
  rcases Int.lt_trichotomy e e' with q | q | q
  · exact absurd a3 (b4 e a1 q)
  · exact q
  · exact absurd b3 (a4 e' b1 q)
theorem nx_self (h : op w d = 1) : Nx w d d := ⟨Int.le_refl _, by omega, h, fun x h1 h2 => by omega⟩
/-- the n-th open day behind d is d + k -/
def Nth (w : List Int) (d : Int) (n : Int) (k : Nat) : Prop := cnt w d k = n ∧ op w (d + (k : Int)) = 1 ∧ 1 ≤ k
theorem nth_same (h : Wk w) {n : Int} {k k' : Nat} (a : Nth w d n k) (b : Nth w d n k') : k = k' := by
  obtain ⟨a1, a2, a3⟩ := a
  obtain ⟨b1, b2, b3⟩ := b
  have key : ∀ {j k : Nat}, j < k → op w (d + (k : Int)) = 1 → cnt w d j < cnt w d k := by
    intro j k hj ho
    obtain ⟨k, rfl⟩ : ∃ i, k = i + 1 := ⟨k - 1, by omega⟩
    have m := cnt_mono (d := d) h (show j ≤ k by omega)
    show cnt w d j < cnt w d k + op w (d + ((k + 1 : Nat) : Int))
    rw [ho]
    omega
  rcases Nat.lt_trichotomy k k' with q | q | q
  · have := key q b2; omega
  · exact q
  · have := key q a2; omega
/-- one more open day -/
theorem cnt_next (h : Wk w) {k : Nat} {e : Int} (x : Nx w (d + k + 1) e) : ∃ k' : Nat, e = d + k' ∧ k < k' ∧ k' ≤ k + 7 ∧ cnt w d k' = cnt w d k + 1 ∧ op w e = 1 := by
  obtain ⟨x1, x2, x3, x4⟩ := x
  have key : ∀ j : Nat, d + k + j < e → cnt w d (k + j) = cnt w d k := by
    intro j
    induction j with
    | zero => intro _; rfl
    | succ j ih =>
      intro hj
      have i := ih (by omega)
      show cnt w d (k + j) + op w (d + ((k + j + 1 : Nat) : Int)) = _
      have n := x4 (d + ((k + j + 1 : Nat) : Int)) (by omega) (by omega)
      have b := op_bit h (d + ((k + j + 1 : Nat) : Int))
      omega
  obtain ⟨j, ej⟩ : ∃ j : Nat, e = d + k + j + 1 := ⟨(e - d - k - 1).toNat, by omega⟩
  refine ⟨k + j + 1, by omega, by omega, by omega, ?_, x3⟩
  show cnt w d (k + j) + op w (d + ((k + j + 1 : Nat) : Int)) = _
  rw [key j (by omega), show d + ((k + j + 1 : Nat) : Int) = e by omega, x3]
theorem nth_step (h : Wk w) (d : Int) : ∀ n : Nat, ∃ k : Nat, Nth w d (n + 1) k ∧ k ≤ 7 * (n + 1) := by
  intro n
  induction n with
  | zero =>
    obtain ⟨e, x⟩ := nx_ex h (d + (0 : Nat) + 1)
    obtain ⟨k', e1, e2, e3, e4, e5⟩ := cnt_next h x
    refine ⟨k', ⟨by rw [e4]; simp [cnt], by rw [← e1]; exact e5, by omega⟩, by omega⟩
  | succ n ih =>
    obtain ⟨k, ⟨a1, a2, a3⟩, a4⟩ := ih
    obtain ⟨e, x⟩ := nx_ex h (d + k + 1)
    obtain ⟨k', e1, e2, e3, e4, e5⟩ := cnt_next h x
    refine ⟨k', ⟨by rw [e4, a1]; omega, by rw [← e1]; exact e5, by omega⟩, by omega⟩
theorem nth_ex (h : Wk w) (d : Int) {n : Int} (hn : 1 ≤ n) : ∃ k : Nat, Nth w d n k ∧ (k : Int) ≤ 7 * n := by
  obtain ⟨k, z, hk⟩ := nth_step h d (n - 1).toNat
  rw [show (((n - 1).toNat : Nat) : Int) + 1 = n by omega] at z
  exact ⟨k, z, by omega⟩
/-- in parts -/
theorem nth_parts {p n : Int} {k1 k2 : Nat} (a : Nth w d p k1) (b : Nth w (d + k1) (n - p) k2) : Nth w d n (k1 + k2) := by
  obtain ⟨a1, a2, a3⟩ := a
  obtain ⟨b1, b2, b3⟩ := b
  refine ⟨by rw [cnt_add, a1, b1]; omega, by rw [show d + ((k1 + k2 : Nat) : Int) = d + k1 + k2 by omega]; exact b2, by omega⟩
theorem nx_nth1 (h : Wk w) {e : Int} (x : Nx w (d + 1) e) : ∃ k : Nat, e = d + k ∧ Nth w d 1 k := by
  have x' : Nx w (d + (0 : Nat) + 1) e := by
    rw [show d + ((0 : Nat) : Int) + 1 = d + 1 by omega]; exact x
  obtain ⟨k', e1, e2, e3, e4, e5⟩ := cnt_next h x'
  exact ⟨k', e1, by rw [e4]; simp [cnt], by rw [← e1]; exact e5, by omega⟩
end
end Wks
set_option Elab.async false
set_option linter.all false
set_option maxRecDepth 100000
set_option maxHeartbeats 8000000
namespace K20
open PySem PySem.Spec PyProof.Rows L2 Ev
def topS (i : Nat) : Stmt := PySem.Challenge.pw_earlyback_k20_courses_checked.main.body.getD i (.Pass ⟨0, 0, 0, 0⟩)
def b_is_open : Bs := (.cons (.ret (.cmp .eq (.idx (.var 0) (.bin .mod (.var 1) (.cst (.int 7)))) (.cst (.int 1)))) <|
  .nil)
def d_is_open : DefI := ⟨⟨"is_open", ["week", "day"], []⟩, ["week", "day"], b_is_open⟩
def b_next_open : Bs := (.cons (.asg (.name 2) (.var 1)) <|
  .cons (.whl (.not (.call 0 (.cons (.var 0) (.cons (.var 2) .nil)))) (.cons (.asg (.name 2) (.bin .add (.var 2) (.cst (.int 1)))) <|
     .nil)) <|
  .cons (.ret (.var 2)) <|
  .nil)
def d_next_open : DefI := ⟨⟨"next_open", ["week", "day"], []⟩, ["week", "day", "found"], b_next_open⟩
def b_is_number : Bs := (.cons (.ret (.and (.isi (.var 0) .int) (.not (.isi (.var 0) .bool)))) <|
  .nil)
def d_is_number : DefI := ⟨⟨"is_number", ["value"], []⟩, ["value"], b_is_number⟩
def b_number_in : Bs := (.cons (.ret (.and (.call 2 (.cons (.var 0) .nil)) (.chain .le .le (.var 1) (.var 0) (.var 2)))) <|
  .nil)
def d_number_in : DefI := ⟨⟨"number_in", ["value", "low", "high"], []⟩, ["value", "low", "high"], b_number_in⟩
def b_is_tuple : Bs := (.cons (.ret (.and (.isi (.var 0) .tuple) (.cmp .eq (.bi .len (.cons (.var 0) .nil)) (.var 1)))) <|
  .nil)
def d_is_tuple : DefI := ⟨⟨"is_tuple", ["value", "size"], []⟩, ["value", "size"], b_is_tuple⟩
def b_ascends : Bs := (.cons (.fors (.name 1) (.rng2 (.cst (.int 1)) (.bi .len (.cons (.var 0) .nil))) (.cons (.ifs (.not (.cmp .lt (.idx (.var 0) (.bin .sub (.var 1) (.cst (.int 1)))) (.idx (.var 0) (.var 1)))) (.cons (.ret (.cst (.bl false))) <|
        .nil) .nil) <|
     .nil)) <|
  .cons (.ret (.cst (.bl true))) <|
  .nil)
def d_ascends : DefI := ⟨⟨"ascends", ["items"], []⟩, ["items", "at"], b_ascends⟩
def b_week_of : Bs := (.cons (.ret (.idx (.idx (.idx (.var 0) (.cst (.int 0))) (.var 1)) (.cst (.int 0)))) <|
  .nil)
def d_week_of : DefI := ⟨⟨"week_of", ["book", "house"], []⟩, ["book", "house"], b_week_of⟩
def b_last_back : Bs := (.cons (.ret (.call 1 (.cons (.call 6 (.cons (.var 0) (.cons (.var 1) .nil))) (.cons (.bin .add (.var 2) (.idx (.var 0) (.cst (.int 4)))) .nil)))) <|
  .nil)
def d_last_back : DefI := ⟨⟨"last_back", ["book", "house", "due"], []⟩, ["book", "house", "due"], b_last_back⟩
def b_copies_at : Bs := (.cons (.asg (.name 2) (.idx (.var 0) (.cst (.int 1)))) <|
  .cons (.ret (.gen .tuple (.var 3) (.name 3) (.rng1 (.bi .len (.cons (.var 2) .nil))) (.cons (.cmp .eq (.idx (.idx (.var 2) (.var 3)) (.cst (.int 0))) (.var 1)) .nil) [3])) <|
  .nil)
def d_copies_at : DefI := ⟨⟨"copies_at", ["stand", "word"], []⟩, ["stand", "word", "places", "copy"], b_copies_at⟩
def b_course_numbers : Bs := (.cons (.asg (.name 2) (.lc2 (.idx (.var 4) (.cst (.int 0))) (.name 3) (.val (.idx (.var 0) (.cst (.int 3)))) .nil (.name 4) (.val (.var 3)) .nil [3, 4] [4])) <|
  .cons (.expr (.meth .extend (.var 2) (.cons (.lc (.idx (.var 5) (.cst (.int 2))) (.name 5) (.val (.idx (.var 0) (.cst (.int 1)))) (.cons (.cmp .inn (.idx (.var 5) (.cst (.int 0))) (.tup (.cons (.cst (.str "way")) (.cons (.cst (.str "ready")) .nil)))) .nil) [5]) .nil))) <|
  .cons (.expr (.meth .extend (.var 2) (.cons (.lc (.idx (.var 4) (.cst (.int 1))) (.name 4) (.val (.var 1)) .nil [4]) .nil))) <|
  .cons (.ret (.bi .tuple (.cons (.bi .sorted (.cons (.var 2) .nil)) .nil))) <|
  .nil)
def d_course_numbers : DefI := ⟨⟨"course_numbers", ["stand", "coming"], []⟩, ["stand", "coming", "numbers", "line", "hold", "place"], b_course_numbers⟩
def b_entry_right : Bs := (.cons (.ifs (.not (.call 4 (.cons (.var 2) (.cons (.cst (.int 5)) .nil)))) (.cons (.ret (.cst (.bl false))) <|
     .nil) .nil) <|
  .cons (.asg (.tup (.cons (.name 3) (.cons (.name 4) (.cons (.name 5) (.cons (.name 6) (.cons (.name 7) .nil)))))) (.var 2)) <|
  .cons (.ifs (.or (.not (.call 2 (.cons (.var 3) .nil))) (.cmp .ne (.var 3) (.var 1))) (.cons (.ret (.cst (.bl false))) <|
     .nil) .nil) <|
  .cons (.ifs (.or (.not (.call 3 (.cons (.var 4) (.cons (.cst (.int 1)) (.cons (.idx (.var 0) (.cst (.int 3))) .nil))))) (.not (.call 3 (.cons (.var 5) (.cons (.cst (.int 1)) (.cons (.cst (.int 400)) .nil)))))) (.cons (.ret (.cst (.bl false))) <|
     .nil) .nil) <|
  .cons (.ret (.and (.call 3 (.cons (.var 6) (.cons (.cst (.int 0)) (.cons (.bin .sub (.bi .len (.cons (.idx (.var 0) (.cst (.int 0))) .nil)) (.cst (.int 1))) .nil)))) (.cmp .inn (.var 7) (.tup (.cons (.cst (.str "back")) (.cons (.cst (.str "lapse")) (.cons (.cst (.str "lost")) .nil))))))) <|
  .nil)
def d_entry_right : DefI := ⟨⟨"_entry_right", ["book", "number", "value"], []⟩, ["book", "number", "value", "given", "p", "keeping", "house", "how"], b_entry_right⟩
def b_entries_right : Bs := (.cons (.ifs (.not (.call 4 (.cons (.var 2) (.cons (.bi .len (.cons (.var 1) .nil)) .nil)))) (.cons (.ret (.cst (.bl false))) <|
     .nil) .nil) <|
  .cons (.ret (.gen .all (.call 10 (.cons (.var 0) (.cons (.var 3) (.cons (.var 4) .nil)))) (.tup (.cons (.name 3) (.cons (.name 4) .nil))) (.zip (.var 1) (.var 2)) .nil [3, 4])) <|
  .nil)
def d_entries_right : DefI := ⟨⟨"_entries_right", ["book", "numbers", "value"], []⟩, ["book", "numbers", "value", "number", "item"], b_entries_right⟩
def b_back_right : Bs := (.cons (.ifs (.not (.call 4 (.cons (.var 3) (.cons (.cst (.int 3)) .nil)))) (.cons (.ret (.cst (.bl false))) <|
     .nil) .nil) <|
  .cons (.asg (.tup (.cons (.name 4) (.cons (.name 5) (.cons (.name 6) .nil)))) (.var 3)) <|
  .cons (.ifs (.or (.not (.call 2 (.cons (.var 4) .nil))) (.cmp .ne (.var 4) (.var 2))) (.cons (.ret (.cst (.bl false))) <|
     .nil) .nil) <|
  .cons (.ifs (.and (.cmp .is (.var 5) (.cst .non)) (.cmp .is (.var 6) (.cst .non))) (.cons (.ret (.cst (.bl true))) <|
     .nil) .nil) <|
  .cons (.ifs (.not (.call 3 (.cons (.var 5) (.cons (.cst (.int 0)) (.cons (.bin .sub (.bi .len (.cons (.idx (.var 0) (.cst (.int 0))) .nil)) (.cst (.int 1))) .nil))))) (.cons (.ret (.cst (.bl false))) <|
     .nil) .nil) <|
  .cons (.ifs (.not (.call 3 (.cons (.var 6) (.cons (.bin .add (.idx (.var 1) (.cst (.int 0))) (.cst (.int 1))) (.cons (.call 7 (.cons (.var 0) (.cons (.var 5) (.cons (.idx (.idx (.idx (.var 1) (.cst (.int 1))) (.var 2)) (.cst (.int 1))) .nil)))) .nil))))) (.cons (.ret (.cst (.bl false))) <|
     .nil) .nil) <|
  .cons (.ret (.call 0 (.cons (.call 6 (.cons (.var 0) (.cons (.var 5) .nil))) (.cons (.var 6) .nil)))) <|
  .nil)
def d_back_right : DefI := ⟨⟨"_back_right", ["book", "stand", "copy", "value"], []⟩, ["book", "stand", "copy", "value", "given", "house", "day"], b_back_right⟩
def b_backs_right : Bs := (.cons (.asg (.name 3) (.call 8 (.cons (.var 1) (.cons (.cst (.str "lent")) .nil)))) <|
  .cons (.ifs (.not (.call 4 (.cons (.var 2) (.cons (.bi .len (.cons (.var 3) .nil)) .nil)))) (.cons (.ret (.cst (.bl false))) <|
     .nil) .nil) <|
  .cons (.ret (.gen .all (.call 12 (.cons (.var 0) (.cons (.var 1) (.cons (.var 4) (.cons (.var 5) .nil))))) (.tup (.cons (.name 4) (.cons (.name 5) .nil))) (.zip (.var 3) (.var 2)) .nil [4, 5])) <|
  .nil)
def d_backs_right : DefI := ⟨⟨"_backs_right", ["book", "stand", "value"], []⟩, ["book", "stand", "value", "lent", "copy", "item"], b_backs_right⟩
def b_gone_right : Bs := (.cons (.ifs (.not (.isi (.var 2) .tuple)) (.cons (.ret (.cst (.bl false))) <|
     .nil) .nil) <|
  .cons (.asg (.name 3) (.lc (.idx (.var 4) (.cst (.int 0))) (.name 4) (.val (.var 1)) (.cons (.cmp .is (.idx (.var 4) (.cst (.int 1))) (.cst .non)) .nil) [4])) <|
  .cons (.fors (.name 5) (.val (.var 2)) (.cons (.ifs (.not (.call 3 (.cons (.var 5) (.cons (.cst (.int 0)) (.cons (.bin .sub (.bi .len (.cons (.idx (.var 0) (.cst (.int 1))) .nil)) (.cst (.int 1))) .nil))))) (.cons (.ret (.cst (.bl false))) <|
        .nil) .nil) <|
     .cons (.asg (.name 6) (.idx (.idx (.idx (.var 0) (.cst (.int 1))) (.var 5)) (.cst (.int 0)))) <|
     .cons (.ifs (.and (.cmp .eq (.var 6) (.cst (.str "lent"))) (.cmp .notin (.var 5) (.var 3))) (.cons (.ret (.cst (.bl false))) <|
        .nil) .nil) <|
     .cons (.ifs (.cmp .notin (.var 6) (.tup (.cons (.cst (.str "free")) (.cons (.cst (.str "in")) (.cons (.cst (.str "lent")) .nil))))) (.cons (.ret (.cst (.bl false))) <|
        .nil) .nil) <|
     .nil)) <|
  .cons (.ret (.call 5 (.cons (.var 2) .nil))) <|
  .nil)
def d_gone_right : DefI := ⟨⟨"_gone_right", ["stand", "backs", "value"], []⟩, ["stand", "backs", "value", "never", "item", "copy", "word"], b_gone_right⟩
def b_check_course : Bs := (.cons (.ifs (.not (.call 4 (.cons (.var 3) (.cons (.cst (.int 3)) .nil)))) (.cons (.raise 4 (.cons (.cst (.str "course")) .nil)) <|
     .nil) .nil) <|
  .cons (.asg (.tup (.cons (.name 4) (.cons (.name 5) (.cons (.name 6) .nil)))) (.var 3)) <|
  .cons (.asg (.name 7) (.idx (.var 0) (.cst (.int 0)))) <|
  .cons (.ifs (.not (.call 11 (.cons (.var 7) (.cons (.call 9 (.cons (.var 1) (.cons (.var 2) .nil))) (.cons (.var 4) .nil))))) (.cons (.raise 4 (.cons (.cst (.str "entries")) .nil)) <|
     .nil) .nil) <|
  .cons (.ifs (.not (.call 13 (.cons (.var 7) (.cons (.var 1) (.cons (.var 5) .nil))))) (.cons (.raise 4 (.cons (.cst (.str "backs")) .nil)) <|
     .nil) .nil) <|
  .cons (.ifs (.not (.call 14 (.cons (.var 1) (.cons (.var 5) (.cons (.var 6) .nil))))) (.cons (.raise 4 (.cons (.cst (.str "gone")) .nil)) <|
     .nil) .nil) <|
  .nil)
def d_check_course : DefI := ⟨⟨"check_course", ["library", "stand", "coming", "value"], [(0, ["value", "coming", "stand", "library"], [3, 2, 1, 0])]⟩, ["library", "stand", "coming", "value", "entries", "backs", "gone", "book"], b_check_course⟩
def b_law_mixed : Bs := (.cons (.asg (.name 2) (.bin .mod (.bi .int (.cons (.bin .add (.bin .add (.bin .mul (.var 0) (.cst (.int 69069))) (.bin .mul (.var 1) (.cst (.int 30011)))) (.cst (.int 977))) .nil)) (.cst (.int 2147483563)))) <|
  .cons (.ret (.bin .mod (.bi .int (.cons (.bin .add (.bin .add (.bin .mul (.var 2) (.var 2)) (.bin .mul (.var 2) (.cst (.int 40014)))) (.bin .mul (.var 1) (.cst (.int 523)))) .nil)) (.cst (.int 2147483399)))) <|
  .nil)
def d_law_mixed : DefI := ⟨⟨"_law_mixed", ["seed", "turn"], []⟩, ["seed", "turn", "one"], b_law_mixed⟩
def b_law_feed : Bs := (.cons (.asg (.name 1) (.bin .add (.cst (.int 11)) (.bi .len (.cons (.var 0) .nil)))) <|
  .cons (.fors (.name 2) (.val (.var 0)) (.cons (.asg (.name 1) (.bin .mod (.bi .int (.cons (.bin .add (.bin .mul (.var 1) (.cst (.int 131))) (.bin .mod (.bi .int (.cons (.var 2) .nil)) (.cst (.int 1000003)))) .nil)) (.cst (.int 1000000007)))) <|
     .nil)) <|
  .cons (.ret (.lst (.cons (.lc (.bi .int (.cons (.var 2) .nil)) (.name 2) (.val (.var 0)) .nil [2]) (.cons (.cst (.int 0)) (.cons (.cst (.int 0)) (.cons (.cst (.int 0)) (.cons (.cst (.int 0)) (.cons (.var 1) .nil)))))))) <|
  .nil)
def d_law_feed : DefI := ⟨⟨"_law_feed", ["script"], []⟩, ["script", "seed", "cell"], b_law_feed⟩
def b_law_take : Bs := (.cons (.ifs (.and (.cmp .eq (.idx (.var 0) (.cst (.int 3))) (.cst (.int 0))) (.cmp .lt (.idx (.var 0) (.cst (.int 1))) (.bi .len (.cons (.idx (.var 0) (.cst (.int 0))) .nil)))) (.cons (.asg (.name 2) (.idx (.idx (.var 0) (.cst (.int 0))) (.idx (.var 0) (.cst (.int 1))))) <|
     .cons (.asg (.sub (.var 0) (.cst (.int 1))) (.bin .add (.idx (.var 0) (.cst (.int 1))) (.cst (.int 1)))) <|
     .cons (.ifs (.cmp .ge (.var 2) (.bin .pow (.cst (.int 10)) (.cst (.int 18)))) (.cons (.asg (.sub (.var 0) (.cst (.int 2))) (.bin .sub (.var 2) (.bin .pow (.cst (.int 10)) (.cst (.int 18))))) <|
        .cons (.asg (.sub (.var 0) (.cst (.int 3))) (.cst (.int 60))) <|
        .nil) .nil) <|
     .nil) .nil) <|
  .cons (.ifs (.cmp .gt (.idx (.var 0) (.cst (.int 3))) (.cst (.int 0))) (.cons (.asg (.name 3) (.bin .mod (.bi .int (.cons (.idx (.var 0) (.cst (.int 2))) .nil)) (.var 1))) <|
     .cons (.asg (.sub (.var 0) (.cst (.int 2))) (.bin .fdiv (.idx (.var 0) (.cst (.int 2))) (.var 1))) <|
     .cons (.asg (.sub (.var 0) (.cst (.int 3))) (.bin .sub (.idx (.var 0) (.cst (.int 3))) (.cst (.int 1)))) <|
     .cons (.ret (.var 3)) <|
     .nil) .nil) <|
  .cons (.asg (.sub (.var 0) (.cst (.int 4))) (.bin .add (.idx (.var 0) (.cst (.int 4))) (.cst (.int 1)))) <|
  .cons (.ret (.bin .mod (.bi .int (.cons (.call 16 (.cons (.idx (.var 0) (.cst (.int 5))) (.cons (.idx (.var 0) (.cst (.int 4))) .nil))) .nil)) (.var 1))) <|
  .nil)
def d_law_take : DefI := ⟨⟨"_law_take", ["feed", "many"], []⟩, ["feed", "many", "cell", "got"], b_law_take⟩
def b_law_one : Bs := (.cons (.ret (.idx (.var 1) (.call 18 (.cons (.var 0) (.cons (.bi .len (.cons (.var 1) .nil)) .nil))))) <|
  .nil)
def d_law_one : DefI := ⟨⟨"_law_one", ["feed", "some"], []⟩, ["feed", "some"], b_law_one⟩
def b_law_mixed_up : Bs := (.cons (.asg (.name 2) (.lst .nil)) <|
  .cons (.fors (.name 3) (.val (.var 1)) (.cons (.expr (.meth .insert (.var 2) (.cons (.call 18 (.cons (.var 0) (.cons (.bin .add (.bi .len (.cons (.var 2) .nil)) (.cst (.int 1))) .nil))) (.cons (.var 3) .nil)))) <|
     .nil)) <|
  .cons (.ret (.var 2)) <|
  .nil)
def d_law_mixed_up : DefI := ⟨⟨"_law_mixed_up", ["feed", "row"], []⟩, ["feed", "row", "found", "one"], b_law_mixed_up⟩
def b_law_is_int : Bs := (.cons (.ret (.and (.isi (.var 0) .int) (.and (.not (.isi (.var 0) .bool)) (.chain .le .le (.var 1) (.var 0) (.var 2))))) <|
  .nil)
def d_law_is_int : DefI := ⟨⟨"_law_is_int", ["value", "low", "high"], []⟩, ["value", "low", "high"], b_law_is_int⟩
def b_law_next_open : Bs := (.cons (.ret (.idx (.lc (.bin .add (.var 1) (.var 2)) (.name 2) (.rng1 (.cst (.int 7))) (.cons (.cmp .eq (.idx (.var 0) (.bin .mod (.bi .int (.cons (.bin .add (.var 1) (.var 2)) .nil)) (.cst (.int 7)))) (.cst (.int 1))) .nil) [2]) (.cst (.int 0)))) <|
  .nil)
def d_law_next_open : DefI := ⟨⟨"_law_next_open", ["week", "day"], []⟩, ["week", "day", "k"], b_law_next_open⟩
def b_law_nth_open : Bs := (.cons (.fors (.name 3) (.rng1 (.var 2)) (.cons (.asg (.name 1) (.call 22 (.cons (.var 0) (.cons (.bin .add (.var 1) (.cst (.int 1))) .nil)))) <|
     .nil)) <|
  .cons (.ret (.var 1)) <|
  .nil)
def d_law_nth_open : DefI := ⟨⟨"_law_nth_open", ["week", "day", "n"], []⟩, ["week", "day", "n", "k"], b_law_nth_open⟩
def b_law_ready : Bs := (.cons (.ret (.call 22 (.cons (.idx (.idx (.idx (.var 0) (.cst (.int 0))) (.var 2)) (.cst (.int 0))) (.cons (.bin .add (.var 3) (.idx (.idx (.idx (.idx (.var 0) (.cst (.int 0))) (.var 1)) (.cst (.int 3))) (.var 2))) .nil)))) <|
  .nil)
def d_law_ready : DefI := ⟨⟨"_law_ready", ["book", "home", "goal", "day"], []⟩, ["book", "home", "goal", "day"], b_law_ready⟩
def b_law_allowed : Bs := (.cons (.ret (.bin .add (.idx (.idx (.idx (.var 0) (.cst (.int 2))) (.idx (.var 2) (.cst (.int 0)))) (.idx (.var 2) (.cst (.int 1)))) (.idx (.idx (.idx (.var 0) (.cst (.int 0))) (.var 1)) (.cst (.int 2))))) <|
  .nil)
def d_law_allowed : DefI := ⟨⟨"_law_allowed", ["book", "home", "pair"], []⟩, ["book", "home", "pair"], b_law_allowed⟩
def b_law_ends : Bs := (.cons (.ret (.lc (.call 22 (.cons (.idx (.var 2) (.cst (.int 0))) (.cons (.bin .add (.var 1) (.idx (.var 0) (.cst (.int 4)))) .nil))) (.name 2) (.val (.idx (.var 0) (.cst (.int 0)))) .nil [2])) <|
  .nil)
def d_law_ends : DefI := ⟨⟨"_law_ends", ["book", "due"], []⟩, ["book", "due", "house"], b_law_ends⟩
def b_law_week : Bs := (.cons (.asg (.name 1) (.call 18 (.cons (.var 0) (.cons (.cst (.int 4)) .nil)))) <|
  .cons (.ifs (.cmp .eq (.var 1) (.cst (.int 0))) (.cons (.ret (.tup (.cons (.cst (.int 1)) (.cons (.cst (.int 1)) (.cons (.cst (.int 1)) (.cons (.cst (.int 1)) (.cons (.cst (.int 1)) (.cons (.cst (.int 1)) (.cons (.cst (.int 1)) .nil))))))))) <|
     .nil) .nil) <|
  .cons (.asg (.name 2) (.call 18 (.cons (.var 0) (.cons (.cst (.int 7)) .nil)))) <|
  .cons (.ret (.bi .tuple (.cons (.lc (.ite (.or (.cmp .eq (.var 3) (.var 2)) (.and (.cmp .gt (.var 1) (.cst (.int 1))) (.cmp .eq (.call 18 (.cons (.var 0) (.cons (.cst (.int 2)) .nil))) (.cst (.int 0))))) (.cst (.int 1)) (.cst (.int 0))) (.name 3) (.rng1 (.cst (.int 7))) .nil [3]) .nil))) <|
  .nil)
def d_law_week : DefI := ⟨⟨"_law_week", ["feed"], []⟩, ["feed", "kind", "day", "k"], b_law_week⟩
def b_law_book : Bs := (.cons (.asg (.tup (.cons (.name 2) (.cons (.name 3) .nil))) (.tup (.cons (.cmp .eq (.call 18 (.cons (.var 0) (.cons (.cst (.int 8)) .nil))) (.cst (.int 0))) (.cons (.cmp .eq (.call 18 (.cons (.var 0) (.cons (.cst (.int 3)) .nil))) (.cst (.int 0))) .nil)))) <|
  .cons (.asg (.tup (.cons (.name 4) (.cons (.name 5) .nil))) (.tup (.cons (.bin .add (.cst (.int 1)) (.call 18 (.cons (.var 0) (.cons (.ite (.var 2) (.cst (.int 6)) (.var 1)) .nil)))) (.cons (.bin .add (.cst (.int 1)) (.call 18 (.cons (.var 0) (.cons (.ite (.var 2) (.cst (.int 4)) (.cst (.int 2))) .nil)))) .nil)))) <|
  .cons (.asg (.name 6) (.lst .nil)) <|
  .cons (.fors (.name 7) (.rng1 (.var 4)) (.cons (.asg (.name 6) (.bin .add (.var 6) (.lc (.tup (.cons (.var 7) (.cons (.var 8) .nil))) (.name 8) (.rng1 (.var 5)) .nil [8]))) <|
     .nil)) <|
  .cons (.asg (.name 9) (.lst .nil)) <|
  .cons (.fors (.name 7) (.rng1 (.var 4)) (.cons (.asg (.tup (.cons (.name 10) (.cons (.name 11) .nil))) (.tup (.cons (.bi .tuple (.cons (.lc (.var 12) (.name 12) (.val (.var 6)) (.cons (.cmp .gt (.call 18 (.cons (.var 0) (.cons (.cst (.int 4)) .nil))) (.cst (.int 0))) .nil) [12]) .nil)) (.cons (.call 18 (.cons (.var 0) (.cons (.ite (.var 2) (.cst (.int 31)) (.cst (.int 3))) .nil))) .nil)))) <|
     .cons (.asg (.name 13) (.bi .tuple (.cons (.lc (.ite (.var 3) (.cst (.int 0)) (.call 18 (.cons (.var 0) (.cons (.ite (.var 2) (.cst (.int 15)) (.cst (.int 4))) .nil)))) (.name 14) (.rng1 (.var 4)) .nil [14]) .nil))) <|
     .cons (.ifs (.and (.var 3) (.cmp .gt (.var 7) (.cst (.int 0)))) (.cons (.asg (.tup (.cons (.name 10) (.cons (.name 11) .nil))) (.tup (.cons (.idx (.idx (.var 9) (.cst (.int 0))) (.cst (.int 1))) (.cons (.idx (.idx (.var 9) (.cst (.int 0))) (.cst (.int 2))) .nil)))) <|
        .nil) .nil) <|
     .cons (.expr (.meth .append (.var 9) (.cons (.tup (.cons (.call 27 (.cons (.var 0) .nil)) (.cons (.var 10) (.cons (.var 11) (.cons (.var 13) .nil))))) .nil))) <|
     .nil)) <|
  .cons (.asg (.name 15) (.bi .tuple (.cons (.lc (.bi .tuple (.cons (.lc (.bin .add (.cst (.int 12)) (.call 18 (.cons (.var 0) (.cons (.ite (.var 2) (.cst (.int 49)) (.cst (.int 4))) .nil)))) (.name 8) (.rng1 (.var 5)) .nil [8]) .nil)) (.name 7) (.rng1 (.var 4)) .nil [7]) .nil))) <|
  .cons (.ret (.tup (.cons (.bi .tuple (.cons (.var 9) .nil)) (.cons (.var 5) (.cons (.var 15) (.cons (.bin .add (.cst (.int 1)) (.call 18 (.cons (.var 0) (.cons (.ite (.var 2) (.cst (.int 14)) (.cst (.int 2))) .nil)))) (.cons (.call 18 (.cons (.var 0) (.cons (.ite (.var 2) (.cst (.int 15)) (.cst (.int 3))) .nil))) .nil))))))) <|
  .nil)
def d_law_book : DefI := ⟨⟨"_law_book", ["feed", "most"], []⟩, ["feed", "most", "is_wide", "is_alike", "many", "classes", "pairs", "house", "kind", "houses", "circle", "extra", "pair", "ways", "other", "loans"], b_law_book⟩
def b_law_library : Bs := (.cons (.asg (.name 4) (.call 28 (.cons (.var 0) (.cons (.var 1) .nil)))) <|
  .cons (.asg (.name 5) (.bin .add (.cst (.int 1)) (.call 18 (.cons (.var 0) (.cons (.cst (.int 2)) .nil))))) <|
  .cons (.asg (.name 6) (.bi .len (.cons (.idx (.var 4) (.cst (.int 0))) .nil))) <|
  .cons (.asg (.name 7) (.bi .tuple (.cons (.lc (.tup (.cons (.call 18 (.cons (.var 0) (.cons (.var 5) .nil))) (.cons (.call 18 (.cons (.var 0) (.cons (.var 6) .nil))) .nil))) (.name 8) (.rng1 (.bin .add (.cst (.int 1)) (.call 18 (.cons (.var 0) (.cons (.var 2) .nil))))) .nil [8]) .nil))) <|
  .cons (.asg (.name 9) (.lst .nil)) <|
  .cons (.fors (.name 10) (.val (.idx (.var 4) (.cst (.int 0)))) (.cons (.asg (.name 9) (.bin .add (.var 9) (.bi .list (.cons (.idx (.var 10) (.cst (.int 1))) .nil)))) <|
     .nil)) <|
  .cons (.asg (.name 11) (.lst .nil)) <|
  .cons (.fors (.name 8) (.rng1 (.bin .add (.cst (.int 1)) (.call 18 (.cons (.var 0) (.cons (.var 3) .nil))))) (.cons (.asg (.name 12) (.and (.cmp .ne (.var 9) (.lst .nil)) (.cmp .gt (.call 18 (.cons (.var 0) (.cons (.cst (.int 6)) .nil))) (.cst (.int 0))))) <|
     .cons (.expr (.meth .append (.var 11) (.cons (.ite (.var 12) (.call 19 (.cons (.var 0) (.cons (.var 9) .nil))) (.tup (.cons (.call 18 (.cons (.var 0) (.cons (.var 6) .nil))) (.cons (.call 18 (.cons (.var 0) (.cons (.idx (.var 4) (.cst (.int 1))) .nil))) .nil)))) .nil))) <|
     .nil)) <|
  .cons (.ret (.tup (.cons (.var 4) (.cons (.var 5) (.cons (.var 7) (.cons (.bi .tuple (.cons (.var 11) .nil)) .nil)))))) <|
  .nil)
def d_law_library : DefI := ⟨⟨"_law_library", ["feed", "most", "copies", "readers"], []⟩, ["feed", "most", "copies", "readers", "book", "works", "many", "had", "k", "lent", "house", "people", "is_lent"], b_law_library⟩
def b_law_place : Bs := (.cons (.asg (.name 5) (.idx (.var 1) (.cst (.int 0)))) <|
  .cons (.asg (.name 6) (.idx (.idx (.idx (.var 1) (.cst (.int 2))) (.var 2)) (.cst (.int 1)))) <|
  .cons (.asg (.name 7) (.call 19 (.cons (.var 0) (.cons (.lst (.cons (.cst (.str "free")) (.cons (.cst (.str "free")) (.cons (.cst (.str "in")) (.cons (.cst (.str "way")) (.cons (.cst (.str "ready")) (.cons (.cst (.str "lent")) (.cons (.cst (.str "lent")) (.cons (.cst (.str "lost")) .nil))))))))) .nil)))) <|
  .cons (.asg (.name 8) (.lc (.var 9) (.name 9) (.rng1 (.bi .len (.cons (.idx (.var 1) (.cst (.int 3))) .nil))) (.cons (.cmp .inn (.idx (.idx (.var 1) (.cst (.int 3))) (.var 9)) (.idx (.idx (.idx (.var 5) (.cst (.int 0))) (.var 6)) (.cst (.int 1)))) .nil) [9])) <|
  .cons (.ifs (.cmp .eq (.var 7) (.cst (.str "in"))) (.cons (.ret (.tup (.cons (.var 7) (.cons (.bin .add (.bin .add (.var 3) (.cst (.int 1))) (.call 18 (.cons (.var 0) (.cons (.cst (.int 6)) .nil)))) .nil)))) <|
     .nil) .nil) <|
  .cons (.ifs (.and (.cmp .eq (.var 7) (.cst (.str "lost"))) (.cmp .eq (.call 18 (.cons (.var 0) (.cons (.cst (.int 2)) .nil))) (.cst (.int 0)))) (.cons (.ret (.tup (.cons (.var 7) .nil))) <|
     .nil) .nil) <|
  .cons (.ifs (.or (.cmp .eq (.var 8) (.lst .nil)) (.or (.cmp .eq (.var 7) (.cst (.str "free"))) (.cmp .eq (.var 7) (.cst (.str "lost"))))) (.cons (.ret (.tup (.cons (.cst (.str "free")) .nil))) <|
     .nil) .nil) <|
  .cons (.asg (.name 10) (.call 19 (.cons (.var 0) (.cons (.var 8) .nil)))) <|
  .cons (.asg (.name 11) (.idx (.idx (.idx (.var 5) (.cst (.int 0))) (.idx (.idx (.idx (.var 1) (.cst (.int 3))) (.var 10)) (.cst (.int 0)))) (.cst (.int 0)))) <|
  .cons (.ifs (.cmp .eq (.var 7) (.cst (.str "way"))) (.cons (.ret (.tup (.cons (.var 7) (.cons (.call 22 (.cons (.var 11) (.cons (.bin .add (.bin .add (.var 3) (.cst (.int 1))) (.call 18 (.cons (.var 0) (.cons (.cst (.int 4)) .nil)))) .nil))) (.cons (.var 4) (.cons (.var 10) .nil)))))) <|
     .nil) .nil) <|
  .cons (.ifs (.cmp .eq (.var 7) (.cst (.str "ready"))) (.cons (.ret (.tup (.cons (.var 7) (.cons (.call 23 (.cons (.var 11) (.cons (.var 3) (.cons (.bin .add (.cst (.int 1)) (.call 18 (.cons (.var 0) (.cons (.idx (.var 5) (.cst (.int 3))) .nil)))) .nil)))) (.cons (.var 4) (.cons (.var 10) .nil)))))) <|
     .nil) .nil) <|
  .cons (.asg (.name 12) (.bi .max (.cons (.cst (.int 0)) (.cons (.bin .add (.bin .sub (.bin .sub (.var 3) (.idx (.var 5) (.cst (.int 4)))) (.cst (.int 6))) (.call 18 (.cons (.var 0) (.cons (.cst (.int 20)) .nil)))) .nil)))) <|
  .cons (.fors (.name 9) (.rng1 (.cst (.int 30))) (.cons (.ifs (.cmp .gt (.bi .max (.cons (.call 26 (.cons (.var 5) (.cons (.var 12) .nil))) .nil)) (.var 3)) (.cons .brk <|
        .nil) .nil) <|
     .cons (.asg (.name 12) (.bin .add (.var 12) (.cst (.int 1)))) <|
     .nil)) <|
  .cons (.ret (.tup (.cons (.var 7) (.cons (.var 12) (.cons (.var 4) (.cons (.var 10) .nil)))))) <|
  .nil)
def d_law_place : DefI := ⟨⟨"_law_place", ["feed", "library", "copy", "day", "number"], []⟩, ["feed", "library", "copy", "day", "number", "book", "home", "kind", "some", "k", "reader", "week", "due"], b_law_place⟩
def b_law_stand : Bs := (.cons (.asg (.name 4) (.call 20 (.cons (.var 0) (.cons (.lst (.cons (.cst (.int 7)) (.cons (.cst (.int 3)) (.cons (.cst (.int 1)) (.cons (.cst (.int 999999)) (.cons (.cst (.int 40)) (.cons (.cst (.int 0)) (.cons (.cst (.int 12)) (.cons (.cst (.int 8)) (.cons (.cst (.int 500)) (.cons (.cst (.int 23)) (.cons (.cst (.int 5)) (.cons (.cst (.int 77)) (.cons (.cst (.int 61)) (.cons (.cst (.int 9)) (.cons (.cst (.int 2)) (.cons (.cst (.int 30)) .nil))))))))))))))))) .nil)))) <|
  .cons (.asg (.name 5) (.bi .tuple (.cons (.lc (.call 30 (.cons (.var 0) (.cons (.var 1) (.cons (.var 6) (.cons (.var 2) (.cons (.idx (.var 4) (.var 6)) .nil)))))) (.name 6) (.rng1 (.bi .len (.cons (.idx (.var 1) (.cst (.int 2))) .nil))) .nil [6]) .nil))) <|
  .cons (.asg (.name 7) (.bi .tuple (.cons (.lc (.ite (.and (.cmp .notin (.idx (.var 8) (.cst (.int 0))) (.lst (.cons (.cst (.str "free")) (.cons (.cst (.str "lost")) .nil)))) (.cmp .eq (.call 18 (.cons (.var 0) (.cons (.cst (.int 6)) .nil))) (.cst (.int 0)))) (.bin .add (.cst (.int 1)) (.call 18 (.cons (.var 0) (.cons (.cst (.int 4)) .nil)))) (.cst (.int 0))) (.name 8) (.val (.var 5)) .nil [8]) .nil))) <|
  .cons (.asg (.name 4) (.slc (.var 4) (.some (.bi .len (.cons (.var 5) .nil))) .none)) <|
  .cons (.asg (.name 9) (.lst .nil)) <|
  .cons (.fors (.name 10) (.rng1 (.idx (.var 1) (.cst (.int 1)))) (.cons (.asg (.name 11) (.bi .min (.cons (.call 18 (.cons (.var 0) (.cons (.bin .add (.var 3) (.cst (.int 1))) .nil))) (.cons (.bi .len (.cons (.var 4) .nil)) .nil)))) <|
     .cons (.expr (.meth .append (.var 9) (.cons (.bi .tuple (.cons (.lc (.tup (.cons (.idx (.var 4) (.var 6)) (.cons (.call 18 (.cons (.var 0) (.cons (.bi .len (.cons (.idx (.var 1) (.cst (.int 3))) .nil)) .nil))) (.cons (.call 18 (.cons (.var 0) (.cons (.cst (.int 3)) .nil))) (.cons (.cst .non) .nil))))) (.name 6) (.rng1 (.var 11)) .nil [6]) .nil)) .nil))) <|
     .cons (.asg (.name 4) (.slc (.var 4) (.some (.var 11)) .none)) <|
     .nil)) <|
  .cons (.ret (.tup (.cons (.var 2) (.cons (.var 5) (.cons (.var 7) (.cons (.bi .tuple (.cons (.var 9) .nil)) (.cons (.bi .tuple (.cons (.lc (.call 18 (.cons (.var 0) (.cons (.cst (.int 3)) .nil))) (.name 10) (.rng1 (.idx (.var 1) (.cst (.int 1)))) .nil [10]) .nil)) (.cons (.cst (.int 0)) .nil)))))))) <|
  .nil)
def d_law_stand : DefI := ⟨⟨"_law_stand", ["feed", "library", "day", "most"], []⟩, ["feed", "library", "day", "most", "pool", "places", "k", "rests", "place", "lines", "work", "many"], b_law_stand⟩
def b_law_coming : Bs := (.cons (.asg (.name 5) (.call 20 (.cons (.var 0) (.cons (.lst (.cons (.cst (.int 800)) (.cons (.cst (.int 6)) (.cons (.cst (.int 700001)) (.cons (.cst (.int 44)) (.cons (.cst (.int 31)) (.cons (.cst (.int 4)) .nil))))))) .nil)))) <|
  .cons (.asg (.tup (.cons (.name 6) (.cons (.name 7) .nil))) (.tup (.cons (.bin .add (.idx (.var 2) (.cst (.int 0))) (.cst (.int 1))) (.cons (.lst .nil) .nil)))) <|
  .cons (.fors (.name 8) (.rng1 (.call 18 (.cons (.var 0) (.cons (.bin .add (.var 3) (.cst (.int 1))) .nil)))) (.cons (.asg (.name 6) (.bin .add (.var 6) (.call 19 (.cons (.var 0) (.cons (.lst (.cons (.cst (.int 0)) (.cons (.cst (.int 0)) (.cons (.cst (.int 1)) (.cons (.cst (.int 5)) (.cons (.call 18 (.cons (.var 0) (.cons (.var 4) .nil))) .nil)))))) .nil))))) <|
     .cons (.expr (.meth .append (.var 7) (.cons (.tup (.cons (.var 6) (.cons (.idx (.var 5) (.var 8)) (.cons (.call 18 (.cons (.var 0) (.cons (.bi .len (.cons (.idx (.var 1) (.cst (.int 3))) .nil)) .nil))) (.cons (.call 18 (.cons (.var 0) (.cons (.idx (.var 1) (.cst (.int 1))) .nil))) .nil))))) .nil))) <|
     .nil)) <|
  .cons (.ret (.bi .tuple (.cons (.var 7) .nil))) <|
  .nil)
def d_law_coming : DefI := ⟨⟨"_law_coming", ["feed", "library", "stand", "most", "far"], []⟩, ["feed", "library", "stand", "most", "far", "numbers", "day", "found", "k"], b_law_coming⟩
def b_law_entered : Bs := (.cons (.asg (.name 2) (.bin .add (.lc (.idx (.var 3) (.cst (.int 2))) (.name 3) (.val (.idx (.var 0) (.cst (.int 1)))) (.cons (.cmp .inn (.idx (.var 3) (.cst (.int 0))) (.lst (.cons (.cst (.str "way")) (.cons (.cst (.str "ready")) .nil)))) .nil) [3]) (.lc (.idx (.var 4) (.cst (.int 1))) (.name 4) (.val (.var 1)) .nil [4]))) <|
  .cons (.fors (.name 5) (.val (.idx (.var 0) (.cst (.int 3)))) (.cons (.asg (.name 2) (.bin .add (.var 2) (.lc (.idx (.var 6) (.cst (.int 0))) (.name 6) (.val (.var 5)) .nil [6]))) <|
     .nil)) <|
  .cons (.ret (.bi .sorted (.cons (.var 2) .nil))) <|
  .nil)
def d_law_entered : DefI := ⟨⟨"_law_entered", ["stand", "coming"], []⟩, ["stand", "coming", "found", "place", "one", "line", "hold"], b_law_entered⟩
def b_law_days_back : Bs := (.cons (.asg (.tup (.cons (.name 3) (.cons (.name 4) .nil))) (.tup (.cons (.lst .nil) (.cons (.call 26 (.cons (.var 0) (.cons (.var 2) .nil))) .nil)))) <|
  .cons (.fors (.name 5) (.rng1 (.bi .len (.cons (.var 4) .nil))) (.cons (.asg (.name 3) (.bin .add (.var 3) (.lc (.tup (.cons (.var 5) (.cons (.var 6) .nil))) (.name 6) (.rng2 (.bin .add (.idx (.var 1) (.cst (.int 0))) (.cst (.int 1))) (.bin .add (.idx (.var 4) (.var 5)) (.cst (.int 1)))) (.cons (.cmp .eq (.idx (.idx (.idx (.idx (.var 0) (.cst (.int 0))) (.var 5)) (.cst (.int 0))) (.bin .mod (.bi .int (.cons (.var 6) .nil)) (.cst (.int 7)))) (.cst (.int 1))) .nil) [6]))) <|
     .nil)) <|
  .cons (.ret (.var 3)) <|
  .nil)
def d_law_days_back : DefI := ⟨⟨"_law_days_back", ["book", "stand", "due"], []⟩, ["book", "stand", "due", "found", "ends", "house", "day"], b_law_days_back⟩
def b_law_course : Bs := (.cons (.asg (.tup (.cons (.name 4) (.cons (.name 5) .nil))) (.tup (.cons (.idx (.var 1) (.cst (.int 0))) (.cons (.lst (.cons (.cst (.str "back")) (.cons (.cst (.str "back")) (.cons (.cst (.str "back")) (.cons (.cst (.str "lapse")) (.cons (.cst (.str "lost")) .nil)))))) .nil)))) <|
  .cons (.asg (.name 6) (.lst .nil)) <|
  .cons (.fors (.name 7) (.val (.call 33 (.cons (.var 2) (.cons (.var 3) .nil)))) (.cons (.asg (.name 8) (.call 19 (.cons (.var 0) (.cons (.lst (.cons (.cst (.int 1)) (.cons (.cst (.int 5)) (.cons (.cst (.int 13)) (.cons (.cst (.int 20)) (.cons (.cst (.int 400)) (.cons (.bin .add (.cst (.int 1)) (.call 18 (.cons (.var 0) (.cons (.cst (.int 30)) .nil)))) .nil))))))) .nil)))) <|
     .cons (.expr (.meth .append (.var 6) (.cons (.tup (.cons (.var 7) (.cons (.bin .add (.cst (.int 1)) (.call 18 (.cons (.var 0) (.cons (.idx (.var 4) (.cst (.int 3))) .nil)))) (.cons (.var 8) (.cons (.call 18 (.cons (.var 0) (.cons (.bi .len (.cons (.idx (.var 4) (.cst (.int 0))) .nil)) .nil))) (.cons (.call 19 (.cons (.var 0) (.cons (.var 5) .nil))) .nil)))))) .nil))) <|
     .nil)) <|
  .cons (.asg (.tup (.cons (.name 9) (.cons (.name 10) .nil))) (.tup (.cons (.lst .nil) (.cons (.lst .nil) .nil)))) <|
  .cons (.fors (.name 11) (.rng1 (.bi .len (.cons (.idx (.var 2) (.cst (.int 1))) .nil))) (.cons (.asg (.name 12) (.idx (.idx (.var 2) (.cst (.int 1))) (.var 11))) <|
     .cons (.ifs (.cmp .eq (.idx (.var 12) (.cst (.int 0))) (.cst (.str "lent"))) (.cons (.asg (.name 13) (.call 34 (.cons (.var 4) (.cons (.var 2) (.cons (.idx (.var 12) (.cst (.int 1))) .nil))))) <|
        .cons (.expr (.meth .append (.var 9) (.cons (.ite (.or (.cmp .eq (.var 13) (.lst .nil)) (.cmp .eq (.call 18 (.cons (.var 0) (.cons (.cst (.int 5)) .nil))) (.cst (.int 0)))) (.tup (.cons (.var 11) (.cons (.cst .non) (.cons (.cst .non) .nil)))) (.bin .add (.tup (.cons (.var 11) .nil)) (.call 19 (.cons (.var 0) (.cons (.var 13) .nil))))) .nil))) <|
        .nil) .nil) <|
     .cons (.asg (.name 14) (.or (.cmp .inn (.idx (.var 12) (.cst (.int 0))) (.lst (.cons (.cst (.str "free")) (.cons (.cst (.str "in")) .nil)))) (.and (.cmp .eq (.idx (.var 12) (.cst (.int 0))) (.cst (.str "lent"))) (.cmp .is (.idx (.idx (.var 9) (.neg (.cst (.int 1)))) (.cst (.int 1))) (.cst .non))))) <|
     .cons (.ifs (.and (.var 14) (.cmp .eq (.call 18 (.cons (.var 0) (.cons (.cst (.int 7)) .nil))) (.cst (.int 0)))) (.cons (.expr (.meth .append (.var 10) (.cons (.var 11) .nil))) <|
        .nil) .nil) <|
     .nil)) <|
  .cons (.ret (.tup (.cons (.bi .tuple (.cons (.var 6) .nil)) (.cons (.bi .tuple (.cons (.var 9) .nil)) (.cons (.bi .tuple (.cons (.var 10) .nil)) .nil))))) <|
  .nil)
def d_law_course : DefI := ⟨⟨"_law_course", ["feed", "library", "stand", "coming"], []⟩, ["feed", "library", "stand", "coming", "book", "hows", "entries", "number", "keeping", "backs", "gone", "copy", "place", "days", "is_let"], b_law_course⟩
def b_law_is_entry : Bs := (.cons (.ifs (.or (.not (.isi (.var 2) .tuple)) (.or (.cmp .ne (.bi .len (.cons (.var 2) .nil)) (.cst (.int 5))) (.or (.not (.call 21 (.cons (.idx (.var 2) (.cst (.int 0))) (.cons (.var 1) (.cons (.var 1) .nil))))) (.not (.isi (.idx (.var 2) (.cst (.int 4))) .str))))) (.cons (.ret (.cst (.bl false))) <|
     .nil) .nil) <|
  .cons (.ifs (.or (.not (.call 21 (.cons (.idx (.var 2) (.cst (.int 1))) (.cons (.cst (.int 1)) (.cons (.idx (.idx (.var 0) (.cst (.int 0))) (.cst (.int 3))) .nil))))) (.not (.call 21 (.cons (.idx (.var 2) (.cst (.int 2))) (.cons (.cst (.int 1)) (.cons (.cst (.int 400)) .nil)))))) (.cons (.ret (.cst (.bl false))) <|
     .nil) .nil) <|
  .cons (.ret (.and (.call 21 (.cons (.idx (.var 2) (.cst (.int 3))) (.cons (.cst (.int 0)) (.cons (.bin .sub (.bi .len (.cons (.idx (.idx (.var 0) (.cst (.int 0))) (.cst (.int 0))) .nil)) (.cst (.int 1))) .nil)))) (.cmp .inn (.idx (.var 2) (.cst (.int 4))) (.lst (.cons (.cst (.str "back")) (.cons (.cst (.str "lapse")) (.cons (.cst (.str "lost")) .nil))))))) <|
  .nil)
def d_law_is_entry : DefI := ⟨⟨"_law_is_entry", ["library", "number", "entry"], []⟩, ["library", "number", "entry"], b_law_is_entry⟩
def b_law_is_back : Bs := (.cons (.ifs (.or (.not (.isi (.var 3) .tuple)) (.or (.cmp .ne (.bi .len (.cons (.var 3) .nil)) (.cst (.int 3))) (.not (.call 21 (.cons (.idx (.var 3) (.cst (.int 0))) (.cons (.var 2) (.cons (.var 2) .nil))))))) (.cons (.ret (.cst (.bl false))) <|
     .nil) .nil) <|
  .cons (.ifs (.or (.cmp .is (.idx (.var 3) (.cst (.int 1))) (.cst .non)) (.cmp .is (.idx (.var 3) (.cst (.int 2))) (.cst .non))) (.cons (.ret (.and (.cmp .is (.idx (.var 3) (.cst (.int 1))) (.cst .non)) (.cmp .is (.idx (.var 3) (.cst (.int 2))) (.cst .non)))) <|
     .nil) .nil) <|
  .cons (.ifs (.or (.not (.call 21 (.cons (.idx (.var 3) (.cst (.int 1))) (.cons (.cst (.int 0)) (.cons (.bin .sub (.bi .len (.cons (.idx (.idx (.var 0) (.cst (.int 0))) (.cst (.int 0))) .nil)) (.cst (.int 1))) .nil))))) (.not (.call 21 (.cons (.idx (.var 3) (.cst (.int 2))) (.cons (.cst (.int 0)) (.cons (.bin .pow (.cst (.int 10)) (.cst (.int 30))) .nil)))))) (.cons (.ret (.cst (.bl false))) <|
     .nil) .nil) <|
  .cons (.ret (.cmp .inn (.tup (.cons (.idx (.var 3) (.cst (.int 1))) (.cons (.idx (.var 3) (.cst (.int 2))) .nil))) (.call 34 (.cons (.idx (.var 0) (.cst (.int 0))) (.cons (.var 1) (.cons (.idx (.idx (.idx (.var 1) (.cst (.int 1))) (.var 2)) (.cst (.int 1))) .nil)))))) <|
  .nil)
def d_law_is_back : DefI := ⟨⟨"_law_is_back", ["library", "stand", "copy", "back"], []⟩, ["library", "stand", "copy", "back"], b_law_is_back⟩
def b_law_is_gone : Bs := (.cons (.ifs (.or (.not (.isi (.var 2) .tuple)) (.cmp .ne (.lc (.var 3) (.name 3) (.val (.var 2)) (.cons (.not (.call 21 (.cons (.var 3) (.cons (.cst (.int 0)) (.cons (.bin .sub (.bi .len (.cons (.idx (.var 0) (.cst (.int 1))) .nil)) (.cst (.int 1))) .nil))))) .nil) [3]) (.lst .nil))) (.cons (.ret (.cst (.bl false))) <|
     .nil) .nil) <|
  .cons (.asg (.name 4) (.lc (.idx (.var 5) (.cst (.int 0))) (.name 5) (.val (.var 1)) (.cons (.cmp .is (.idx (.var 5) (.cst (.int 1))) (.cst .non)) .nil) [5])) <|
  .cons (.ifs (.cmp .ne (.lc (.var 3) (.name 3) (.val (.var 2)) (.cons (.and (.cmp .notin (.idx (.idx (.idx (.var 0) (.cst (.int 1))) (.var 3)) (.cst (.int 0))) (.lst (.cons (.cst (.str "free")) (.cons (.cst (.str "in")) .nil)))) (.cmp .notin (.var 3) (.var 4))) .nil) [3]) (.lst .nil)) (.cons (.ret (.cst (.bl false))) <|
     .nil) .nil) <|
  .cons (.ret (.cmp .eq (.lc (.var 6) (.name 6) (.rng2 (.cst (.int 1)) (.bi .len (.cons (.var 2) .nil))) (.cons (.cmp .ge (.idx (.var 2) (.bin .sub (.var 6) (.cst (.int 1)))) (.idx (.var 2) (.var 6))) .nil) [6]) (.lst .nil))) <|
  .nil)
def d_law_is_gone : DefI := ⟨⟨"_law_is_gone", ["stand", "backs", "gone"], []⟩, ["stand", "backs", "gone", "copy", "never", "back", "k"], b_law_is_gone⟩
def b_law_fault : Bs := (.cons (.ifs (.or (.not (.isi (.var 3) .tuple)) (.cmp .ne (.bi .len (.cons (.var 3) .nil)) (.cst (.int 3)))) (.cons (.ret (.cst (.str "course"))) <|
     .nil) .nil) <|
  .cons (.asg (.tup (.cons (.name 4) (.cons (.name 5) (.cons (.name 6) .nil)))) (.var 3)) <|
  .cons (.asg (.name 7) (.call 33 (.cons (.var 1) (.cons (.var 2) .nil)))) <|
  .cons (.ifs (.or (.not (.isi (.var 4) .tuple)) (.cmp .ne (.bi .len (.cons (.var 4) .nil)) (.bi .len (.cons (.var 7) .nil)))) (.cons (.ret (.cst (.str "entries"))) <|
     .nil) .nil) <|
  .cons (.ifs (.cmp .ne (.lc (.var 8) (.name 8) (.rng1 (.bi .len (.cons (.var 7) .nil))) (.cons (.not (.call 36 (.cons (.var 0) (.cons (.idx (.var 7) (.var 8)) (.cons (.idx (.var 4) (.var 8)) .nil))))) .nil) [8]) (.lst .nil)) (.cons (.ret (.cst (.str "entries"))) <|
     .nil) .nil) <|
  .cons (.asg (.name 9) (.lc (.var 10) (.name 10) (.rng1 (.bi .len (.cons (.idx (.var 1) (.cst (.int 1))) .nil))) (.cons (.cmp .eq (.idx (.idx (.idx (.var 1) (.cst (.int 1))) (.var 10)) (.cst (.int 0))) (.cst (.str "lent"))) .nil) [10])) <|
  .cons (.ifs (.or (.not (.isi (.var 5) .tuple)) (.cmp .ne (.bi .len (.cons (.var 5) .nil)) (.bi .len (.cons (.var 9) .nil)))) (.cons (.ret (.cst (.str "backs"))) <|
     .nil) .nil) <|
  .cons (.ifs (.cmp .ne (.lc (.var 8) (.name 8) (.rng1 (.bi .len (.cons (.var 9) .nil))) (.cons (.not (.call 37 (.cons (.var 0) (.cons (.var 1) (.cons (.idx (.var 9) (.var 8)) (.cons (.idx (.var 5) (.var 8)) .nil)))))) .nil) [8]) (.lst .nil)) (.cons (.ret (.cst (.str "backs"))) <|
     .nil) .nil) <|
  .cons (.ret (.ite (.call 38 (.cons (.var 1) (.cons (.var 5) (.cons (.var 6) .nil)))) (.cst .non) (.cst (.str "gone")))) <|
  .nil)
def d_law_fault : DefI := ⟨⟨"_law_fault", ["library", "stand", "coming", "value"], []⟩, ["library", "stand", "coming", "value", "entries", "backs", "gone", "numbers", "k", "lent", "copy"], b_law_fault⟩
def b_law_bent : Bs := (.cons (.asg (.tup (.cons (.name 5) (.cons (.name 6) .nil))) (.tup (.cons (.call 18 (.cons (.var 0) (.cons (.cst (.int 7)) .nil))) (.cons (.call 18 (.cons (.var 0) (.cons (.bin .add (.bi .len (.cons (.var 4) .nil)) (.cst (.int 1))) .nil))) .nil)))) <|
  .cons (.ifs (.cmp .eq (.var 5) (.cst (.int 0))) (.cons (.ret (.bin .add (.slc (.var 4) .none (.some (.var 6))) (.slc (.var 4) (.some (.bin .add (.var 6) (.cst (.int 1)))) .none))) <|
     .nil) .nil) <|
  .cons (.ifs (.cmp .eq (.var 5) (.cst (.int 1))) (.cons (.ret (.bin .add (.bin .add (.slc (.var 4) .none (.some (.var 6))) (.slc (.var 4) (.some (.var 6)) (.some (.bin .add (.var 6) (.cst (.int 1)))))) (.slc (.var 4) (.some (.var 6)) .none))) <|
     .nil) .nil) <|
  .cons (.ifs (.cmp .eq (.var 5) (.cst (.int 2))) (.cons (.ret (.rev (.var 4))) <|
     .nil) .nil) <|
  .cons (.ifs (.cmp .eq (.var 5) (.cst (.int 3))) (.cons (.ret (.call 19 (.cons (.var 0) (.cons (.lst (.cons (.cst .non) (.cons (.cst (.int 0)) (.cons (.cst (.str "")) (.cons (.bin .add (.var 4) (.tup (.cons (.cst (.int 0)) .nil))) (.cons (.bin .add (.var 4) (.tup (.cons (.tup .nil) .nil))) (.cons (.tup (.cons (.var 4) .nil)) (.cons (.tup (.cons (.cst (.str "back")) .nil)) (.cons (.cst (.bl true)) .nil))))))))) .nil)))) <|
     .nil) .nil) <|
  .cons (.ifs (.cmp .eq (.var 6) (.bi .len (.cons (.var 4) .nil))) (.cons (.ret (.bin .add (.var 4) (.tup (.cons (.call 19 (.cons (.var 0) (.cons (.lst (.cons (.cst (.int 0)) (.cons (.cst (.int 1)) (.cons (.bin .sub (.bi .len (.cons (.idx (.var 2) (.cst (.int 1))) .nil)) (.cst (.int 1))) (.cons (.tup (.cons (.cst (.int 0)) (.cons (.cst .non) (.cons (.cst .non) .nil)))) (.cons (.tup (.cons (.cst (.int 7)) (.cons (.cst (.int 1)) (.cons (.cst (.int 1)) (.cons (.cst (.int 0)) (.cons (.cst (.str "back")) .nil)))))) .nil)))))) .nil))) .nil)))) <|
     .nil) .nil) <|
  .cons (.asg (.name 7) (.idx (.var 4) (.var 6))) <|
  .cons (.ifs (.cmp .eq (.var 3) (.cst (.int 2))) (.cons (.asg (.name 8) (.ite (.isi (.var 7) .int) (.lst (.cons (.bin .add (.var 7) (.cst (.int 1))) (.cons (.bin .sub (.var 7) (.cst (.int 1))) .nil))) (.lst (.cons (.cst (.int 1)) .nil)))) <|
     .cons (.ret (.bin .add (.bin .add (.slc (.var 4) .none (.some (.var 6))) (.tup (.cons (.call 19 (.cons (.var 0) (.cons (.bin .add (.var 8) (.lst (.cons (.bi .len (.cons (.idx (.var 2) (.cst (.int 1))) .nil)) (.cons (.cst (.bl true)) (.cons (.cst (.bl false)) (.cons (.cst .non) (.cons (.cst (.str "0")) (.cons (.cst (.int 0)) (.cons (.bin .pow (.cst (.int 10)) (.cst (.int 29))) (.cons (.tup (.cons (.cst (.int 0)) .nil)) (.cons (.tup .nil) .nil))))))))))) .nil))) .nil))) (.slc (.var 4) (.some (.bin .add (.var 6) (.cst (.int 1)))) .none))) <|
     .nil) .nil) <|
  .cons (.ifs (.or (.not (.isi (.var 7) .tuple)) (.cmp .eq (.var 7) (.tup .nil))) (.cons (.ret (.bin .add (.slc (.var 4) .none (.some (.var 6))) (.slc (.var 4) (.some (.bin .add (.var 6) (.cst (.int 1)))) .none))) <|
     .nil) .nil) <|
  .cons (.asg (.name 9) (.call 18 (.cons (.var 0) (.cons (.bi .len (.cons (.var 7) .nil)) .nil)))) <|
  .cons (.asg (.name 8) (.lst (.cons (.cst (.int 0)) (.cons (.neg (.cst (.int 1))) (.cons (.cst (.int 1)) (.cons (.cst (.int 2)) (.cons (.cst (.int 3)) (.cons (.cst (.int 401)) (.cons (.cst (.int 400)) (.cons (.cst (.bl true)) (.cons (.cst (.bl false)) (.cons (.cst .non) (.cons (.cst (.str "back")) (.cons (.cst (.str "lost")) (.cons (.cst (.str "Back")) (.cons (.cst (.str "")) (.cons (.idx (.var 2) (.cst (.int 0))) (.cons (.bin .add (.idx (.var 2) (.cst (.int 0))) (.cst (.int 1))) (.cons (.bin .pow (.cst (.int 10)) (.cst (.int 29))) (.cons (.tup .nil) (.cons (.tup (.cons (.cst (.int 0)) .nil)) (.cons (.tup (.cons (.cst (.str "back")) .nil)) .nil)))))))))))))))))))))) <|
  .cons (.ifs (.isi (.idx (.var 7) (.var 9)) .int) (.cons (.asg (.name 8) (.bin .add (.var 8) (.lst (.cons (.bin .add (.idx (.var 7) (.var 9)) (.cst (.int 1))) (.cons (.bin .sub (.idx (.var 7) (.var 9)) (.cst (.int 1))) (.cons (.bin .add (.idx (.var 7) (.var 9)) (.cst (.int 7))) .nil)))))) <|
     .nil) .nil) <|
  .cons (.asg (.name 10) (.bin .add (.bin .add (.slc (.var 7) .none (.some (.var 9))) (.tup (.cons (.call 19 (.cons (.var 0) (.cons (.var 8) .nil))) .nil))) (.slc (.var 7) (.some (.bin .add (.var 9) (.cst (.int 1)))) .none))) <|
  .cons (.ifs (.cmp .eq (.var 5) (.cst (.int 4))) (.cons (.asg (.name 10) (.ite (.cmp .eq (.call 18 (.cons (.var 0) (.cons (.cst (.int 2)) .nil))) (.cst (.int 0))) (.bin .add (.slc (.var 7) .none (.some (.var 9))) (.slc (.var 7) (.some (.bin .add (.var 9) (.cst (.int 1)))) .none)) (.bin .add (.var 7) (.tup (.cons (.cst .non) .nil))))) <|
     .nil) .nil) <|
  .cons (.ret (.bin .add (.bin .add (.slc (.var 4) .none (.some (.var 6))) (.tup (.cons (.var 10) .nil))) (.slc (.var 4) (.some (.bin .add (.var 6) (.cst (.int 1)))) .none))) <|
  .nil)
def d_law_bent : DefI := ⟨⟨"_law_bent", ["feed", "library", "stand", "part", "row"], []⟩, ["feed", "library", "stand", "part", "row", "how", "at", "one", "some", "k", "value"], b_law_bent⟩
def b_law_told : Bs := (.cons (.tryR (.cons (.ifs (.cmp .eq (.var 4) (.cst (.int 0))) (.cons (.ret (.tup (.cons (.cst (.str "none")) (.cons (.callKX 15 .nil ["value", "coming", "stand", "library"] (.cons (.var 3) (.cons (.var 2) (.cons (.var 1) (.cons (.var 0) .nil)))) [3, 2, 1, 0]) .nil)))) <|
        .nil) .nil) <|
     .cons (.ret (.tup (.cons (.cst (.str "none")) (.cons (.callX 15 (.cons (.var 0) (.cons (.var 1) (.cons (.var 2) (.cons (.var 3) .nil))))) .nil)))) <|
     .nil) ⟨4, ["part"], some 6, (.tup [.cst (.str "bad"), .fld "part"])⟩) <|
  .nil)
def d_law_told : DefI := ⟨⟨"_law_told", ["library", "stand", "coming", "value", "turn"], []⟩, ["library", "stand", "coming", "value", "turn", "is_other", "e"], b_law_told⟩
def b_law_is_due : Bs := (.cons (.ifs (.cmp .is (.var 1) (.cst .non)) (.cons (.ret (.and (.cmp .eq (.idx (.var 0) (.cst (.int 0))) (.cst (.str "none"))) (.cmp .is (.idx (.var 0) (.cst (.int 1))) (.cst .non)))) <|
     .nil) .nil) <|
  .cons (.ret (.and (.cmp .eq (.idx (.var 0) (.cst (.int 0))) (.cst (.str "bad"))) (.and (.isi (.idx (.var 0) (.cst (.int 1))) .str) (.cmp .eq (.idx (.var 0) (.cst (.int 1))) (.var 1))))) <|
  .nil)
def d_law_is_due : DefI := ⟨⟨"_law_is_due", ["told", "fault"], []⟩, ["told", "fault"], b_law_is_due⟩
def b_law : Bs := (.cons (.asg (.name 1) (.call 17 (.cons (.var 0) .nil))) <|
  .cons (.asg (.name 2) (.call 29 (.cons (.var 1) (.cons (.cst (.int 3)) (.cons (.cst (.int 4)) (.cons (.cst (.int 4)) .nil)))))) <|
  .cons (.asg (.name 3) (.call 31 (.cons (.var 1) (.cons (.var 2) (.cons (.call 19 (.cons (.var 1) (.cons (.lst (.cons (.cst (.int 0)) (.cons (.cst (.int 6)) (.cons (.bin .add (.cst (.int 5)) (.call 18 (.cons (.var 1) (.cons (.cst (.int 30)) .nil)))) (.cons (.cst (.int 99990)) .nil))))) .nil))) (.cons (.cst (.int 3)) .nil)))))) <|
  .cons (.ifs (.cmp .eq (.call 18 (.cons (.var 1) (.cons (.cst (.int 8)) .nil))) (.cst (.int 0))) (.cons (.asg (.name 4) (.lc (.ite (.cmp .eq (.idx (.var 5) (.cst (.int 0))) (.cst (.str "lent"))) (.bin .add (.tup (.cons (.cst (.str "lent")) (.cons (.bin .add (.idx (.var 3) (.cst (.int 0))) (.call 19 (.cons (.var 1) (.cons (.lst (.cons (.cst (.int 2990)) (.cons (.cst (.int 3000)) .nil))) .nil)))) .nil))) (.slc (.var 5) (.some (.cst (.int 2))) .none)) (.var 5)) (.name 5) (.val (.idx (.var 3) (.cst (.int 1)))) .nil [5])) <|
     .cons (.asg (.name 3) (.bin .add (.bin .add (.slc (.var 3) .none (.some (.cst (.int 1)))) (.tup (.cons (.bi .tuple (.cons (.var 4) .nil)) .nil))) (.slc (.var 3) (.some (.cst (.int 2))) .none))) <|
     .nil) .nil) <|
  .cons (.asg (.name 6) (.call 32 (.cons (.var 1) (.cons (.var 2) (.cons (.var 3) (.cons (.cst (.int 3)) (.cons (.cst (.int 9)) .nil))))))) <|
  .cons (.asg (.name 7) (.call 35 (.cons (.var 1) (.cons (.var 2) (.cons (.var 3) (.cons (.var 6) .nil)))))) <|
  .cons (.ifs (.not (.call 42 (.cons (.call 41 (.cons (.var 2) (.cons (.var 3) (.cons (.var 6) (.cons (.var 7) (.cons (.cst (.int 0)) .nil)))))) (.cons (.cst .non) .nil)))) (.cons (.ret (.cst (.bl false))) <|
     .nil) .nil) <|
  .cons (.fors (.name 8) (.rng1 (.cst (.int 12))) (.cons (.asg (.name 9) (.var 7)) <|
     .cons (.fors (.name 10) (.rng1 (.bin .add (.cst (.int 1)) (.call 18 (.cons (.var 1) (.cons (.cst (.int 2)) .nil))))) (.cons (.asg (.name 11) (.call 18 (.cons (.var 1) (.cons (.cst (.int 3)) .nil)))) <|
        .cons (.asg (.name 12) (.ite (.isi (.idx (.var 9) (.var 11)) .tuple) (.idx (.var 9) (.var 11)) (.tup .nil))) <|
        .cons (.asg (.name 9) (.bin .add (.bin .add (.slc (.var 9) .none (.some (.var 11))) (.tup (.cons (.call 40 (.cons (.var 1) (.cons (.var 2) (.cons (.var 3) (.cons (.var 11) (.cons (.ite (.cmp .eq (.var 12) (.tup .nil)) (.idx (.var 7) (.var 11)) (.var 12)) .nil)))))) .nil))) (.slc (.var 9) (.some (.bin .add (.var 11) (.cst (.int 1)))) .none))) <|
        .nil)) <|
     .cons (.ifs (.cmp .eq (.call 18 (.cons (.var 1) (.cons (.cst (.int 9)) .nil))) (.cst (.int 0))) (.cons (.asg (.name 9) (.call 19 (.cons (.var 1) (.cons (.lst (.cons (.cst .non) (.cons (.cst (.int 0)) (.cons (.cst (.str "")) (.cons (.tup .nil) (.cons (.slc (.var 7) .none (.some (.cst (.int 2)))) (.cons (.bin .add (.var 7) (.tup (.cons (.tup .nil) .nil))) (.cons (.tup (.cons (.var 7) .nil)) (.cons (.cst (.str "abc")) (.cons (.cst (.str "course")) (.cons (.cst (.bl true)) (.cons (.tup (.cons (.cst (.int 0)) (.cons (.cst .non) (.cons (.cst (.str "a")) .nil)))) (.cons (.tup (.cons (.cst (.str "")) (.cons (.cst (.str "")) (.cons (.cst (.str "")) .nil)))) .nil))))))))))))) .nil)))) <|
        .nil) .nil) <|
     .cons (.ifs (.not (.call 42 (.cons (.call 41 (.cons (.var 2) (.cons (.var 3) (.cons (.var 6) (.cons (.var 9) (.cons (.var 8) .nil)))))) (.cons (.call 39 (.cons (.var 2) (.cons (.var 3) (.cons (.var 6) (.cons (.var 9) .nil))))) .nil)))) (.cons (.ret (.cst (.bl false))) <|
        .nil) .nil) <|
     .nil)) <|
  .cons (.ret (.cst (.bl true))) <|
  .nil)
def d_law : DefI := ⟨⟨"law", ["script"], []⟩, ["script", "feed", "library", "stand", "places", "place", "coming", "course", "turn", "value", "again", "part", "row"], b_law⟩
def T : List DefI := [d_is_open, d_next_open, d_is_number, d_number_in, d_is_tuple, d_ascends, d_week_of, d_last_back, d_copies_at, d_course_numbers, d_entry_right, d_entries_right, d_back_right, d_backs_right, d_gone_right, d_check_course, d_law_mixed, d_law_feed, d_law_take, d_law_one, d_law_mixed_up, d_law_is_int, d_law_next_open, d_law_nth_open, d_law_ready, d_law_allowed, d_law_ends, d_law_week, d_law_book, d_law_library, d_law_place, d_law_stand, d_law_coming, d_law_entered, d_law_days_back, d_law_course, d_law_is_entry, d_law_is_back, d_law_is_gone, d_law_fault, d_law_bent, d_law_told, d_law_is_due, d_law]
def sts : List Stmt := [topS 12, topS 13, topS 15, topS 16, topS 17, topS 18, topS 20, topS 21, topS 23, topS 25, topS 26, topS 27, topS 28, topS 29, topS 30, topS 31, topS 33, topS 34, topS 35, topS 36, topS 37, topS 38, topS 39, topS 40, topS 41, topS 42, topS 43, topS 44, topS 45, topS 46, topS 47, topS 48, topS 49, topS 50, topS 51, topS 52, topS 53, topS 54, topS 55, topS 56, topS 57, topS 58, topS 59, topS 60]
def CTs : List ClT := [⟨⟨"BadBook", ["part", "number"], []⟩, ["self", "part", "number"], initS (topS 2)⟩, ⟨⟨"BadLibrary", ["part", "number"], []⟩, ["self", "part", "number"], initS (topS 3)⟩, ⟨⟨"BadStand", ["part", "number"], []⟩, ["self", "part", "number"], initS (topS 4)⟩, ⟨⟨"BadDeed", ["number"], []⟩, ["self", "number"], initS (topS 5)⟩, ⟨⟨"BadCourse", ["part"], [("BadBook", false), ("BadDeed", false), ("BadLibrary", false), ("BadStand", false), ("BadText", false), ("LastDay", false), ("NothingLeft", false), ("UnknownHold", false), ("LibraryError", true), ("ValueError", true)]⟩, ["self", "part"], initS (topS 6)⟩, ⟨⟨"BadText", ["line"], []⟩, ["self", "line"], initS (topS 7)⟩, ⟨⟨"UnknownHold", ["number"], []⟩, ["self", "number"], initS (topS 8)⟩]
theorem ok_is_open : defOk (CTs.map (·.c)) T (topS 12) d_is_open = true := by decide +kernel
theorem bn_is_open : Bnd (topS 12) d_is_open.i := ⟨fun _ _ _ _ _ _ _ _ us hl => match us, hl with
    | [_, _], _ => rfl, fun n ks perm h => by cases h⟩
theorem ok_next_open : defOk (CTs.map (·.c)) T (topS 13) d_next_open = true := by decide +kernel
theorem bn_next_open : Bnd (topS 13) d_next_open.i := ⟨fun _ _ _ _ _ _ _ _ us hl => match us, hl with
    | [_, _], _ => rfl, fun n ks perm h => by cases h⟩
theorem ok_is_number : defOk (CTs.map (·.c)) T (topS 15) d_is_number = true := by decide +kernel
theorem bn_is_number : Bnd (topS 15) d_is_number.i := ⟨fun _ _ _ _ _ _ _ _ us hl => match us, hl with
    | [_], _ => rfl, fun n ks perm h => by cases h⟩
theorem ok_number_in : defOk (CTs.map (·.c)) T (topS 16) d_number_in = true := by decide +kernel
theorem bn_number_in : Bnd (topS 16) d_number_in.i := ⟨fun _ _ _ _ _ _ _ _ us hl => match us, hl with
    | [_, _, _], _ => rfl, fun n ks perm h => by cases h⟩
theorem ok_is_tuple : defOk (CTs.map (·.c)) T (topS 17) d_is_tuple = true := by decide +kernel
theorem bn_is_tuple : Bnd (topS 17) d_is_tuple.i := ⟨fun _ _ _ _ _ _ _ _ us hl => match us, hl with
    | [_, _], _ => rfl, fun n ks perm h => by cases h⟩
theorem ok_ascends : defOk (CTs.map (·.c)) T (topS 18) d_ascends = true := by decide +kernel
theorem bn_ascends : Bnd (topS 18) d_ascends.i := ⟨fun _ _ _ _ _ _ _ _ us hl => match us, hl with
    | [_], _ => rfl, fun n ks perm h => by cases h⟩
theorem ok_week_of : defOk (CTs.map (·.c)) T (topS 20) d_week_of = true := by decide +kernel
theorem bn_week_of : Bnd (topS 20) d_week_of.i := ⟨fun _ _ _ _ _ _ _ _ us hl => match us, hl with
    | [_, _], _ => rfl, fun n ks perm h => by cases h⟩
theorem ok_last_back : defOk (CTs.map (·.c)) T (topS 21) d_last_back = true := by decide +kernel
theorem bn_last_back : Bnd (topS 21) d_last_back.i := ⟨fun _ _ _ _ _ _ _ _ us hl => match us, hl with
    | [_, _, _], _ => rfl, fun n ks perm h => by cases h⟩
theorem ok_copies_at : defOk (CTs.map (·.c)) T (topS 23) d_copies_at = true := by decide +kernel
theorem bn_copies_at : Bnd (topS 23) d_copies_at.i := ⟨fun _ _ _ _ _ _ _ _ us hl => match us, hl with
    | [_, _], _ => rfl, fun n ks perm h => by cases h⟩
theorem ok_course_numbers : defOk (CTs.map (·.c)) T (topS 25) d_course_numbers = true := by decide +kernel
theorem bn_course_numbers : Bnd (topS 25) d_course_numbers.i := ⟨fun _ _ _ _ _ _ _ _ us hl => match us, hl with
    | [_, _], _ => rfl, fun n ks perm h => by cases h⟩
theorem ok_entry_right : defOk (CTs.map (·.c)) T (topS 26) d_entry_right = true := by decide +kernel
theorem bn_entry_right : Bnd (topS 26) d_entry_right.i := ⟨fun _ _ _ _ _ _ _ _ us hl => match us, hl with
    | [_, _, _], _ => rfl, fun n ks perm h => by cases h⟩
theorem ok_entries_right : defOk (CTs.map (·.c)) T (topS 27) d_entries_right = true := by decide +kernel
theorem bn_entries_right : Bnd (topS 27) d_entries_right.i := ⟨fun _ _ _ _ _ _ _ _ us hl => match us, hl with
    | [_, _, _], _ => rfl, fun n ks perm h => by cases h⟩
theorem ok_back_right : defOk (CTs.map (·.c)) T (topS 28) d_back_right = true := by decide +kernel
theorem bn_back_right : Bnd (topS 28) d_back_right.i := ⟨fun _ _ _ _ _ _ _ _ us hl => match us, hl with
    | [_, _, _, _], _ => rfl, fun n ks perm h => by cases h⟩
theorem ok_backs_right : defOk (CTs.map (·.c)) T (topS 29) d_backs_right = true := by decide +kernel
theorem bn_backs_right : Bnd (topS 29) d_backs_right.i := ⟨fun _ _ _ _ _ _ _ _ us hl => match us, hl with
    | [_, _, _], _ => rfl, fun n ks perm h => by cases h⟩
theorem ok_gone_right : defOk (CTs.map (·.c)) T (topS 30) d_gone_right = true := by decide +kernel
theorem bn_gone_right : Bnd (topS 30) d_gone_right.i := ⟨fun _ _ _ _ _ _ _ _ us hl => match us, hl with
    | [_, _, _], _ => rfl, fun n ks perm h => by cases h⟩
theorem ok_check_course : defOk (CTs.map (·.c)) T (topS 31) d_check_course = true := by decide +kernel
theorem bn_check_course : Bnd (topS 31) d_check_course.i := ⟨fun _ _ _ _ _ _ _ _ us hl => match us, hl with
    | [_, _, _, _], _ => rfl, fun n ks perm h => by
    simp only [d_check_course, List.mem_cons, List.mem_nil_iff, or_false] at h
    rcases h with h
    · obtain ⟨rfl, rfl, rfl⟩ : n = _ ∧ ks = _ ∧ perm = _ := by simpa using h
      exact fun _ _ _ _ _ _ _ _ => fun us ws h1 h2 => match us, ws, h1, h2 with
      | [], [_, _, _, _], _, _ => rfl
⟩
theorem ok_law_mixed : defOk (CTs.map (·.c)) T (topS 33) d_law_mixed = true := by decide +kernel
theorem bn_law_mixed : Bnd (topS 33) d_law_mixed.i := ⟨fun _ _ _ _ _ _ _ _ us hl => match us, hl with
    | [_, _], _ => rfl, fun n ks perm h => by cases h⟩
theorem ok_law_feed : defOk (CTs.map (·.c)) T (topS 34) d_law_feed = true := by decide +kernel
theorem bn_law_feed : Bnd (topS 34) d_law_feed.i := ⟨fun _ _ _ _ _ _ _ _ us hl => match us, hl with
    | [_], _ => rfl, fun n ks perm h => by cases h⟩
theorem ok_law_take : defOk (CTs.map (·.c)) T (topS 35) d_law_take = true := by decide +kernel
theorem bn_law_take : Bnd (topS 35) d_law_take.i := ⟨fun _ _ _ _ _ _ _ _ us hl => match us, hl with
    | [_, _], _ => rfl, fun n ks perm h => by cases h⟩
theorem ok_law_one : defOk (CTs.map (·.c)) T (topS 36) d_law_one = true := by decide +kernel
theorem bn_law_one : Bnd (topS 36) d_law_one.i := ⟨fun _ _ _ _ _ _ _ _ us hl => match us, hl with
    | [_, _], _ => rfl, fun n ks perm h => by cases h⟩
theorem ok_law_mixed_up : defOk (CTs.map (·.c)) T (topS 37) d_law_mixed_up = true := by decide +kernel
theorem bn_law_mixed_up : Bnd (topS 37) d_law_mixed_up.i := ⟨fun _ _ _ _ _ _ _ _ us hl => match us, hl with
    | [_, _], _ => rfl, fun n ks perm h => by cases h⟩
theorem ok_law_is_int : defOk (CTs.map (·.c)) T (topS 38) d_law_is_int = true := by decide +kernel
theorem bn_law_is_int : Bnd (topS 38) d_law_is_int.i := ⟨fun _ _ _ _ _ _ _ _ us hl => match us, hl with
    | [_, _, _], _ => rfl, fun n ks perm h => by cases h⟩
theorem ok_law_next_open : defOk (CTs.map (·.c)) T (topS 39) d_law_next_open = true := by decide +kernel
theorem bn_law_next_open : Bnd (topS 39) d_law_next_open.i := ⟨fun _ _ _ _ _ _ _ _ us hl => match us, hl with
    | [_, _], _ => rfl, fun n ks perm h => by cases h⟩
theorem ok_law_nth_open : defOk (CTs.map (·.c)) T (topS 40) d_law_nth_open = true := by decide +kernel
theorem bn_law_nth_open : Bnd (topS 40) d_law_nth_open.i := ⟨fun _ _ _ _ _ _ _ _ us hl => match us, hl with
    | [_, _, _], _ => rfl, fun n ks perm h => by cases h⟩
theorem ok_law_ready : defOk (CTs.map (·.c)) T (topS 41) d_law_ready = true := by decide +kernel
theorem bn_law_ready : Bnd (topS 41) d_law_ready.i := ⟨fun _ _ _ _ _ _ _ _ us hl => match us, hl with
    | [_, _, _, _], _ => rfl, fun n ks perm h => by cases h⟩
theorem ok_law_allowed : defOk (CTs.map (·.c)) T (topS 42) d_law_allowed = true := by decide +kernel
theorem bn_law_allowed : Bnd (topS 42) d_law_allowed.i := ⟨fun _ _ _ _ _ _ _ _ us hl => match us, hl with
    | [_, _, _], _ => rfl, fun n ks perm h => by cases h⟩
theorem ok_law_ends : defOk (CTs.map (·.c)) T (topS 43) d_law_ends = true := by decide +kernel
theorem bn_law_ends : Bnd (topS 43) d_law_ends.i := ⟨fun _ _ _ _ _ _ _ _ us hl => match us, hl with
    | [_, _], _ => rfl, fun n ks perm h => by cases h⟩
theorem ok_law_week : defOk (CTs.map (·.c)) T (topS 44) d_law_week = true := by decide +kernel
theorem bn_law_week : Bnd (topS 44) d_law_week.i := ⟨fun _ _ _ _ _ _ _ _ us hl => match us, hl with
    | [_], _ => rfl, fun n ks perm h => by cases h⟩
theorem ok_law_book : defOk (CTs.map (·.c)) T (topS 45) d_law_book = true := by decide +kernel
theorem bn_law_book : Bnd (topS 45) d_law_book.i := ⟨fun _ _ _ _ _ _ _ _ us hl => match us, hl with
    | [_, _], _ => rfl, fun n ks perm h => by cases h⟩
theorem ok_law_library : defOk (CTs.map (·.c)) T (topS 46) d_law_library = true := by decide +kernel
theorem bn_law_library : Bnd (topS 46) d_law_library.i := ⟨fun _ _ _ _ _ _ _ _ us hl => match us, hl with
    | [_, _, _, _], _ => rfl, fun n ks perm h => by cases h⟩
theorem ok_law_place : defOk (CTs.map (·.c)) T (topS 47) d_law_place = true := by decide +kernel
theorem bn_law_place : Bnd (topS 47) d_law_place.i := ⟨fun _ _ _ _ _ _ _ _ us hl => match us, hl with
    | [_, _, _, _, _], _ => rfl, fun n ks perm h => by cases h⟩
theorem ok_law_stand : defOk (CTs.map (·.c)) T (topS 48) d_law_stand = true := by decide +kernel
theorem bn_law_stand : Bnd (topS 48) d_law_stand.i := ⟨fun _ _ _ _ _ _ _ _ us hl => match us, hl with
    | [_, _, _, _], _ => rfl, fun n ks perm h => by cases h⟩
theorem ok_law_coming : defOk (CTs.map (·.c)) T (topS 49) d_law_coming = true := by decide +kernel
theorem bn_law_coming : Bnd (topS 49) d_law_coming.i := ⟨fun _ _ _ _ _ _ _ _ us hl => match us, hl with
    | [_, _, _, _, _], _ => rfl, fun n ks perm h => by cases h⟩
theorem ok_law_entered : defOk (CTs.map (·.c)) T (topS 50) d_law_entered = true := by decide +kernel
theorem bn_law_entered : Bnd (topS 50) d_law_entered.i := ⟨fun _ _ _ _ _ _ _ _ us hl => match us, hl with
    | [_, _], _ => rfl, fun n ks perm h => by cases h⟩
theorem ok_law_days_back : defOk (CTs.map (·.c)) T (topS 51) d_law_days_back = true := by decide +kernel
theorem bn_law_days_back : Bnd (topS 51) d_law_days_back.i := ⟨fun _ _ _ _ _ _ _ _ us hl => match us, hl with
    | [_, _, _], _ => rfl, fun n ks perm h => by cases h⟩
theorem ok_law_course : defOk (CTs.map (·.c)) T (topS 52) d_law_course = true := by decide +kernel
theorem bn_law_course : Bnd (topS 52) d_law_course.i := ⟨fun _ _ _ _ _ _ _ _ us hl => match us, hl with
    | [_, _, _, _], _ => rfl, fun n ks perm h => by cases h⟩
theorem ok_law_is_entry : defOk (CTs.map (·.c)) T (topS 53) d_law_is_entry = true := by decide +kernel
theorem bn_law_is_entry : Bnd (topS 53) d_law_is_entry.i := ⟨fun _ _ _ _ _ _ _ _ us hl => match us, hl with
    | [_, _, _], _ => rfl, fun n ks perm h => by cases h⟩
theorem ok_law_is_back : defOk (CTs.map (·.c)) T (topS 54) d_law_is_back = true := by decide +kernel
theorem bn_law_is_back : Bnd (topS 54) d_law_is_back.i := ⟨fun _ _ _ _ _ _ _ _ us hl => match us, hl with
    | [_, _, _, _], _ => rfl, fun n ks perm h => by cases h⟩
theorem ok_law_is_gone : defOk (CTs.map (·.c)) T (topS 55) d_law_is_gone = true := by decide +kernel
theorem bn_law_is_gone : Bnd (topS 55) d_law_is_gone.i := ⟨fun _ _ _ _ _ _ _ _ us hl => match us, hl with
    | [_, _, _], _ => rfl, fun n ks perm h => by cases h⟩
theorem ok_law_fault : defOk (CTs.map (·.c)) T (topS 56) d_law_fault = true := by decide +kernel
theorem bn_law_fault : Bnd (topS 56) d_law_fault.i := ⟨fun _ _ _ _ _ _ _ _ us hl => match us, hl with
    | [_, _, _, _], _ => rfl, fun n ks perm h => by cases h⟩
theorem ok_law_bent : defOk (CTs.map (·.c)) T (topS 57) d_law_bent = true := by decide +kernel
theorem bn_law_bent : Bnd (topS 57) d_law_bent.i := ⟨fun _ _ _ _ _ _ _ _ us hl => match us, hl with
    | [_, _, _, _, _], _ => rfl, fun n ks perm h => by cases h⟩
theorem ok_law_told : defOk (CTs.map (·.c)) T (topS 58) d_law_told = true := by decide +kernel
theorem bn_law_told : Bnd (topS 58) d_law_told.i := ⟨fun _ _ _ _ _ _ _ _ us hl => match us, hl with
    | [_, _, _, _, _], _ => rfl, fun n ks perm h => by cases h⟩
theorem ok_law_is_due : defOk (CTs.map (·.c)) T (topS 59) d_law_is_due = true := by decide +kernel
theorem bn_law_is_due : Bnd (topS 59) d_law_is_due.i := ⟨fun _ _ _ _ _ _ _ _ us hl => match us, hl with
    | [_, _], _ => rfl, fun n ks perm h => by cases h⟩
theorem ok_law : defOk (CTs.map (·.c)) T (topS 60) d_law = true := by decide +kernel
theorem bn_law : Bnd (topS 60) d_law.i := ⟨fun _ _ _ _ _ _ _ _ us hl => match us, hl with
    | [_], _ => rfl, fun n ks perm h => by cases h⟩
theorem okC0 : ClOk ⟨⟨"BadBook", ["part", "number"], []⟩, ["self", "part", "number"], initS (topS 2)⟩ := ⟨by decide +kernel, by decide +kernel, by decide, ⟨fun _ _ _ _ _ _ _ _ us hl => match us, hl with
    | [_, _, _], _ => rfl, fun n ks perm h => by cases h⟩⟩
theorem okC1 : ClOk ⟨⟨"BadLibrary", ["part", "number"], []⟩, ["self", "part", "number"], initS (topS 3)⟩ := ⟨by decide +kernel, by decide +kernel, by decide, ⟨fun _ _ _ _ _ _ _ _ us hl => match us, hl with
    | [_, _, _], _ => rfl, fun n ks perm h => by cases h⟩⟩
theorem okC2 : ClOk ⟨⟨"BadStand", ["part", "number"], []⟩, ["self", "part", "number"], initS (topS 4)⟩ := ⟨by decide +kernel, by decide +kernel, by decide, ⟨fun _ _ _ _ _ _ _ _ us hl => match us, hl with
    | [_, _, _], _ => rfl, fun n ks perm h => by cases h⟩⟩
theorem okC3 : ClOk ⟨⟨"BadDeed", ["number"], []⟩, ["self", "number"], initS (topS 5)⟩ := ⟨by decide +kernel, by decide +kernel, by decide, ⟨fun _ _ _ _ _ _ _ _ us hl => match us, hl with
    | [_, _], _ => rfl, fun n ks perm h => by cases h⟩⟩
theorem okC4 : ClOk ⟨⟨"BadCourse", ["part"], [("BadBook", false), ("BadDeed", false), ("BadLibrary", false), ("BadStand", false), ("BadText", false), ("LastDay", false), ("NothingLeft", false), ("UnknownHold", false), ("LibraryError", true), ("ValueError", true)]⟩, ["self", "part"], initS (topS 6)⟩ := ⟨by decide +kernel, by decide +kernel, by decide, ⟨fun _ _ _ _ _ _ _ _ us hl => match us, hl with
    | [_, _], _ => rfl, fun n ks perm h => by cases h⟩⟩
theorem okC5 : ClOk ⟨⟨"BadText", ["line"], []⟩, ["self", "line"], initS (topS 7)⟩ := ⟨by decide +kernel, by decide +kernel, by decide, ⟨fun _ _ _ _ _ _ _ _ us hl => match us, hl with
    | [_, _], _ => rfl, fun n ks perm h => by cases h⟩⟩
theorem okC6 : ClOk ⟨⟨"UnknownHold", ["number"], []⟩, ["self", "number"], initS (topS 8)⟩ := ⟨by decide +kernel, by decide +kernel, by decide, ⟨fun _ _ _ _ _ _ _ _ us hl => match us, hl with
    | [_, _], _ => rfl, fun n ks perm h => by cases h⟩⟩
theorem oks : ∀ t ∈ CTs, ClOk t := by
  intro t ht
  simp only [CTs, List.mem_cons, List.not_mem_nil, or_false] at ht
  rcases ht with rfl | rfl | rfl | rfl | rfl | rfl | rfl
  · exact okC0
  · exact okC1
  · exact okC2
  · exact okC3
  · exact okC4
  · exact okC5
  · exact okC6
theorem alD : AllD (CTs.map (·.c)) T T sts := ⟨⟨ok_is_open, bn_is_open⟩, ⟨ok_next_open, bn_next_open⟩, ⟨ok_is_number, bn_is_number⟩, ⟨ok_number_in, bn_number_in⟩, ⟨ok_is_tuple, bn_is_tuple⟩, ⟨ok_ascends, bn_ascends⟩, ⟨ok_week_of, bn_week_of⟩, ⟨ok_last_back, bn_last_back⟩, ⟨ok_copies_at, bn_copies_at⟩, ⟨ok_course_numbers, bn_course_numbers⟩, ⟨ok_entry_right, bn_entry_right⟩, ⟨ok_entries_right, bn_entries_right⟩, ⟨ok_back_right, bn_back_right⟩, ⟨ok_backs_right, bn_backs_right⟩, ⟨ok_gone_right, bn_gone_right⟩, ⟨ok_check_course, bn_check_course⟩, ⟨ok_law_mixed, bn_law_mixed⟩, ⟨ok_law_feed, bn_law_feed⟩, ⟨ok_law_take, bn_law_take⟩, ⟨ok_law_one, bn_law_one⟩, ⟨ok_law_mixed_up, bn_law_mixed_up⟩, ⟨ok_law_is_int, bn_law_is_int⟩, ⟨ok_law_next_open, bn_law_next_open⟩, ⟨ok_law_nth_open, bn_law_nth_open⟩, ⟨ok_law_ready, bn_law_ready⟩, ⟨ok_law_allowed, bn_law_allowed⟩, ⟨ok_law_ends, bn_law_ends⟩, ⟨ok_law_week, bn_law_week⟩, ⟨ok_law_book, bn_law_book⟩, ⟨ok_law_library, bn_law_library⟩, ⟨ok_law_place, bn_law_place⟩, ⟨ok_law_stand, bn_law_stand⟩, ⟨ok_law_coming, bn_law_coming⟩, ⟨ok_law_entered, bn_law_entered⟩, ⟨ok_law_days_back, bn_law_days_back⟩, ⟨ok_law_course, bn_law_course⟩, ⟨ok_law_is_entry, bn_law_is_entry⟩, ⟨ok_law_is_back, bn_law_is_back⟩, ⟨ok_law_is_gone, bn_law_is_gone⟩, ⟨ok_law_fault, bn_law_fault⟩, ⟨ok_law_bent, bn_law_bent⟩, ⟨ok_law_told, bn_law_told⟩, ⟨ok_law_is_due, bn_law_is_due⟩, ⟨ok_law, bn_law⟩, trivial⟩

/-! ### the head -/
def names0 : List PySem.Str := ["LibraryError", "BadBook", "BadLibrary", "BadStand", "BadDeed", "BadCourse", "BadText", "UnknownHold", "LastDay", "NothingLeft", "is_open", "next_open", "is_number", "number_in", "is_tuple", "ascends", "week_of", "last_back", "copies_at", "course_numbers", "_entry_right", "_entries_right", "_back_right", "_backs_right", "_gone_right", "check_course", "_law_mixed", "_law_feed", "_law_take", "_law_one"]
def names1 : List PySem.Str := ["_law_mixed_up", "_law_is_int", "_law_next_open", "_law_nth_open", "_law_ready", "_law_allowed", "_law_ends", "_law_week", "_law_book", "_law_library", "_law_place", "_law_stand", "_law_coming", "_law_entered", "_law_days_back", "_law_course", "_law_is_entry", "_law_is_back", "_law_is_gone", "_law_fault", "_law_bent", "_law_told", "_law_is_due"]
def names : List PySem.Str := names0 ++ names1
abbrev RW : PySem.W.OpenRow := PySem.W.OpenLaw.row PySem.Challenge.rw_earlyback_k20_courses_checked
abbrev hk : PySem.W.Hook := He.hookX 4 (faL T) (fnL T sts ++ CTs.map datC) [] (defL T) (exB CTs)
def ob (s : PySem.W.SharedT) : He.AlX := He.obsX 4 (faL T) (fnL T sts ++ CTs.map datC) [] (defL T) (exB CTs) (HandSHeadRun.getT s)
theorem ob_eq (s : PySem.W.SharedT) : ob s = hk.obs s.abs := He.obsX_eq (HandSHeadRun.getT_eq s)
theorem runs (w : World) : HandSHeadRun.RunEq RW (PySem.W.view RW.prog [60]) hk ob 4000 names w := by
  intro os
  kernel_rfl
local macro_rules | `(tactic| walk_at "ev") => `(tactic| simp (disch := omega) only [Ev.neg_int, Ev.neg_bl, Ev.bin_addB, Ev.bin_subB, Ev.bin_repS, Ev.v_rev, Ev.v_lc2, Ev.si_zip, Ev.zp_tup, Ev.bi_strb, Ev.bin_add, Ev.bin_sub, Ev.bin_mulL, Ev.bin_mulR, Ev.bin_mod, Ev.bin_div, Ev.bin_pow, Ev.aug_add, Ev.aug_sub, Ev.cmp_eq, Ev.cmp_ne, Ev.cmp_eqs, Ev.cmp_eqb, Ev.ty_ints, Ev.ty_bools, Ev.ty_tups, Ev.ty_stri, Ev.ty_strb, Ev.ty_strt, Ev.ty_ref, Ev.cmp_lt, Ev.cmp_le, Ev.cmp_gt, Ev.cmp_ge, Ev.cmp_isN, Ev.cmp_notN, Ev.cmp_isB, Ev.ifK_t, Ev.ifK_f, Ev.ifC_t, Ev.ifC_f, Ev.v_var, Ev.t_var', Ev.v_cst, Ev.t_cst', Ev.v_bin, Ev.t_bin', Ev.v_neg, Ev.t_neg', Ev.v_cmp, Ev.t_cmp', Ev.v_chain, Ev.t_chain', Ev.v_tup, Ev.t_tup', Ev.v_lst, Ev.t_lst', Ev.v_idx, Ev.t_idx', Ev.v_slc, Ev.t_slc', Ev.v_call, Ev.t_call', Ev.v_callX, Ev.t_callX', Ev.v_callK, Ev.t_callK', Ev.v_callKX, Ev.t_callKX', Ev.v_bi, Ev.t_bi', Ev.v_isi, Ev.t_isi', Ev.v_meth, Ev.t_meth', Ev.v_lc, Ev.t_lc', Ev.v_and, Ev.v_or, Ev.v_not, Ev.v_ite, Ev.tt_and, Ev.tt_or, Ev.tt_not, Ev.e_v, Ev.e_t, Ev.bi_lenT, Ev.bi_lenC, Ev.bi_lenS, Ev.bi_lenR, Ev.ol_lst, Ev.ol_dic, Ev.bi_str, Ev.v_gen, Ev.t_gen', Ev.v_lsI, Ev.t_lsI', Ev.v_dnew, Ev.v_dlit, Ev.v_dget, Ev.t_dget', Ev.v_din, Ev.t_din', Ev.key_int, Ev.key_str, Ev.gs_any, Ev.gs_max, Ev.gs_min, Ev.gf_max, Ev.gf_min, Ev.bi_maxR, Ev.bi_minR, Ev.bi_sortedR, Ev.gs_all, Ev.gs_tup, Ev.gf_any, Ev.gf_all, Ev.gf_tup, Ev.sg_subD, Ev.ss_try, Ev.ss_try2, Ev.slc_str, Ev.me_extend, Ev.Ob.dic.injEq, Ev.bi_int, Ev.bi_intb, Ev.bi_abs, Ev.bi_tuple, Ev.bi_list, Ev.bi_sum, Ev.bi_max, Ev.bi_min, Ev.me_append, Ev.sb_nil, Ev.sb_cons, Ev.ss_expr, Ev.ss_ret, Ev.ss_retN, Ev.ss_ifs, Ev.ss_fors, Ev.ss_asg, Ev.ss_aug, Ev.ss_augS, Ev.ss_pass, Ev.ss_raise, Ev.ss_brk, Ev.ss_cont, Ev.se_nil, Ev.se_cons, Ev.so_none, Ev.so_some, Ev.sts_nil, Ev.sts_cons, Ev.sg_name, Ev.sg_tup, Ev.sg_tupR, Ev.sg_sub, Ev.sgs_nil, Ev.sgs_cons, Ev.si_val, Ev.si_rng1, Ev.si_rng2, Ev.src_tup, Ev.src_cl, Ev.src_ref, Ev.slc_tup, Ev.slc_cl, Ev.slc_ref, Ev.its_tup, Ev.its_cl, Ev.its_ref, Ev.tr_non, Ev.tr_bl, Ev.tr_int, Ev.tr_tup, Ev.nn_non, Ev.nn_int, Ev.nn_tup, Ev.nn_bl, Ev.nn_str, Ev.ty_int, Ev.ty_intb, Ev.ty_bool, Ev.ty_boolb, Ev.ty_boolt, Ev.ty_intt, Ev.ty_tup, Ev.ty_tupi, Ev.ty_tupb, Ev.ty_inon, Ev.ty_bnon, Ev.ty_tnon, Ev.ty_snon, Ev.ty_sstr, Ev.cst_int, Ev.cst_bl, Ev.cst_str, Ev.cst_non, Ev.lg_nil, Ev.lg_cons, Ev.d_int, Ev.d_bl, Ev.d_ref, Ev.ints_map, Ev.ixAt_ints, Ev.ix0, Ev.ix1, Ev.ix2, Ev.ix3, Ev.ix4, Ev.ix5, Ev.ix6, Ev.ix7, Ev.ix8, Ev.ixN_in, Ev.bin_mulz, Ev.st_len, Ev.wd_nil, Ev.wd_cons, Ev.cut_hi, Ev.cut_lo, Ev.bin_tupR, Ev.bin_rep,  Ev.bin_lst,  Int.reduceToNat, Int.reducePow, Int.reduceLE, Int.reduceLT, Ev.st_get, Ev.st_get0, Ev.st_set, Ev.st_set0, Ev.st_app,
  Ev.ifL_t, Ev.ifL_f, Ev.get_set_self, Ev.get_set_ne, Ev.Ob.lst.injEq, Ev.startD, List.set_set, eq_self,  List.map_cons, List.take_succ_cons, List.take_zero, List.drop_succ_cons, List.drop_zero, List.map_nil, List.length_cons, List.length_nil, List.replicate, List.cons_append, List.nil_append, List.getElem?_cons_zero, List.getElem?_cons_succ, List.set_cons_zero, List.set_cons_succ, Option.some.injEq, exists_eq_left', exists_eq', exists_eq, exists_eq_left, List.cons.injEq, and_true, true_and, Bool.not_true, Bool.not_false, Nat.sub_self, Nat.reduceAdd, Nat.reduceSub, Nat.add_zero, Nat.zero_add, decide_true, decide_false, List.filterMap_cons, List.filterMap_nil])
local macro_rules | `(tactic| walk_at "in") => `(tactic| (refine Ev.later_in ?_; try walk_at "ev"))
local macro_rules | `(tactic| walk_at "go") => `(tactic| ((try walk_at "ev") <;> (repeat (refine Ev.later_in ?_; try walk_at "ev"))))
local macro_rules | `(tactic| walk_at "no") => `(tactic| (refine ⟨by decide +kernel, by decide +kernel, Ev.ifK_d (fun q => absurd q (by decide +kernel)) fun _ => ?_⟩; walk_at "go"))
local macro_rules | `(tactic| walk_at "yes") => `(tactic| (refine ⟨by decide +kernel, by decide +kernel, ?_⟩; try walk_at "go"))
local macro_rules | `(tactic| walk_at "lit") => `(tactic| ((try simp only [Ev.ss_asg, Ev.ss_fors, Ev.v_lc, Ev.si_val, Ev.v_tup, Ev.v_lst, Ev.se_cons, Ev.se_nil, Ev.v_cst, Ev.cst_int, Ev.cst_bl, Ev.cst_non, Ev.cst_str]); (try walk_at "ev")))

theorem x_law_mixed {n : Nat} {x k : Int} {S : Store} {Q : DK} {Ex : EK} (h : ∀ v : Int, Q (.int v) S) : run T (n + 1) 16 [.int x, .int k] S Q Ex := by
  refine ⟨d_law_mixed, rfl, ?_⟩
  unfold d_law_mixed b_law_mixed
  walk_at "go"
  exact ret_same (h _)
/-- the tape behind the drawn numbers -/
def Tape (S : Store) : Prop := ∃ (a b c d s : Int) (cs : List Int), S[1]? = some (.lst [.ref 0, .int a, .int b, .int c, .int d, .int s]) ∧ 0 ≤ a ∧ S[0]? = some (.lst (cs.map D.int))
theorem Tape.of {S S' : Store} (h : Tape S) (h1 : S'[0]? = S[0]?) (h2 : S'[1]? = S[1]?) : Tape S' := by
  obtain ⟨a, b, c, d, s, cs, q1, q2, q3⟩ := h
  exact ⟨a, b, c, d, s, cs, by rw [h2]; exact q1, q2, by rw [h1]; exact q3⟩
theorem Tape.lt {S : Store} (h : Tape S) : 1 < S.length := by
  obtain ⟨a, b, c, d, s, cs, q1, q2, q3⟩ := h
  exact lt_of_get q1
theorem Tape.app {S : Store} (h : Tape S) (l : List Ob) : Tape (S ++ l) :=
  h.of (get_app (by have := h.lt; omega)) (get_app (by have := h.lt; omega))
theorem Tape.set {S : Store} (h : Tape S) {p : Nat} (hp : 1 < p) (o : Ob) : Tape (S.set p o) :=
  h.of (get_set_ne (by omega)) (get_set_ne (by omega))
theorem self_set {S : Store} {n : Nat} {o : Ob} (h : S[n]? = some o) : S = S.set n o := by
  obtain ⟨h1, h2⟩ := List.getElem?_eq_some_iff.mp h
  subst h2
  rw [List.set_getElem_self]
/-- only the tape and new cells differ -/
structure Up (S S' : Store) : Prop where
  tp : Tape S'
  le : S.length ≤ S'.length
  at_ : ∀ k, 1 < k → k < S.length → S'[k]? = S[k]?
theorem Up.refl {S : Store} (h : Tape S) : Up S S := ⟨h, Nat.le_refl _, fun _ _ _ => rfl⟩
theorem Up.trans {S S1 S2 : Store} (a : Up S S1) (b : Up S1 S2) : Up S S2 := ⟨b.tp, Nat.le_trans a.le b.le, fun k h1 h2 => by rw [b.at_ k h1 (Nat.lt_of_lt_of_le h2 a.le), a.at_ k h1 h2]⟩
theorem Up.app {S S1 : Store} (a : Up S S1) (l : List Ob) : Up S (S1 ++ l) := ⟨a.tp.app l, by rw [List.length_append]; have := a.le; omega, fun k h1 h2 => by rw [get_app (Nat.lt_of_lt_of_le h2 a.le), a.at_ k h1 h2]⟩
theorem Up.set {S S1 : Store} (a : Up S S1) {p : Nat} (hp : S.length ≤ p) (h3 : 1 < p) (o : Ob) : Up S (S1.set p o) := ⟨a.tp.set h3 o, by rw [List.length_set]; exact a.le, fun k h1 h2 => by rw [get_set_ne (by omega), a.at_ k h1 h2]⟩
theorem Up.get {S S1 : Store} (a : Up S S1) {k : Nat} {o : Ob} (h : S[k]? = some o) (h3 : 1 < k) : S1[k]? = some o := by rw [a.at_ k h3 (lt_of_get h)]; exact h
/-- nothing but the tape differs, and new cells -/
def Same (S S' : Store) : Prop := S.length ≤ S'.length ∧ ∀ k, 1 < k → k < S.length → S'[k]? = S[k]?
theorem Same.refl {S : Store} : Same S S := ⟨Nat.le_refl _, fun _ _ _ => rfl⟩
theorem Same.trans {S S1 S2 : Store} (a : Same S S1) (b : Same S1 S2) : Same S S2 := ⟨Nat.le_trans a.1 b.1, fun k h1 h2 => by rw [b.2 k h1 (Nat.lt_of_lt_of_le h2 a.1), a.2 k h1 h2]⟩
theorem Same.app {S S1 : Store} (a : Same S S1) (l : List Ob) : Same S (S1 ++ l) := ⟨by rw [List.length_append]; have := a.1; omega, fun k h1 h2 => by rw [get_app (Nat.lt_of_lt_of_le h2 a.1), a.2 k h1 h2]⟩
theorem Same.get {S S1 : Store} (a : Same S S1) {k : Nat} {o : Ob} (h : S[k]? = some o) (h3 : 1 < k) : S1[k]? = some o := by rw [a.2 k h3 (lt_of_get h)]; exact h
theorem x_law_take {n : Nat} {lim : Int} {S : Store} {Q : DK} {Ex : EK} (ht : Tape S) (h1 : 0 < lim) (h2 : lim < 340282366920938463463374607431768211456)
    (h : ∀ (v : Int) S', 0 ≤ v → v < lim → Tape S' → S'.length = S.length → (∀ k, 1 < k → S'[k]? = S[k]?) → Q (.int v) S') : run T (n + 2) 18 [.ref 1, .int lim] S Q Ex := by
  refine ⟨d_law_take, rfl, ?_⟩
  have hl := ht.lt
  obtain ⟨a, b, c, d, s, cs, q1, q2, q3⟩ := ht
  have fin : ∀ (v a b c d : Int), 0 ≤ v → v < lim → 0 ≤ a → Ret S (.int v) (S.set 1 (.lst [.ref 0, .int a, .int b, .int c, .int d, .int s])) Q := by
    intro v a b c d g1 g2 g3
    refine ret_same (h v _ g1 g2 ⟨a, b, c, d, s, cs, get_set_self hl, g3, ?_⟩ (by simp) fun k hk => get_set_ne (by omega))
    rw [get_set_ne (by omega)]
    exact q3
  have e1 : (S.set 1 (.lst [.ref 0, .int a, .int b, .int c, .int d, .int s])) = S := (self_set q1).symm
  have key : wpB ⟨run T (n + 1), Ex⟩ d_law_take.body { nx := fun _ S' => Ret S .non S' Q, rt := fun v S' => Ret S v S' Q, bk := fun _ _ => False, ct := fun _ _ => False } (startD d_law_take.N [.ref 1, .int lim]) (S.set 1 (.lst [.ref 0, .int a, .int b, .int c, .int d, .int s])) := by
    unfold d_law_take b_law_take
    walk_at "go"
    generalize hL : later (wpB _ _ _) = L
    have tail : ∀ (y : Option D) (a b c : Int), 0 ≤ a → L [some (.ref 1), some (.int lim), y, none] (S.set 1 (.lst [.ref 0, .int a, .int b, .int c, .int d, .int s])) := by
      intro y a b c ha
      rw [← hL]
      walk_at "go"
      refine ifK_d (fun q => ?_) (fun q => ?_)
      · walk_at "go"
        exact fin _ _ _ _ _ (Int.emod_nonneg _ (by omega)) (Int.emod_lt_of_pos _ h1) ha
      · walk_at "go"
        refine x_law_mixed fun v => ?_
        walk_at "go"
        exact fin _ _ _ _ _ (Int.emod_nonneg _ (by omega)) (Int.emod_lt_of_pos _ h1) ha
    refine ifC_d (fun q => ?_) (fun q => ?_)
    · refine ⟨_, q3, ifK_d (fun q' => ?_) (fun q' => ?_)⟩
      · rw [ol_lst, List.length_map] at q'
        walk_at "go"
        refine ⟨_, q3, _, ixAt_ints q2 q', ?_⟩
        walk_at "go"
        refine ifK_d (fun q4 => ?_) (fun q4 => ?_)
        · walk_at "go"
          exact tail _ _ _ _ (by omega)
        · walk_at "go"
          exact tail _ _ _ _ (by omega)
      · walk_at "go"
        exact tail _ _ _ _ q2
    · exact tail _ _ _ _ q2
  rw [e1] at key
  exact key
theorem x_takeS {n : Nat} {lim : Int} {S S1 : Store} {Q : DK} {Ex : EK} (a : Up S S1) (h1 : 0 < lim) (h2 : lim < 340282366920938463463374607431768211456)
    (h : ∀ (v : Int) S', 0 ≤ v → v < lim → Up S S' → Same S1 S' → Q (.int v) S') : run T (n + 2) 18 [.ref 1, .int lim] S1 Q Ex :=
  x_law_take a.tp h1 h2 fun v S' g1 g2 g3 g4 g5 => h v S' g1 g2 (a.trans ⟨g3, by omega, fun k q _ => g5 k q⟩) ⟨by omega, fun k q _ => g5 k q⟩
theorem x_one {n p : Nat} {l : List D} {S S1 : Store} {Q : DK} {Ex : EK} (a : Up S S1) (hp : S1[p]? = some (.lst l)) (h2 : 1 < p) (h1 : 0 < l.length) (h3 : l.length < 340282366920938463463374607431768211456)
    (h : ∀ v S', v ∈ l → Up S S' → Same S1 S' → Q v S') : run T (n + 3) 19 [.ref 1, .ref p] S1 Q Ex := by
  refine ⟨d_law_one, rfl, ?_⟩
  unfold d_law_one b_law_one
  walk_at "go"
  refine ⟨_, hp, ?_⟩
  walk_at "go"
  refine x_takeS a (by omega) (by omega) fun v S' g1 g2 u m => ?_
  walk_at "go"
  have hv : v.toNat < l.length := by omega
  exact ⟨l, m.get hp h2, l[v.toNat], ixAt_nat g1 (List.getElem?_eq_getElem hv), ret_same (h _ _ (List.getElem_mem hv) u m)⟩
theorem x_law_feed {n : Nat} {ns : List Int} {Q : DK} {Ex : EK} (hl : ns.length ≤ 63) (h : ∀ S', Tape S' → Q (.ref 1) S') : run T (n + 1) 17 [.cl (ns.map D.int)] [] Q Ex := by
  refine ⟨d_law_feed, rfl, ?_⟩
  unfold d_law_feed b_law_feed
  walk_at "go"
  refine for_by (fun i r S' => ([] : Store) = S' ∧ ∃ (x : Int) (y : Option D), r = [some (.cl (ns.map D.int)), some (.int x), y]) ⟨rfl, _, _, rfl⟩ (fun _ _ _ _ => trivial) ?_ ?_
  · rintro i x r S' K hx ⟨rfl, s, y, rfl⟩ hK
    have hx : (ns.map D.int)[i]? = some x := hx
    rw [List.getElem?_map] at hx
    obtain ⟨c, -, rfl⟩ := Option.map_eq_some_iff.mp hx
    walk_at "go"
    exact hK _ _ ⟨rfl, _, _, rfl⟩
  · rintro r S' ⟨rfl, s, y, rfl⟩
    walk_at "go"
    refine lc_by (fun i S' l => ([] : Store) = S' ∧ l = (ns.take i).map D.int) ⟨rfl, rfl⟩ (fun _ _ _ _ => trivial) ?_ ?_
    · rintro i x S' l K hx ⟨rfl, rfl⟩ hK
      have hx : (ns.map D.int)[i]? = some x := hx
      rw [List.getElem?_map] at hx
      obtain ⟨c, hc, rfl⟩ := Option.map_eq_some_iff.mp hx
      have hi := (List.getElem?_eq_some_iff.mp hc).1
      walk_at "go"
      refine ⟨by rw [List.length_map, List.length_take, sizeLine_eq]; omega, hK _ _ ⟨rfl, ?_⟩⟩
      rw [List.take_succ, hc]
      simp
    · rintro l S' ⟨rfl, rfl⟩
      have z : ns.take (Src.mk (ns.map D.int) (fun _ => True)).its.length = ns := by
        show ns.take (ns.map D.int).length = ns
        rw [List.length_map, List.take_length]
      walk_at "go"
      exact ret_same (h _ ⟨0, 0, 0, 0, s, _, rfl, by omega, rfl⟩)
theorem insert_perm {α : Type} (l : List α) (i : Nat) (x : α) : (l.take i ++ [x] ++ l.drop i).Perm (l ++ [x]) := by
  rw [List.append_assoc]
  refine ((List.perm_append_comm (l₁ := [x]) (l₂ := l.drop i)).append_left _).trans ?_
  rw [← List.append_assoc, List.take_append_drop]
/-- a drawn order of the members -/
theorem x_law_mixed_up {n p : Nat} {l : List D} {S S1 : Store} {Q : DK} {Ex : EK} (a : Up S S1) (hp : S1[p]? = some (.lst l)) (h2 : 1 < p) (h3 : l.length < 1000)
    (h : ∀ p' l' S', 1 < p' → S'[p']? = some (.lst l') → l'.Perm l → Up S S' → Q (.ref p') S') : run T (n + 3) 20 [.ref 1, .ref p] S1 Q Ex := by
  refine ⟨d_law_mixed_up, rfl, ?_⟩
  unfold d_law_mixed_up b_law_mixed_up
  have s1 := a.tp.lt
  walk_at "go"
  have u2 := a.app [.lst []]
  have e2 : (S1 ++ [Ob.lst []])[S1.length]? = some (.lst []) := by rw [st_get0]; rfl
  have p2 : (S1 ++ [Ob.lst []])[p]? = some (.lst l) := (get_app (lt_of_get hp)).trans hp
  have ne : p ≠ S1.length := by have := lt_of_get hp; omega
  have le : S.length ≤ S1.length := a.le
  have up1 := Up.refl a.tp
  have fin : ∀ (l' : List D) (S' : Store), S'[S1.length]? = some (.lst l') → l'.Perm l → Up S S' → Ret S1 (.ref S1.length) S' Q := fun l' S' h1 hp h3 => ret_same (h _ l' _ s1 h1 hp h3)
  generalize S1 ++ [Ob.lst []] = S2 at u2 e2 p2 ⊢
  generalize hq : S1.length = q at *
  refine ⟨_, p2, ?_⟩
  refine for_by (fun i r S' => (Up S S' ∧ S'[p]? = some (.lst l)) ∧ ∃ (f : List D) (y : Option D), r = [some (.ref 1), some (.ref p), some (.ref q), y] ∧ S'[q]? = some (.lst f) ∧ f.Perm (l.take i)) ⟨⟨u2, p2⟩, [], _, rfl, e2, by simp⟩ (fun i r S' z => by show S'[p]? = S2[p]?; rw [z.1.2, p2]) ?_ ?_
  · rintro i x r S3 K hx ⟨⟨u3, p3⟩, f, y, rfl, e3, hf⟩ hK
    have hx : l[i]? = some x := hx
    have hi := (List.getElem?_eq_some_iff.mp hx).1
    have fl := hf.length_eq
    rw [List.length_take] at fl
    walk_at "go"
    refine ⟨⟨_, e3⟩, _, e3, ?_⟩
    rw [ol_lst]
    refine x_takeS u3 (by omega) (by omega) fun v S4 g1 g2 u4 n4 => ?_
    walk_at "go"
    have e4 := n4.get e3 s1
    refine ⟨q, f, v.toNat, x, rfl, by rw [Int.toNat_of_nonneg g1], e4, by omega, by rw [sizeLine_eq]; omega, by omega, ?_⟩
    walk_at "go"
    refine hK _ _ ⟨⟨u4.set le s1 _, by rw [get_set_ne (fun z => ne z.symm)]; exact n4.get p3 h2⟩, f.take v.toNat ++ [x] ++ f.drop v.toNat, _, rfl, get_set_self (lt_of_get e4), ?_⟩
    refine (insert_perm _ _ _).trans ?_
    rw [List.take_succ, hx]
    exact hf.append_right _
  · rintro r S3 ⟨⟨u3, p3⟩, f, y, rfl, e3, hf⟩
    have hf : f.Perm (l.take l.length) := hf
    rw [List.take_length] at hf
    walk_at "go"
    exact fin f _ e3 hf u3
theorem x_is_open {n : Nat} {w : List Int} {d : Int} {S : Store} {Q : DK} {Ex : EK} (hw : w.length = 7) (h : Q (.bl (decide (w.getD (d % 7).toNat 0 = 1))) S) : run T (n + 1) 0 [.tup (w.map D.int), .int d] S Q Ex := by
  refine ⟨d_is_open, rfl, ?_⟩
  unfold d_is_open b_is_open
  walk_at "ev"
  exact ret_same h
theorem x_next_open {n : Nat} {w : List Int} {d e : Int} {S : Store} {Q : DK} {Ex : EK} (hw : Wks.Wk w) (hx : Wks.Nx w d e) (h : Q (.int e) S) : run T (n + 2) 1 [.tup (w.map D.int), .int d] S Q Ex := by
  refine ⟨d_next_open, rfl, ?_⟩
  unfold d_next_open b_next_open
  walk_at "ev"
  walk_at "in"
  obtain ⟨h1, h2, h3, h4⟩ := hx
  refine whl_by (fun m r S' => S' = S ∧ ∃ c : Int, r = [some (.tup (w.map D.int)), some (.int d), some (.int c)] ∧ d ≤ c ∧ c ≤ e ∧ m = (e - c).toNat) (e - d).toNat ⟨rfl, d, rfl, Int.le_refl _, h1, rfl⟩ ?_
  rintro m r S' K ⟨rfl, c, rfl, g1, g2, rfl⟩ hK
  walk_at "ev"
  refine x_is_open hw.len ?_
  walk_at "ev"
  refine ifL_b (fun q => ?_) (fun q => ?_)
  · walk_at "go"
    have q' : Wks.op w c ≠ 1 := by
      intro z
      unfold Wks.op at z
      exact absurd z (by simpa using q)
    have : c ≠ e := by
      rintro rfl
      exact q' h3
    exact hK (e - (c + 1)).toNat _ _ (by omega) ⟨rfl, c + 1, rfl, by omega, by omega, rfl⟩
  · walk_at "go"
    have q' : Wks.op w c = 1 := by simpa [Wks.op] using q
    have : c = e := by
      rcases Int.lt_or_eq_of_le g2 with z | z
      · exact absurd q' (h4 c g1 z)
      · exact z
    subst this
    exact ret_same h
theorem x_lnext {n : Nat} {w : List Int} {d e : Int} {S : Store} {Q : DK} {Ex : EK} (hw : Wks.Wk w) (hx : Wks.Nx w d e) (h : Q (.int e) S) : run T (n + 1) 22 [.tup (w.map D.int), .int d] S Q Ex := by
  refine ⟨d_law_next_open, rfl, ?_⟩
  unfold d_law_next_open b_law_next_open
  obtain ⟨h1, h2, h3, h4⟩ := hx
  have hl := hw.len
  walk_at "go"
  refine lc_by (fun i S' l => S = S' ∧ l.length ≤ i ∧ (d + i ≤ e → l = []) ∧ (e < d + i → ∃ t, l = .int e :: t)) ⟨rfl, Nat.le_refl _, fun _ => rfl, fun z => absurd z (by omega)⟩ (fun _ _ _ _ => trivial) ?_ ?_
  · rintro i x S' l K hx ⟨rfl, k0, k1, k2⟩ hK
    obtain ⟨hi, rfl⟩ := rngL_at hx
    walk_at "go"
    refine ifC_d (fun q => ?_) (fun q => ?_)
    · have q : Wks.op w (d + (0 + (i : Int))) = 1 := q
      walk_at "go"
      refine ⟨by rw [sizeLine_eq]; omega, hK _ _ ⟨rfl, by simp; omega, fun z => ?_, fun z => ?_⟩⟩
      · exact absurd q (h4 _ (by omega) (by omega))
      · rcases Int.lt_or_le e (d + i) with y | y
        · obtain ⟨t, rfl⟩ := k2 y
          exact ⟨_, rfl⟩
        · rw [k1 y]
          refine ⟨[], ?_⟩
          rw [show d + (0 + (i : Int)) = e by omega]; rfl
    · have q : ¬ Wks.op w (d + (0 + (i : Int))) = 1 := q
      refine hK _ _ ⟨rfl, by omega, fun z => k1 (by omega), fun z => k2 ?_⟩
      rcases Int.lt_or_le e (d + i) with y | y
      · exact y
      · exfalso
        have : d + (0 + (i : Int)) = e := by omega
        rw [this] at q
        exact q h3
  · rintro l S' ⟨rfl, k0, k1, k2⟩
    rw [rngL_length] at k2
    obtain ⟨t, rfl⟩ := k2 (by omega)
    walk_at "go"
    exact ret_pure rfl h
theorem x_lnth {n : Nat} {w : List Int} {d m : Int} {S : Store} {Q : DK} {Ex : EK} (hw : Wks.Wk w) (h1 : 0 ≤ m) (h3 : m ≤ 400) (h : ∀ e, Q (.int e) S) : run T (n + 2) 23 [.tup (w.map D.int), .int d, .int m] S Q Ex := by
  refine ⟨d_law_nth_open, rfl, ?_⟩
  unfold d_law_nth_open b_law_nth_open
  walk_at "go"
  refine ⟨by omega, by omega, for_by (fun i r S' => S = S' ∧ ∃ (c : Int) (y : Option D), r = [some (.tup (w.map D.int)), some (.int c), some (.int m), y]) ⟨rfl, _, _, rfl⟩ (fun _ _ _ _ => trivial) ?_ ?_⟩
  · rintro i x r S' K hx ⟨rfl, c, y, rfl⟩ hK
    obtain ⟨hi, rfl⟩ := rngL_at hx
    obtain ⟨e, he⟩ := Wks.nx_ex hw (c + 1)
    walk_at "go"
    refine x_lnext hw he ?_
    walk_at "go"
    exact hK _ _ ⟨rfl, _, _, rfl⟩
  · rintro r S' ⟨rfl, c, y, rfl⟩
    walk_at "go"
    exact ret_same (h _)
theorem nx_le {w : List Int} {d e f : Int} (h : Wks.Nx w d e) (h1 : d ≤ f) (h2 : Wks.op w f = 1) : e ≤ f := by
  rcases Int.lt_or_le f e with z | z
  · exact absurd h2 (h.2.2.2 f h1 z)
  · exact z
/-- plain data of bounded size and depth; the numbers may be great, the texts have signs -/
def V (N : Nat) : Nat → D → Prop
  | 0, _ => False
  | m + 1, d => d = .non ∨ (∃ b, d = .bl b) ∨ (∃ i : Int, d = .int i) ∨ (∃ z : Str, d = .str z ∧ z.length ≤ N ∧ PyData.strOk z = true) ∨ ∃ l, d = .tup l ∧ l.length ≤ N ∧ ∀ x ∈ l, V N m x
def Pt : D → Prop
  | .ref _ => False
  | .cl _ => False
  | _ => True
theorem V.pt {N m : Nat} {d : D} (h : V N m d) : Pt d := by
  cases m with
  | zero => exact h.elim
  | succ m =>
    rcases h with rfl | ⟨b, rfl⟩ | ⟨i, rfl⟩ | ⟨z, rfl, _⟩ | ⟨l, rfl, _⟩ <;> trivial
theorem V.tup {N m : Nat} {l : List D} (h : V N m (.tup l)) : l.length ≤ N ∧ ∀ x ∈ l, V N (m - 1) x := by
  cases m with
  | zero => exact h.elim
  | succ m =>
    rcases h with h | ⟨b, h⟩ | ⟨i, h⟩ | ⟨z, h, _⟩ | ⟨l, h, h1, h2⟩
    · cases h
    · cases h
    · cases h
    · cases h
    · cases h
      exact ⟨h1, h2⟩
theorem V.sOk {N m : Nat} {z : Str} (h : V N m (.str z)) : PyData.strOk z = true := by
  cases m with
  | zero => exact h.elim
  | succ m =>
    rcases h with h | ⟨b, h⟩ | ⟨i, h⟩ | ⟨z, h, _, hz⟩ | ⟨l, h, h1, h2⟩
    · cases h
    · cases h
    · cases h
    · cases h
      exact hz
    · cases h
theorem strOk_app {a b : Str} (ha : PyData.strOk a = true) (hb : PyData.strOk b = true) : PyData.strOk (a ++ b) = true := by
  unfold PyData.strOk at *
  show ((a.cps ++ b.cps).all (· < 0x110000)) = true
  rw [Array.all_append, ha, hb]
  rfl
theorem strOk_cut {z : Str} (h : PyData.strOk z = true) (lo hi : Option Int) : PyData.strOk (cutS z lo hi) = true := by
  unfold PyData.strOk at *
  rw [Array.all_eq_true_iff_forall_mem] at *
  intro x hx
  unfold cutS at hx
  simp only [List.mem_toArray] at hx
  exact h x (Array.mem_toList_iff.mp (List.mem_of_mem_drop (List.mem_of_mem_take hx)))
/-- plain data of the layer -/
theorem V.py {N : Nat} : ∀ {m : Nat} {d : D}, V N m d → ∃ e, Ev.py d = some e ∧ PyData.canLay0 e = true ∧ PyData.depth e ≤ m
  | 0, _, h => h.elim
  | m + 1, d, h => by
    rcases h with rfl | ⟨b, rfl⟩ | ⟨i, rfl⟩ | ⟨z, rfl, _, hz⟩ | ⟨l, rfl, _, hx⟩
    · exact ⟨_, rfl, rfl, Nat.zero_le _⟩
    · exact ⟨_, rfl, rfl, Nat.zero_le _⟩
    · exact ⟨_, rfl, rfl, Nat.zero_le _⟩
    · exact ⟨_, rfl, by simpa [PyData.canLay0] using hz, Nat.zero_le _⟩
    · have key : ∀ l : List D, (∀ x ∈ l, V N m x) → ∃ es, pys l = some es ∧ PyData.canLayAll0 es = true ∧ PyData.depthAll es ≤ m := by
        intro l
        induction l with
        | nil => exact fun _ => ⟨[], rfl, rfl, Nat.zero_le _⟩
        | cons a l ih =>
          intro hx
          obtain ⟨e, e1, e2, e3⟩ := V.py (hx a (by simp))
          obtain ⟨es, f1, f2, f3⟩ := ih fun x hx' => hx x (List.mem_cons_of_mem _ hx')
          refine ⟨e :: es, ?_, ?_, ?_⟩
          · show (match Ev.py a, pys l with
              | some x, some y => some (x :: y)
              | _, _ => none) = _
            rw [e1, f1]
          · simp [PyData.canLayAll0, e2, f2]
          · simp only [PyData.depthAll]
            omega
      obtain ⟨es, f1, f2, f3⟩ := key l hx
      refine ⟨.tuple es, ?_, f2, ?_⟩
      · show (pys l).map PyData.tuple = _
        rw [f1]
        rfl
      · simp only [PyData.depth]
        omega
theorem shaped_of {e : PyData} {m : Nat} (h1 : PyData.canLay0 e = true) (h2 : PyData.depth e ≤ m) (hm : m ≤ 60) : SeqAt.shaped e = true := by
  unfold SeqAt.shaped
  rw [Bool.and_eq_true, decide_eq_true_eq]
  exact ⟨h1, by omega⟩
theorem V.non {N m : Nat} : V N (m + 1) .non := .inl rfl
theorem V.bl {N m : Nat} {b : Bool} : V N (m + 1) (.bl b) := .inr (.inl ⟨b, rfl⟩)
theorem V.int {N m : Nat} {i : Int} : V N (m + 1) (.int i) := .inr (.inr (.inl ⟨i, rfl⟩))
theorem V.str {N m : Nat} {z : Str} (h : z.length ≤ N) (q : PyData.strOk z = true) : V N (m + 1) (.str z) := .inr (.inr (.inr (.inl ⟨z, rfl, h, q⟩)))
theorem V.tupI {N m : Nat} {l : List D} (h : l.length ≤ N) (q : ∀ x ∈ l, V N m x) : V N (m + 1) (.tup l) := .inr (.inr (.inr (.inr ⟨l, rfl, h, q⟩)))
theorem V.pos {N m : Nat} {d : D} (h : V N m d) : 0 < m := by
  cases m with
  | zero => exact h.elim
  | succ m => omega
theorem V.mono {N M : Nat} (hN : N ≤ M) : ∀ {m k : Nat} {d : D}, m ≤ k → V N m d → V M k d
  | 0, _, _, _, h => h.elim
  | m + 1, 0, _, hk, _ => by omega
  | m + 1, k + 1, _, hk, h => by
    rcases h with rfl | ⟨b, rfl⟩ | ⟨i, rfl⟩ | ⟨z, rfl, hz, hs⟩ | ⟨l, rfl, hl, hx⟩
    · exact .non
    · exact .bl
    · exact .int
    · exact .str (by omega) hs
    · exact .tupI (by omega) fun x hx' => V.mono hN (by omega) (hx x hx')
theorem V.depth {N m : Nat} {l : List D} (h : V N m (.tup l)) : ∃ k, m = k + 1 ∧ l.length ≤ N ∧ ∀ x ∈ l, V N k x := by
  obtain ⟨k, rfl⟩ : ∃ k, m = k + 1 := ⟨m - 1, by have := h.pos; omega⟩
  obtain ⟨h1, h2⟩ := h.tup
  exact ⟨k, rfl, h1, h2⟩
theorem cut_len (l : List D) (lo hi : Option Int) : (cut l lo hi).length ≤ l.length := by
  unfold cut
  rw [List.length_take, List.length_drop]
  omega
theorem mem_cut {l : List D} {lo hi : Option Int} {x : D} (h : x ∈ cut l lo hi) : x ∈ l := List.mem_of_mem_drop (List.mem_of_mem_take h)

theorem V.pyS {N m : Nat} {S : Store} {d : D} (hv : V N m d) : ∃ e, Ev.pyS S d = some e ∧ Ev.py d = some e ∧ PyData.canLay0 e = true ∧ PyData.depth e ≤ m := by
  obtain ⟨e, h1, h2, h3⟩ := hv.py
  refine ⟨e, ?_, h1, h2, h3⟩
  cases d with
  | ref _ => exact hv.pt.elim
  | _ => exact h1
def isI (lo hi : Int) : D → Bool
  | .int i => decide (lo ≤ i ∧ i ≤ hi)
  | _ => false
def isT (k : Int) : D → Bool
  | .tup l => decide ((l.length : Int) = k)
  | _ => false
def its : D → List D
  | .tup l => l
  | _ => []
def numD : D → Int
  | .int i => i
  | _ => 0
theorem isI_int {lo hi : Int} {v : D} (h : isI lo hi v = true) : ∃ i, v = .int i ∧ lo ≤ i ∧ i ≤ hi := by
  unfold isI at h
  split at h
  · exact ⟨_, rfl, of_decide_eq_true h⟩
  · cases h
theorem ifC_n {c : Bool} {A B : Unit → Prop} (h1 : c = false → A ()) (h2 : c = true → B ()) : ifC (!c) A B := by
  cases c
  · exact h1 rfl
  · exact h2 rfl
/-- another writing of the same truth -/
theorem bl_to {Q : DK} {S : Store} {a b : Bool} (h : Q (.bl a) S) (e : a = b) : Q (.bl b) S := e ▸ h
section
variable {n : Nat} {S : Store} {Q : DK} {Ex : EK}
theorem x_is_number {v : D} (hv : Pt v) (h : Q (.bl (match v with | .int _ => true | _ => false)) S) : run T (n + 1) 2 [v] S Q Ex := by
  refine ⟨d_is_number, rfl, ?_⟩
  unfold d_is_number b_is_number
  cases v with
  | ref _ => exact hv.elim
  | cl _ => exact hv.elim
  | _ => walk_at "go"; exact ret_same h
theorem x_number_in {v : D} {lo hi : Int} (hv : Pt v) (h : Q (.bl (isI lo hi v)) S) : run T (n + 2) 3 [v, .int lo, .int hi] S Q Ex := by
  refine ⟨d_number_in, rfl, ?_⟩
  unfold d_number_in b_number_in
  walk_at "go"
  refine x_is_number hv ?_
  cases v with
  | int i =>
    walk_at "go"
    refine ifC_d (fun q => ?_) (fun q => ?_)
    · walk_at "go"
      refine ret_same ?_
      simpa [isI, q] using h
    · refine ret_same ?_
      simpa [isI, q] using h
  | _ =>
    walk_at "go"
    exact ret_same h
theorem x_is_tuple {v : D} {k : Int} (hv : Pt v) (h : Q (.bl (isT k v)) S) : run T (n + 1) 4 [v, .int k] S Q Ex := by
  refine ⟨d_is_tuple, rfl, ?_⟩
  unfold d_is_tuple b_is_tuple
  cases v with
  | ref _ => exact hv.elim
  | cl _ => exact hv.elim
  | _ => walk_at "go"; exact ret_same h
theorem x_law_is_int {v : D} {lo hi : Int} (hv : Pt v) (h : Q (.bl (isI lo hi v)) S) : run T (n + 1) 21 [v, .int lo, .int hi] S Q Ex := by
  refine ⟨d_law_is_int, rfl, ?_⟩
  unfold d_law_is_int b_law_is_int
  cases v with
  | ref _ => exact hv.elim
  | cl _ => exact hv.elim
  | int i =>
    walk_at "go"
    refine ifC_d (fun q => ?_) (fun q => ?_)
    · walk_at "go"
      refine ret_same ?_
      simpa [isI, q] using h
    · refine ret_same ?_
      simpa [isI, q] using h
  | _ =>
    walk_at "go"
    exact ret_same h
end
/-! a text among some -/
def isW (ws : List Str) : D → Bool
  | .str z => ws.any fun w => decide (w = z)
  | _ => false
theorem eqv_str {N m : Nat} {w : Str} {d : D} {e : PyData} (hv : V N m d) (he : Ev.py d = some e) : PyData.eqv e (.str w) = isW [w] d ∧ PyData.eqv (.str w) e = isW [w] d := by
  cases m with
  | zero => exact hv.elim
  | succ m =>
    rcases hv with rfl | ⟨b, rfl⟩ | ⟨i, rfl⟩ | ⟨z, rfl, _, hz⟩ | ⟨l, rfl, _, hx⟩
    · cases he; exact ⟨rfl, rfl⟩
    · cases he; exact ⟨rfl, rfl⟩
    · cases he; exact ⟨rfl, rfl⟩
    · cases he
      constructor
      · show (z == w) = ([w].any fun w => decide (w = z))
        simp [Bool.beq_eq_decide_eq, eq_comm]
      · show (w == z) = ([w].any fun w => decide (w = z))
        simp [Bool.beq_eq_decide_eq]
    · have : (pys l).map PyData.tuple = some e := he
      obtain ⟨es, -, rfl⟩ := Option.map_eq_some_iff.mp this
      exact ⟨rfl, rfl⟩
section
variable {N m : Nat} {S : Store} {Q : DK}
theorem cmp_eq_str {d : D} {w : Str} (hv : V N m d) (hm : m ≤ 60) (hw : PyData.strOk w = true) (h : Q (.bl (isW [w] d)) S) : wpCmp .eq d (.str w) S Q := by
  obtain ⟨e, e0, e1, e2, e3⟩ := hv.pyS (S := S)
  refine ⟨e, .str w, e0, rfl, shaped_of e2 e3 hm, ?_, ?_⟩
  · unfold SeqAt.shaped
    rw [Bool.and_eq_true, decide_eq_true_eq]
    exact ⟨by simpa [PyData.canLay0] using hw, by show (0 : Nat) ≤ 64; omega⟩
  · rw [(eqv_str hv e1).1]
    exact h
theorem strs_shaped {ws : List Str} (h : ∀ w ∈ ws, PyData.strOk w = true) : SeqAt.shaped (.tuple (ws.map .str)) = true := by
  have key : ∀ ws : List Str, (∀ w ∈ ws, PyData.strOk w = true) → PyData.canLayAll0 (ws.map .str) = true ∧ PyData.depthAll (ws.map .str) = 0 := by
    intro ws
    induction ws with
    | nil => exact fun _ => ⟨rfl, rfl⟩
    | cons w ws ih =>
      intro h
      obtain ⟨i1, i2⟩ := ih fun w hw => h w (List.mem_cons_of_mem _ hw)
      refine ⟨?_, ?_⟩
      · simp only [List.map_cons, PyData.canLayAll0, PyData.canLay0, i1, h w (by simp), Bool.and_self]
      · show max 0 (PyData.depthAll (ws.map .str)) = 0
        rw [i2]
        rfl
  obtain ⟨k1, k2⟩ := key ws h
  unfold SeqAt.shaped
  rw [Bool.and_eq_true, decide_eq_true_eq]
  exact ⟨k1, by show PyData.depthAll (ws.map .str) + 1 ≤ 64; omega⟩
theorem pys_strs : ∀ ws : List Str, pys (ws.map D.str) = some (ws.map PyData.str)
  | [] => rfl
  | w :: ws => by
    show (match Ev.py (.str w), pys (ws.map D.str) with
      | some x, some y => some (x :: y)
      | _, _ => none) = _
    rw [pys_strs ws]
    rfl
theorem cmp_in_strs {d : D} {ws : List Str} (hv : V N m d) (hm : m ≤ 60) (hw : ∀ w ∈ ws, PyData.strOk w = true) (h : Q (.bl (isW ws d)) S) : wpCmp .inn d (.tup (ws.map D.str)) S Q := by
  obtain ⟨e, e0, e1, e2, e3⟩ := hv.pyS (S := S)
  refine ⟨e, .tuple (ws.map .str), ws.map .str, e0, ?_, shaped_of e2 e3 hm, strs_shaped hw, rfl, ?_⟩
  · show (pys (ws.map D.str)).map PyData.tuple = _
    rw [pys_strs]
    rfl
  · have : (ws.map PyData.str).any (fun z => PyData.eqv z e) = isW ws d := by
      clear h hw
      induction ws with
      | nil => cases d <;> rfl
      | cons w ws ih =>
        rw [List.map_cons, List.any_cons, ih, (eqv_str hv e1).2]
        cases d <;> simp [isW]
    rw [this]
    exact h
theorem cmp_notin_strs {d : D} {ws : List Str} (hv : V N m d) (hm : m ≤ 60) (hw : ∀ w ∈ ws, PyData.strOk w = true) (h : Q (.bl (!isW ws d)) S) : wpCmp .notin d (.tup (ws.map D.str)) S Q := by
  have : wpCmp .inn d (.tup (ws.map D.str)) S (fun v S' => v = .bl (isW ws d) ∧ S' = S) := cmp_in_strs hv hm hw ⟨rfl, rfl⟩
  obtain ⟨a, b, c, h1, h2, h3, h4, h5, h6, -⟩ := this
  injection h6 with h6
  exact ⟨a, b, c, h1, h2, h3, h4, h5, by rw [h6]; exact h⟩
/-- v == (w,) -/
def isOne (w : Str) : D → Bool
  | .tup [x] => isW [w] x
  | _ => false
theorem cmp_eq_one {d : D} {w : Str} (hv : V N m d) (hm : m ≤ 60) (hw : PyData.strOk w = true) (h : Q (.bl (isOne w d)) S) : wpCmp .eq d (.tup [.str w]) S Q := by
  obtain ⟨e, e0, e1, e2, e3⟩ := hv.pyS (S := S)
  refine ⟨e, .tuple [.str w], e0, rfl, shaped_of e2 e3 hm, strs_shaped (ws := [w]) (by simpa using hw), ?_⟩
  have : PyData.eqv e (.tuple [.str w]) = isOne w d := by
    cases m with
    | zero => exact hv.elim
    | succ m =>
      rcases hv with rfl | ⟨b, rfl⟩ | ⟨i, rfl⟩ | ⟨z, rfl, _, hz⟩ | ⟨l, rfl, _, hx⟩
      · cases e1; rfl
      · cases e1; rfl
      · cases e1; rfl
      · cases e1; rfl
      · have : (pys l).map PyData.tuple = some e := e1
        obtain ⟨es, he, rfl⟩ := Option.map_eq_some_iff.mp this
        cases l with
        | nil => cases he; rfl
        | cons x l =>
          have he : (match Ev.py x, pys l with
            | some x, some y => some (x :: y)
            | _, _ => none) = some es := he
          split at he
          · rename_i a b ea eb
            cases he
            cases l with
            | nil =>
              cases eb
              show (PyData.eqv a (.str w) && true) = isW [w] x
              rw [Bool.and_true]
              exact (eqv_str (hx x (by simp)) ea).1
            | cons y l =>
              have : ∃ b1 b2, b = b1 :: b2 := by
                have eb : (match Ev.py y, pys l with
                  | some x, some y => some (x :: y)
                  | _, _ => none) = some b := eb
                split at eb
                · cases eb; exact ⟨_, _, rfl⟩
                · cases eb
              obtain ⟨b1, b2, rfl⟩ := this
              show (PyData.eqv a (.str w) && false) = false
              rw [Bool.and_false]
          · cases he
  rw [this]
  exact h
end
theorem cmp_in_to {x y : D} {d e : PyData} {ds : List PyData} {b : Bool} {S : Store} {Q : DK} (h1 : pyS S x = some d) (h2 : pyS S y = some e) (s1 : SeqAt.shaped d = true) (s2 : SeqAt.shaped e = true) (hs : seqOf e = some ds) (hb : (ds.any fun z => PyData.eqv z d) = b) (h : Q (.bl b) S) : wpCmp .inn x y S Q :=
  ⟨d, e, ds, h1, h2, s1, s2, hs, by rw [hb]; exact h⟩
def freeD : D := .tup [.str "free"]
def lostD : D := .tup [.str "lost"]
def twoP : List PyData := [.tuple [.str "free"], .tuple [.str "lost"]]
section
variable {S : Store} {Q : DK} {Ex : EK} {n : Nat}
theorem any_words (z : Str) : ∀ ws : List Str, ((ws.map PyData.str).any fun y => PyData.eqv y (.str z)) = decide (z ∈ ws)
  | [] => rfl
  | w :: ws => by
    rw [List.map_cons, List.any_cons, any_words z ws]
    show ((w == z) || decide (z ∈ ws)) = _
    rw [Bool.beq_eq_decide_eq, ← Bool.decide_or]
    exact decide_eq_decide.mpr ⟨fun h => h.elim (fun e => e ▸ List.mem_cons_self ..) (List.mem_cons_of_mem _), fun h => (List.mem_cons.mp h).imp_left Eq.symm⟩
theorem shapedS {z : Str} (hz : PyData.strOk z = true) : SeqAt.shaped (.str z) = true := by
  unfold SeqAt.shaped
  rw [Bool.and_eq_true, decide_eq_true_eq]
  exact ⟨hz, by show 0 ≤ 64; omega⟩
theorem strs_shaped2 {ws : List Str} (h : ∀ w ∈ ws, PyData.strOk w = true) : SeqAt.shaped (.tuple (ws.map .str)) = true ∧ SeqAt.shaped (.list (ws.map .str)) = true := by
  have key : ∀ ws : List Str, (∀ w ∈ ws, PyData.strOk w = true) → PyData.canLayAll0 (ws.map .str) = true ∧ PyData.depthAll (ws.map .str) = 0 := by
    intro ws
    induction ws with
    | nil => exact fun _ => ⟨rfl, rfl⟩
    | cons w ws ih =>
      intro h
      obtain ⟨i1, i2⟩ := ih fun w hw => h w (List.mem_cons_of_mem _ hw)
      refine ⟨?_, ?_⟩
      · simp only [List.map_cons, PyData.canLayAll0, PyData.canLay0, i1, h w (by simp), Bool.and_self]
      · show max 0 (PyData.depthAll (ws.map .str)) = 0
        rw [i2]
        rfl
  obtain ⟨k1, k2⟩ := key ws h
  constructor
  · unfold SeqAt.shaped
    rw [Bool.and_eq_true, decide_eq_true_eq]
    exact ⟨k1, by show PyData.depthAll (ws.map .str) + 1 ≤ 64; omega⟩
  · unfold SeqAt.shaped
    rw [Bool.and_eq_true, decide_eq_true_eq]
    exact ⟨k1, by show PyData.depthAll (ws.map .str) + 1 ≤ 64; omega⟩
theorem in_words {z : Str} {ws : List Str} (hz : PyData.strOk z = true) (hw : ∀ w ∈ ws, PyData.strOk w = true) (h : Q (.bl (decide (z ∈ ws))) S) : wpCmp .inn (.str z) (.tup (ws.map D.str)) S Q :=
  cmp_in_to (d := .str z) (e := .tuple (ws.map .str)) rfl (by show (pys (ws.map D.str)).map PyData.tuple = _; rw [pys_strs]; rfl) (shapedS hz) (strs_shaped2 hw).1 rfl (any_words z ws) h
theorem notin_words {z : Str} {ws : List Str} (hz : PyData.strOk z = true) (hw : ∀ w ∈ ws, PyData.strOk w = true) (h : Q (.bl (!decide (z ∈ ws))) S) : wpCmp .notin (.str z) (.tup (ws.map D.str)) S Q :=
  ⟨.str z, .tuple (ws.map .str), ws.map .str, rfl, by show (pys (ws.map D.str)).map PyData.tuple = _; rw [pys_strs]; rfl, shapedS hz, (strs_shaped2 hw).1, rfl, by rw [any_words z ws]; exact h⟩
theorem in_wordsL {z : Str} {p : Nat} {ws : List Str} (hp : S[p]? = some (.lst (ws.map D.str))) (hz : PyData.strOk z = true) (hw : ∀ w ∈ ws, PyData.strOk w = true) (h : Q (.bl (decide (z ∈ ws))) S) : wpCmp .inn (.str z) (.ref p) S Q :=
  cmp_in_to (d := .str z) (e := .list (ws.map .str)) rfl (by
    show (match items S (.ref p) with
      | some l => (pys l).map PyData.list
      | none => none) = _
    rw [its_ref.mpr hp]
    show (pys (ws.map D.str)).map PyData.list = _
    rw [pys_strs]; rfl) (shapedS hz) (strs_shaped2 hw).2 rfl (any_words z ws) h
theorem eq_words {z w : Str} (hz : PyData.strOk z = true) (hw : PyData.strOk w = true) (h : Q (.bl (decide (z = w))) S) : wpCmp .eq (.str z) (.str w) S Q := by
  refine ⟨.str z, .str w, rfl, rfl, shapedS hz, shapedS hw, ?_⟩
  show Q (.bl (z == w)) S
  rw [Bool.beq_eq_decide_eq]
  exact h
end
/-- a lent copy's due -/
def LentOk (hs : List D) (gr day due : Int) : Prop := 0 ≤ due ∧ due ≤ day + 4000
def Place (hs : List D) (gr : Int) (readers : Nat) (day : Int) (d : D) : Prop := d = .tup [.str "free"] ∨ d = .tup [.str "lost"] ∨ (∃ x : Int, d = .tup [.str "in", .int x]) ∨
  (∃ (z : Str) (x num : Int) (rd : Nat), (z = "way" ∨ z = "ready") ∧ d = .tup [.str z, .int x, .int num, .int (rd : Int)] ∧ rd < readers) ∨
  ∃ (x num : Int) (rd : Nat), d = .tup [.str "lent", .int x, .int num, .int (rd : Int)] ∧ rd < readers ∧ LentOk hs gr day x
def Hold (x : D) : Prop := ∃ (num rd rk : Int) (told : D), x = .tup [.int num, .int rd, .int rk, told] ∧ (told = .non ∨ ∃ i : Int, told = .int i)
def Line (x : D) : Prop := ∃ ln : List D, x = .tup ln ∧ ln.length ≤ 3 ∧ ∀ y ∈ ln, Hold y
theorem set_app {S g : Store} {p : Nat} {o : Ob} (h : S.length ≤ p) : (S ++ g).set p o = S ++ g.set (p - S.length) o := List.set_append_right _ _ h
theorem clD_ints {n : Nat} : ∀ ns : List Int, clDs n (ns.map D.int) = true
  | [] => rfl
  | _ :: ns => by
    show (true && clDs n (ns.map D.int)) = true
    rw [clD_ints ns]
    rfl
theorem clD_its {n : Nat} (ns : List Int) : clD n (.tup (ns.map D.int)) = true := clD_ints ns
def n0 : D → Int
  | .tup (.int n :: _) => n
  | _ => 0
def n1 : D → Int
  | .tup (_ :: .int n :: _) => n
  | _ => 0
def n2 : D → Int
  | .tup (_ :: _ :: .int n :: _) => n
  | _ => 0
def hnums : D → List Int
  | .tup ln => ln.map n0
  | _ => []
def wrd : D → Str
  | .tup (.str z :: _) => z
  | _ => ""
abbrev isWR (p : D) : Bool := decide (wrd p ∈ (["way", "ready"] : List Str))
def wnums (pls : List D) : List Int := (pls.filter isWR).map n2
def Coming (c : D) : Prop := ∃ d n r w : Int, c = .tup [.int d, .int n, .int r, .int w]
/-- the numbers of a course, in the program's order -/
def cNums (lns pls com : List D) : List Int := lns.flatMap hnums ++ wnums pls ++ com.map n1
theorem six {hs : List D} {gr day : Int} {rd : Nat} {d : D} (hp : Place hs gr rd day d) : (∃ l, d = .tup (.str (wrd d) :: l) ∧ (wrd d ∈ (["way", "ready", "lent"] : List Str) → ∃ x num r : Int, l = [.int x, .int num, .int r])) ∧ PyData.strOk (wrd d) = true ∧ (wrd d = "free" ∨ wrd d = "lost" ∨ wrd d = "in" ∨ wrd d = "way" ∨ wrd d = "ready" ∨ wrd d = "lent") := by
  rcases hp with rfl | rfl | ⟨x, rfl⟩ | ⟨z, x, num, rd, hz, rfl, _⟩ | ⟨x, num, rd, rfl, _⟩
  · exact ⟨⟨_, rfl, fun z => absurd z (show ("free" : Str) ∉ _ by decide +kernel)⟩, (show PyData.strOk "free" = true by decide +kernel), .inl rfl⟩
  · exact ⟨⟨_, rfl, fun z => absurd z (show ("lost" : Str) ∉ _ by decide +kernel)⟩, (show PyData.strOk "lost" = true by decide +kernel), .inr (.inl rfl)⟩
  · exact ⟨⟨_, rfl, fun z => absurd z (show ("in" : Str) ∉ _ by decide +kernel)⟩, (show PyData.strOk "in" = true by decide +kernel), .inr (.inr (.inl rfl))⟩
  · rcases hz with rfl | rfl
    · exact ⟨⟨_, rfl, fun _ => ⟨_, _, _, rfl⟩⟩, (show PyData.strOk "way" = true by decide +kernel), .inr (.inr (.inr (.inl rfl)))⟩
    · exact ⟨⟨_, rfl, fun _ => ⟨_, _, _, rfl⟩⟩, (show PyData.strOk "ready" = true by decide +kernel), .inr (.inr (.inr (.inr (.inl rfl))))⟩
  · exact ⟨⟨_, rfl, fun _ => ⟨_, _, _, rfl⟩⟩, (show PyData.strOk "lent" = true by decide +kernel), .inr (.inr (.inr (.inr (.inr rfl))))⟩
theorem take_succ {α : Type} {l : List α} {i : Nat} {x : α} (h : l[i]? = some x) : l.take (i + 1) = l.take i ++ [x] := by
  rw [List.take_succ, h]
  rfl
theorem flat_len {α β : Type} {f : α → List β} {l : List α} {k : Nat} (h : ∀ x ∈ l, (f x).length ≤ k) : (l.flatMap f).length ≤ k * l.length := by
  induction l with
  | nil => simp
  | cons x l ih =>
    rw [List.flatMap_cons, List.length_append, List.length_cons, Nat.mul_succ]
    have := h x (List.mem_cons_self ..)
    have := ih fun y hy => h y (List.mem_cons_of_mem _ hy)
    omega
theorem x_course_numbers {hs : List D} {gr dd : Int} {rd : Nat} {day rs : D} {pls lns com rest : List D} {S : Store} {Q : DK} {Ex : EK} {n : Nat} (hl : ∀ x ∈ lns, Line x) (nl : lns.length ≤ 2) (hp : ∀ p ∈ pls, Place hs gr rd dd p) (np : pls.length ≤ 5) (hc : ∀ c ∈ com, Coming c) (nc : com.length ≤ 6)
    (h : ∀ ns : List Int, ns.Perm (cNums lns pls com) → ns.Pairwise (· ≤ ·) → Q (.tup (ns.map D.int)) S) : run T (n + 1) 9 [.tup (day :: .tup pls :: rs :: .tup lns :: rest), .tup com] S Q Ex := by
  refine ⟨d_course_numbers, rfl, ?_⟩
  unfold d_course_numbers b_course_numbers
  have fl : ∀ i, ((lns.take i).flatMap hnums).length ≤ 6 := fun i => by
    have := flat_len (f := hnums) (l := lns.take i) (k := 3) fun x hx => by
      obtain ⟨ln, rfl, h1, _⟩ := hl x (List.mem_of_mem_take hx)
      show (ln.map n0).length ≤ 3
      rw [List.length_map]; exact h1
    rw [List.length_take] at this
    omega
  walk_at "go"
  refine lc2_by (fun i S' a => S = S' ∧ a = ((lns.take i).flatMap hnums).map D.int) ⟨rfl, rfl⟩ (fun _ _ _ _ => trivial) ?_ ?_
  · rintro i x S' a K hx ⟨rfl, rfl⟩ hK
    have hx : lns[i]? = some x := hx
    obtain ⟨ln, rfl, h1, h2⟩ := hl x (List.mem_of_getElem? hx)
    have e1 := take_succ hx
    walk_at "go"
    refine lcs_by (fun j S' a => S = S' ∧ a = ((lns.take i).flatMap hnums ++ (ln.take j).map n0).map D.int) ⟨rfl, by simp⟩ (fun _ _ _ _ => trivial) ?_ ?_
    · rintro j y S' a K2 hy ⟨rfl, rfl⟩ hK2
      have hy : ln[j]? = some y := hy
      obtain ⟨num, r, rk, told, rfl, _⟩ := h2 y (List.mem_of_getElem? hy)
      have e2 := take_succ hy
      have := fl i
      have hj := (List.getElem?_eq_some_iff.mp hy).1
      walk_at "go"
      refine ⟨by rw [List.length_map, List.length_append, List.length_map, List.length_take, sizeLine_eq]; omega, hK2 _ _ ⟨rfl, by rw [e2]; simp [n0]⟩⟩
    · rintro a S' ⟨rfl, rfl⟩
      refine hK _ _ ⟨rfl, ?_⟩
      rw [e1, List.flatMap_append]
      show _ = ((lns.take i).flatMap hnums ++ [D.tup ln].flatMap hnums).map D.int
      simp [hnums]
  rintro a S' ⟨rfl, rfl⟩
  have f0 := fl lns.length
  rw [List.take_length] at f0
  rw [List.take_length]
  walk_at "go"
  have w2 : ∀ i, ((pls.take i).filter isWR).length ≤ 5 := fun i => by
    have := List.length_filter_le isWR (pls.take i)
    rw [List.length_take] at this
    omega
  refine lc_by (fun i S' a => S ++ [.lst ((lns.flatMap hnums).map D.int)] = S' ∧ a = (((pls.take i).filter isWR).map n2).map D.int) ⟨rfl, rfl⟩ (fun _ _ _ _ => trivial) ?_ ?_
  · rintro i x S' a K hx ⟨rfl, rfl⟩ hK
    have hx : pls[i]? = some x := hx
    obtain ⟨⟨l, el, hw⟩, hz, _⟩ := six (hp x (List.mem_of_getElem? hx))
    have e1 := take_succ hx
    generalize hz' : wrd x = z at *
    walk_at "go"
    rw [el]
    walk_at "go"
    refine in_words (ws := ["way", "ready"]) hz (by decide +kernel) ?_
    refine ⟨_, rfl, ifC_d (fun q => ?_) (fun q => ?_)⟩
    · obtain ⟨a, b, c, rfl⟩ := hw (by simp only [List.mem_cons, List.not_mem_nil, or_false] at q ⊢; rcases q with q | q <;> simp [q])
      have := w2 i
      walk_at "go"
      refine ⟨by rw [List.length_map, List.length_map, sizeLine_eq]; omega, hK _ _ ⟨rfl, ?_⟩⟩
      rw [e1, List.filter_append, List.filter_cons_of_pos (by simpa [isWR, hz'] using q)]
      simp [el, n2]
    · refine hK _ _ ⟨rfl, ?_⟩
      rw [e1, List.filter_append, List.filter_cons_of_neg (by simpa [isWR, hz'] using q)]
      simp
  rintro a S' ⟨rfl, rfl⟩
  rw [show pls.take pls.length = pls from List.take_length]
  have w3 := w2 pls.length
  rw [List.take_length] at w3
  walk_at "go"
  refine ⟨(lns.flatMap hnums).map D.int, ((pls.filter isWR).map n2).map D.int, rfl, rfl, by rw [List.length_map, List.length_map, List.length_map, sizeLine_eq]; omega, ?_⟩
  walk_at "go"
  refine lc_by (fun i S' a => S ++ [.lst ((lns.flatMap hnums).map D.int ++ (wnums pls).map D.int), .lst ((wnums pls).map D.int)] = S' ∧ a = ((com.take i).map n1).map D.int) ⟨rfl, rfl⟩ (fun _ _ _ _ => trivial) ?_ ?_
  · rintro i x S' a K hx ⟨rfl, rfl⟩ hK
    have hx : com[i]? = some x := hx
    obtain ⟨d, m, r, w, rfl⟩ := hc x (List.mem_of_getElem? hx)
    have e1 := take_succ hx
    walk_at "go"
    refine ⟨by rw [List.length_map, List.length_map, List.length_take, sizeLine_eq]; omega, hK _ _ ⟨rfl, ?_⟩⟩
    rw [e1]
    simp [n1]
  rintro a S' ⟨rfl, rfl⟩
  rw [show com.take com.length = com from List.take_length]
  walk_at "go"
  have wl : (wnums pls).length ≤ 5 := by unfold wnums; rw [List.length_map]; exact w3
  refine ⟨(lns.flatMap hnums).map D.int ++ (wnums pls).map D.int, (com.map n1).map D.int, rfl, rfl, by rw [List.length_append, List.length_map, List.length_map, List.length_map, List.length_map, sizeLine_eq]; omega, ?_⟩
  walk_at "go"
  rw [← List.map_append, ← List.map_append]
  refine ⟨_, _, rfl, ints_map _, by rw [List.length_append, List.length_append, List.length_map]; omega, fun ns h1 h2 => ?_⟩
  walk_at "go"
  exact ret_pure (clD_its ns) (h ns h1 h2)
theorem any_ints (i : Int) : ∀ ns : List Int, ((ns.map PyData.int).any fun y => PyData.eqv y (.int i)) = decide (i ∈ ns)
  | [] => rfl
  | n :: ns => by
    rw [List.map_cons, List.any_cons, any_ints i ns]
    show ((n == i) || decide (i ∈ ns)) = _
    rw [Bool.beq_eq_decide_eq, ← Bool.decide_or]
    exact decide_eq_decide.mpr ⟨fun h => h.elim (fun e => e ▸ List.mem_cons_self ..) (List.mem_cons_of_mem _), fun h => (List.mem_cons.mp h).imp_left Eq.symm⟩
theorem pys_ints : ∀ ns : List Int, pys (ns.map D.int) = some (ns.map PyData.int)
  | [] => rfl
  | n :: ns => by
    show (match Ev.py (.int n), pys (ns.map D.int) with
      | some x, some y => some (x :: y)
      | _, _ => none) = _
    rw [pys_ints ns]
    rfl
theorem ints_shaped (ns : List Int) : SeqAt.shaped (.list (ns.map .int)) = true := by
  have key : ∀ ns : List Int, PyData.canLayAll0 (ns.map .int) = true ∧ PyData.depthAll (ns.map .int) = 0 := by
    intro ns
    induction ns with
    | nil => exact ⟨rfl, rfl⟩
    | cons w ws ih =>
      obtain ⟨i1, i2⟩ := ih
      refine ⟨?_, ?_⟩
      · simp only [List.map_cons, PyData.canLayAll0, PyData.canLay0, i1, Bool.and_self]
      · show max 0 (PyData.depthAll (ws.map .int)) = 0
        rw [i2]
        rfl
  obtain ⟨k1, k2⟩ := key ns
  unfold SeqAt.shaped
  rw [Bool.and_eq_true, decide_eq_true_eq]
  exact ⟨k1, by show PyData.depthAll (ns.map .int) + 1 ≤ 64; omega⟩
theorem py_intsL {S : Store} {p : Nat} {ns : List Int} (hp : S[p]? = some (.lst (ns.map D.int))) : pyS S (.ref p) = some (.list (ns.map .int)) := by
  show (match items S (.ref p) with
    | some l => (pys l).map PyData.list
    | none => none) = _
  rw [its_ref.mpr hp]
  show (pys (ns.map D.int)).map PyData.list = _
  rw [pys_ints]
  rfl
theorem in_ints {S : Store} {Q : DK} {p : Nat} {ns : List Int} {i : Int} (hp : S[p]? = some (.lst (ns.map D.int))) (h : Q (.bl (decide (i ∈ ns))) S) : wpCmp .inn (.int i) (.ref p) S Q :=
  cmp_in_to (d := .int i) rfl (py_intsL hp) (by rfl) (ints_shaped ns) rfl (any_ints i ns) h
theorem notin_ints {S : Store} {Q : DK} {p : Nat} {ns : List Int} {i : Int} (hp : S[p]? = some (.lst (ns.map D.int))) (h : Q (.bl (!decide (i ∈ ns))) S) : wpCmp .notin (.int i) (.ref p) S Q :=
  ⟨.int i, .list (ns.map .int), ns.map .int, rfl, py_intsL hp, by rfl, ints_shaped ns, rfl, by rw [any_ints i ns]; exact h⟩
/-- the lent copies -/
def lentIx (pls : List D) : List Int := ((List.range pls.length).filter fun i => decide (wrd (pls.getD i .non) = "lent")).map fun (i : Nat) => (i : Int)
theorem range_succ_filter {p : Nat → Bool} {i : Nat} : (List.range (i + 1)).filter p = (List.range i).filter p ++ if p i = true then [i] else [] := by
  rw [List.range_succ, List.filter_append]
  cases h : p i <;> simp [h]
theorem getD_of {pls : List D} {i : Nat} {x : D} (h : pls[i]? = some x) : pls.getD i .non = x := by
  rw [List.getD_eq_getElem?_getD, h]; rfl
section
variable {hs : List D} {gr dd : Int} {rd many classes : Nat} {pls : List D} {S : Store} {Q : DK} {Ex : EK} {n : Nat}
theorem x_copies_at {day : D} {rest : List D} (hp : ∀ p ∈ pls, Place hs gr rd dd p) (np : pls.length ≤ 5) (h : Q (.tup ((lentIx pls).map D.int)) S) : run T (n + 1) 8 [.tup (day :: .tup pls :: rest), .str "lent"] S Q Ex := by
  refine ⟨d_copies_at, rfl, ?_⟩
  unfold d_copies_at b_copies_at
  walk_at "go"
  refine ⟨by omega, by omega, gen_by (fun i S' a => S = S' ∧ a = ((List.range i).filter fun i => decide (wrd (pls.getD i .non) = "lent")).map fun (i : Nat) => D.int (i : Int)) ⟨rfl, rfl⟩ (fun _ _ _ _ => trivial) ?_ ?_⟩
  · rintro i x S' a K hx ⟨rfl, rfl⟩ hK
    obtain ⟨hi, rfl⟩ := rngL_at hx
    have hi : i < pls.length := by omega
    have e : pls[i]? = some pls[i] := List.getElem?_eq_getElem hi
    obtain ⟨⟨l, el, -⟩, hz, _⟩ := six (hp _ (List.getElem_mem hi))
    have eg := getD_of e
    generalize pls[i] = x at *
    generalize hz' : wrd x = z at *
    walk_at "go"
    refine ⟨_, ixAt_nat (by omega) (by rw [show (0 + (i : Int)).toNat = i by omega]; exact e), ?_⟩
    rw [el]
    walk_at "go"
    have le := List.length_filter_le (fun i => decide (wrd (pls.getD i .non) = "lent")) (List.range i)
    rw [List.length_range] at le
    refine ⟨hz, by decide +kernel, ifC_d (fun q => ?_) (fun q => ?_)⟩
    · refine ⟨by rw [List.length_map, sizeLine_eq]; omega, hK _ _ ⟨rfl, ?_⟩⟩
      rw [range_succ_filter, eg, hz', if_pos (decide_eq_true q), List.map_append, Int.zero_add]
      rfl
    · refine hK _ _ ⟨rfl, ?_⟩
      rw [range_succ_filter, eg, hz', if_neg (by simpa using q), List.append_nil]
  · rintro a S' ⟨rfl, rfl⟩
    rw [rngL_length, Int.toNat_natCast]
    have z : ((List.range pls.length).filter fun i => decide (wrd (pls.getD i .non) = "lent")).map (fun (i : Nat) => D.int (i : Int)) = (lentIx pls).map D.int := by unfold lentIx; rw [List.map_map]; rfl
    refine ret_same ?_
    rw [z]
    exact h
theorem x_week_of {bt rest : List D} {w : D} {j : Nat} {i : Int} (e : hs[j]? = some (.tup (w :: rest))) (hi : i = j) (h : Q w S) : run T (n + 1) 6 [.tup (.tup hs :: bt), .int i] S Q Ex := by
  refine ⟨d_week_of, rfl, ?_⟩
  unfold d_week_of b_week_of
  subst hi
  walk_at "go"
  refine ⟨_, ixAt_nat (by omega) (by rw [Int.toNat_natCast]; exact e), ?_⟩
  walk_at "go"
  exact ret_same h
theorem x_last_back {rest : List D} {cl ls wd : D} {w : List Int} {j : Nat} {i due lim : Int} (e : hs[j]? = some (.tup (.tup (w.map D.int) :: rest))) (hw : Wks.Wk w) (hi : i = j) (hx : Wks.Nx w (due + gr) lim) (h : Q (.int lim) S) : run T (n + 3) 7 [.tup [.tup hs, cl, ls, wd, .int gr], .int i, .int due] S Q Ex := by
  refine ⟨d_last_back, rfl, ?_⟩
  unfold d_last_back b_last_back
  walk_at "go"
  refine x_week_of e hi ?_
  walk_at "go"
  exact x_next_open hw hx (ret_same h)
end
def nxA (w : List Int) : Nat → Int → Int
  | 0, d => d
  | k + 1, d => if Wks.op w d = 1 then d else nxA w k (d + 1)
theorem nxA_nx {w : List Int} : ∀ (k : Nat) {d e : Int}, Wks.Nx w d e → e < d + k → nxA w k d = e
  | 0, d, e, h, hk => by have := h.1; omega
  | k + 1, d, e, h, hk => by
    unfold nxA
    obtain ⟨h1, h2, h3, h4⟩ := h
    by_cases q : Wks.op w d = 1
    · rw [if_pos q]
      rcases Int.lt_or_eq_of_le h1 with z | z
      · exact absurd q (h4 d (Int.le_refl _) z)
      · exact z
    · rw [if_neg q]
      have : d ≠ e := by
        rintro rfl
        exact q h3
      exact nxA_nx k ⟨by omega, by omega, h3, fun x x1 x2 => h4 x (by omega) x2⟩ (by omega)
/-- the next open day -/
def nxF (w : List Int) (d : Int) : Int := nxA w 7 d
theorem nxF_nx {w : List Int} (h : Wks.Wk w) (d : Int) : Wks.Nx w d (nxF w d) := by
  obtain ⟨e, he⟩ := Wks.nx_ex h d
  have : nxF w d = e := nxA_nx 7 he (by have := he.2.1; omega)
  rw [this]
  exact he
/-! what is right -/
structure Hs where
  w : List Int
  c : List (Int × Int)
  e : Int
  ys : List Int
instance : Inhabited Hs := ⟨⟨[], [], 0, []⟩⟩
abbrev hsD (h : Hs) : D := .tup [.tup (h.w.map D.int), .tup (h.c.map Ev.prD), .int h.e, .tup (h.ys.map D.int)]
def openB (w : List Int) (d : Int) : Bool := decide (w.getD (d % 7).toNat 0 = 1)
def HAt (H : List Hs) (j : Int) : Hs := H.getD j.toNat default
theorem HAt_at {H : List Hs} {i : Int} (h1 : 0 ≤ i) (h2 : i < (H.length : Int)) : H[i.toNat]? = some (HAt H i) := by
  unfold HAt
  rw [List.getD_eq_getElem?_getD, List.getElem?_eq_getElem (by omega)]
  rfl
theorem HAt_mem {H : List Hs} {i : Int} (h1 : 0 ≤ i) (h2 : i < (H.length : Int)) : HAt H i ∈ H := List.mem_of_getElem? (HAt_at h1 h2)
theorem HAt_map {H : List Hs} {i : Int} (h1 : 0 ≤ i) (h2 : i < (H.length : Int)) : (H.map hsD)[i.toNat]? = some (hsD (HAt H i)) := by
  rw [List.getElem?_map, HAt_at h1 h2]; rfl
def dueAt (pls : List D) (copy : Int) : Int := match pls.getD copy.toNat .non with
  | .tup (_ :: .int d :: _) => d
  | _ => 0
abbrev hows : List Str := ["back", "lapse", "lost"]
def entB (wd : Int) (many : Nat) (num : Int) : D → Bool
  | .tup [g, p, k, h, w] => isI num num g && (isI 1 wd p && (isI 1 400 k && (isI 0 ((many : Int) - 1) h && isW hows w)))
  | _ => false
def entsB (wd : Int) (many : Nat) (ns : List Int) (v : D) : Bool := isT ns.length v && ((ns.zip (its v)).all fun q => entB wd many q.1 q.2)
def bkB (H : List Hs) (gr day : Int) (pls : List D) (copy : Int) : D → Bool
  | .tup [g, h, d] => isI copy copy g && ((h.isNon && d.isNon) || (isI 0 ((H.length : Int) - 1) h && (isI (day + 1) (nxF (HAt H (numD h)).w (dueAt pls copy + gr)) d && openB (HAt H (numD h)).w (numD d))))
  | _ => false
def bksB (H : List Hs) (gr day : Int) (pls : List D) (v : D) : Bool := isT (lentIx pls).length v && (((lentIx pls).zip (its v)).all fun q => bkB H gr day pls q.1 q.2)
theorem isT5 {v : D} (h : isT 5 v = true) : ∃ a b c d e, v = .tup [a, b, c, d, e] := by
  unfold isT at h
  split at h
  · rename_i l
    have h := of_decide_eq_true h
    match l, h with
    | [a, b, c, d, e], _ => exact ⟨a, b, c, d, e, rfl⟩
    | [], h => simp at h
    | [_], h => simp at h
    | [_, _], h => simp at h
    | [_, _, _], h => simp at h
    | [_, _, _, _], h => simp at h
    | _ :: _ :: _ :: _ :: _ :: _ :: l, h => simp at h; omega
  · cases h
theorem isT3 {v : D} (h : isT 3 v = true) : ∃ a b c, v = .tup [a, b, c] := by
  unfold isT at h
  split at h
  · rename_i l
    have h := of_decide_eq_true h
    match l, h with
    | [a, b, c], _ => exact ⟨a, b, c, rfl⟩
    | [], h => simp at h
    | [_], h => simp at h
    | [_, _], h => simp at h
    | _ :: _ :: _ :: _ :: l, h => simp at h; omega
  · cases h
theorem ent5 {wd num : Int} {many : Nat} {v : D} (h : isT 5 v = false) : entB wd many num v = false := by
  unfold entB
  split
  · simp [isT] at h
  · rfl
theorem bk3 {H : List Hs} {gr day copy : Int} {pls : List D} {v : D} (h : isT 3 v = false) : bkB H gr day pls copy v = false := by
  unfold bkB
  split
  · simp [isT] at h
  · rfl
theorem and_f {Q : DK} {S : Store} {a b : Bool} (h : Q (.bl (a && b)) S) (e : a = false) : Q (.bl false) S := by rw [e] at h; exact h
theorem and_t {Q : DK} {S : Store} {a b : Bool} (h : Q (.bl (a && b)) S) (e : a = true) : Q (.bl b) S := by rw [e] at h; exact h
theorem isI_ne {n i : Int} (h : i ≠ n) : isI n n (.int i) = false := decide_eq_false (by omega)
theorem isI_self {n : Int} : isI n n (.int n) = true := decide_eq_true (by omega)
section
variable {N m n : Nat} {S : Store} {Q : DK} {Ex : EK}
theorem ifK_n {c : Bool} {A B : Dn → Rho → Store → Prop} {D0 : Dn} {r : Rho} (h1 : c = false → A D0 r S) (h2 : c = true → B D0 r S) : ifK (!c) A B D0 r S := by
  cases c
  · show ifK true A B D0 r S
    rw [ifK_t]; exact h1 rfl
  · show ifK false A B D0 r S
    rw [ifK_f]; exact h2 rfl
theorem x_entry_right {hs : List D} {ls gr' : D} {classes wd num : Int} {v : D} (hv : V N m v) (hm : m ≤ 50) (h : Q (.bl (entB wd hs.length num v)) S) : run T (n + 3) 10 [.tup [.tup hs, .int classes, ls, .int wd, gr'], .int num, v] S Q Ex := by
  refine ⟨d_entry_right, rfl, ?_⟩
  unfold d_entry_right b_entry_right
  walk_at "go"
  refine x_is_tuple hv.pt ?_
  cases q : isT 5 v with
  | false =>
    walk_at "go"
    refine ret_same ?_
    rw [ent5 q] at h
    exact h
  | true =>
    obtain ⟨g, p, k, hh, w, rfl⟩ := isT5 q
    obtain ⟨hl, hx⟩ := hv.tup
    have h2 : ∀ i, g = .int i → i = num → Q (.bl (isI 1 wd p && (isI 1 400 k && (isI 0 ((hs.length : Int) - 1) hh && isW hows w)))) S := fun i e1 e2 => by
      subst e1 e2
      exact and_t h isI_self
    have hg := (hx g (by simp)).pt
    walk_at "go"
    refine x_is_number hg ?_
    cases g with
    | ref _ => exact hg.elim
    | cl _ => exact hg.elim
    | int i =>
      walk_at "go"
      refine ifK_d (fun q1 => ?_) (fun q1 => ?_)
      · walk_at "go"
        exact ret_same (and_f h (isI_ne q1))
      have h := h2 i rfl (Decidable.not_not.mp q1)
      walk_at "go"
      refine x_number_in (hx p (by simp)).pt ?_
      walk_at "go"
      refine ifC_n (fun q2 => ?_) (fun q2 => ?_)
      · walk_at "go"
        exact ret_same (and_f h q2)
      have h := and_t h q2
      refine x_number_in (hx k (by simp)).pt ?_
      walk_at "go"
      refine ifK_n (fun q3 => ?_) (fun q3 => ?_)
      · walk_at "go"
        exact ret_same (and_f h q3)
      have h := and_t h q3
      walk_at "go"
      refine x_number_in (hx hh (by simp)).pt ?_
      walk_at "go"
      refine ifC_b (fun q4 => ?_) (fun q4 => ?_)
      · have h := and_t h q4
        refine cmp_in_strs (ws := hows) (hx w (by simp)) (by omega) (by decide +kernel) (ret_same h)
      · exact ret_same (and_f h q4)
    | _ =>
      walk_at "go"
      exact ret_same h
theorem isTl {k : Nat} {v : D} (h : isT k v = true) : ∃ l, v = .tup l ∧ l.length = k := by
  unfold isT at h
  split at h
  · rename_i l
    have := of_decide_eq_true h
    exact ⟨l, rfl, by omega⟩
  · cases h
theorem zip_at {ns : List Int} {l : List D} {i : Nat} {x : D} (h : (zipL (ns.map D.int) l)[i]? = some x) : ∃ k u, x = .tup [.int k, u] ∧ k ∈ ns ∧ u ∈ l ∧ (ns.zip l)[i]? = some (k, u) := by
  have := (List.getElem?_eq_some_iff.mp h).1
  rw [show _ = _ from zipL_len, List.length_map] at this
  have h1 : i < ns.length := by omega
  have h2 : i < l.length := by omega
  have e := zipL_get (l := ns.map D.int) (k := l) (i := i) (x := .int ns[i]) (y := l[i]) (by simp [h1]) (by simp [h2])
  rw [h] at e
  exact ⟨_, _, Option.some.inj e, List.getElem_mem h1, List.getElem_mem h2, (List.getElem?_zip_eq_some (z := (ns[i], l[i]))).mpr ⟨List.getElem?_eq_getElem h1, List.getElem?_eq_getElem h2⟩⟩
/-- all() over pairs, with a pure look at each -/
theorem all_zip' {stay : Store → Prop} {tg : D → Rho → Store → (Rho → Store → Prop) → Prop} {cond : Rho → Store → (Bool → Store → Prop) → Prop} {elt : Rho → Store → DK → Prop} {r : Rho} {ns : List Int} {l : List D} {S : Store} {Q : DK} (p : Int × D → Bool) (hst : stay S)
    (hs : ∀ k u (a : List D) (K : List D → Store → Prop), k ∈ ns → u ∈ l → (∀ a', p (k, u) = true → K a' S) → (p (k, u) = false → Q (.bl false) S) → tg (.tup [.int k, u]) r S fun r1 S1 => cond r1 S1 fun b S2 => ifC b (fun _ => elt r1 S2 fun y S3 => gStep .all Q a y S3 K) (fun _ => K a S2))
    (h : Q (.bl ((ns.zip l).all p)) S) : gLoop stay tg cond elt r (gStep .all Q) (gFin .all Q) (zipL (ns.map D.int) l) S [] := by
  refine gen_by (fun i S' _ => S = S' ∧ ((ns.zip l).take i).all p = true) ⟨rfl, rfl⟩ (fun _ _ _ z => by rw [← z.1]; exact hst) ?_ ?_
  · rintro i x S' a K hx ⟨rfl, ha⟩ hK
    obtain ⟨k, u, rfl, hk, hu, hz⟩ := zip_at hx
    refine hs k u a K hk hu (fun a' hp => hK _ _ ⟨rfl, ?_⟩) (fun hp => ?_)
    · rw [List.take_add_one, hz, List.all_append, ha]
      simp [hp]
    · have : (ns.zip l).all p = false := by
        rw [List.all_eq_false]
        exact ⟨_, List.mem_of_getElem? hz, by rw [hp]; decide⟩
      rw [← this]
      exact h
  · rintro a S' ⟨rfl, ha⟩
    rw [show (zipL (ns.map D.int) l).length = (ns.zip l).length by rw [show _ = _ from zipL_len, List.length_map, List.length_zip], List.take_length] at ha
    show Q (.bl true) S
    rw [← ha]
    exact h
theorem x_entries_right {hs : List D} {ls gr' : D} {classes wd : Int} {ns : List Int} {v : D} (hv : V N m v) (hm : m ≤ 50) (h : Q (.bl (entsB wd hs.length ns v)) S) : run T (n + 4) 11 [.tup [.tup hs, .int classes, ls, .int wd, gr'], .tup (ns.map D.int), v] S Q Ex := by
  refine ⟨d_entries_right, rfl, ?_⟩
  unfold d_entries_right b_entries_right
  unfold entsB at h
  walk_at "go"
  rw [List.length_map]
  refine x_is_tuple hv.pt ?_
  cases q : isT ns.length v with
  | false =>
    walk_at "go"
    exact ret_same (and_f h q)
  | true =>
    have h := and_t h q
    obtain ⟨l, rfl, hl⟩ := isTl q
    obtain ⟨hl', hx⟩ := hv.tup
    walk_at "go"
    refine all_zip' (fun q => entB wd hs.length q.1 q.2) trivial (fun k u a K _ hu h1 h2 => ?_) (ret_same h)
    walk_at "go"
    refine x_entry_right (hx u hu) (by omega) ?_
    refine ⟨_, rfl, ?_⟩
    cases e : entB wd hs.length k u with
    | true => exact (if_pos rfl).mpr (h1 _ e)
    | false =>
      refine (if_neg Bool.false_ne_true).mpr ?_
      exact h2 e
theorem lent_of {hs : List D} {gr day : Int} {rd : Nat} {pls : List D} {c : Int} (hp : ∀ p ∈ pls, Place hs gr rd day p) (h : c ∈ lentIx pls) : ∃ (i : Nat) (due num : Int) (r : Nat), c = i ∧ pls[i]? = some (.tup [.str "lent", .int due, .int num, .int (r : Int)]) ∧ LentOk hs gr day due := by
  unfold lentIx at h
  obtain ⟨i, hi, rfl⟩ := List.mem_map.mp h
  obtain ⟨hr, q⟩ := List.mem_filter.mp hi
  have hi := List.mem_range.mp hr
  have q := of_decide_eq_true q
  have e : pls[i]? = some pls[i] := List.getElem?_eq_getElem hi
  rw [getD_of e] at q
  have pl := hp _ (List.getElem_mem hi)
  generalize pls[i] = x at *
  rcases pl with rfl | rfl | ⟨_, rfl⟩ | ⟨z, _, _, _, hz', rfl, _⟩ | ⟨due, num, rd', rfl, _, ok⟩
  · exact absurd q (show ("free" : Str) ≠ "lent" by decide +kernel)
  · exact absurd q (show ("lost" : Str) ≠ "lent" by decide +kernel)
  · exact absurd q (show ("in" : Str) ≠ "lent" by decide +kernel)
  · rcases hz' with rfl | rfl
    · exact absurd q (show ("way" : Str) ≠ "lent" by decide +kernel)
    · exact absurd q (show ("ready" : Str) ≠ "lent" by decide +kernel)
  · exact ⟨i, due, num, rd', rfl, e, ok⟩
theorem due_of {pls : List D} {i : Nat} {due : Int} {x : D} {l : List D} (e : pls[i]? = some (.tup (x :: .int due :: l))) : dueAt pls (i : Int) = due := by
  unfold dueAt
  rw [Int.toNat_natCast, getD_of e]
theorem x_back_right {H : List Hs} {rd : Nat} {ls : D} {wd gr day dd classes : Int} {pls rest : List D} {i : Nat} {v : D} (hw : ∀ h ∈ H, Wks.Wk h.w) (hp : ∀ p ∈ pls, Place (H.map hsD) gr rd dd p) (hi : (i : Int) ∈ lentIx pls) (hv : V N m v) (hm : m ≤ 50) (h : Q (.bl (bkB H gr day pls (i : Int) v)) S) :
    run T (n + 4) 12 [.tup [.tup (H.map hsD), .int classes, ls, .int wd, .int gr], .tup (.int day :: .tup pls :: rest), .int (i : Int), v] S Q Ex := by
  refine ⟨d_back_right, rfl, ?_⟩
  unfold d_back_right b_back_right
  walk_at "go"
  refine x_is_tuple hv.pt ?_
  cases q : isT 3 v with
  | false =>
    walk_at "go"
    refine ret_same ?_
    rw [bk3 q] at h
    exact h
  | true =>
    obtain ⟨g, hh, d, rfl⟩ := isT3 q
    obtain ⟨hl, hx⟩ := hv.tup
    have h2 : ∀ k, g = .int k → k = (i : Int) → Q (.bl ((hh.isNon && d.isNon) || (isI 0 ((H.length : Int) - 1) hh && (isI (day + 1) (nxF (HAt H (numD hh)).w (dueAt pls (i : Int) + gr)) d && openB (HAt H (numD hh)).w (numD d))))) S := fun k e1 e2 => by
      subst e1 e2
      exact and_t h isI_self
    have hg := (hx g (by simp)).pt
    walk_at "go"
    refine x_is_number hg ?_
    cases g with
    | ref _ => exact hg.elim
    | cl _ => exact hg.elim
    | int k =>
      walk_at "go"
      refine ifK_d (fun q1 => ?_) (fun q1 => ?_)
      · walk_at "go"
        exact ret_same (and_f h (isI_ne q1))
      have h := h2 k rfl (Decidable.not_not.mp q1)
      walk_at "go"
      obtain ⟨i', due, num, rr, e1, hpl, _⟩ := lent_of hp hi
      have : i' = i := by omega
      subst this
      rw [due_of hpl] at h
      generalize hL : later (wpB _ _ _) = L
      have tail : (hh.isNon && d.isNon) = false → L [some (.tup [.tup (H.map hsD), .int classes, ls, .int wd, .int gr]), some (.tup (.int day :: .tup pls :: rest)), some (.int (i' : Int)), some (.tup [.int k, hh, d]), some (.int k), some hh, some d] S := by
        intro hn
        rw [hn, Bool.false_or] at h
        rw [← hL]
        walk_at "go"
        rw [List.length_map]
        refine x_number_in (hx hh (by simp)).pt ?_
        walk_at "go"
        refine ifK_n (fun q3 => ?_) (fun q3 => ?_)
        · walk_at "go"
          exact ret_same (and_f h q3)
        have h := and_t h q3
        obtain ⟨j, rfl, j1, j2⟩ := isI_int q3
        have hm := HAt_map (H := H) (i := j) j1 (by omega)
        have wk := hw _ (HAt_mem (H := H) (i := j) j1 (by omega))
        walk_at "go"
        refine ⟨_, ixAt_nat (by omega) (by rw [Int.toNat_natCast]; exact hpl), ?_⟩
        walk_at "go"
        refine x_last_back (j := j.toNat) hm wk (by omega) (nxF_nx wk _) ?_
        walk_at "go"
        refine x_number_in (hx d (by simp)).pt ?_
        walk_at "go"
        refine ifK_n (fun q4 => ?_) (fun q4 => ?_)
        · walk_at "go"
          exact ret_same (and_f h q4)
        have h := and_t h q4
        obtain ⟨y, rfl, y1, y2⟩ := isI_int q4
        walk_at "go"
        refine x_week_of (j := j.toNat) hm (by omega) ?_
        walk_at "go"
        refine x_is_open wk.len ?_
        exact ret_same h
      cases eh : hh.isNon with
      | false => exact tail (by rw [eh]; rfl)
      | true =>
        cases ed : d.isNon with
        | false => exact tail (by rw [eh, ed]; rfl)
        | true =>
          walk_at "go"
          refine ret_same ?_
          rw [eh, ed] at h
          exact h
    | _ =>
      walk_at "go"
      exact ret_same h
theorem x_backs_right {H : List Hs} {rd : Nat} {ls : D} {wd gr day dd classes : Int} {pls rest : List D} {v : D} (hw : ∀ h ∈ H, Wks.Wk h.w) (hp : ∀ p ∈ pls, Place (H.map hsD) gr rd dd p) (np : pls.length ≤ 5) (hv : V N m v) (hm : m ≤ 50) (h : Q (.bl (bksB H gr day pls v)) S) :
    run T (n + 5) 13 [.tup [.tup (H.map hsD), .int classes, ls, .int wd, .int gr], .tup (.int day :: .tup pls :: rest), v] S Q Ex := by
  refine ⟨d_backs_right, rfl, ?_⟩
  unfold d_backs_right b_backs_right
  unfold bksB at h
  walk_at "go"
  refine x_copies_at hp np ?_
  walk_at "go"
  rw [List.length_map]
  refine x_is_tuple hv.pt ?_
  cases q : isT (lentIx pls).length v with
  | false =>
    walk_at "go"
    exact ret_same (and_f h q)
  | true =>
    have h := and_t h q
    obtain ⟨l, rfl, hl⟩ := isTl q
    obtain ⟨hl', hx⟩ := hv.tup
    walk_at "go"
    refine all_zip' (fun q => bkB H gr day pls q.1 q.2) trivial (fun k u a K hk hu h1 h2 => ?_) (ret_same h)
    obtain ⟨i, _, _, _, rfl, _, _⟩ := lent_of hp hk
    walk_at "go"
    refine x_back_right hw hp hk (hx u hu) (by omega) ?_
    refine ⟨_, rfl, ?_⟩
    cases e : bkB H gr day pls i u with
    | true => exact (if_pos rfl).mpr (h1 _ e)
    | false =>
      refine (if_neg Bool.false_ne_true).mpr ?_
      exact h2 e
end
theorem lentIx_len {pls : List D} : (lentIx pls).length ≤ pls.length := by
  unfold lentIx
  rw [List.length_map]
  have := List.length_filter_le (fun i => decide (wrd (pls.getD i .non) = "lent")) (List.range pls.length)
  rw [List.length_range] at this
  exact this
def bN : D → Bool
  | .tup [_, h, _] => h.isNon
  | _ => false
def bC : D → Int
  | .tup (.int c :: _) => c
  | _ => 0
def nvs (b : D) : List Int := ((its b).filter bN).map bC
def goodW (nv : List Int) (w : Str) (c : Int) : Bool := decide (w = "free" ∨ w = "in" ∨ (w = "lent" ∧ c ∈ nv))
def gon1 (pls : List D) (nv : List Int) (c : D) : Bool := isI 0 ((pls.length : Int) - 1) c && goodW nv (wrd (pls.getD (numD c).toNat .non)) (numD c)
def ascB (l : List Int) : Bool := (List.range (l.length - 1)).all fun k => decide (l.getD k 0 < l.getD (k + 1) 0)
def gonB (pls : List D) (nv : List Int) : D → Bool
  | .tup l => l.all (gon1 pls nv) && ascB (l.map numD)
  | _ => false
theorem ints_all {lo hi : Int} : ∀ {l : List D}, (∀ x ∈ l, isI lo hi x = true) → l = (l.map numD).map D.int
  | [], _ => rfl
  | x :: l, h => by
    obtain ⟨i, rfl, _⟩ := isI_int (h x (by simp))
    rw [List.map_cons, List.map_cons, ← ints_all fun y hy => h y (List.mem_cons_of_mem _ hy)]
    rfl
/-- backs that are right: three each, the copy first -/
theorem bks_at {H : List Hs} {gr day : Int} {pls l : List D} (h : bksB H gr day pls (.tup l) = true) : l.length = (lentIx pls).length ∧ ∀ x ∈ l, ∃ c h d, x = .tup [.int c, h, d] ∧ c ∈ lentIx pls := by
  unfold bksB at h
  rw [Bool.and_eq_true] at h
  obtain ⟨h1, h2⟩ := h
  have h1 : (l.length : Int) = (lentIx pls).length := of_decide_eq_true h1
  have h1 : l.length = (lentIx pls).length := by omega
  refine ⟨h1, fun x hx => ?_⟩
  obtain ⟨j, hj, rfl⟩ := List.mem_iff_getElem.mp hx
  have e : ((lentIx pls).zip l)[j]? = some ((lentIx pls)[j]'(by omega), l[j]) := (List.getElem?_zip_eq_some (z := ((lentIx pls)[j]'(by omega), l[j]))).mpr ⟨List.getElem?_eq_getElem (by omega), List.getElem?_eq_getElem hj⟩
  have b := List.all_eq_true.mp h2 _ (List.mem_of_getElem? e)
  generalize hv : l[j] = v at *
  generalize hc : (lentIx pls)[j]'(by omega) = c at *
  have hcm : c ∈ lentIx pls := hc ▸ List.getElem_mem _
  have b : bkB H gr day pls c v = true := b
  have q : isT 3 v = true := by
    cases q : isT 3 v with
    | true => rfl
    | false => rw [bk3 q] at b; cases b
  obtain ⟨g, h', d', rfl⟩ := isT3 q
  have b : (isI c c g && _) = true := b
  rw [Bool.and_eq_true] at b
  obtain ⟨i, rfl, i1, i2⟩ := isI_int b.1
  exact ⟨i, h', d', rfl, by rw [show i = c by omega]; exact hcm⟩
section
variable {N m n : Nat} {S : Store} {Q : DK} {Ex : EK}
theorem x_ascends {ns : List Int} (hl : ns.length ≤ 16000000) (h : Q (.bl (ascB ns)) S) : run T (n + 1) 5 [.tup (ns.map D.int)] S Q Ex := by
  refine ⟨d_ascends, rfl, ?_⟩
  unfold d_ascends b_ascends
  walk_at "go"
  rw [List.length_map]
  refine ⟨by omega, for_by (fun i r S' => S = S' ∧ (∀ k, k < i → ns.getD k 0 < ns.getD (k + 1) 0) ∧ ∃ y, r = [some (.tup (ns.map D.int)), y]) ⟨rfl, fun k hk => absurd hk (by omega), _, rfl⟩ (fun _ _ _ _ => trivial) ?_ ?_⟩
  · rintro i x r S' K hx ⟨rfl, hall, y, rfl⟩ hK
    obtain ⟨hi, rfl⟩ := rngL_at hx
    have h1 : i < ns.length := by omega
    have h2 : i + 1 < ns.length := by omega
    walk_at "go"
    rw [show (1 + (i : Int) - 1).toNat = i by omega, show (1 + (i : Int)).toNat = i + 1 by omega]
    by_cases lt : ns.getD i 0 < ns.getD (i + 1) 0
    · rw [decide_eq_true lt]
      show wpB _ _ _ _ _
      walk_at "go"
      refine hK _ _ ⟨rfl, fun k hk => ?_, _, rfl⟩
      rcases Nat.lt_or_ge k i with z | z
      · exact hall k z
      · rw [show k = i by omega]; exact lt
    · rw [decide_eq_false lt]
      show wpB _ _ _ _ _
      walk_at "go"
      refine ret_same ?_
      rw [show ascB ns = false from List.all_eq_false.mpr ⟨i, List.mem_range.mpr (by omega), by rw [decide_eq_false lt]; decide⟩] at h
      exact h
  · rintro r S' ⟨rfl, hall, y, rfl⟩
    rw [rngL_length] at hall
    walk_at "go"
    refine ret_same ?_
    rw [show ascB ns = true from List.all_eq_true.mpr fun k hk => decide_eq_true (hall k (by have := List.mem_range.mp hk; omega))] at h
    exact h
theorem x_gone_right {H : List Hs} {rd : Nat} {gr day dd : Int} {day' : D} {pls rest l : List D} {v : D} (hp : ∀ p ∈ pls, Place (H.map hsD) gr rd dd p) (np : pls.length ≤ 5) (hb : bksB H gr day pls (.tup l) = true) (hv : V N m v) (hm : m ≤ 50) (hN : N ≤ 16000000) (h : Q (.bl (gonB pls (nvs (.tup l)) v)) S) :
    run T (n + 3) 14 [.tup (day' :: .tup pls :: rest), .tup l, v] S Q Ex := by
  refine ⟨d_gone_right, rfl, ?_⟩
  unfold d_gone_right b_gone_right
  obtain ⟨b1, b2⟩ := bks_at hb
  cases v with
  | ref _ => exact hv.pt.elim
  | cl _ => exact hv.pt.elim
  | tup g =>
    obtain ⟨hgl, hgx⟩ := hv.tup
    have ll := lentIx_len (pls := pls)
    walk_at "go"
    refine lc_by (fun i S' a => S = S' ∧ a = (((l.take i).filter bN).map bC).map D.int) ⟨rfl, rfl⟩ (fun _ _ _ _ => trivial) ?_ ?_
    · rintro i x S' a K hx ⟨rfl, rfl⟩ hK
      have hx : l[i]? = some x := hx
      have e1 := take_succ hx
      have hi := (List.getElem?_eq_some_iff.mp hx).1
      obtain ⟨c, h', d, rfl, _⟩ := b2 x (List.mem_of_getElem? hx)
      have lf := List.length_filter_le bN (l.take i)
      rw [List.length_take] at lf
      walk_at "go"
      cases e : h'.isNon with
      | true =>
        walk_at "go"
        refine ⟨by rw [List.length_map, List.length_map, sizeLine_eq]; omega, hK _ _ ⟨rfl, ?_⟩⟩
        rw [e1, List.filter_append, List.filter_cons_of_pos (show bN (.tup [.int c, h', d]) = true from e)]
        simp [bC]
      | false =>
        walk_at "go"
        refine hK _ _ ⟨rfl, ?_⟩
        rw [e1, List.filter_append, List.filter_cons_of_neg (by show ¬ (h'.isNon = true); rw [e]; decide)]
        simp
    rintro a S' ⟨rfl, rfl⟩
    rw [List.take_length, show (l.filter bN).map bC = nvs (.tup l) from rfl]
    generalize nvs (.tup l) = nv at h ⊢
    walk_at "go"
    have no : ∀ x ∈ g, gon1 pls nv x = false → Q (.bl false) S := fun x hx e => by
      refine and_f h ?_
      rw [List.all_eq_false]
      exact ⟨x, hx, by rw [e]; decide⟩
    refine for_by (fun i r S' => S ++ [.lst (nv.map D.int)] = S' ∧ (∀ x ∈ g.take i, gon1 pls nv x = true) ∧ ∃ y5 y6, r = [some (.tup (day' :: .tup pls :: rest)), some (.tup l), some (.tup g), some (.ref S.length), none, y5, y6]) ⟨rfl, by simp, _, _, rfl⟩ (fun _ _ _ _ => trivial) ?_ ?_
    · rintro i x r S' K hx ⟨rfl, hall, y5, y6, rfl⟩ hK
      have hx : g[i]? = some x := hx
      have hxm := List.mem_of_getElem? hx
      have e1 := take_succ hx
      have no := no x hxm
      walk_at "go"
      refine x_number_in (hgx x hxm).pt ?_
      walk_at "go"
      refine ifK_n (fun q3 => ?_) (fun q3 => ?_)
      · walk_at "go"
        exact ret_pure rfl (no (by unfold gon1; rw [q3]; rfl))
      obtain ⟨j, rfl, j1, j2⟩ := isI_int q3
      have hj : j.toNat < pls.length := by omega
      have e : pls[j.toNat]? = some pls[j.toNat] := List.getElem?_eq_getElem hj
      obtain ⟨⟨l', el, -⟩, hz, -⟩ := six (hp _ (List.getElem_mem hj))
      have eg : gon1 pls nv (.int j) = goodW nv (wrd pls[j.toNat]) j := by
        unfold gon1
        rw [q3, Bool.true_and, show numD (.int j) = j from rfl, getD_of e]
      rw [eg] at no
      have yes : goodW nv (wrd pls[j.toNat]) j = true → ∀ y6, K [some (.tup (day' :: .tup pls :: rest)), some (.tup l), some (.tup g), some (.ref S.length), none, some (.int j), y6] (S ++ [.lst (nv.map D.int)]) := fun hg y6 => by
        refine hK _ _ ⟨rfl, fun x hx => ?_, _, _, rfl⟩
        rw [e1] at hx
        rcases List.mem_append.mp hx with z | z
        · exact hall x z
        · rw [List.mem_singleton.mp z, eg]; exact hg
      generalize pls[j.toNat] = x at *
      generalize hz' : wrd x = z at *
      walk_at "go"
      refine ⟨_, ixAt_nat (by omega) e, ?_⟩
      rw [el]
      walk_at "go"
      refine ⟨hz, by decide +kernel, ?_⟩
      generalize hL : later (wpB _ _ _) = L
      have tl : (z = "lent" → j ∈ nv) → L [some (.tup (day' :: .tup pls :: rest)), some (.tup l), some (.tup g), some (.ref S.length), none, some (.int j), some (.str z)] (S ++ [.lst (nv.map D.int)]) := by
        intro hlent
        rw [← hL]
        walk_at "go"
        refine notin_words (ws := ["free", "in", "lent"]) hz (by decide +kernel) ?_
        rw [← decide_not]
        refine ⟨_, rfl, ifK_d (fun q => ?_) (fun q => ?_)⟩
        · walk_at "go"
          refine ret_pure rfl (no (decide_eq_false fun w => q ?_))
          rcases w with rfl | rfl | ⟨rfl, _⟩ <;> decide +kernel
        · walk_at "go"
          refine yes (decide_eq_true ?_) _
          have q := Decidable.not_not.mp q
          simp only [List.mem_cons, List.not_mem_nil, or_false] at q
          rcases q with q | q | q
          · exact .inl q
          · exact .inr (.inl q)
          · exact .inr (.inr ⟨q, hlent q⟩)
      refine ifC_d (fun q => ?_) (fun q => ?_)
      · refine notin_ints (ns := nv) (by rw [st_get0]; rfl) ?_
        rw [← decide_not]
        refine ⟨_, rfl, ifK_d (fun q1 => ?_) (fun q1 => ?_)⟩
        · walk_at "go"
          refine ret_pure rfl (no (decide_eq_false fun w => ?_))
          subst q
          rcases w with w | w | ⟨_, w⟩
          · exact absurd w (by decide +kernel)
          · exact absurd w (by decide +kernel)
          · exact q1 w
        · walk_at "go"
          exact tl fun _ => Decidable.not_not.mp q1
      · walk_at "go"
        exact tl fun w => absurd w q
    · rintro r S' ⟨rfl, hall, y5, y6, rfl⟩
      rw [show g.take (Src.mk g (fun _ => True)).its.length = g from List.take_length] at hall
      have hgi := ints_all (l := g) fun x hx => (Bool.and_eq_true _ _ ▸ hall x hx : _ ∧ _).1
      have h := and_t h (List.all_eq_true.mpr hall)
      walk_at "go"
      rw [hgi]
      refine x_ascends (by rw [List.length_map]; omega) ?_
      walk_at "go"
      exact ret_pure rfl h
  | _ =>
    walk_at "go"
    exact ret_same h
end
def fltB (H : List Hs) (gr wd day : Int) (pls : List D) (ns : List Int) : D → Option Str
  | .tup [e, b, g] => if entsB wd H.length ns e = true then if bksB H gr day pls b = true then if gonB pls (nvs b) g = true then none else some "gone" else some "backs" else some "entries"
  | _ => some "course"
theorem flt3 {H : List Hs} {gr wd day : Int} {pls : List D} {ns : List Int} {v : D} (h : isT 3 v = false) : fltB H gr wd day pls ns v = some "course" := by
  unfold fltB
  split
  · simp [isT] at h
  · rfl
section
variable {N m n : Nat} {S : Store} {Q : DK} {Ex : EK}
theorem x_check_course {H : List Hs} {rd : Nat} {ls rs : D} {wd gr day dd classes : Int} {pls lns com rest lr : List D} {ns : List Int} {v : D} (hw : ∀ h ∈ H, Wks.Wk h.w) (hl : ∀ x ∈ lns, Line x) (nl : lns.length ≤ 2) (hp : ∀ p ∈ pls, Place (H.map hsD) gr rd dd p) (np : pls.length ≤ 5) (hc : ∀ c ∈ com, Coming c) (nc : com.length ≤ 6)
    (hns : ∀ ns' : List Int, ns'.Perm (cNums lns pls com) → ns'.Pairwise (· ≤ ·) → ns' = ns) (hv : V N m v) (hm : m ≤ 50) (hN : N ≤ 16000000) (h0 : fltB H gr wd day pls ns v = none → Q .non S) (h1 : ∀ w, fltB H gr wd day pls ns v = some w → Ex 4 [.str w] S) :
    run T (n + 6) 15 [.tup (.tup [.tup (H.map hsD), .int classes, ls, .int wd, .int gr] :: lr), .tup (.int day :: .tup pls :: rs :: .tup lns :: rest), .tup com, v] S Q Ex := by
  refine ⟨d_check_course, rfl, ?_⟩
  unfold d_check_course b_check_course
  walk_at "go"
  refine x_is_tuple hv.pt ?_
  cases q : isT 3 v with
  | false =>
    walk_at "go"
    exact h1 _ (flt3 q)
  | true =>
    obtain ⟨e, b, g, rfl⟩ := isT3 q
    obtain ⟨hl', hx⟩ := hv.tup
    have he := hx e (by simp)
    have hb := hx b (by simp)
    have hg := hx g (by simp)
    rw [show fltB H gr wd day pls ns (.tup [e, b, g]) = (if entsB wd H.length ns e = true then if bksB H gr day pls b = true then if gonB pls (nvs b) g = true then none else some "gone" else some "backs" else some "entries" : Option Str) from rfl] at h0 h1
    walk_at "go"
    refine x_course_numbers hl nl hp np hc nc fun ns' p1 p2 => ?_
    rw [hns ns' p1 p2]
    walk_at "go"
    refine x_entries_right he (by omega) ?_
    rw [List.length_map]
    walk_at "go"
    refine ifK_n (fun q1 => ?_) (fun q1 => ?_)
    · walk_at "go"
      exact h1 _ (if_neg (by rw [q1]; decide))
    rw [if_pos q1] at h0 h1
    walk_at "go"
    refine x_backs_right hw hp np hb (by omega) ?_
    walk_at "go"
    refine ifK_n (fun q2 => ?_) (fun q2 => ?_)
    · walk_at "go"
      exact h1 _ (if_neg (by rw [q2]; decide))
    rw [if_pos q2] at h0 h1
    obtain ⟨l, rfl, _⟩ := isTl (k := (lentIx pls).length) (v := b) (by unfold bksB at q2; rw [Bool.and_eq_true] at q2; exact q2.1)
    walk_at "go"
    refine x_gone_right hp np q2 hg (by omega) hN ?_
    walk_at "go"
    refine ifK_n (fun q3 => ?_) (fun q3 => ?_)
    · walk_at "go"
      exact h1 _ (if_neg (by rw [q3]; decide))
    rw [if_pos q3] at h0
    walk_at "go"
    exact ret_same (h0 rfl)
end
section
variable {N m n : Nat} {S : Store} {Q : DK} {Ex : EK}
theorem ent_w {wd num : Int} {many : Nat} {g p k h w : D} (e : isW hows w = false) : entB wd many num (.tup [g, p, k, h, w]) = false := by
  show (isI num num g && (isI 1 wd p && (isI 1 400 k && (isI 0 ((many : Int) - 1) h && isW hows w)))) = false
  rw [e, Bool.and_false, Bool.and_false, Bool.and_false, Bool.and_false]
theorem x_law_is_entry {hs : List D} {classes ls gr' : D} {wd num : Int} {lr : List D} {v : D} (hv : V N m v) (hm : m ≤ 50) (h : Q (.bl (entB wd hs.length num v)) S) : run T (n + 2) 36 [.tup (.tup [.tup hs, classes, ls, .int wd, gr'] :: lr), .int num, v] S Q Ex := by
  refine ⟨d_law_is_entry, rfl, ?_⟩
  unfold d_law_is_entry b_law_is_entry
  cases v with
  | ref _ => exact hv.pt.elim
  | cl _ => exact hv.pt.elim
  | tup l =>
    walk_at "go"
    refine ifC_d (fun q => ?_) (fun q => ?_)
    · refine ret_same ?_
      rw [ent5 (v := .tup l) (by simpa [isT] using q)] at h
      exact h
    obtain ⟨g, p, k, hh, w, e⟩ := isT5 (v := .tup l) (decide_eq_true (Decidable.not_not.mp q))
    cases e
    obtain ⟨hl, hx⟩ := hv.tup
    walk_at "go"
    refine x_law_is_int (hx g (by simp)).pt ?_
    walk_at "go"
    refine ifC_n (fun q1 => ?_) (fun q1 => ?_)
    · exact ret_same (and_f h q1)
    have h0 := and_t h q1
    have hw := hx w (by simp)
    have bad : isW hows w = false → Q (.bl false) S := fun e => by rw [ent_w e] at h; exact h
    cases w with
    | ref _ => exact hw.pt.elim
    | cl _ => exact hw.pt.elim
    | str z =>
      walk_at "go"
      refine x_law_is_int (hx p (by simp)).pt ?_
      walk_at "go"
      refine ifC_n (fun q2 => ?_) (fun q2 => ?_)
      · exact ret_same (and_f h0 q2)
      have h := and_t h0 q2
      refine x_law_is_int (hx k (by simp)).pt ?_
      walk_at "go"
      refine ifK_n (fun q3 => ?_) (fun q3 => ?_)
      · walk_at "go"
        exact ret_same (and_f h q3)
      have h := and_t h q3
      walk_at "go"
      refine x_law_is_int (hx hh (by simp)).pt ?_
      walk_at "go"
      refine ifC_b (fun q4 => ?_) (fun q4 => ?_)
      · have h := and_t h q4
        walk_at "go"
        refine in_wordsL (ws := hows) (by rw [st_get0]; rfl) hw.sOk (by decide +kernel) ?_
        refine ret_pure rfl ?_
        have e : isW hows (.str z) = decide (z ∈ hows) := by
          show (hows.any fun w => decide (w = z)) = _
          rw [Bool.eq_iff_iff, List.any_eq_true, decide_eq_true_eq]
          exact ⟨fun ⟨x, h1, h2⟩ => of_decide_eq_true h2 ▸ h1, fun h => ⟨z, h, decide_eq_true rfl⟩⟩
        rw [e] at h
        exact h
      · exact ret_same (and_f h q4)
    | _ =>
      walk_at "go"
      exact ret_same (bad rfl)
  | _ =>
    walk_at "go"
    exact ret_same h
def endsF (H : List Hs) (gr due : Int) : List Int := H.map fun h => nxF h.w (due + gr)
theorem x_law_ends {H : List Hs} {classes ls wd : D} {gr due : Int} (hw : ∀ h ∈ H, Wks.Wk h.w) (nh : H.length ≤ 6) (h : ∀ p g, S.length ≤ p → (S ++ g)[p]? = some (.lst ((endsF H gr due).map D.int)) → Q (.ref p) (S ++ g)) : run T (n + 2) 26 [.tup [.tup (H.map hsD), classes, ls, wd, .int gr], .int due] S Q Ex := by
  refine ⟨d_law_ends, rfl, ?_⟩
  unfold d_law_ends b_law_ends
  walk_at "go"
  refine lc_by (fun i S' l => S = S' ∧ l = (endsF (H.take i) gr due).map D.int) ⟨rfl, rfl⟩ (fun _ _ _ _ => trivial) ?_ ?_
  · rintro i x S' l K hx ⟨rfl, rfl⟩ hK
    have hx : (H.map hsD)[i]? = some x := hx
    rw [List.getElem?_map] at hx
    obtain ⟨c, hc, rfl⟩ := Option.map_eq_some_iff.mp hx
    have wk := hw _ (List.mem_of_getElem? hc)
    walk_at "go"
    refine x_lnext wk (nxF_nx wk _) ?_
    walk_at "go"
    refine ⟨by rw [List.length_map, endsF, List.length_map, List.length_take, sizeLine_eq]; omega, hK _ _ ⟨rfl, ?_⟩⟩
    rw [take_succ hc]
    simp [endsF]
  · rintro l S' ⟨rfl, rfl⟩
    rw [List.length_map, List.take_length]
    walk_at "go"
    refine ret_same ?_
    exact h _ _ (Nat.le_refl _) (by rw [st_get0]; rfl)
/-- the pairs at which a copy can be given back -/
def okPr (H : List Hs) (gr day due : Int) (q : Int × Int) : Prop := 0 ≤ q.1 ∧ q.1 < (H.length : Int) ∧ day + 1 ≤ q.2 ∧ q.2 ≤ nxF (HAt H q.1).w (due + gr) ∧ openB (HAt H q.1).w q.2 = true
theorem x_law_days_back {H : List Hs} {classes ls wd : D} {rest : List D} {gr day due : Int} (hw : ∀ h ∈ H, Wks.Wk h.w) (nh : H.length ≤ 6) (d0 : 0 ≤ day) (d1 : day ≤ 100000) (g0 : 0 ≤ gr) (g1 : gr ≤ 14) (u0 : 0 ≤ due) (u1 : due ≤ day + 4000)
    (h : ∀ (ps : List (Int × Int)) p g, S.length ≤ p → (S ++ g)[p]? = some (.lst (ps.map Ev.prD)) → ps.length ≤ 1000000 → (∀ q, q ∈ ps ↔ okPr H gr day due q) → Q (.ref p) (S ++ g)) : run T (n + 3) 34 [.tup [.tup (H.map hsD), classes, ls, wd, .int gr], .tup (.int day :: rest), .int due] S Q Ex := by
  refine ⟨d_law_days_back, rfl, ?_⟩
  unfold d_law_days_back b_law_days_back
  walk_at "go"
  refine x_law_ends hw nh fun p g l1 e1 => ?_
  have el : (endsF H gr due).length = H.length := List.length_map _
  have e0 : (S ++ [Ob.lst []] ++ g)[S.length]? = some (.lst (([] : List (Int × Int)).map Ev.prD)) := by rw [get_app (by simp), st_get0]; rfl
  rw [List.append_assoc] at e0 e1 ⊢
  generalize [Ob.lst []] ++ g = g at e0 e1 ⊢
  walk_at "go"
  refine ⟨_, e1, ?_⟩
  rw [ol_lst, List.length_map, el]
  refine ⟨by omega, by omega, for_by (fun i r S' => ∃ (g : List Ob) (p3 : Nat) (ps : List (Int × Int)) (y5 : Option D), S ++ g = S' ∧ r = [some (.tup [.tup (H.map hsD), classes, ls, wd, .int gr]), some (.tup (.int day :: rest)), some (.int due), some (.ref p3), some (.ref p), y5, none] ∧ S.length ≤ p3 ∧ (S ++ g)[p3]? = some (.lst (ps.map Ev.prD)) ∧ (S ++ g)[p]? = some (.lst ((endsF H gr due).map D.int)) ∧ ps.length ≤ 5000 * i ∧ ∀ q, q ∈ ps ↔ okPr H gr day due q ∧ q.1 < (i : Int)) ⟨_, _, [], _, rfl, rfl, Nat.le_refl _, e0, e1, Nat.zero_le _, fun q => ⟨fun z => (by cases z), fun z => absurd z.1.1 (by omega)⟩⟩ (fun _ _ _ _ => trivial) ?_ ?_⟩
  · rintro i x r S' K hx ⟨g, p3, ps, y5, rfl, rfl, q0, q1, q2, q3, q4⟩ hK
    obtain ⟨hi, rfl⟩ := rngL_at hx
    have hi : i < H.length := by omega
    have hm := HAt_map (H := H) (i := (i : Int)) (by omega) (by omega)
    have wk := hw _ (HAt_mem (H := H) (i := (i : Int)) (by omega) (by omega))
    have eN : ixAt ((endsF H gr due).map D.int) (i : Int) = some (.int (nxF (HAt H i).w (due + gr))) := ixAt_nat (by omega) (by
      rw [List.getElem?_map, endsF, List.getElem?_map, HAt_at (by omega) (by omega)]; rfl)
    have wl := wk.len
    have nx := nxF_nx wk (due + gr)
    have nx2 := nx.2.1
    have nx1 := nx.1
    rw [Int.zero_add]
    walk_at "go"
    refine ⟨_, q2, _, eN, ?_⟩
    walk_at "go"
    generalize hE : nxF (HAt H (i : Int)).w (due + gr) = E at *
    refine ⟨⟨by omega, by omega, by omega, by omega⟩, ?_⟩
    refine lc_by (fun j S' l => S ++ g = S' ∧ ∃ qs : List (Int × Int), l = qs.map Ev.prD ∧ qs.length ≤ j ∧ ∀ q, q ∈ qs ↔ q.1 = (i : Int) ∧ day + 1 ≤ q.2 ∧ q.2 < day + 1 + j ∧ openB (HAt H (i : Int)).w q.2 = true) ⟨rfl, [], rfl, Nat.le_refl _, fun q => ⟨fun z => (by cases z), fun z => absurd z.2.2.1 (by omega)⟩⟩ (fun _ _ _ _ => trivial) ?_ ?_
    · rintro j y S' l K2 hy ⟨rfl, qs, rfl, k1, k2⟩ hK2
      obtain ⟨hj, rfl⟩ := rngL_at hy
      walk_at "go"
      refine ⟨_, ixAt_nat (by omega) hm, ?_⟩
      walk_at "go"
      refine ifC_d (fun q => ?_) (fun q => ?_)
      · have q : openB (HAt H (i : Int)).w (day + 1 + (j : Int)) = true := decide_eq_true q
        walk_at "go"
        refine ⟨by rw [List.length_map, sizeLine_eq]; omega, hK2 _ _ ⟨rfl, qs ++ [((i : Int), day + 1 + (j : Int))], by simp [Ev.prD], by simp; omega, fun x => ?_⟩⟩
        rw [List.mem_append, k2, List.mem_singleton]
        refine ⟨fun z => ?_, fun ⟨z1, z2, z3, z4⟩ => ?_⟩
        · rcases z with ⟨z1, z2, z3, z4⟩ | rfl
          · exact ⟨z1, z2, by omega, z4⟩
          · exact ⟨rfl, by show day + 1 ≤ day + 1 + (j : Int); omega, by show day + 1 + (j : Int) < _; omega, q⟩
        · rcases Int.lt_or_le x.2 (day + 1 + (j : Int)) with y | y
          · exact .inl ⟨z1, z2, y, z4⟩
          · exact .inr (Prod.ext z1 (by show x.2 = day + 1 + (j : Int); omega))
      · have q : ¬ openB (HAt H (i : Int)).w (day + 1 + (j : Int)) = true := fun z => q (of_decide_eq_true z)
        refine hK2 _ _ ⟨rfl, qs, rfl, by omega, fun x => ?_⟩
        rw [k2]
        refine ⟨fun ⟨z1, z2, z3, z4⟩ => ⟨z1, z2, by omega, z4⟩, fun ⟨z1, z2, z3, z4⟩ => ⟨z1, z2, ?_, z4⟩⟩
        rcases Int.lt_or_le x.2 (day + 1 + (j : Int)) with y | y
        · exact y
        · exact absurd (show x.2 = day + 1 + (j : Int) by omega) fun e => q (e ▸ z4)
    · rintro l S' ⟨rfl, qs, rfl, k1, k2⟩
      rw [rngL_length] at k1 k2
      walk_at "go"
      refine ⟨_, _, (by rw [← List.append_assoc, get_app (lt_of_get q1)]; exact q1), rfl, by rw [List.length_map, List.length_map, sizeLine_eq]; omega, ?_⟩
      walk_at "go"
      rw [← List.map_append]
      refine hK _ _ ⟨_, _, ps ++ qs, _, rfl, rfl, by omega, by rw [← List.append_assoc, show S.length + g.length + 1 = (S ++ g).length + 1 by rw [List.length_append], st_get]; rfl, by rw [← List.append_assoc]; exact (get_app (lt_of_get q2)).trans q2, by rw [List.length_append]; omega, fun x => ?_⟩
      rw [List.mem_append, q4, k2]
      unfold okPr
      refine ⟨fun z => ?_, fun ⟨⟨z1, z2, z3, z4, z5⟩, z6⟩ => ?_⟩
      · rcases z with ⟨z1, z2⟩ | ⟨z1, z2, z3, z4⟩
        · exact ⟨z1, by omega⟩
        · rw [z1, hE]
          exact ⟨⟨by omega, by omega, z2, by omega, z4⟩, by omega⟩
      · rcases Int.lt_or_le x.1 (i : Int) with y | y
        · exact .inl ⟨⟨z1, z2, z3, z4, z5⟩, y⟩
        · have e : x.1 = (i : Int) := by omega
          rw [e] at z4 z5
          rw [hE] at z4
          exact .inr ⟨e, z3, by omega, z5⟩
  · rintro r S' ⟨g, p3, ps, y5, rfl, rfl, q0, q1, q2, q3, q4⟩
    rw [rngL_length] at q3 q4
    walk_at "go"
    exact ret_same (h ps p3 g q0 q1 (by omega) fun q => ⟨fun z => ((q4 q).mp z).1, fun z => (q4 q).mpr ⟨z, by have := z.2.1; omega⟩⟩)
end
theorem prs_shapedL (l : List (Int × Int)) : SeqAt.shaped (.list (l.map Ev.prP)) = true := by
  obtain ⟨h1, h2⟩ := Ev.prs_lay l
  unfold SeqAt.shaped
  rw [Bool.and_eq_true, decide_eq_true_eq]
  refine ⟨h1, ?_⟩
  show PyData.depthAll (l.map Ev.prP) + 1 ≤ 64
  omega
theorem cmp_in_prsL {p : Int × Int} {k : Nat} {l : List (Int × Int)} {S : Store} {Q : DK} (hk : S[k]? = some (.lst (l.map Ev.prD))) (h : Q (.bl (decide (p ∈ l))) S) : wpCmp .inn (Ev.prD p) (.ref k) S Q := by
  refine ⟨Ev.prP p, .list (l.map Ev.prP), l.map Ev.prP, rfl, ?_, Ev.pr_shaped p, prs_shapedL l, rfl, by rw [Ev.prs_any]; exact h⟩
  show (match items S (.ref k) with
    | some l => (pys l).map PyData.list
    | none => none) = _
  rw [its_ref.mpr hk]
  show (pys (l.map Ev.prD)).map PyData.list = _
  rw [Ev.prs_py]
  rfl
theorem isNon_eq {d : D} (h : d.isNon = true) : d = .non := by
  cases d <;> first
    | rfl
    | cases h
section
variable {N m n : Nat} {S : Store} {Q : DK} {Ex : EK}
theorem x_law_is_back {H : List Hs} {rd : Nat} {ls wd : D} {gr day : Int} {classes : D} {pls rest lr : List D} {i : Nat} {v : D} (hw : ∀ h ∈ H, Wks.Wk h.w) (nh : H.length ≤ 6) (d0 : 0 ≤ day) (d1 : day ≤ 100000) (g0 : 0 ≤ gr) (g1 : gr ≤ 14) (hp : ∀ p ∈ pls, Place (H.map hsD) gr rd day p) (hi : (i : Int) ∈ lentIx pls) (hv : V N m v) (h : Q (.bl (bkB H gr day pls (i : Int) v)) S) :
    run T (n + 4) 37 [.tup (.tup [.tup (H.map hsD), classes, ls, wd, .int gr] :: lr), .tup (.int day :: .tup pls :: rest), .int (i : Int), v] S Q Ex := by
  refine ⟨d_law_is_back, rfl, ?_⟩
  unfold d_law_is_back b_law_is_back
  cases v with
  | ref _ => exact hv.pt.elim
  | cl _ => exact hv.pt.elim
  | tup l =>
    walk_at "go"
    refine ifC_d (fun q => ?_) (fun q => ?_)
    · refine ret_same ?_
      rw [bk3 (v := .tup l) (by simpa [isT] using q)] at h
      exact h
    obtain ⟨g, hh, d, e⟩ := isT3 (v := .tup l) (decide_eq_true (Decidable.not_not.mp q))
    cases e
    obtain ⟨hl, hx⟩ := hv.tup
    walk_at "go"
    refine x_law_is_int (hx g (by simp)).pt ?_
    walk_at "go"
    refine ifK_n (fun q1 => ?_) (fun q1 => ?_)
    · walk_at "go"
      exact ret_same (and_f h q1)
    have h := and_t h q1
    obtain ⟨i', due, num, rr, e1, hpl, u0, u1⟩ := lent_of hp hi
    have : i' = i := by omega
    subst this
    rw [due_of hpl] at h
    walk_at "go"
    cases eh : hh.isNon with
    | true =>
      rw [isNon_eq eh] at h ⊢
      walk_at "go"
      refine ret_same ?_
      have e : ((D.non).isNon && d.isNon || (isI 0 ((H.length : Int) - 1) .non && (isI (day + 1) (nxF (HAt H (numD .non)).w (due + gr)) d && openB (HAt H (numD .non)).w (numD d)))) = d.isNon := by
        show (d.isNon || false) = _
        rw [Bool.or_false]
      rw [e] at h
      exact h
    | false =>
      rw [eh, Bool.false_and, Bool.false_or] at h
      cases ed : d.isNon with
      | true =>
        rw [isNon_eq ed] at h ⊢
        walk_at "go"
        refine ifC_b (fun z => absurd z (by rw [eh]; decide)) (fun _ => ?_)
        refine ret_same ?_
        rw [show (isI (day + 1) (nxF (HAt H (numD hh)).w (due + gr)) .non && openB (HAt H (numD hh)).w (numD .non)) = false from rfl, Bool.and_false] at h
        exact h
      | false =>
        walk_at "go"
        rw [List.length_map]
        refine x_law_is_int (hx hh (by simp)).pt ?_
        walk_at "go"
        refine ifC_n (fun q3 => ?_) (fun q3 => ?_)
        · exact ret_same (and_f h q3)
        have h := and_t h q3
        obtain ⟨j, rfl, j1, j2⟩ := isI_int q3
        have wk := hw _ (HAt_mem (H := H) (i := j) j1 (by omega))
        have nx := nxF_nx wk (due + gr)
        have nx2 := nx.2.1
        rw [show numD (.int j) = j from rfl] at h
        refine x_law_is_int (hx d (by simp)).pt ?_
        walk_at "go"
        refine ifK_n (fun q4 => ?_) (fun q4 => ?_)
        · walk_at "go"
          refine ret_same (and_f h ?_)
          cases d with
          | int y =>
            refine decide_eq_false fun z => ?_
            have q4 : decide (0 ≤ y ∧ y ≤ 1000000000000000000000000000000) = false := q4
            exact of_decide_eq_false q4 (by omega)
          | _ => rfl
        obtain ⟨y, rfl, y1, y2⟩ := isI_int q4
        walk_at "go"
        refine ⟨_, ixAt_nat (by omega) (by rw [Int.toNat_natCast]; exact hpl), ?_⟩
        walk_at "go"
        refine x_law_days_back hw nh d0 d1 g0 g1 u0 u1 fun ps p g l1 e1 l2 hps => ?_
        refine cmp_in_prsL (p := (j, y)) e1 ?_
        refine ret_pure rfl ?_
        have e : decide ((j, y) ∈ ps) = (isI (day + 1) (nxF (HAt H j).w (due + gr)) (.int y) && openB (HAt H j).w (numD (.int y))) := by
          show _ = (decide (day + 1 ≤ y ∧ y ≤ nxF (HAt H j).w (due + gr)) && openB (HAt H j).w y)
          rw [Bool.eq_iff_iff, decide_eq_true_eq, hps, Bool.and_eq_true, decide_eq_true_eq]
          exact ⟨fun ⟨_, _, z3, z4, z5⟩ => ⟨⟨z3, z4⟩, z5⟩, fun ⟨⟨z3, z4⟩, z5⟩ => ⟨j1, by show j < _; omega, z3, z4, z5⟩⟩
        rw [e]
        exact h
  | _ =>
    walk_at "go"
    exact ret_same h
end
section
variable {N m n : Nat} {S : Store} {Q : DK} {Ex : EK}
theorem lst_py {l : List D} {p : Nat} (hl : l.length ≤ N) (hx : ∀ x ∈ l, V N m x) (hm : m ≤ 50) (hp : S[p]? = some (.lst l)) : ∃ es, pyS S (.ref p) = some (.list es) ∧ SeqAt.shaped (.list es) = true ∧ es.isEmpty = l.isEmpty := by
  obtain ⟨e, e1, e2, e3⟩ := (V.tupI hl hx).py
  have e1 : (pys l).map PyData.tuple = some e := e1
  obtain ⟨es, e4, rfl⟩ := Option.map_eq_some_iff.mp e1
  refine ⟨es, ?_, ?_, ?_⟩
  · show (match items S (.ref p) with
      | some l => (pys l).map PyData.list
      | none => none) = _
    rw [its_ref.mpr hp]
    show (pys l).map PyData.list = _
    rw [e4]
    rfl
  · unfold SeqAt.shaped
    rw [Bool.and_eq_true, decide_eq_true_eq]
    have e3 : PyData.depthAll es + 1 ≤ m + 1 := e3
    exact ⟨e2, by show PyData.depthAll es + 1 ≤ 64; omega⟩
  · cases l with
    | nil => cases e4; rfl
    | cons x l =>
      have e4 : (match Ev.py x, pys l with
        | some x, some y => some (x :: y)
        | _, _ => none) = some es := e4
      split at e4
      · cases e4; rfl
      · cases e4
theorem eqv_nil (es : List PyData) : PyData.eqv (.list es) (.list []) = es.isEmpty := by cases es <;> rfl
theorem nil_py {q : Nat} (hq : S[q]? = some (.lst [])) : pyS S (.ref q) = some (.list []) := by
  show (match items S (.ref q) with
    | some l => (pys l).map PyData.list
    | none => none) = _
  rw [its_ref.mpr hq]
  rfl
theorem ne_nil {l : List D} {p q : Nat} (hl : l.length ≤ N) (hx : ∀ x ∈ l, V N m x) (hm : m ≤ 50) (hp : S[p]? = some (.lst l)) (hq : S[q]? = some (.lst [])) (h : Q (.bl (!l.isEmpty)) S) : wpCmp .ne (.ref p) (.ref q) S Q := by
  obtain ⟨es, e1, e2, e3⟩ := lst_py hl hx hm hp
  refine ⟨_, _, e1, nil_py hq, e2, by decide +kernel, ?_⟩
  rw [eqv_nil, e3]
  exact h
theorem eq_nil {l : List D} {p q : Nat} (hl : l.length ≤ N) (hx : ∀ x ∈ l, V N m x) (hm : m ≤ 50) (hp : S[p]? = some (.lst l)) (hq : S[q]? = some (.lst [])) (h : Q (.bl l.isEmpty) S) : wpCmp .eq (.ref p) (.ref q) S Q := by
  obtain ⟨es, e1, e2, e3⟩ := lst_py hl hx hm hp
  refine ⟨_, _, e1, nil_py hq, e2, by decide +kernel, ?_⟩
  rw [eqv_nil, e3]
  exact h
/-- new cells alone -/
def Ap (S S' : Store) : Prop := ∃ t, S' = S ++ t
theorem Ap.refl : Ap S S := ⟨[], by simp⟩
theorem Ap.app {S' : Store} (a : Ap S S') (l : List Ob) : Ap S (S' ++ l) := by
  obtain ⟨t, rfl⟩ := a
  exact ⟨t ++ l, by simp⟩
theorem Ap.ret {S' : Store} {d : D} (a : Ap S S') (hd : clD S.length d = true) (h : Q d S) : Ret S d S' Q := by
  obtain ⟨t, rfl⟩ := a
  exact ret_pure hd h
/-- a list of the items that fail a pure look -/
theorem none_in {stay : Store → Prop} {tg : D → Rho → Store → (Rho → Store → Prop) → Prop} {cond : Rho → Store → (Bool → Store → Prop) → Prop} {elt : Rho → Store → DK → Prop} {r : Rho} {its : List D} {S : Store} {Q : List D → Store → Prop} (I : Store → Prop) (p : D → Bool) (hn : its.length < 16777216) (h0 : I S) (hst : ∀ S', I S' → stay S')
    (hs : ∀ (i : Nat) x (a : List D) (S' : Store) (K : List D → Store → Prop), its[i]? = some x → I S' → a.length < sizeLine → (∀ S2, I S2 → p x = false → K (a ++ [x]) S2) → (∀ S2, I S2 → p x = true → K a S2) → tg x r S' fun r1 S1 => cond r1 S1 fun b S2 => ifC b (fun _ => elt r1 S2 fun y S3 => a.length < sizeLine ∧ K (a ++ [y]) S3) (fun _ => K a S2))
    (h : ∀ (l : List D) S', I S' → l.length ≤ its.length → (∀ x ∈ l, x ∈ its) → l.isEmpty = its.all p → Q l S') : lcLoop stay tg cond elt r its S [] Q := by
  refine lc_by (fun i S' l => I S' ∧ l.length ≤ i ∧ i ≤ its.length ∧ (∀ x ∈ l, x ∈ its) ∧ l.isEmpty = (its.take i).all p) ⟨h0, Nat.le_refl _, Nat.zero_le _, by simp, rfl⟩ (fun _ _ _ z => hst _ z.1) ?_ ?_
  · rintro i x S' a K hx ⟨hI, h1, h3, h4, h2⟩ hK
    have hi := (List.getElem?_eq_some_iff.mp hx).1
    refine hs i x a S' K hx hI (by rw [sizeLine_eq]; omega) (fun S2 hI hp => hK _ _ ⟨hI, by simp; omega, by omega, fun y hy => ?_, ?_⟩) (fun S2 hI hp => hK _ _ ⟨hI, by omega, by omega, h4, ?_⟩)
    · rcases List.mem_append.mp hy with z | z
      · exact h4 y z
      · rw [List.mem_singleton.mp z]; exact List.mem_of_getElem? hx
    · rw [List.take_add_one, hx, List.all_append]
      simp [hp]
    · rw [List.take_add_one, hx, List.all_append, ← h2]
      simp [hp]
  · rintro l S' ⟨hI, h1, h3, h4, h2⟩
    rw [List.take_length] at h2
    exact h l S' hI h1 h4 h2
theorem notin_wordsL {z : Str} {p : Nat} {ws : List Str} (hp : S[p]? = some (.lst (ws.map D.str))) (hz : PyData.strOk z = true) (hw : ∀ w ∈ ws, PyData.strOk w = true) (h : Q (.bl (!decide (z ∈ ws))) S) : wpCmp .notin (.str z) (.ref p) S Q :=
  ⟨.str z, .list (ws.map .str), ws.map .str, rfl, by
    show (match items S (.ref p) with
      | some l => (pys l).map PyData.list
      | none => none) = _
    rw [its_ref.mpr hp]
    show (pys (ws.map D.str)).map PyData.list = _
    rw [pys_strs]; rfl, shapedS hz, (strs_shaped2 hw).2, rfl, by rw [any_words z ws]; exact h⟩
theorem nvs_lent {H : List Hs} {gr day : Int} {pls l : List D} (h : bksB H gr day pls (.tup l) = true) {c : Int} (hc : c ∈ nvs (.tup l)) : c ∈ lentIx pls := by
  obtain ⟨_, b⟩ := bks_at h
  obtain ⟨x, hx, e⟩ := List.mem_map.mp hc
  obtain ⟨c', _, _, rfl, hc⟩ := b x (List.mem_filter.mp hx).1
  exact e ▸ hc
theorem lent_wrd {pls : List D} {c : Int} (h : c ∈ lentIx pls) : wrd (pls.getD c.toNat .non) = "lent" := by
  unfold lentIx at h
  obtain ⟨i, hi, rfl⟩ := List.mem_map.mp h
  have := of_decide_eq_true (List.mem_filter.mp hi).2
  rw [Int.toNat_natCast]
  exact this
theorem x_law_is_gone {H : List Hs} {rd : Nat} {gr day dd : Int} {day' : D} {pls rest l : List D} {v : D} (hp : ∀ p ∈ pls, Place (H.map hsD) gr rd dd p) (np : pls.length ≤ 5) (hb : bksB H gr day pls (.tup l) = true) (hv : V N m v) (hm : m ≤ 50) (hN : N ≤ 16000000) (h : Q (.bl (gonB pls (nvs (.tup l)) v)) S) :
    run T (n + 3) 38 [.tup (day' :: .tup pls :: rest), .tup l, v] S Q Ex := by
  refine ⟨d_law_is_gone, rfl, ?_⟩
  unfold d_law_is_gone b_law_is_gone
  obtain ⟨b1, b2⟩ := bks_at hb
  cases v with
  | ref _ => exact hv.pt.elim
  | cl _ => exact hv.pt.elim
  | tup g =>
    obtain ⟨hgl, hgx⟩ := hv.tup
    have ll := lentIx_len (pls := pls)
    have h : Q (.bl (g.all (gon1 pls (nvs (.tup l))) && ascB (g.map numD))) S := h
    walk_at "go"
    refine none_in (S = ·) (isI 0 ((pls.length : Int) - 1)) (by omega) rfl (fun _ _ => trivial) (fun i x a S' K hx e ha h1 h2 => ?_) fun fs S' e f1 f2 f3 => ?_
    · subst e
      walk_at "go"
      refine x_law_is_int (hgx x (List.mem_of_getElem? hx)).pt ?_
      walk_at "go"
      exact ifC_n (fun q => by
        walk_at "go"
        exact ⟨ha, h1 _ rfl q⟩) (fun q => h2 _ rfl q)
    subst e
    walk_at "go"
    refine ne_nil (N := N) (m := m - 1) (l := fs) (by omega) (fun x hx => hgx x (f2 x hx)) (by omega) (by rw [st_get0]; rfl) (by rw [st_get]; rfl) ?_
    rw [f3]
    refine ⟨_, rfl, ifK_n (fun q => ?_) (fun q => ?_)⟩
    · walk_at "go"
      refine ret_pure rfl (and_f h ?_)
      obtain ⟨x, hx, e⟩ := List.all_eq_false.mp q
      rw [List.all_eq_false]
      refine ⟨x, hx, fun z => e ?_⟩
      unfold gon1 at z
      rw [Bool.and_eq_true] at z
      exact z.1
    have qi := List.all_eq_true.mp q
    have hgi := ints_all (l := g) qi
    have a1 : Ap S (S ++ [Ob.lst fs, .lst []]) := Ap.refl.app _
    generalize S ++ [Ob.lst fs, .lst []] = S1 at a1 ⊢
    walk_at "go"
    refine lc_by (fun i S' a => S1 = S' ∧ a = (((l.take i).filter bN).map bC).map D.int) ⟨rfl, rfl⟩ (fun _ _ _ _ => trivial) ?_ ?_
    · rintro i x S' a K hx ⟨rfl, rfl⟩ hK
      have hx : l[i]? = some x := hx
      have e1 := take_succ hx
      have hi := (List.getElem?_eq_some_iff.mp hx).1
      obtain ⟨c, h', d, rfl, _⟩ := b2 x (List.mem_of_getElem? hx)
      have lf := List.length_filter_le bN (l.take i)
      rw [List.length_take] at lf
      walk_at "go"
      cases e : h'.isNon with
      | true =>
        walk_at "go"
        refine ⟨by rw [List.length_map, List.length_map, sizeLine_eq]; omega, hK _ _ ⟨rfl, ?_⟩⟩
        rw [e1, List.filter_append, List.filter_cons_of_pos (show bN (.tup [.int c, h', d]) = true from e)]
        simp [bC]
      | false =>
        walk_at "go"
        refine hK _ _ ⟨rfl, ?_⟩
        rw [e1, List.filter_append, List.filter_cons_of_neg (by show ¬ (h'.isNon = true); rw [e]; decide)]
        simp
    rintro a S' ⟨rfl, rfl⟩
    rw [List.take_length, show (l.filter bN).map bC = nvs (.tup l) from rfl]
    have nl : ∀ c ∈ nvs (.tup l), wrd (pls.getD c.toNat .non) = "lent" := fun c hc => lent_wrd (nvs_lent hb hc)
    generalize nvs (.tup l) = nv at h nl ⊢
    walk_at "go"
    have a2 := a1.app [.lst (nv.map D.int)]
    have e2 : (S1 ++ [Ob.lst (nv.map D.int)])[S1.length]? = some (.lst (nv.map D.int)) := by rw [st_get0]; rfl
    generalize S1 ++ [Ob.lst (nv.map D.int)] = S2 at a2 e2 ⊢
    generalize S1.length = p at e2 ⊢
    refine none_in (fun S' => Ap S S' ∧ S'[p]? = some (.lst (nv.map D.int))) (gon1 pls nv) (by omega) ⟨a2, e2⟩ (fun _ _ => trivial) (fun i x a S3 K hx ⟨a3, e3⟩ ha h1 h2 => ?_) fun fs S3 ⟨a3, e3⟩ f1 f2 f3 => ?_
    · have hxm := List.mem_of_getElem? hx
      have qx := qi x hxm
      obtain ⟨j, rfl, j1, j2⟩ := isI_int qx
      have hj : j.toNat < pls.length := by omega
      have e : pls[j.toNat]? = some pls[j.toNat] := List.getElem?_eq_getElem hj
      obtain ⟨⟨l', el, -⟩, hz, -⟩ := six (hp _ (List.getElem_mem hj))
      have nl := nl j
      rw [getD_of e] at nl
      have eg : gon1 pls nv (.int j) = goodW nv (wrd pls[j.toNat]) j := by
        unfold gon1
        rw [qx, Bool.true_and, show numD (.int j) = j from rfl, getD_of e]
      rw [eg] at h1 h2
      generalize pls[j.toNat] = x at *
      generalize hz' : wrd x = z at *
      have e4 : (S3 ++ [Ob.lst [D.str (Str.ofString "free"), D.str (Str.ofString "in")]])[p]? = some (.lst (nv.map D.int)) := (get_app (lt_of_get e3)).trans e3
      walk_at "go"
      refine ⟨_, ixAt_nat (by omega) e, ?_⟩
      rw [el]
      walk_at "go"
      refine notin_wordsL (ws := ["free", "in"]) (by rw [st_get0]; rfl) hz (by decide +kernel) ?_
      rw [← decide_not]
      refine ⟨_, rfl, ifC_d (fun q => ?_) (fun q => ?_)⟩
      · refine notin_ints (ns := nv) e4 ?_
        rw [← decide_not]
        refine ⟨_, rfl, ifC_d (fun q1 => ?_) (fun q1 => ?_)⟩
        · refine ⟨ha, h1 _ ⟨a3.app _, e4⟩ (decide_eq_false fun w => ?_)⟩
          rcases w with w | w | ⟨_, w⟩
          · exact q (by rw [w]; decide +kernel)
          · exact q (by rw [w]; decide +kernel)
          · exact q1 w
        · have q1 := Decidable.not_not.mp q1
          exact h2 _ ⟨a3.app _, e4⟩ (decide_eq_true (.inr (.inr ⟨nl q1, q1⟩)))
      · refine h2 _ ⟨a3.app _, e4⟩ (decide_eq_true ?_)
        have q := Decidable.not_not.mp q
        simp only [List.mem_cons, List.not_mem_nil, or_false] at q
        exact q.imp_right .inl
    walk_at "go"
    refine ne_nil (N := N) (m := m - 1) (l := fs) (by omega) (fun x hx => hgx x (f2 x hx)) (by omega) (by rw [st_get0]; rfl) (by rw [st_get]; rfl) ?_
    rw [f3]
    refine ⟨_, rfl, ifK_n (fun q => ?_) (fun q => ?_)⟩
    · walk_at "go"
      exact (a3.app _).ret rfl (and_f h q)
    have hA := and_t h q
    have a4 := a3.app [Ob.lst fs, .lst []]
    generalize S3 ++ [Ob.lst fs, .lst []] = S4 at a4 ⊢
    clear e2 a2 a1 f3
    generalize g.map numD = ns at hgi hA
    subst hgi
    walk_at "go"
    rw [List.length_map] at hgl ⊢
    refine ⟨⟨by omega, by omega⟩, ?_⟩
    refine lc_by (fun i S' l => S4 = S' ∧ ∃ ks : List Int, l = ks.map D.int ∧ ks.length ≤ i ∧ ks.isEmpty = (List.range i).all fun k => decide (ns.getD k 0 < ns.getD (k + 1) 0)) ⟨rfl, [], rfl, Nat.le_refl _, rfl⟩ (fun _ _ _ _ => trivial) ?_ ?_
    · rintro i x S' a K hx ⟨rfl, ks, rfl, k1, k2⟩ hK
      obtain ⟨hi, rfl⟩ := rngL_at hx
      have h1 : i < ns.length := by omega
      have h2 : i + 1 < ns.length := by omega
      have er : (List.range (i + 1)).all (fun k => decide (ns.getD k 0 < ns.getD (k + 1) 0)) = ((List.range i).all (fun k => decide (ns.getD k 0 < ns.getD (k + 1) 0)) && decide (ns.getD i 0 < ns.getD (i + 1) 0)) := by
        rw [List.range_succ, List.all_append]
        simp only [List.all_cons, List.all_nil, Bool.and_true]
      walk_at "go"
      rw [show (1 + (i : Int) - 1).toNat = i by omega, show (1 + (i : Int)).toNat = i + 1 by omega]
      refine ifC_d (fun q => ?_) (fun q => ?_)
      · refine ⟨by rw [List.length_map, sizeLine_eq]; omega, hK _ _ ⟨rfl, ks ++ [1 + (i : Int)], by simp, by simp; omega, ?_⟩⟩
        rw [er, decide_eq_false (show ¬ ns.getD i 0 < ns.getD (i + 1) 0 by omega), Bool.and_false]
        cases ks <;> rfl
      · refine hK _ _ ⟨rfl, ks, rfl, by omega, ?_⟩
        rw [er, decide_eq_true (show ns.getD i 0 < ns.getD (i + 1) 0 by omega), Bool.and_true]
        exact k2
    · rintro l' S' ⟨rfl, ks, rfl, k1, k2⟩
      rw [rngL_length] at k1 k2
      refine eq_nil (N := ks.length) (m := 1) (l := ks.map D.int) (by rw [List.length_map]; omega) (fun x hx => ?_) (by omega) (by rw [st_get0]; rfl) (by rw [st_get]; rfl) ?_
      · obtain ⟨i, _, rfl⟩ := List.mem_map.mp hx
        exact .int
      rw [show (ks.map D.int).isEmpty = ks.isEmpty by cases ks <;> rfl, k2, show ((ns.length : Int) - 1).toNat = ns.length - 1 by omega]
      exact (a4.app _).ret rfl hA
  | _ =>
    walk_at "go"
    exact ret_same h
end
theorem nums_perm {pls lns com : List D} : (wnums pls ++ com.map n1 ++ lns.flatMap hnums).Perm (cNums lns pls com) := by
  unfold cNums
  rw [List.append_assoc (lns.flatMap hnums)]
  exact List.perm_append_comm
theorem wn_len {pls : List D} (np : pls.length ≤ 5) : (wnums pls).length ≤ 5 := by
  unfold wnums
  rw [List.length_map]
  have := List.length_filter_le isWR pls
  omega
theorem hn_len {lns : List D} (hl : ∀ x ∈ lns, Line x) (nl : lns.length ≤ 2) : (lns.flatMap hnums).length ≤ 6 := by
  have := flat_len (f := hnums) (l := lns) (k := 3) fun x hx => by
    obtain ⟨ln, rfl, h1, _⟩ := hl x hx
    show (ln.map n0).length ≤ 3
    rw [List.length_map]; exact h1
  omega
theorem zip_all {α : Type} {g : Int → D → Bool} {n : Nat} {ns : List Int} {l : List D} (h1 : ns.length = n) (h2 : l.length = n) : ((ns.zip l).all fun q => g q.1 q.2) = (List.range n).all fun i => g (ns.getD i 0) (l.getD i .non) := by
  rw [Bool.eq_iff_iff, List.all_eq_true, List.all_eq_true]
  constructor
  · intro h i hi
    have hi := List.mem_range.mp hi
    have e : (ns.zip l)[i]? = some (ns[i]'(by omega), l[i]'(by omega)) := (List.getElem?_zip_eq_some (z := (ns[i]'(by omega), l[i]'(by omega)))).mpr ⟨List.getElem?_eq_getElem (by omega), List.getElem?_eq_getElem (by omega)⟩
    have := h _ (List.mem_of_getElem? e)
    rw [List.getD_eq_getElem?_getD, List.getD_eq_getElem?_getD, List.getElem?_eq_getElem (by omega), List.getElem?_eq_getElem (by omega)]
    exact this
  · rintro h ⟨k, v⟩ hq
    obtain ⟨i, hi, e⟩ := List.mem_iff_getElem.mp hq
    have e : (ns.zip l)[i]? = some (k, v) := by rw [List.getElem?_eq_getElem hi, e]
    obtain ⟨e1, e2⟩ := (List.getElem?_zip_eq_some (z := (k, v))).mp e
    have hi' := (List.getElem?_eq_some_iff.mp e1).1
    have := h i (List.mem_range.mpr (by omega))
    rw [List.getD_eq_getElem?_getD, List.getD_eq_getElem?_getD, e1, e2] at this
    exact this
def atN (f : Nat → Bool) : D → Bool
  | .int k => f k.toNat
  | _ => false
theorem rng_all {f : Nat → Bool} (n : Nat) : (rngL 0 n).all (atN f) = (List.range n).all f := by
  rw [Bool.eq_iff_iff, List.all_eq_true, List.all_eq_true]
  constructor
  · intro h i hi
    have hi := List.mem_range.mp hi
    have := h (.int (0 + (i : Int))) (by
      unfold rngL
      exact List.mem_map.mpr ⟨i, List.mem_range.mpr hi, rfl⟩)
    show f i = true
    have e : atN f (.int (0 + (i : Int))) = f i := by show f (0 + (i : Int)).toNat = f i; rw [show (0 + (i : Int)).toNat = i by omega]
    rw [← e]; exact this
  · intro h x hx
    obtain ⟨i, hi, e⟩ := List.mem_iff_getElem.mp hx
    have e : (rngL 0 n)[i]? = some x := by rw [List.getElem?_eq_getElem hi, e]
    obtain ⟨hi, rfl⟩ := rngL_at e
    show f (0 + (i : Int)).toNat = true
    rw [show (0 + (i : Int)).toNat = i by omega]
    exact h i (List.mem_range.mpr hi)
section
variable {N m n : Nat} {S : Store} {Q : DK} {Ex : EK}
theorem x_law_entered {hs : List D} {gr day : Int} {rd : Nat} {day' rs : D} {rest pls lns com : List D} (hl : ∀ x ∈ lns, Line x) (nl : lns.length ≤ 2) (hp : ∀ p ∈ pls, Place hs gr rd day p) (np : pls.length ≤ 5) (hc : ∀ c ∈ com, Coming c) (nc : com.length ≤ 6)
    (h : ∀ (ns' : List Int) (p : Nat) (S' : Store), Ap S S' → S.length ≤ p → S'[p]? = some (.lst (ns'.map D.int)) → ns'.Perm (cNums lns pls com) → ns'.Pairwise (· ≤ ·) → Q (.ref p) S') : run T (n + 1) 33 [.tup (day' :: .tup pls :: rs :: .tup lns :: rest), .tup com] S Q Ex := by
  refine ⟨d_law_entered, rfl, ?_⟩
  unfold d_law_entered b_law_entered
  walk_at "go"
  refine lc_by (fun i S' l => Ap S S' ∧ l = (((pls.take i).filter isWR).map n2).map D.int) ⟨.refl, rfl⟩ (fun _ _ _ _ => trivial) ?_ ?_
  · rintro i x S' l K hx ⟨u, rfl⟩ hK
    have hx : pls[i]? = some x := hx
    have hi := (List.getElem?_eq_some_iff.mp hx).1
    obtain ⟨⟨l, el, hw⟩, hz, _⟩ := six (hp x (List.mem_of_getElem? hx))
    have e1 := take_succ hx
    have w2 : ((pls.take i).filter isWR).length ≤ 5 := by
      have := List.length_filter_le isWR (pls.take i)
      rw [List.length_take] at this
      omega
    generalize hz' : wrd x = z at *
    walk_at "go"
    rw [el]
    walk_at "go"
    refine in_wordsL (ws := ["way", "ready"]) (by rw [st_get0]; rfl) hz (by decide +kernel) ?_
    refine ⟨_, rfl, ifC_d (fun q => ?_) (fun q => ?_)⟩
    · obtain ⟨a, b, c, rfl⟩ := hw (by simp only [List.mem_cons, List.not_mem_nil, or_false] at q ⊢; rcases q with q | q <;> simp [q])
      walk_at "go"
      refine ⟨by rw [List.length_map, List.length_map, sizeLine_eq]; omega, hK _ _ ⟨u.app _, ?_⟩⟩
      rw [e1, List.filter_append, List.filter_cons_of_pos (by simpa [isWR, hz'] using q)]
      simp [el, n2]
    · refine hK _ _ ⟨u.app _, ?_⟩
      rw [e1, List.filter_append, List.filter_cons_of_neg (by simpa [isWR, hz'] using q)]
      simp
  rintro l S2 ⟨u2, rfl⟩
  rw [show pls.take (Src.mk pls (fun _ => True)).its.length = pls from List.take_length, show (pls.filter isWR).map n2 = wnums pls from rfl]
  have wl := wn_len np
  walk_at "go"
  refine lc_by (fun i S' a => S2 ++ [.lst ((wnums pls).map D.int)] = S' ∧ a = ((com.take i).map n1).map D.int) ⟨rfl, rfl⟩ (fun _ _ _ _ => trivial) ?_ ?_
  · rintro i x S' a K hx ⟨rfl, rfl⟩ hK
    have hx : com[i]? = some x := hx
    obtain ⟨d, m, r, w, rfl⟩ := hc x (List.mem_of_getElem? hx)
    have e1 := take_succ hx
    walk_at "go"
    refine ⟨by rw [List.length_map, List.length_map, List.length_take, sizeLine_eq]; omega, hK _ _ ⟨rfl, ?_⟩⟩
    rw [e1]
    simp [n1]
  rintro a' S' ⟨rfl, rfl⟩
  rw [show com.take com.length = com from List.take_length]
  walk_at "go"
  refine ⟨(wnums pls).map D.int, (com.map n1).map D.int, rfl, rfl, by rw [List.length_map, List.length_map, List.length_map, sizeLine_eq]; omega, ?_⟩
  walk_at "go"
  rw [← List.map_append]
  have u3 := u2.app [.lst ((wnums pls).map D.int), .lst ((com.map n1).map D.int), .lst ((wnums pls ++ com.map n1).map D.int)]
  have e3 : (S2 ++ [.lst ((wnums pls).map D.int), .lst ((com.map n1).map D.int), .lst ((wnums pls ++ com.map n1).map D.int)])[S2.length + 2]? = some (.lst ((wnums pls ++ com.map n1).map D.int)) := by rw [st_get]; rfl
  generalize S2 ++ [Ob.lst ((wnums pls).map D.int), .lst ((com.map n1).map D.int), .lst ((wnums pls ++ com.map n1).map D.int)] = S3 at u3 e3 ⊢
  generalize S2.length + 2 = pu at e3 ⊢
  have hfl : ∀ i, ((lns.take i).flatMap hnums).length ≤ 6 := fun i => hn_len (fun x hx => hl x (List.mem_of_mem_take hx)) (by rw [List.length_take]; omega)
  refine for_by (fun i r S' => Ap S S' ∧ ∃ (pu : Nat) (y4 : Option D), r = [some (.tup (day' :: .tup pls :: rs :: .tup lns :: rest)), some (.tup com), some (.ref pu), none, none, y4, none] ∧ S'[pu]? = some (.lst ((wnums pls ++ com.map n1 ++ (lns.take i).flatMap hnums).map D.int))) ⟨u3, pu, _, rfl, by simpa using e3⟩ (fun _ _ _ _ => trivial) ?_ ?_
  · rintro i x r S4 K hx ⟨u4, pu, y8, rfl, q2⟩ hK
    have hx : lns[i]? = some x := hx
    obtain ⟨ln, rfl, h1, h2⟩ := hl x (List.mem_of_getElem? hx)
    have e1 := take_succ hx
    have hi := hfl i
    walk_at "go"
    refine lc_by (fun j S' l => S4 = S' ∧ l = ((ln.take j).map n0).map D.int) ⟨rfl, rfl⟩ (fun _ _ _ _ => trivial) ?_ ?_
    · rintro j y S' l K2 hy ⟨rfl, rfl⟩ hK2
      have hy : ln[j]? = some y := hy
      have hj := (List.getElem?_eq_some_iff.mp hy).1
      obtain ⟨num, r, rk, told, rfl, _⟩ := h2 y (List.mem_of_getElem? hy)
      have e2 := take_succ hy
      walk_at "go"
      refine ⟨by rw [List.length_map, List.length_map, List.length_take, sizeLine_eq]; omega, hK2 _ _ ⟨rfl, by rw [e2]; simp [n0]⟩⟩
    · rintro l S' ⟨rfl, rfl⟩
      rw [show ln.take ln.length = ln from List.take_length]
      walk_at "go"
      refine ⟨_, _, by rw [get_app (lt_of_get q2)]; exact q2, rfl, by rw [List.length_map, List.length_append, List.length_append, List.length_map, List.length_map, List.length_map, sizeLine_eq]; omega, ?_⟩
      walk_at "go"
      rw [← List.map_append]
      refine hK _ _ ⟨u4.app _, _, _, rfl, ?_⟩
      rw [st_get, e1, List.flatMap_append]
      simp [hnums]
  rintro r S4 ⟨u4, pu, y8, rfl, q2⟩
  have q2 : S4[pu]? = some (.lst ((wnums pls ++ com.map n1 ++ (lns.take lns.length).flatMap hnums).map D.int)) := q2
  rw [List.take_length] at q2
  have hh := hn_len hl nl
  walk_at "go"
  refine ⟨_, _, q2, ints_map _, by rw [List.length_append, List.length_append, List.length_map]; omega, fun ns' h1 h2 => ?_⟩
  walk_at "go"
  refine ret_same (h ns' _ _ (u4.app _) ?_ (by rw [st_get0]; rfl) (h1.trans nums_perm) h2)
  obtain ⟨t, rfl⟩ := u4
  simp
end
def fltD : Option Str → D
  | none => .non
  | some w => .str w
/-- what both sides want of a library, a stand, coming holds -/
structure Wd (H : List Hs) (gr wd day : Int) (rd : Nat) (pls lns com : List D) (ns : List Int) : Prop where
  wk : ∀ h ∈ H, Wks.Wk h.w
  h1 : 1 ≤ H.length
  h6 : H.length ≤ 6
  w1 : 1 ≤ wd
  w2 : wd ≤ 14
  d0 : 0 ≤ day
  d1 : day ≤ 100000
  g0 : 0 ≤ gr
  g1 : gr ≤ 14
  ln : ∀ x ∈ lns, Line x
  nl : lns.length ≤ 2
  pl : ∀ p ∈ pls, Place (H.map hsD) gr rd day p
  np : pls.length ≤ 5
  cm : ∀ c ∈ com, Coming c
  nc : com.length ≤ 6
  hns : ∀ ns' : List Int, ns'.Perm (cNums lns pls com) → ns'.Pairwise (· ≤ ·) → ns' = ns
  nn : ns.length ≤ 17
section
variable {N m n : Nat} {S : Store} {Q : DK} {Ex : EK}
theorem rng_V {k : Nat} {fs : List D} (h : ∀ x ∈ fs, x ∈ rngL 0 k) : ∀ x ∈ fs, V k 1 x := fun x hx => by
  obtain ⟨i, hi, e⟩ := List.mem_iff_getElem.mp (h x hx)
  have e : (rngL 0 k)[i]? = some x := by rw [List.getElem?_eq_getElem hi, e]
  obtain ⟨_, rfl⟩ := rngL_at e
  exact .int
theorem x_law_fault {H : List Hs} {gr wd day classes : Int} {rd : Nat} {ls rs : D} {pls lns com rest lr : List D} {ns : List Int} {v : D} (W : Wd H gr wd day rd pls lns com ns) (hv : V N m v) (hm : m ≤ 50) (hN : N ≤ 16000000) (h : Q (fltD (fltB H gr wd day pls ns v)) S) :
    run T (n + 5) 39 [.tup (.tup [.tup (H.map hsD), .int classes, ls, .int wd, .int gr] :: lr), .tup (.int day :: .tup pls :: rs :: .tup lns :: rest), .tup com, v] S Q Ex := by
  refine ⟨d_law_fault, rfl, ?_⟩
  unfold d_law_fault b_law_fault
  have g1 := W.g1; have g0 := W.g0; have d0 := W.d0; have d1 := W.d1; have nn := W.nn; have np := W.np; have h6 := W.h6
  cases v with
  | ref _ => exact hv.pt.elim
  | cl _ => exact hv.pt.elim
  | tup l =>
    walk_at "go"
    refine ifK_d (fun q => ?_) (fun q => ?_)
    · walk_at "go"
      refine ret_same ?_
      rw [flt3 (v := .tup l) (by simpa [isT] using q)] at h
      exact h
    obtain ⟨e, b, g, e0⟩ := isT3 (v := .tup l) (decide_eq_true (Decidable.not_not.mp q))
    cases e0
    obtain ⟨hl, hx⟩ := hv.tup
    have he := hx e (by simp)
    have hb := hx b (by simp)
    have hg := hx g (by simp)
    have bad1 : entsB wd H.length ns e = false → Q (.str "entries") S := fun z => by
      rw [show fltB H gr wd day pls ns (.tup [e, b, g]) = (if entsB wd H.length ns e = true then if bksB H gr day pls b = true then if gonB pls (nvs b) g = true then none else some "gone" else some "backs" else some "entries" : Option Str) from rfl, if_neg (by rw [z]; decide)] at h
      exact h
    have h2 : entsB wd H.length ns e = true → Q (fltD (if bksB H gr day pls b = true then if gonB pls (nvs b) g = true then none else some "gone" else some "backs" : Option Str)) S := fun z => by
      rw [show fltB H gr wd day pls ns (.tup [e, b, g]) = (if entsB wd H.length ns e = true then if bksB H gr day pls b = true then if gonB pls (nvs b) g = true then none else some "gone" else some "backs" else some "entries" : Option Str) from rfl, if_pos z] at h
      exact h
    clear h
    walk_at "go"
    refine x_law_entered W.ln W.nl W.pl W.np W.cm W.nc fun ns' p S1 a1 l1 e1 p1 p2 => ?_
    rw [W.hns ns' p1 p2] at e1
    clear p1 p2
    walk_at "go"
    cases e with
    | ref _ => exact he.pt.elim
    | cl _ => exact he.pt.elim
    | tup el =>
      obtain ⟨hel, hex⟩ := he.tup
      walk_at "go"
      refine ⟨_, e1, ?_⟩
      rw [ol_lst, List.length_map]
      refine ifK_d (fun q => ?_) (fun q => ?_)
      · walk_at "go"
        refine a1.ret rfl (bad1 ?_)
        unfold entsB
        rw [show isT ns.length (.tup el) = false from decide_eq_false q]
        rfl
      have qn : el.length = ns.length := by have := Decidable.not_not.mp q; omega
      walk_at "go"
      refine ⟨_, e1, ?_⟩
      rw [ol_lst, List.length_map]
      refine ⟨by omega, by omega, ?_⟩
      have ee : entsB wd H.length ns (.tup el) = (List.range ns.length).all fun i => entB wd H.length (ns.getD i 0) (el.getD i .non) := by
        unfold entsB
        rw [show isT ns.length (.tup el) = true from decide_eq_true (by omega), Bool.true_and]
        exact zip_all (α := Int) (g := entB wd H.length) rfl qn
      refine none_in (fun S' => S1 = S') (atN fun i => entB wd H.length (ns.getD i 0) (el.getD i .non)) (by rw [rngL_length]; omega) rfl (fun _ _ => trivial) (fun i x a S' K hx e ha k1 k2 => ?_) fun fs S' e f1 f2 f3 => ?_
      · subst e
        obtain ⟨hi, rfl⟩ := rngL_at hx
        have hi : i < ns.length := by omega
        have hie : i < el.length := by omega
        have eg : el[i]? = some (el.getD i .non) := by rw [List.getD_eq_getElem?_getD, List.getElem?_eq_getElem hie]; rfl
        have hvi := hex _ (List.mem_of_getElem? eg)
        have ea : atN (fun i => entB wd H.length (ns.getD i 0) (el.getD i .non)) (.int (0 + (i : Int))) = entB wd H.length (ns.getD i 0) (el.getD i .non) := by
          show entB wd H.length (ns.getD (0 + (i : Int)).toNat 0) (el.getD (0 + (i : Int)).toNat .non) = _
          rw [show (0 + (i : Int)).toNat = i by omega]
        rw [ea] at k1 k2
        have ei : ixAt (ns.map D.int) (0 + (i : Int)) = some (.int (ns.getD i 0)) := by
          have := ixAt_ints (w := ns) (i := 0 + (i : Int)) (by omega) (by omega)
          rw [show (0 + (i : Int)).toNat = i by omega] at this
          exact this
        walk_at "go"
        refine ⟨_, e1, _, ei, _, ixAt_nat (by omega) (by rw [show (0 + (i : Int)).toNat = i by omega]; exact eg), ?_⟩
        refine x_law_is_entry hvi (by omega) ?_
        rw [List.length_map]
        exact ⟨_, rfl, ifC_n (fun q => ⟨ha, k1 _ rfl q⟩) (fun q => k2 _ rfl q)⟩
      · subst e
        rw [Int.toNat_natCast, rngL_length] at f1
        rw [Int.toNat_natCast] at f2
        rw [Int.toNat_natCast, rng_all, ← ee] at f3
        walk_at "go"
        refine ne_nil (N := ns.length) (m := 1) (l := fs) f1 (rng_V f2) (by omega) (by rw [st_get0]; rfl) (by rw [st_get]; rfl) ?_
        rw [f3]
        have a2 := a1.app [Ob.lst fs, .lst []]
        generalize S1 ++ [Ob.lst fs, .lst []] = S2 at a2 ⊢
        refine ⟨_, rfl, ifK_n (fun q => ?_) (fun q => ?_)⟩
        · walk_at "go"
          exact a2.ret rfl (bad1 q)
        have h := h2 q
        clear h2 bad1 ee f3 f1 f2
        have bad2 : bksB H gr day pls b = false → Q (.str "backs") S := fun z => by
          rw [if_neg (by rw [z]; decide)] at h
          exact h
        have h3 : bksB H gr day pls b = true → Q (fltD (if gonB pls (nvs b) g = true then none else some "gone" : Option Str)) S := fun z => by
          rw [if_pos z] at h
          exact h
        clear h
        walk_at "go"
        refine ⟨by omega, by omega, lc_by (fun i S' l => S2 = S' ∧ l = (((List.range i).filter fun i => decide (wrd (pls.getD i .non) = "lent")).map (fun (i : Nat) => (i : Int))).map D.int) ⟨rfl, rfl⟩ (fun _ _ _ _ => trivial) ?_ ?_⟩
        · rintro i x S' l K hx ⟨rfl, rfl⟩ hK
          obtain ⟨hi, rfl⟩ := rngL_at hx
          have hi : i < pls.length := by omega
          have e : pls[i]? = some pls[i] := List.getElem?_eq_getElem hi
          obtain ⟨⟨l, el, -⟩, hz, _⟩ := six (W.pl _ (List.getElem_mem hi))
          have eg := getD_of e
          generalize pls[i] = x at *
          have le := List.length_filter_le (fun i => decide (wrd (pls.getD i .non) = "lent")) (List.range i)
          rw [List.length_range] at le
          walk_at "go"
          refine ⟨_, ixAt_nat (by omega) (by rw [show (0 + (i : Int)).toNat = i by omega]; exact e), ?_⟩
          rw [el]
          walk_at "go"
          refine ⟨hz, by decide +kernel, ifC_d (fun q => ?_) (fun q => ?_)⟩
          · refine ⟨by rw [List.length_map, List.length_map, sizeLine_eq]; omega, hK _ _ ⟨rfl, ?_⟩⟩
            rw [range_succ_filter, eg, if_pos (decide_eq_true q), List.map_append, List.map_append, Int.zero_add]
            rfl
          · refine hK _ _ ⟨rfl, ?_⟩
            rw [range_succ_filter, eg, if_neg (by simpa using q), List.append_nil]
        rintro l' S' ⟨rfl, rfl⟩
        rw [rngL_length, Int.toNat_natCast]
        rw [show ((List.range pls.length).filter fun i => decide (wrd (pls.getD i .non) = "lent")).map (fun (i : Nat) => (i : Int)) = lentIx pls from rfl]
        have ll := lentIx_len (pls := pls)
        have hlix : ∀ c ∈ lentIx pls, ∃ i : Nat, c = i := fun c hc => by
          obtain ⟨i, _, _, _, e, _⟩ := lent_of W.pl hc
          exact ⟨i, e⟩
        walk_at "go"
        have a3 := a2.app [.lst ((lentIx pls).map D.int)]
        have e3 : (S2 ++ [Ob.lst ((lentIx pls).map D.int)])[S2.length]? = some (.lst ((lentIx pls).map D.int)) := by rw [st_get0]; rfl
        generalize S2 ++ [Ob.lst ((lentIx pls).map D.int)] = S3 at a3 e3 ⊢
        generalize S2.length = pl at e3 ⊢
        generalize hix : lentIx pls = ix at *
        cases b with
        | ref _ => exact hb.pt.elim
        | cl _ => exact hb.pt.elim
        | tup bl =>
          obtain ⟨hbl, hbx⟩ := hb.tup
          walk_at "go"
          refine ⟨_, e3, ?_⟩
          rw [ol_lst, List.length_map]
          refine ifK_d (fun q => ?_) (fun q => ?_)
          · walk_at "go"
            refine a3.ret rfl (bad2 ?_)
            unfold bksB
            rw [hix, show isT ix.length (.tup bl) = false from decide_eq_false q]
            rfl
          have qn : bl.length = ix.length := by have := Decidable.not_not.mp q; omega
          walk_at "go"
          refine ⟨_, e3, ?_⟩
          rw [ol_lst, List.length_map]
          refine ⟨by omega, by omega, ?_⟩
          have ee : bksB H gr day pls (.tup bl) = (List.range ix.length).all fun i => bkB H gr day pls (ix.getD i 0) (bl.getD i .non) := by
            unfold bksB
            rw [hix, show isT ix.length (.tup bl) = true from decide_eq_true (by omega), Bool.true_and]
            exact zip_all (α := Int) (g := bkB H gr day pls) rfl qn
          refine none_in (fun S' => S3 = S') (atN fun i => bkB H gr day pls (ix.getD i 0) (bl.getD i .non)) (by rw [rngL_length]; omega) rfl (fun _ _ => trivial) (fun i x a S' K hx e ha k1 k2 => ?_) fun fs S' e f1 f2 f3 => ?_
          · subst e
            obtain ⟨hi, rfl⟩ := rngL_at hx
            have hi : i < ix.length := by omega
            have hie : i < bl.length := by omega
            have eg : bl[i]? = some (bl.getD i .non) := by rw [List.getD_eq_getElem?_getD, List.getElem?_eq_getElem hie]; rfl
            have hvi := hbx _ (List.mem_of_getElem? eg)
            have ea : atN (fun i => bkB H gr day pls (ix.getD i 0) (bl.getD i .non)) (.int (0 + (i : Int))) = bkB H gr day pls (ix.getD i 0) (bl.getD i .non) := by
              show bkB H gr day pls (ix.getD (0 + (i : Int)).toNat 0) (bl.getD (0 + (i : Int)).toNat .non) = _
              rw [show (0 + (i : Int)).toNat = i by omega]
            rw [ea] at k1 k2
            have ei : ixAt (ix.map D.int) (0 + (i : Int)) = some (.int (ix.getD i 0)) := by
              have := ixAt_ints (w := ix) (i := 0 + (i : Int)) (by omega) (by omega)
              rw [show (0 + (i : Int)).toNat = i by omega] at this
              exact this
            have him : ix.getD i 0 ∈ ix := by rw [List.getD_eq_getElem?_getD, List.getElem?_eq_getElem hi]; exact List.getElem_mem hi
            obtain ⟨j, hj⟩ := hlix _ him
            rw [hj] at ei him k1 k2
            walk_at "go"
            refine ⟨_, e3, _, ei, _, ixAt_nat (by omega) (by rw [show (0 + (i : Int)).toNat = i by omega]; exact eg), ?_⟩
            refine x_law_is_back W.wk W.h6 W.d0 W.d1 W.g0 W.g1 W.pl (hix ▸ him) hvi ?_
            exact ⟨_, rfl, ifC_n (fun q => ⟨ha, k1 _ rfl q⟩) (fun q => k2 _ rfl q)⟩
          · subst e
            rw [Int.toNat_natCast, rngL_length] at f1
            rw [Int.toNat_natCast] at f2
            rw [Int.toNat_natCast, rng_all, ← ee] at f3
            walk_at "go"
            refine ne_nil (N := ix.length) (m := 1) (l := fs) f1 (rng_V f2) (by omega) (by rw [st_get0]; rfl) (by rw [st_get]; rfl) ?_
            rw [f3]
            have a4 := a3.app [Ob.lst fs, .lst []]
            generalize S3 ++ [Ob.lst fs, .lst []] = S4 at a4 ⊢
            refine ⟨_, rfl, ifK_n (fun q => ?_) (fun q => ?_)⟩
            · walk_at "go"
              exact a4.ret rfl (bad2 q)
            have h := h3 q
            walk_at "go"
            refine x_law_is_gone (H := H) (gr := gr) (day := day) W.pl W.np q hg (by omega) hN ?_
            walk_at "go"
            refine ifC_b (fun q5 => ?_) (fun q5 => ?_)
            · rw [if_pos q5] at h
              exact a4.ret rfl h
            · rw [if_neg (by rw [q5]; decide)] at h
              exact a4.ret rfl h
        | _ =>
          walk_at "go"
          exact a3.ret rfl (bad2 rfl)
    | _ =>
      walk_at "go"
      exact a1.ret rfl (bad1 rfl)
  | _ =>
    walk_at "go"
    exact ret_same h
end
def toldD : Option Str → D
  | none => .tup [.str "none", .non]
  | some w => .tup [.str "bad", .str w]
section
variable {N m n : Nat} {S : Store} {Q : DK} {Ex : EK}
theorem x_law_told {H : List Hs} {gr wd day classes turn : Int} {rd : Nat} {ls rs : D} {pls lns com rest lr : List D} {ns : List Int} {v : D} (W : Wd H gr wd day rd pls lns com ns) (hv : V N m v) (hm : m ≤ 50) (hN : N ≤ 16000000) (h : Q (toldD (fltB H gr wd day pls ns v)) S) :
    run T (n + 7) 41 [.tup (.tup [.tup (H.map hsD), .int classes, ls, .int wd, .int gr] :: lr), .tup (.int day :: .tup pls :: rs :: .tup lns :: rest), .tup com, v, .int turn] S Q Ex := by
  refine ⟨d_law_told, rfl, ?_⟩
  unfold d_law_told b_law_told
  walk_at "go"
  have bad : ∀ (w : Str) (N : Dn) (ex : EK) (hn : Hn), hn = ⟨4, ["part"], some 6, (.tup [.cst (.str "bad"), .fld "part"])⟩ → N.rt = (fun v S' => Ret S v S' Q) → fltB H gr wd day pls ns v = some w → tryEx hn N ex 4 [.str w] S := by
    rintro w N ex hn rfl hN e
    rw [e] at h
    refine tryEx_at (h := ⟨4, _, _, _⟩) ▸ ⟨_, rfl, ?_⟩
    rw [hN]
    exact ret_same h
  have good : fltB H gr wd day pls ns v = none → Q (.tup [.str "none", .non]) S := fun e => by
    rw [e] at h
    exact h
  refine ifK_d (fun q => ?_) (fun q => ?_)
  · walk_at "go"
    refine x_check_course W.wk W.ln W.nl W.pl W.np W.cm W.nc W.hns hv hm hN (fun e => ?_) (fun w e => bad w _ _ _ rfl rfl e)
    walk_at "go"
    exact ret_same (good e)
  · walk_at "go"
    refine x_check_course W.wk W.ln W.nl W.pl W.np W.cm W.nc W.hns hv hm hN (fun e => ?_) (fun w e => bad w _ _ _ rfl rfl e)
    walk_at "go"
    exact ret_same (good e)
theorem x_law_is_due {f d : Option Str} (hf : ∀ w, f = some w → PyData.strOk w = true) (hd : ∀ w, d = some w → PyData.strOk w = true) (h : Q (.bl (decide (f = d))) S) : run T (n + 1) 42 [toldD f, fltD d] S Q Ex := by
  refine ⟨d_law_is_due, rfl, ?_⟩
  unfold d_law_is_due b_law_is_due
  cases d with
  | none =>
    cases f with
    | none =>
      unfold toldD fltD
      walk_at "go"
      exact ⟨by decide +kernel, by decide +kernel, ret_same h⟩
    | some w =>
      unfold toldD fltD
      walk_at "go"
      exact ⟨by decide +kernel, by decide +kernel, ifC_b (fun _ => ret_same h) (fun _ => ret_same h)⟩
  | some w =>
    cases f with
    | none =>
      unfold toldD fltD
      walk_at "go"
      exact ⟨by decide +kernel, by decide +kernel, ifC_b (fun _ => ret_same h) (fun _ => ret_same h)⟩
    | some w' =>
      unfold toldD fltD
      walk_at "go"
      refine ⟨by decide +kernel, by decide +kernel, hf _ rfl, hd _ rfl, ret_same ?_⟩
      rw [show decide (w' = w) = decide (some w' = some w) from decide_eq_decide.mpr ⟨fun h => by rw [h], fun h => by injection h⟩]
      exact h
end
section
variable {n : Nat} {S S1 : Store} {Q : DK} {Ex : EK}
theorem x_take2 {b : Bool} {l1 l2 : Int} (a : Up S S1) (p1 : 0 < l1) (p2 : 0 < l2) (q1 : l1 ≤ 1000) (q2 : l2 ≤ 1000) (h : ∀ (v : Int) S', 0 ≤ v → (v < l1 ∨ v < l2) → Up S S' → Same S1 S' → Q (.int v) S') : ifC b (fun _ => run T (n + 2) 18 [.ref 1, .int l1] S1 Q Ex) (fun _ => run T (n + 2) 18 [.ref 1, .int l2] S1 Q Ex) :=
  ifC_b (fun _ => x_takeS a p1 (by omega) fun v S' h1 h2 => h v S' h1 (.inl h2)) (fun _ => x_takeS a p2 (by omega) fun v S' h1 h2 => h v S' h1 (.inr h2))
theorem week_of {w : List Int} (h1 : w.length = 7) (h2 : ∀ b ∈ w, b = 0 ∨ b = 1) (h3 : (1 : Int) ∈ w) : Wks.Wk w := by
  refine ⟨h1, fun i hi => ?_, ?_⟩
  · rw [List.getD_eq_getElem?_getD, List.getElem?_eq_getElem (by omega)]
    exact h2 _ (List.getElem_mem _)
  · obtain ⟨i, hi, e⟩ := List.mem_iff_getElem.mp h3
    exact ⟨i, by omega, by rw [List.getD_eq_getElem?_getD, List.getElem?_eq_getElem hi]; exact e⟩
theorem x_law_week (a : Up S S1) (h : ∀ w S', Wks.Wk w → Up S S' → Same S1 S' → Q (.tup (w.map D.int)) S') : run T (n + 3) 27 [.ref 1] S1 Q Ex := by
  refine ⟨d_law_week, rfl, ?_⟩
  unfold d_law_week b_law_week
  walk_at "go"
  refine x_takeS a (by omega) (by omega) fun way S2 a1 a2 a3 m3 => ?_
  walk_at "go"
  refine ifK_d (fun q => ?_) (fun q => ?_)
  · walk_at "go"
    exact ret_same (h [1, 1, 1, 1, 1, 1, 1] _ (week_of rfl (by simp) (by simp)) a3 m3)
  · walk_at "go"
    refine x_takeS a3 (by omega) (by omega) fun one S3 b1 b2 b3 mm => ?_
    walk_at "go"
    refine lc_by (fun i S' l => Up S S' ∧ Same S1 S' ∧ ∃ w : List Int, l = w.map D.int ∧ w.length = i ∧ (∀ b ∈ w, b = 0 ∨ b = 1) ∧ (one < (i : Int) → (1 : Int) ∈ w)) ⟨b3, m3.trans mm, [], rfl, rfl, by simp, fun z => by omega⟩ (fun _ _ _ _ => trivial) ?_ ?_
    · rintro i x S4 l K hx ⟨c1, c0, w, rfl, c2, c3, c4⟩ hK
      obtain ⟨hi, rfl⟩ := rngL_at hx
      have fin : ∀ (b : Int) S', (b = 0 ∨ b = 1) → Up S S' → Same S1 S' → (0 + (i : Int) = one → b = 1) → (w.map D.int).length < sizeLine ∧ K (w.map D.int ++ [.int b]) S' := by
        intro b S' b01 u u' hb
        refine ⟨by rw [List.length_map, c2, sizeLine_eq]; omega, hK _ _ ⟨u, u', w ++ [b], by simp, by simp [c2], ?_, ?_⟩⟩
        · intro z hz
          rcases List.mem_append.mp hz with q | q
          · exact c3 z q
          · rw [List.mem_singleton.mp q]; exact b01
        · intro hz
          rcases Int.lt_or_eq_of_le (show one ≤ (i : Int) by omega) with q | q
          · exact List.mem_append_left _ (c4 q)
          · rw [hb (by omega)]
            exact List.mem_append_right _ (by simp)
      walk_at "go"
      refine ifC_d (fun q1 => ?_) (fun q1 => ?_)
      · walk_at "go"
        exact fin 1 _ (.inr rfl) c1 c0 fun _ => rfl
      · walk_at "go"
        refine ifC_d (fun q2 => ?_) (fun q2 => ?_)
        · walk_at "go"
          refine x_takeS c1 (by omega) (by omega) fun two S5 e1 e2 e3 mm => ?_
          walk_at "go"
          refine ifC_d (fun q3 => ?_) (fun q3 => ?_)
          · exact fin 1 _ (.inr rfl) e3 (c0.trans mm) fun _ => rfl
          · exact fin 0 _ (.inl rfl) e3 (c0.trans mm) fun z => absurd z q1
        · walk_at "go"
          exact fin 0 _ (.inl rfl) c1 c0 fun z => absurd z q1
    · rintro l S4 ⟨c1, c0, w, rfl, c2, c3, c4⟩
      rw [rngL_length] at c2 c4
      walk_at "go"
      exact ret_same (h w _ (week_of c2 c3 (c4 (by omega))) (c1.app _) (c0.app _))
structure BkOk (H : List Hs) (classes wd gr : Int) : Prop where
  h1 : 1 ≤ H.length
  h6 : H.length ≤ 6
  wk : ∀ h ∈ H, Wks.Wk h.w
  c1 : 1 ≤ classes
  c4 : classes ≤ 4
  w1 : 1 ≤ wd
  w2 : wd ≤ 14
  g0 : 0 ≤ gr
  g1 : gr ≤ 14
  ci : ∀ h ∈ H, h.c.length ≤ 24 ∧ ∀ p ∈ h.c, 0 ≤ p.1 ∧ p.1 < (H.length : Int) ∧ 0 ≤ p.2 ∧ p.2 < classes
theorem x_law_book (a : Up S S1) (h : ∀ (H : List Hs) (classes wd gr : Int) (ls : List D) S', BkOk H classes wd gr → Up S S' → Q (.tup [.tup (H.map hsD), .int classes, .tup ls, .int wd, .int gr]) S') : run T (n + 4) 28 [.ref 1, .int 3] S1 Q Ex := by
  refine ⟨d_law_book, rfl, ?_⟩
  unfold d_law_book b_law_book
  have s1 := a.tp.lt
  walk_at "go"
  refine x_takeS a (by omega) (by omega) fun v0 S2 _ _ u2 m2 => ?_
  walk_at "go"
  refine x_takeS u2 (by omega) (by omega) fun v1 S3 _ _ u3 m3 => ?_
  walk_at "go"
  generalize decide (v0 = 0) = wide
  generalize decide (v1 = 0) = alike
  refine x_take2 u3 (by omega) (by omega) (by omega) (by omega) fun v2 S4 a1 a2 u4 m4 => ?_
  walk_at "go"
  refine x_take2 u4 (by omega) (by omega) (by omega) (by omega) fun v3 S5 a3 a4 u5 m5 => ?_
  walk_at "go"
  obtain ⟨many, hmany⟩ : ∃ many : Nat, 1 + v2 = many := ⟨(1 + v2).toNat, by omega⟩
  obtain ⟨classes, hcl⟩ : ∃ classes : Nat, 1 + v3 = classes := ⟨(1 + v3).toNat, by omega⟩
  rw [hmany, hcl]
  have t5 := u5.tp.lt
  have u6 := u5.app [.lst []]
  have e6 : (S5 ++ [Ob.lst []])[S5.length]? = some (.lst []) := by rw [st_get0]; rfl
  generalize S5 ++ [Ob.lst []] = S6 at u6 e6 ⊢
  generalize S5.length = p6 at t5 e6 ⊢
  walk_at "go"
  refine ⟨by omega, by omega, for_by (fun i r S' => Up S S' ∧ ∃ (p6 : Nat) (ps : List (Int × Int)) (y7 : Option D), r = [some (.ref 1), some (.int 3), some (.bl wide), some (.bl alike), some (.int (many : Int)), some (.int (classes : Int)), some (.ref p6), y7, none, none, none, none, none, none, none, none] ∧ 1 < p6 ∧ S'[p6]? = some (.lst (ps.map Ev.prD)) ∧ ps.length ≤ classes * i ∧ ∀ p ∈ ps, 0 ≤ p.1 ∧ p.1 < (many : Int) ∧ 0 ≤ p.2 ∧ p.2 < (classes : Int)) ⟨u6, p6, [], _, rfl, t5, e6, by simp, by simp⟩ (fun _ _ _ _ => trivial) ?_ ?_⟩
  · rintro i x r S7 K hx ⟨u7, p6, ps, y7, rfl, q1, q2, q3, q4⟩ hK
    obtain ⟨hi, rfl⟩ := rngL_at hx
    have hi : i < many := by omega
    have hmul : classes * i ≤ 4 * 6 := Nat.mul_le_mul (by omega) (by omega)
    have hsu : classes * (i + 1) = classes * i + classes := Nat.mul_succ _ _
    have t7 := u7.tp.lt
    walk_at "go"
    refine ⟨by omega, by omega, lc_by (fun j S' l => S7 = S' ∧ ∃ qs : List (Int × Int), l = qs.map Ev.prD ∧ qs.length ≤ j ∧ ∀ p ∈ qs, 0 ≤ p.1 ∧ p.1 < (many : Int) ∧ 0 ≤ p.2 ∧ p.2 < (classes : Int)) ⟨rfl, [], rfl, Nat.le_refl _, by simp⟩ (fun _ _ _ _ => trivial) ?_ ?_⟩
    · rintro j y S' l K2 hy ⟨rfl, qs, rfl, k1, k2⟩ hK2
      obtain ⟨hj, rfl⟩ := rngL_at hy
      walk_at "go"
      refine ⟨by rw [List.length_map, sizeLine_eq]; omega, hK2 _ _ ⟨rfl, qs ++ [(0 + (i : Int), 0 + (j : Int))], by simp [Ev.prD], by simp; omega, fun p hp => ?_⟩⟩
      rcases List.mem_append.mp hp with z | z
      · exact k2 p z
      · rw [List.mem_singleton.mp z]
        exact ⟨by show (0 : Int) ≤ 0 + (i : Int); omega, by show 0 + (i : Int) < _; omega, by show (0 : Int) ≤ 0 + (j : Int); omega, by show 0 + (j : Int) < _; omega⟩
    · rintro l S' ⟨rfl, qs, rfl, k1, k2⟩
      rw [rngL_length] at k1
      walk_at "go"
      refine ⟨_, _, (get_app (lt_of_get q2)).trans q2, rfl, by rw [List.length_map, List.length_map, sizeLine_eq]; omega, ?_⟩
      walk_at "go"
      rw [← List.map_append]
      refine hK _ _ ⟨u7.app _, _, ps ++ qs, _, rfl, by omega, by rw [st_get]; rfl, by rw [List.length_append]; omega, fun p hp => ?_⟩
      rcases List.mem_append.mp hp with z | z
      · exact q4 p z
      · exact k2 p z
  rintro r S7 ⟨u7, p6, ps, y7, rfl, q1, q2, q3, q4⟩
  rw [rngL_length, Int.toNat_natCast] at q3
  have hmul : classes * many ≤ 4 * 6 := Nat.mul_le_mul (by omega) (by omega)
  have pl : ps.length ≤ 24 := by omega
  walk_at "go"
  have t7 := u7.tp.lt
  have le7 : S.length ≤ S7.length := u7.le
  have u8 := u7.app [.lst []]
  have e8 : (S7 ++ [Ob.lst []])[S7.length]? = some (.lst []) := by rw [st_get0]; rfl
  have f8 : (S7 ++ [Ob.lst []])[p6]? = some (.lst (ps.map Ev.prD)) := (get_app (lt_of_get q2)).trans q2
  have ne : p6 ≠ S7.length := by have := lt_of_get q2; omega
  generalize S7 ++ [Ob.lst []] = S8 at u8 e8 f8 ⊢
  generalize S7.length = p9 at t7 le7 e8 ne ⊢
  refine ⟨by omega, by omega, for_by (fun i r S' => Up S S' ∧ S'[p6]? = some (.lst (ps.map Ev.prD)) ∧ ∃ (H : List Hs) (y7 y10 y11 y13 : Option D), r = [some (.ref 1), some (.int 3), some (.bl wide), some (.bl alike), some (.int (many : Int)), some (.int (classes : Int)), some (.ref p6), y7, none, some (.ref p9), y10, y11, none, y13, none, none] ∧ S'[p9]? = some (.lst (H.map hsD)) ∧ H.length = i ∧ ∀ h ∈ H, Wks.Wk h.w ∧ h.c.length ≤ 24 ∧ ∀ p ∈ h.c, 0 ≤ p.1 ∧ p.1 < (many : Int) ∧ 0 ≤ p.2 ∧ p.2 < (classes : Int)) ⟨u8, f8, [], _, _, _, _, rfl, e8, rfl, by simp⟩ (fun _ _ _ _ => trivial) ?_ ?_⟩
  · rintro i x r S9 K hx ⟨u9, f9, H, y7, y10, y11, y13, rfl, e9, k1, k2⟩ hK
    obtain ⟨hi, rfl⟩ := rngL_at hx
    have hi : i < many := by omega
    walk_at "go"
    refine ⟨_, f9, ?_⟩
    refine lc_by (fun j S' l => (Up S S' ∧ Same S9 S') ∧ ∃ cs : List (Int × Int), l = cs.map Ev.prD ∧ cs.length ≤ j ∧ ∀ p ∈ cs, p ∈ ps) ⟨⟨u9, .refl⟩, [], rfl, Nat.le_refl _, by simp⟩ (fun j S' l z => z.1.2.2 _ q1 (lt_of_get f9)) ?_ ?_
    · rintro j y S' l K2 hy ⟨⟨u10, n10⟩, cs, rfl, c1, c2⟩ hK2
      have hy : (ps.map Ev.prD)[j]? = some y := hy
      have hj := (List.getElem?_eq_some_iff.mp hy).1
      rw [List.length_map] at hj
      rw [List.getElem?_map] at hy
      obtain ⟨p, hp, rfl⟩ := Option.map_eq_some_iff.mp hy
      walk_at "go"
      refine x_takeS u10 (by omega) (by omega) fun v S11 _ _ u11 n11 => ?_
      walk_at "go"
      refine ifC_d (fun q => ?_) (fun q => ?_)
      · refine ⟨by rw [List.length_map, sizeLine_eq]; omega, hK2 _ _ ⟨⟨u11, n10.trans n11⟩, cs ++ [p], by simp, by simp; omega, fun z hz => ?_⟩⟩
        rcases List.mem_append.mp hz with w | w
        · exact c2 z w
        · rw [List.mem_singleton.mp w]; exact List.mem_of_getElem? hp
      · exact hK2 _ _ ⟨⟨u11, n10.trans n11⟩, cs, rfl, by omega, c2⟩
    rintro l S10 ⟨⟨u10, n10⟩, cs, rfl, c1, c2⟩
    have c1 : cs.length ≤ (ps.map Ev.prD).length := c1
    rw [List.length_map] at c1
    walk_at "go"
    refine x_take2 (u10.app _) (by omega) (by omega) (by omega) (by omega) fun ext S11 _ _ u11 n11 => ?_
    have m11 : Same S9 S11 := n10.trans ((Same.refl.app _).trans n11)
    walk_at "go"
    refine ⟨by omega, by omega, lc_by (fun j S' l => (Up S S' ∧ Same S9 S') ∧ ∃ ys : List Int, l = ys.map D.int ∧ ys.length = j) ⟨⟨u11, m11⟩, [], rfl, rfl⟩ (fun _ _ _ _ => trivial) ?_ ?_⟩
    · rintro j y S' l K2 hy ⟨⟨u12, n12⟩, ys, rfl, c3⟩ hK2
      obtain ⟨hj, rfl⟩ := rngL_at hy
      walk_at "go"
      refine ifC_b (fun _ => ?_) (fun _ => ?_)
      · exact ⟨by rw [List.length_map, sizeLine_eq]; omega, hK2 _ _ ⟨⟨u12, n12⟩, ys ++ [0], by simp, by simp [c3]⟩⟩
      · walk_at "go"
        refine x_take2 u12 (by omega) (by omega) (by omega) (by omega) fun v S13 _ _ u13 n13 => ?_
        exact ⟨by rw [List.length_map, sizeLine_eq]; omega, hK2 _ _ ⟨⟨u13, n12.trans n13⟩, ys ++ [v], by simp, by simp [c3]⟩⟩
    rintro l S12 ⟨⟨u12, n12⟩, ys, rfl, c3⟩
    walk_at "go"
    have u13 := u12.app [.lst (ys.map D.int)]
    have n13 : Same S9 (S12 ++ [.lst (ys.map D.int)]) := n12.app _
    generalize S12 ++ [Ob.lst (ys.map D.int)] = S13 at u13 n13 ⊢
    generalize hL : later (wpB _ _ _) = L
    have tail : ∀ (c : List (Int × Int)) (ext : Int), c.length ≤ 24 → (∀ p ∈ c, 0 ≤ p.1 ∧ p.1 < (many : Int) ∧ 0 ≤ p.2 ∧ p.2 < (classes : Int)) → L [some (.ref 1), some (.int 3), some (.bl wide), some (.bl alike), some (.int (many : Int)), some (.int (classes : Int)), some (.ref p6), some (.int (0 + (i : Int))), none, some (.ref p9), some (.tup (c.map Ev.prD)), some (.int ext), none, some (.tup (ys.map D.int)), none, none] S13 := by
      intro c ext z1 z2
      rw [← hL]
      walk_at "go"
      refine ⟨⟨_, n13.get e9 t7⟩, ?_⟩
      refine x_law_week u13 fun w S14 hw u14 n14 => ?_
      have e14 := n14.get (n13.get e9 t7) t7
      walk_at "go"
      refine ⟨_, e14, by rw [List.length_map, sizeLine_eq]; omega, ?_⟩
      walk_at "go"
      refine hK _ _ ⟨u14.set le7 t7 _, by rw [get_set_ne (fun z => ne z.symm)]; exact n14.get (n13.get f9 q1) q1, H ++ [⟨w, c, ext, ys⟩], _, _, _, _, rfl, by rw [get_set_self (lt_of_get e14)]; simp [hsD], by simp [k1], fun h hh => ?_⟩
      rcases List.mem_append.mp hh with z | z
      · exact k2 h z
      · rw [List.mem_singleton.mp z]
        exact ⟨hw, z1, z2⟩
    have first := tail cs ext (by omega) fun p hp => q4 p (c2 p hp)
    refine ifC_b (fun _ => ?_) (fun _ => first)
    refine ifK_d (fun q => ?_) (fun q => ?_)
    · have h0 : 0 < H.length := by omega
      have e0 : H[0]? = some H[0] := List.getElem?_eq_getElem h0
      obtain ⟨_, z1, z2⟩ := k2 _ (List.getElem_mem h0)
      generalize H[0] = h0 at *
      have ei : ixAt (H.map hsD) 0 = some (hsD h0) := ixAt_nat (by omega) (by rw [show (0 : Int).toNat = 0 from rfl, List.getElem?_map, e0]; rfl)
      walk_at "go"
      refine ⟨_, n13.get e9 t7, _, ei, ?_⟩
      walk_at "go"
      refine ⟨_, n13.get e9 t7, _, ei, ?_⟩
      walk_at "go"
      exact tail _ _ z1 z2
    · walk_at "go"
      exact first
  rintro r S9 ⟨u9, f9, H, y7, y10, y11, y13, rfl, e9, k1, k2⟩
  rw [rngL_length, Int.toNat_natCast] at k1
  walk_at "go"
  refine ⟨by omega, by omega, lc_by (fun j S' l => (Up S S' ∧ Same S9 S') ∧ l.length ≤ j) ⟨⟨u9, .refl⟩, Nat.le_refl _⟩ (fun _ _ _ _ => trivial) ?_ ?_⟩
  · rintro j y S' l K2 hy ⟨⟨u10, n10⟩, c1⟩ hK2
    obtain ⟨hj, rfl⟩ := rngL_at hy
    walk_at "go"
    refine ⟨by omega, by omega, lc_by (fun j S' l => (Up S S' ∧ Same S9 S') ∧ l.length ≤ j) ⟨⟨u10, n10⟩, Nat.le_refl _⟩ (fun _ _ _ _ => trivial) ?_ ?_⟩
    · rintro j y S' l K3 hy ⟨⟨u11, n11⟩, c3⟩ hK3
      obtain ⟨hj, rfl⟩ := rngL_at hy
      walk_at "go"
      refine x_take2 u11 (by omega) (by omega) (by omega) (by omega) fun v S12 _ _ u12 n12 => ?_
      walk_at "go"
      exact ⟨by rw [sizeLine_eq]; omega, hK3 _ _ ⟨⟨u12, n11.trans n12⟩, by simp; omega⟩⟩
    · rintro l2 S11 ⟨⟨u11, n11⟩, c3⟩
      walk_at "go"
      exact ⟨by rw [sizeLine_eq]; omega, hK2 _ _ ⟨⟨u11.app _, n11.app _⟩, by simp; omega⟩⟩
  rintro ls S10 ⟨⟨u10, n10⟩, _⟩
  walk_at "go"
  refine ⟨_, (n10.app _).get e9 t7, ?_⟩
  refine x_take2 (u10.app _) (by omega) (by omega) (by omega) (by omega) fun v4 S11 a5 a6 u11 n11 => ?_
  walk_at "go"
  refine x_take2 u11 (by omega) (by omega) (by omega) (by omega) fun v5 S12 a7 a8 u12 n12 => ?_
  walk_at "go"
  exact ret_same (h H classes (1 + v4) v5 ls S12 ⟨by omega, by omega, fun h hh => (k2 h hh).1, by omega, by omega, by omega, by omega, by omega, by omega, fun h hh => ⟨(k2 h hh).2.1, fun p hp => by have := (k2 h hh).2.2 p hp; rw [k1]; exact this⟩⟩ u12)
end
section
variable {n : Nat} {S S1 : Store} {Q : DK} {Ex : EK}
theorem prs_V {ps : List (Int × Int)} : ∀ x ∈ ps.map Ev.prD, V 2 3 x := fun x hx => by
  obtain ⟨p, _, rfl⟩ := List.mem_map.mp hx
  refine .tupI (Nat.le_refl 2) fun y hy => ?_
  simp only [List.mem_cons, List.not_mem_nil, or_false] at hy
  rcases hy with rfl | rfl <;> exact .int
theorem prs_ne {ps : List (Int × Int)} {p q : Nat} (hl : ps.length ≤ 1000000) (hp : S[p]? = some (.lst (ps.map Ev.prD))) (hq : S[q]? = some (.lst [])) (h : Q (.bl (!ps.isEmpty)) S) : wpCmp .ne (.ref p) (.ref q) S Q := by
  refine ne_nil (N := max 2 ps.length) (m := 3) (l := ps.map Ev.prD) (by rw [List.length_map]; omega) (fun x hx => (prs_V x hx).mono (by omega) (by omega)) (by omega) hp hq ?_
  rw [show (ps.map Ev.prD).isEmpty = ps.isEmpty by cases ps <;> rfl]
  exact h
theorem prs_eq {ps : List (Int × Int)} {p q : Nat} (hl : ps.length ≤ 1000000) (hp : S[p]? = some (.lst (ps.map Ev.prD))) (hq : S[q]? = some (.lst [])) (h : Q (.bl ps.isEmpty) S) : wpCmp .eq (.ref p) (.ref q) S Q := by
  refine eq_nil (N := max 2 ps.length) (m := 3) (l := ps.map Ev.prD) (by rw [List.length_map]; omega) (fun x hx => (prs_V x hx).mono (by omega) (by omega)) (by omega) hp hq ?_
  rw [show (ps.map Ev.prD).isEmpty = ps.isEmpty by cases ps <;> rfl]
  exact h
structure LbOk (H : List Hs) (classes wd gr works : Int) (cs ps : List (Int × Int)) : Prop where
  bk : BkOk H classes wd gr
  w1 : 1 ≤ works
  w2 : works ≤ 2
  n1 : 1 ≤ cs.length
  n4 : cs.length ≤ 4
  ch : ∀ p ∈ cs, 0 ≤ p.1 ∧ p.1 < works ∧ 0 ≤ p.2 ∧ p.2 < (H.length : Int)
  p1 : 1 ≤ ps.length
  p4 : ps.length ≤ 4
  ph : ∀ p ∈ ps, 0 ≤ p.1 ∧ p.1 < (H.length : Int)
abbrev bkD (H : List Hs) (classes wd gr : Int) (ls : List D) : D := .tup [.tup (H.map hsD), .int classes, .tup ls, .int wd, .int gr]
abbrev lbD (H : List Hs) (classes wd gr works : Int) (ls : List D) (cs ps : List (Int × Int)) : D := .tup [bkD H classes wd gr ls, .int works, .tup (cs.map Ev.prD), .tup (ps.map Ev.prD)]
theorem x_law_library (a : Up S S1) (h : ∀ (H : List Hs) (classes wd gr works : Int) (ls : List D) (cs ps : List (Int × Int)) S', LbOk H classes wd gr works cs ps → Up S S' → Q (lbD H classes wd gr works ls cs ps) S') : run T (n + 5) 29 [.ref 1, .int 3, .int 4, .int 4] S1 Q Ex := by
  refine ⟨d_law_library, rfl, ?_⟩
  unfold d_law_library b_law_library
  have s1 := a.tp.lt
  walk_at "go"
  refine x_law_book a fun H classes wd gr ls S2 bk u2 => ?_
  have b1 := bk.h1; have b6 := bk.h6; have bc1 := bk.c1; have bc4 := bk.c4
  walk_at "go"
  refine x_takeS u2 (by omega) (by omega) fun v1 S3 a1 a2 u3 m3 => ?_
  walk_at "go"
  refine x_takeS u3 (by omega) (by omega) fun v2 S4 a3 a4 u4 m4 => ?_
  walk_at "go"
  rw [List.length_map]
  refine ⟨by omega, by omega, lc_by (fun i S' l => (Up S S' ∧ Same S4 S') ∧ ∃ cs : List (Int × Int), l = cs.map Ev.prD ∧ cs.length = i ∧ ∀ p ∈ cs, 0 ≤ p.1 ∧ p.1 < 1 + v1 ∧ 0 ≤ p.2 ∧ p.2 < (H.length : Int)) ⟨⟨u4, .refl⟩, [], rfl, rfl, by simp⟩ (fun _ _ _ _ => trivial) ?_ ?_⟩
  · rintro i x S' l K hx ⟨⟨u5, n5⟩, cs, rfl, k1, k2⟩ hK
    obtain ⟨hi, rfl⟩ := rngL_at hx
    walk_at "go"
    refine x_takeS u5 (by omega) (by omega) fun w1 S6 c1 c2 u6 m6 => ?_
    refine x_takeS u6 (by omega) (by omega) fun w2 S7 c3 c4 u7 m7 => ?_
    refine ⟨by rw [List.length_map, sizeLine_eq]; omega, hK _ _ ⟨⟨u7, n5.trans (m6.trans m7)⟩, cs ++ [(w1, w2)], by simp [Ev.prD], by simp [k1], fun p hp => ?_⟩⟩
    rcases List.mem_append.mp hp with z | z
    · exact k2 p z
    · rw [List.mem_singleton.mp z]
      exact ⟨c1, c2, c3, c4⟩
  rintro l S5 ⟨⟨u5, n5⟩, cs, rfl, k1, k2⟩
  rw [rngL_length] at k1
  walk_at "go"
  have t5 := u5.tp.lt
  have u7 := u5.app [.lst (cs.map Ev.prD), .lst []]
  have e7 : (S5 ++ [Ob.lst (cs.map Ev.prD), .lst []])[S5.length + 1]? = some (.lst (([] : List (Int × Int)).map Ev.prD)) := by rw [st_get]; rfl
  have t6 : 1 < S5.length + 1 := by omega
  generalize S5 ++ [Ob.lst (cs.map Ev.prD), .lst []] = S7 at u7 e7 ⊢
  generalize S5.length + 1 = p9 at t6 e7 ⊢
  refine for_by (fun i r S' => Up S S' ∧ ∃ (p9 : Nat) (ps : List (Int × Int)) (y8 y10 : Option D), r = [some (.ref 1), some (.int 3), some (.int 4), some (.int 4), some (bkD H classes wd gr ls), some (.int (1 + v1)), some (.int (H.length : Int)), some (.tup (cs.map Ev.prD)), y8, some (.ref p9), y10, none, none] ∧ 1 < p9 ∧ S'[p9]? = some (.lst (ps.map Ev.prD)) ∧ ps.length ≤ 24 * i ∧ ∀ p ∈ ps, 0 ≤ p.1 ∧ p.1 < (H.length : Int)) ⟨u7, p9, [], _, _, rfl, t6, e7, by simp, by simp⟩ (fun _ _ _ _ => trivial) ?_ ?_
  · rintro i x r S8 K hx ⟨u8, p9, ps, y8, y10, rfl, q1, q2, q3, q4⟩ hK
    have hx : (H.map hsD)[i]? = some x := hx
    rw [List.getElem?_map] at hx
    obtain ⟨hh, hhh, rfl⟩ := Option.map_eq_some_iff.mp hx
    have hi := (List.getElem?_eq_some_iff.mp hhh).1
    obtain ⟨cl, cp⟩ := bk.ci _ (List.mem_of_getElem? hhh)
    have t8 := u8.tp.lt
    walk_at "go"
    refine ⟨_, _, (get_app (lt_of_get q2)).trans q2, rfl, by rw [List.length_map, List.length_map, sizeLine_eq]; omega, ?_⟩
    walk_at "go"
    rw [← List.map_append]
    refine hK _ _ ⟨u8.app _, _, ps ++ hh.c, _, _, rfl, by omega, by rw [st_get]; rfl, by rw [List.length_append]; omega, fun p hp => ?_⟩
    rcases List.mem_append.mp hp with z | z
    · exact q4 p z
    · exact ⟨(cp p z).1, (cp p z).2.1⟩
  rintro r S8 ⟨u8, p9, ps, y8, y10, rfl, q1, q2, q3, q4⟩
  have q3 : ps.length ≤ 24 * (H.map hsD).length := q3
  rw [List.length_map] at q3
  have t8 := u8.tp.lt
  have le8 : S.length ≤ S8.length := u8.le
  walk_at "go"
  have u9 := u8.app [.lst []]
  have e9 : (S8 ++ [Ob.lst []])[S8.length]? = some (.lst (([] : List (Int × Int)).map Ev.prD)) := by rw [st_get0]; rfl
  have f9 : (S8 ++ [Ob.lst []])[p9]? = some (.lst (ps.map Ev.prD)) := (get_app (lt_of_get q2)).trans q2
  have ne : p9 ≠ S8.length := by have := lt_of_get q2; omega
  generalize S8 ++ [Ob.lst []] = S9 at u9 e9 f9 ⊢
  generalize S8.length = p11 at t8 le8 e9 ne ⊢
  refine x_takeS u9 (by omega) (by omega) fun v3 S10 a5 a6 u10 m10 => ?_
  walk_at "go"
  refine ⟨by omega, by omega, for_by (fun i r S' => (Up S S' ∧ S'[p9]? = some (.lst (ps.map Ev.prD))) ∧ ∃ (qs : List (Int × Int)) (y8 y12 : Option D), r = [some (.ref 1), some (.int 3), some (.int 4), some (.int 4), some (bkD H classes wd gr ls), some (.int (1 + v1)), some (.int (H.length : Int)), some (.tup (cs.map Ev.prD)), y8, some (.ref p9), y10, some (.ref p11), y12] ∧ S'[p11]? = some (.lst (qs.map Ev.prD)) ∧ qs.length = i ∧ ∀ p ∈ qs, 0 ≤ p.1 ∧ p.1 < (H.length : Int)) ⟨⟨u10, m10.get f9 q1⟩, [], _, _, rfl, m10.get e9 t8, rfl, by simp⟩ (fun _ _ _ _ => trivial) ?_ ?_⟩
  · rintro i x r S11 K hx ⟨⟨u11, f11⟩, qs, y8, y12, rfl, e11, k3, k4⟩ hK
    obtain ⟨hi, rfl⟩ := rngL_at hx
    have t11 := u11.tp.lt
    have app : ∀ (p : Int × Int) S', Up S S' → Same S11 S' → 0 ≤ p.1 → p.1 < (H.length : Int) → ∀ y12, K [some (.ref 1), some (.int 3), some (.int 4), some (.int 4), some (bkD H classes wd gr ls), some (.int (1 + v1)), some (.int (H.length : Int)), some (.tup (cs.map Ev.prD)), some (.int (0 + (i : Int))), some (.ref p9), y10, some (.ref p11), y12] (S'.set p11 (.lst (qs.map Ev.prD ++ [Ev.prD p]))) := by
      intro p S' u' m' h1 h2 y12
      have e := m'.get e11 t8
      refine hK _ _ ⟨⟨u'.set le8 t8 _, by rw [get_set_ne (fun z => ne z.symm)]; exact m'.get f11 q1⟩, qs ++ [p], _, _, rfl, by rw [get_set_self (lt_of_get e)]; simp, by simp [k3], fun x hx => ?_⟩
      rcases List.mem_append.mp hx with z | z
      · exact k4 x z
      · rw [List.mem_singleton.mp z]; exact ⟨h1, h2⟩
    have f12 : (S11 ++ [Ob.lst []])[p9]? = some (.lst (ps.map Ev.prD)) := (get_app (lt_of_get f11)).trans f11
    walk_at "go"
    refine prs_ne (by omega) f12 (by rw [st_get0]; rfl) ?_
    refine ⟨_, rfl, ?_⟩
    generalize hL : later (wpB _ _ _) = L
    have tail : ∀ (b : Bool) (S' : Store), (b = true → ps ≠ []) → Up S S' → Same S11 S' → L [some (.ref 1), some (.int 3), some (.int 4), some (.int 4), some (bkD H classes wd gr ls), some (.int (1 + v1)), some (.int (H.length : Int)), some (.tup (cs.map Ev.prD)), some (.int (0 + (i : Int))), some (.ref p9), y10, some (.ref p11), some (.bl b)] S' := by
      intro b S' hb u' m'
      rw [← hL]
      walk_at "go"
      refine ⟨⟨_, m'.get e11 t8⟩, ?_⟩
      refine ifC_b (fun q => ?_) (fun q => ?_)
      · walk_at "go"
        have hps := List.length_pos_iff.mpr (hb q)
        refine x_one u' (m'.get f11 q1) q1 (by rw [List.length_map]; exact hps) (by rw [List.length_map]; omega) fun v S12 hv u12 m12 => ?_
        obtain ⟨p, hp, rfl⟩ := List.mem_map.mp hv
        have := q4 p hp
        walk_at "go"
        refine ⟨_, (m'.trans m12).get e11 t8, by rw [List.length_map, sizeLine_eq]; omega, ?_⟩
        walk_at "go"
        exact app p S12 u12 (m'.trans m12) this.1 this.2 _
      · walk_at "go"
        refine x_takeS u' (by omega) (by omega) fun w1 S12 c1 c2 u12 m12 => ?_
        walk_at "go"
        refine x_takeS u12 (by omega) (by omega) fun w2 S13 c3 c4 u13 m13 => ?_
        refine ⟨_, (m'.trans (m12.trans m13)).get e11 t8, by rw [List.length_map, sizeLine_eq]; omega, ?_⟩
        walk_at "go"
        exact app (w1, w2) S13 u13 (m'.trans (m12.trans m13)) c1 c2 _
    refine ifC_b (fun q => ?_) (fun q => ?_)
    · walk_at "go"
      refine x_takeS (u11.app _) (by omega) (by omega) fun v S12 c1 c2 u12 m12 => ?_
      walk_at "go"
      refine tail _ _ (fun _ e => ?_) u12 ((Same.refl.app _).trans m12)
      rw [e] at q
      cases q
    · walk_at "go"
      exact tail false _ (fun z => by cases z) (u11.app _) (Same.refl.app _)
  rintro r S11 ⟨⟨u11, f11⟩, qs, y8, y12, rfl, e11, k3, k4⟩
  rw [rngL_length] at k3
  walk_at "go"
  refine ⟨_, e11, ?_⟩
  exact ret_same (h H classes wd gr (1 + v1) ls cs qs _ ⟨bk, by omega, by omega, by omega, by omega, k2, by omega, by omega, k4⟩ u11)
end
section
variable {n : Nat} {S S1 : Store} {Q : DK} {Ex : EK}
theorem prs_at {ps : List (Int × Int)} {i : Int} (h0 : 0 ≤ i) (h1 : i < ps.length) : ∃ p, p ∈ ps ∧ ixAt (ps.map Ev.prD) i = some (Ev.prD p) := by
  have hi : i.toNat < ps.length := by omega
  exact ⟨ps[i.toNat], List.getElem_mem hi, ixAt_nat h0 (by rw [List.getElem?_map, List.getElem?_eq_getElem hi]; rfl)⟩
abbrev kinds : List Str := ["free", "free", "in", "way", "ready", "lent", "lent", "lost"]
theorem x_law_place {H : List Hs} {classes wd gr works day num : Int} {ls : List D} {cs ps : List (Int × Int)} {copy : Nat} (a : Up S S1) (lb : LbOk H classes wd gr works cs ps) (hc : copy < cs.length) (hd : 0 ≤ day) (hd1 : day ≤ 100000)
    (h : ∀ d S', Place (H.map hsD) gr ps.length day d → Up S S' → Same S1 S' → Q d S') : run T (n + 5) 30 [.ref 1, lbD H classes wd gr works ls cs ps, .int (copy : Int), .int day, .int num] S1 Q Ex := by
  refine ⟨d_law_place, rfl, ?_⟩
  unfold d_law_place b_law_place
  have s1 := a.tp.lt
  have bk := lb.bk
  have b1 := bk.h1; have b6 := bk.h6; have bc1 := bk.c1; have bc4 := bk.c4; have bg0 := bk.g0; have bg1 := bk.g1; have bw1 := bk.w1; have bw2 := bk.w2; have p4 := lb.p4
  obtain ⟨cp, hcp, ecp⟩ := prs_at (ps := cs) (i := (copy : Int)) (by omega) (by omega)
  obtain ⟨_, _, c3, c4⟩ := lb.ch _ hcp
  have ehm := HAt_map (H := H) (i := cp.2) c3 c4
  have ecp : ixAt (cs.map Ev.prD) (copy : Int) = some (.tup [.int cp.1, .int cp.2]) := ecp
  walk_at "go"
  refine ⟨_, ecp, ?_⟩
  walk_at "go"
  refine x_one (l := kinds.map D.str) (a.app _) (by rw [st_get0]; rfl) s1 (by decide) (by decide) fun v S2 hv u2 m2 => ?_
  obtain ⟨z, hz, rfl⟩ := List.mem_map.mp hv
  have m2 := (Same.refl.app _).trans m2
  have zok : PyData.strOk z = true := (show ∀ z ∈ kinds, PyData.strOk z = true by decide +kernel) z hz
  walk_at "go"
  rw [List.length_map]
  refine ⟨by omega, by omega, lc_by (fun i S' l => S2 = S' ∧ ∃ ks : List Int, l = ks.map D.int ∧ ks.length ≤ i ∧ ∀ k ∈ ks, 0 ≤ k ∧ k < (ps.length : Int)) ⟨rfl, [], rfl, Nat.le_refl _, by simp⟩ (fun _ _ _ _ => trivial) ?_ ?_⟩
  · rintro i x S' l K hx ⟨rfl, ks, rfl, k1, k2⟩ hK
    obtain ⟨hi, rfl⟩ := rngL_at hx
    have hi : i < ps.length := by omega
    obtain ⟨q, _, eq⟩ := prs_at (ps := ps) (i := 0 + (i : Int)) (by omega) (by omega)
    walk_at "go"
    refine ⟨_, eq, _, ixAt_nat c3 ehm, ?_⟩
    walk_at "go"
    refine cmp_in_prs ⟨_, rfl, ifC_d (fun _ => ?_) (fun _ => ?_)⟩
    · refine ⟨by rw [List.length_map, sizeLine_eq]; omega, hK _ _ ⟨rfl, ks ++ [0 + (i : Int)], by simp, by simp; omega, fun k hk => ?_⟩⟩
      rcases List.mem_append.mp hk with w | w
      · exact k2 k w
      · rw [List.mem_singleton.mp w]; omega
    · exact hK _ _ ⟨rfl, ks, rfl, by omega, k2⟩
  rintro l S' ⟨rfl, ks, rfl, k1, k2⟩
  rw [rngL_length, Int.toNat_natCast] at k1
  have t2 := u2.tp.lt
  walk_at "go"
  have u3 := u2.app [.lst (ks.map D.int)]
  have m3 := m2.app [.lst (ks.map D.int)]
  have e3 : (S2 ++ [Ob.lst (ks.map D.int)])[S2.length]? = some (.lst (ks.map D.int)) := by rw [st_get0]; rfl
  generalize S2 ++ [Ob.lst (ks.map D.int)] = S3 at u3 m3 e3 ⊢
  generalize S2.length = pk at t2 e3 ⊢
  refine ⟨zok, by decide +kernel, ifK_d (fun q => ?_) (fun q => ?_)⟩
  · walk_at "go"
    refine x_takeS u3 (by omega) (by omega) fun v S4 _ _ u4 m4 => ?_
    subst q
    walk_at "go"
    exact ret_same (h _ _ (.inr (.inr (.inl ⟨_, rfl⟩))) u4 (m3.trans m4))
  walk_at "go"
  generalize hL : later (wpB _ _ _) = L
  have tail : ∀ S4, Up S S4 → Same S1 S4 → S4[pk]? = some (.lst (ks.map D.int)) → L [some (.ref 1), some (lbD H classes wd gr works ls cs ps), some (.int (copy : Int)), some (.int day), some (.int num), some (bkD H classes wd gr ls), some (.int cp.2), some (.str z), some (.ref pk), none, none, none, none] S4 := by
    intro S4 u4 m4 e4
    rw [← hL]
    have e5 : (S4 ++ [Ob.lst []])[pk]? = some (.lst (ks.map D.int)) := (get_app (lt_of_get e4)).trans e4
    walk_at "go"
    refine eq_nil (N := ks.length) (m := 1) (l := ks.map D.int) (by rw [List.length_map]; omega) (fun x hx => by
      obtain ⟨i, _, rfl⟩ := List.mem_map.mp hx
      exact .int) (by omega) e5 (by rw [st_get0]; rfl) ?_
    rw [show (ks.map D.int).isEmpty = ks.isEmpty by cases ks <;> rfl]
    have u5 := u4.app [.lst []]
    have m5 := m4.app [.lst []]
    generalize S4 ++ [Ob.lst []] = S5 at u5 m5 e5 ⊢
    have free : ∀ N, N = N → Ret S1 (.tup [.str "free"]) S5 Q := fun N (_ : (N : Nat) = N) => ret_same (h _ _ (.inl rfl) u5 m5)
    refine ⟨_, rfl, ifC_b (fun q0 => ?_) (fun q0 => ?_)⟩
    · walk_at "go"
      exact free 0 rfl
    have kpos : 0 < ks.length := List.length_pos_iff.mpr fun e => by rw [e] at q0; cases q0
    refine ⟨zok, by decide +kernel, ifC_d (fun q1 => ?_) (fun q1 => ?_)⟩
    · walk_at "go"
      exact free 0 rfl
    refine ⟨zok, by decide +kernel, ifK_d (fun q2 => ?_) (fun q2 => ?_)⟩
    · walk_at "go"
      exact free 0 rfl
    walk_at "go"
    refine x_one u5 e5 t2 (by rw [List.length_map]; exact kpos) (by rw [List.length_map]; omega) fun v S6 hv u6 m6 => ?_
    obtain ⟨rd, hrd, rfl⟩ := List.mem_map.mp hv
    obtain ⟨r1, r2⟩ := k2 rd hrd
    have m6 := m5.trans m6
    obtain ⟨rn, hrn⟩ : ∃ rn : Nat, rd = (rn : Int) := ⟨rd.toNat, by omega⟩
    subst hrn
    obtain ⟨pr, hpr, epr⟩ := prs_at (ps := ps) (i := (rn : Int)) r1 r2
    obtain ⟨pr1, pr2⟩ := lb.ph _ hpr
    have epr : ixAt (ps.map Ev.prD) (rn : Int) = some (.tup [.int pr.1, .int pr.2]) := epr
    have ehh := HAt_map (H := H) (i := pr.1) pr1 pr2
    have wk := bk.wk _ (HAt_mem (H := H) (i := pr.1) pr1 pr2)
    walk_at "go"
    refine ⟨_, epr, ?_⟩
    walk_at "go"
    refine ⟨_, ixAt_nat pr1 ehh, ?_⟩
    walk_at "go"
    refine ⟨zok, by decide +kernel, ifK_d (fun q3 => ?_) (fun q3 => ?_)⟩
    · walk_at "go"
      refine x_takeS u6 (by omega) (by omega) fun v S7 _ _ u7 m7 => ?_
      walk_at "go"
      refine x_lnext wk (nxF_nx wk _) ?_
      walk_at "go"
      exact ret_same (h _ _ (.inr (.inr (.inr (.inl ⟨z, _, _, rn, .inl q3, rfl, by omega⟩)))) u7 (m6.trans m7))
    walk_at "go"
    refine ⟨zok, by decide +kernel, ifK_d (fun q4 => ?_) (fun q4 => ?_)⟩
    · walk_at "go"
      refine x_takeS u6 (by omega) (by omega) fun v S7 _ _ u7 m7 => ?_
      walk_at "go"
      refine x_lnth wk (by omega) (by omega) fun e => ?_
      walk_at "go"
      exact ret_same (h _ _ (.inr (.inr (.inr (.inl ⟨z, _, _, rn, .inr q4, rfl, by omega⟩)))) u7 (m6.trans m7))
    have zl : z = "lent" := by
      simp only [List.mem_cons, List.not_mem_nil, or_false] at hz
      rcases hz with w | w | w | w | w | w | w | w
      · exact absurd w q1
      · exact absurd w q1
      · exact absurd w q
      · exact absurd w q3
      · exact absurd w q4
      · exact w
      · exact w
      · exact absurd w q2
    subst zl
    walk_at "go"
    refine x_takeS u6 (by omega) (by omega) fun v S7 v0 v1 u7 m7 => ?_
    have m7 := m6.trans m7
    walk_at "go"
    obtain ⟨due, hdue, du0, du1⟩ : ∃ due : Int, (if day - gr - 6 + v > 0 then day - gr - 6 + v else 0) = due ∧ 0 ≤ due ∧ due ≤ day + 14 := ⟨_, rfl, by split <;> omega, by split <;> omega⟩
    rw [hdue]
    generalize hM : later (wpB _ _ _) = M
    have fin : ∀ (d : Int) (y9 : Option D) S8, 0 ≤ d → d ≤ day + 50 → Up S S8 → Same S1 S8 → M [some (.ref 1), some (lbD H classes wd gr works ls cs ps), some (.int (copy : Int)), some (.int day), some (.int num), some (bkD H classes wd gr ls), some (.int cp.2), some (.str "lent"), some (.ref pk), y9, some (.int (rn : Int)), some (.tup ((HAt H pr.1).w.map D.int)), some (.int d)] S8 := by
      intro d y9 S8 z1 z2 u8 m8
      rw [← hM]
      walk_at "go"
      exact ret_same (h _ _ (.inr (.inr (.inr (.inr ⟨d, num, rn, rfl, by omega, z1, by omega⟩)))) u8 m8)
    refine for_by (fun i r S' => (Up S S' ∧ Same S1 S') ∧ ∃ (d : Int) (y9 : Option D), r = [some (.ref 1), some (lbD H classes wd gr works ls cs ps), some (.int (copy : Int)), some (.int day), some (.int num), some (bkD H classes wd gr ls), some (.int cp.2), some (.str "lent"), some (.ref pk), y9, some (.int (rn : Int)), some (.tup ((HAt H pr.1).w.map D.int)), some (.int d)] ∧ 0 ≤ d ∧ d ≤ day + 14 + i) ⟨⟨u7, m7⟩, due, _, rfl, du0, by omega⟩ (fun _ _ _ _ => trivial) ?_ ?_
    · rintro i x r S8 K hx ⟨⟨u8, m8⟩, d, y9, rfl, z1, z2⟩ hK
      obtain ⟨hi, rfl⟩ := rngL_at hx
      walk_at "go"
      refine x_law_ends bk.wk b6 fun p g l1 e1 => ?_
      have el : (endsF H gr d).length = H.length := List.length_map _
      have u9 := u8.app g
      have m9 := m8.app g
      generalize S8 ++ g = S9 at u9 m9 e1 ⊢
      walk_at "go"
      refine ⟨_, _, e1, ints_map _, by omega, fun m hm1 hm2 => ?_⟩
      walk_at "go"
      refine ifK_d (fun q5 => ?_) (fun q5 => ?_)
      · walk_at "go"
        exact fin d _ _ z1 (by omega) u9 m9
      · walk_at "go"
        exact hK _ _ ⟨⟨u9, m9⟩, d + 1, _, rfl, by omega, by omega⟩
    · rintro r S8 ⟨⟨u8, m8⟩, d, y9, rfl, z1, z2⟩
      rw [rngL_length] at z2
      exact fin d _ _ z1 (by omega) u8 m8
  refine ⟨zok, by decide +kernel, ifC_d (fun q1 => ?_) (fun q1 => ?_)⟩
  · refine x_takeS u3 (by omega) (by omega) fun v S4 _ _ u4 m4 => ?_
    walk_at "go"
    refine ifK_d (fun q2 => ?_) (fun q2 => ?_)
    · subst q1
      walk_at "go"
      exact ret_same (h _ _ (.inr (.inl rfl)) u4 (m3.trans m4))
    · walk_at "go"
      exact tail _ u4 (m3.trans m4) (m4.get e3 t2)
  · walk_at "go"
    exact tail _ u3 m3 e3
end
theorem ints_of {l : List D} (h : ∀ x ∈ l, ∃ i : Int, x = .int i) : ∃ ns : List Int, l = ns.map D.int := by
  induction l with
  | nil => exact ⟨[], rfl⟩
  | cons x l ih =>
    obtain ⟨i, rfl⟩ := h x (by simp)
    obtain ⟨ns, rfl⟩ := ih fun y hy => h y (List.mem_cons_of_mem _ hy)
    exact ⟨i :: ns, rfl⟩
section
variable {n : Nat} {S S1 : Store} {Q : DK} {Ex : EK}
abbrev pool20 : List Int := [7, 3, 1, 999999, 40, 0, 12, 8, 500, 23, 5, 77, 61, 9, 2, 30]
theorem x_law_stand {H : List Hs} {classes wd gr works day : Int} {ls : List D} {cs ps : List (Int × Int)} (a : Up S S1) (lb : LbOk H classes wd gr works cs ps) (hd : 0 ≤ day) (hd1 : day ≤ 100000)
    (h : ∀ (pls lns left : List D) (rs : List Int) S', pls.length = cs.length → (∀ p ∈ pls, Place (H.map hsD) gr ps.length day p) → (lns.length : Int) = works → (∀ x ∈ lns, Line x) → Up S S' → Q (.tup [.int day, .tup pls, .tup (rs.map D.int), .tup lns, .tup left, .int 0]) S') : run T (n + 6) 31 [.ref 1, lbD H classes wd gr works ls cs ps, .int day, .int 3] S1 Q Ex := by
  refine ⟨d_law_stand, rfl, ?_⟩
  unfold d_law_stand b_law_stand
  have s1 := a.tp.lt
  have n1 := lb.n1; have n4 := lb.n4; have p4 := lb.p4; have p1 := lb.p1; have w1 := lb.w1; have w2 := lb.w2
  walk_at "go"
  refine x_law_mixed_up (l := pool20.map D.int) (a.app _) (by rw [st_get0]; rfl) s1 (by decide) fun pp l' S2 t2 e2 hp u2 => ?_
  obtain ⟨ns, rfl⟩ := ints_of (l := l') fun x hx => by
    obtain ⟨i, _, e⟩ := List.mem_map.mp (hp.mem_iff.mp hx)
    exact ⟨i, e.symm⟩
  have nl : ns.length = 16 := by
    have := hp.length_eq
    rw [List.length_map] at this
    exact this
  clear hp
  walk_at "go"
  rw [List.length_map]
  refine ⟨by omega, by omega, lc_by (fun i S' l => (Up S S' ∧ Same S2 S') ∧ l.length = i ∧ ∀ p ∈ l, Place (H.map hsD) gr ps.length day p) ⟨⟨u2, .refl⟩, rfl, by simp⟩ (fun _ _ _ _ => trivial) ?_ ?_⟩
  · rintro i x S3 l K hx ⟨⟨u3, m3⟩, k1, k2⟩ hK
    obtain ⟨hi, rfl⟩ := rngL_at hx
    walk_at "go"
    refine ⟨_, m3.get e2 t2, _, ixAt_ints (by omega) (by omega), ?_⟩
    rw [Int.zero_add]
    refine x_law_place u3 lb (by omega) hd hd1 fun d S4 hpl u4 m4 => ?_
    refine ⟨by rw [sizeLine_eq]; omega, hK _ _ ⟨⟨u4, m3.trans m4⟩, by simp [k1], fun p hp => ?_⟩⟩
    rcases List.mem_append.mp hp with z | z
    · exact k2 p z
    · rw [List.mem_singleton.mp z]; exact hpl
  rintro pls S3 ⟨⟨u3, m3⟩, k1, k2⟩
  rw [rngL_length, Int.toNat_natCast] at k1
  walk_at "go"
  have u4 := u3.app [.lst pls]
  have m4 := m3.app [.lst pls]
  generalize S3 ++ [Ob.lst pls] = S4 at u4 m4 ⊢
  refine lc_by (fun i S' l => (Up S S' ∧ Same S2 S') ∧ ∃ rs : List Int, l = rs.map D.int ∧ rs.length ≤ i) ⟨⟨u4, m4⟩, [], rfl, Nat.le_refl _⟩ (fun _ _ _ _ => trivial) ?_ ?_
  · rintro i x S5 l K hx ⟨⟨u5, m5⟩, rs, rfl, k3⟩ hK
    have hx : pls[i]? = some x := hx
    have hi := (List.getElem?_eq_some_iff.mp hx).1
    obtain ⟨⟨l', el, -⟩, hz, -⟩ := six (k2 _ (List.mem_of_getElem? hx))
    generalize wrd x = z at *
    walk_at "go"
    rw [el]
    walk_at "go"
    have zero : ∀ S', Up S S' → Same S2 S' → (rs.map D.int).length < sizeLine ∧ K (rs.map D.int ++ [.int 0]) S' := fun S' u m => ⟨by rw [List.length_map, sizeLine_eq]; omega, hK _ _ ⟨⟨u, m⟩, rs ++ [0], by simp, by simp; omega⟩⟩
    refine notin_wordsL (ws := ["free", "lost"]) (by rw [st_get0]; rfl) hz (by decide +kernel) ⟨_, rfl, ?_⟩
    refine ifC_n (fun q => ?_) (fun q => ?_)
    · walk_at "go"
      refine x_takeS (u5.app _) (by omega) (by omega) fun v S6 _ _ u6 m6 => ?_
      have m6 := (m5.app _).trans m6
      walk_at "go"
      refine ifC_d (fun q1 => ?_) (fun q1 => ?_)
      · walk_at "go"
        refine x_takeS u6 (by omega) (by omega) fun v S7 _ _ u7 m7 => ?_
        walk_at "go"
        exact ⟨by rw [List.length_map, sizeLine_eq]; omega, hK _ _ ⟨⟨u7, m6.trans m7⟩, rs ++ [1 + v], by simp, by simp; omega⟩⟩
      · walk_at "go"
        exact zero _ u6 m6
    · walk_at "go"
      exact zero _ (u5.app _) (m5.app _)
  rintro l S5 ⟨⟨u5, m5⟩, rs, rfl, k3⟩
  have t5 := u5.tp.lt
  walk_at "go"
  refine ⟨_, (m5.app _).get e2 t2, ?_⟩
  walk_at "go"
  have le5 : S.length ≤ S5.length := u5.le
  have u6 := u5.app [.lst (rs.map D.int), .lst ((ns.map D.int).drop (pls.length : Int).toNat), .lst []]
  have e6 : (S5 ++ [Ob.lst (rs.map D.int), .lst ((ns.map D.int).drop (pls.length : Int).toNat), .lst []])[S5.length + 1]? = some (.lst ((ns.drop pls.length).map D.int)) := by
    rw [st_get]
    show some (Ob.lst ((ns.map D.int).drop (pls.length : Int).toNat)) = _
    rw [Int.toNat_natCast, List.map_drop]
  have f6 : (S5 ++ [Ob.lst (rs.map D.int), .lst ((ns.map D.int).drop (pls.length : Int).toNat), .lst []])[S5.length + 2]? = some (.lst []) := by rw [st_get]; rfl
  generalize S5 ++ [Ob.lst (rs.map D.int), .lst ((ns.map D.int).drop (pls.length : Int).toNat), .lst []] = S6 at u6 e6 f6 ⊢
  have t9 : 1 < S5.length + 2 := by omega
  have le9 : S.length ≤ S5.length + 2 := by omega
  have ne9 : S5.length + 1 ≠ S5.length + 2 := by omega
  have tp9 : 1 < S5.length + 1 := by omega
  have le56 : S5.length + 2 < S6.length := lt_of_get f6
  generalize S5.length + 2 = p9 at *
  refine ⟨by omega, by omega, for_by (fun i r S' => (Up S S' ∧ p9 < S'.length) ∧ ∃ (pp : Nat) (ms : List Int) (lns : List D) (y10 y11 : Option D), r = [some (.ref 1), some (lbD H classes wd gr works ls cs ps), some (.int day), some (.int 3), some (.ref pp), some (.tup pls), none, some (.tup (rs.map D.int)), none, some (.ref p9), y10, y11] ∧ 1 < pp ∧ pp ≠ p9 ∧ S'[pp]? = some (.lst (ms.map D.int)) ∧ ms.length ≤ 1000 ∧ S'[p9]? = some (.lst lns) ∧ lns.length = i ∧ ∀ x ∈ lns, Line x) ⟨⟨u6, le56⟩, _, _, [], _, _, rfl, tp9, ne9, e6, by rw [List.length_drop]; omega, f6, rfl, by simp⟩ (fun _ _ _ _ => trivial) ?_ ?_⟩
  · rintro i x r S7 K hx ⟨⟨u7, l7⟩, pp, ms, lns, y10, y11, rfl, q1, q2, q3, q4, q5, q6, q7⟩ hK
    obtain ⟨hi, rfl⟩ := rngL_at hx
    walk_at "go"
    refine x_takeS u7 (by omega) (by omega) fun v S8 v0 v1 u8 m8 => ?_
    walk_at "go"
    refine ⟨_, m8.get q3 q1, ?_⟩
    rw [ol_lst, List.length_map]
    obtain ⟨many, hmany, h0, h1, h2⟩ : ∃ many : Int, (if (ms.length : Int) < v then (ms.length : Int) else v) = many ∧ 0 ≤ many ∧ many ≤ 3 ∧ many ≤ ms.length := ⟨_, rfl, by split <;> omega, by split <;> omega, by split <;> omega⟩
    walk_at "go"
    rw [hmany]
    refine ⟨⟨_, m8.get q5 t9⟩, by omega, by omega, lc_by (fun j S' l => (Up S S' ∧ Same S8 S') ∧ l.length = j ∧ ∀ y ∈ l, Hold y) ⟨⟨u8, .refl⟩, rfl, by simp⟩ (fun _ _ _ _ => trivial) ?_ ?_⟩
    · rintro j y S9 l K2 hy ⟨⟨u9, m9⟩, k4, k5⟩ hK2
      obtain ⟨hj, rfl⟩ := rngL_at hy
      walk_at "go"
      refine ⟨_, m9.get (m8.get q3 q1) q1, _, ixAt_ints (by omega) (by omega), ?_⟩
      walk_at "go"
      refine x_takeS u9 (by rw [List.length_map]; omega) (by rw [List.length_map]; omega) fun w1 S10 _ _ u10 m10 => ?_
      refine x_takeS u10 (by omega) (by omega) fun w2 S11 _ _ u11 m11 => ?_
      refine ⟨by rw [sizeLine_eq]; omega, hK2 _ _ ⟨⟨u11, m9.trans (m10.trans m11)⟩, by simp [k4], fun y hy => ?_⟩⟩
      rcases List.mem_append.mp hy with z | z
      · exact k5 y z
      · rw [List.mem_singleton.mp z]
        exact ⟨_, _, _, _, rfl, .inl rfl⟩
    · rintro l S9 ⟨⟨u9, m9⟩, k4, k5⟩
      rw [rngL_length] at k4
      have g9 := (m9.app [.lst l]).get (m8.get q5 t9) t9
      have gp := (m9.app [.lst l]).get (m8.get q3 q1) q1
      have u10 := u9.app [.lst l]
      walk_at "go"
      generalize S9 ++ [Ob.lst l] = S10 at g9 gp u10 ⊢
      refine ⟨_, g9, by rw [sizeLine_eq]; omega, ?_⟩
      walk_at "go"
      refine ⟨_, gp, ?_⟩
      walk_at "go"
      have t10 := lt_of_get g9
      refine hK _ _ ⟨⟨(u10.set le9 t9 _).app _, by simp; omega⟩, _, ms.drop many.toNat, lns ++ [.tup l], _, _, rfl, ?_, ?_, ?_, by rw [List.length_drop]; omega, ?_, by simp [q6], fun x hx => ?_⟩
      · show 1 < (S10.set p9 _).length
        rw [List.length_set]; omega
      · show (S10.set p9 _).length ≠ p9
        rw [List.length_set]; omega
      · rw [List.map_drop]
        first
          | (rw [st_get0]; rfl)
          | skip
      · rw [get_app (by rw [List.length_set]; exact t10), get_set_self t10]
      · rcases List.mem_append.mp hx with z | z
        · exact q7 x z
        · rw [List.mem_singleton.mp z]
          exact ⟨l, rfl, by omega, k5⟩
  rintro r S7 ⟨⟨u7, l7⟩, pp, ms, lns, y10, y11, rfl, q1, q2, q3, q4, q5, q6, q7⟩
  rw [rngL_length] at q6
  walk_at "go"
  refine ⟨_, q5, by omega, by omega, lc_by (fun j S' l => (Up S S' ∧ Same S7 S') ∧ l.length ≤ j) ⟨⟨u7, .refl⟩, Nat.le_refl _⟩ (fun _ _ _ _ => trivial) ?_ ?_⟩
  · rintro j y S9 l K2 hy ⟨⟨u9, m9⟩, k4⟩ hK2
    obtain ⟨hj, rfl⟩ := rngL_at hy
    walk_at "go"
    refine x_takeS u9 (by omega) (by omega) fun w1 S10 _ _ u10 m10 => ?_
    exact ⟨by rw [sizeLine_eq]; omega, hK2 _ _ ⟨⟨u10, m9.trans m10⟩, by simp; omega⟩⟩
  · rintro l S9 ⟨⟨u9, m9⟩, k4⟩
    exact ret_same (h pls lns l rs _ k1 k2 (by omega) q7 (u9.app _))
end
section
variable {n : Nat} {S S1 : Store} {Q : DK} {Ex : EK}
theorem lit_at {l : List D} {v : Int} (h0 : 0 ≤ v) (h1 : v < l.length) : ∃ d, d ∈ l ∧ ixAt l v = some d := by
  have hv : v.toNat < l.length := by omega
  exact ⟨l[v.toNat], List.getElem_mem hv, ixAt_nat h0 (List.getElem?_eq_getElem hv)⟩
theorem x_law_coming {H : List Hs} {classes wd gr works day : Int} {ls rest : List D} {cs ps : List (Int × Int)} (a : Up S S1) (lb : LbOk H classes wd gr works cs ps)
    (h : ∀ (com : List D) S', com.length ≤ 3 → (∀ c ∈ com, Coming c) → Up S S' → Q (.tup com) S') : run T (n + 4) 32 [.ref 1, lbD H classes wd gr works ls cs ps, .tup (.int day :: rest), .int 3, .int 9] S1 Q Ex := by
  refine ⟨d_law_coming, rfl, ?_⟩
  unfold d_law_coming b_law_coming
  have s1 := a.tp.lt
  have p4 := lb.p4; have p1 := lb.p1; have w1 := lb.w1; have w2 := lb.w2
  walk_at "go"
  refine x_law_mixed_up (l := ([800, 6, 700001, 44, 31, 4] : List Int).map D.int) (a.app _) (by rw [st_get0]; rfl) s1 (by decide) fun pp l' S2 t2 e2 hp u2 => ?_
  obtain ⟨ns, rfl⟩ := ints_of (l := l') fun x hx => by
    obtain ⟨i, _, e⟩ := List.mem_map.mp (hp.mem_iff.mp hx)
    exact ⟨i, e.symm⟩
  have nl : ns.length = 6 := by
    have := hp.length_eq
    rw [List.length_map] at this
    exact this
  clear hp
  have le2 : S.length ≤ S2.length := u2.le
  have t2' := u2.tp.lt
  walk_at "go"
  have u3 := u2.app [.lst []]
  have e3 : (S2 ++ [Ob.lst []])[pp]? = some (.lst (ns.map D.int)) := (get_app (lt_of_get e2)).trans e2
  have f3 : (S2 ++ [Ob.lst []])[S2.length]? = some (.lst []) := by rw [st_get0]; rfl
  have ne : pp ≠ S2.length := by have := lt_of_get e2; omega
  generalize S2 ++ [Ob.lst []] = S3 at u3 e3 f3 ⊢
  generalize S2.length = p7 at le2 t2' f3 ne ⊢
  refine x_takeS u3 (by omega) (by omega) fun v S4 v0 v1 u4 m4 => ?_
  walk_at "go"
  refine ⟨by omega, by omega, for_by (fun i r S' => (Up S S' ∧ S'[pp]? = some (.lst (ns.map D.int))) ∧ ∃ (dd : Int) (com : List D) (y8 : Option D), r = [some (.ref 1), some (lbD H classes wd gr works ls cs ps), some (.tup (.int day :: rest)), some (.int 3), some (.int 9), some (.ref pp), some (.int dd), some (.ref p7), y8] ∧ S'[p7]? = some (.lst com) ∧ com.length = i ∧ ∀ c ∈ com, Coming c) ⟨⟨u4, m4.get e3 t2⟩, _, [], _, rfl, m4.get f3 t2', rfl, by simp⟩ (fun _ _ _ _ => trivial) ?_ ?_⟩
  · rintro i x r S5 K hx ⟨⟨u5, e5⟩, dd, com, y8, rfl, f5, k1, k2⟩ hK
    obtain ⟨hi, rfl⟩ := rngL_at hx
    walk_at "go"
    refine x_takeS u5 (by omega) (by omega) fun w1 S6 _ _ u6 m6 => ?_
    walk_at "go"
    refine x_one (l := [.int 0, .int 0, .int 1, .int 5, .int w1]) (u6.app _) (by rw [st_get0]; rfl) u6.tp.lt (by simp) (by simp) fun d S7 hd u7 m7 => ?_
    have m7 := m6.trans ((Same.refl.app _).trans m7)
    obtain ⟨d, rfl⟩ : ∃ i : Int, d = .int i := by
      simp only [List.mem_cons, List.not_mem_nil, or_false] at hd
      rcases hd with rfl | rfl | rfl | rfl | rfl <;> exact ⟨_, rfl⟩
    walk_at "go"
    refine ⟨⟨_, m7.get f5 t2'⟩, _, m7.get e5 t2, _, ixAt_ints (by omega) (by omega), ?_⟩
    walk_at "go"
    refine x_takeS u7 (by rw [List.length_map]; omega) (by rw [List.length_map]; omega) fun w3 S8 _ _ u8 m8 => ?_
    refine x_takeS u8 (by omega) (by omega) fun w4 S9 _ _ u9 m9 => ?_
    have m9 := m7.trans (m8.trans m9)
    have f9 := m9.get f5 t2'
    walk_at "go"
    refine ⟨_, f9, by rw [sizeLine_eq]; omega, ?_⟩
    walk_at "go"
    refine hK _ _ ⟨⟨u9.set le2 t2' _, by rw [get_set_ne (fun z => ne z.symm)]; exact m9.get e5 t2⟩, _, com ++ [_], _, rfl, get_set_self (lt_of_get f9), by simp [k1], fun c hc => ?_⟩
    rcases List.mem_append.mp hc with z | z
    · exact k2 c z
    · rw [List.mem_singleton.mp z]
      exact ⟨_, _, _, _, rfl⟩
  rintro r S5 ⟨⟨u5, e5⟩, dd, com, y8, rfl, f5, k1, k2⟩
  rw [rngL_length] at k1
  walk_at "go"
  refine ⟨_, f5, ?_⟩
  exact ret_same (h com _ (by omega) k2 u5)
end
/-- an entry of a course -/
structure En where
  num : Int
  p : Int
  keep : Int
  house : Int
  how : Str
def En.d (e : En) : D := .tup [.int e.num, .int e.p, .int e.keep, .int e.house, .str e.how]
structure En.Ok (wd : Int) (many : Nat) (e : En) : Prop where
  p1 : 1 ≤ e.p
  p2 : e.p ≤ wd
  k1 : 1 ≤ e.keep
  k2 : e.keep ≤ 400
  h1 : 0 ≤ e.house
  h2 : e.house < (many : Int)
  w : e.how ∈ hows
structure Bk where
  copy : Int
  at_ : Option (Int × Int)
def Bk.d (b : Bk) : D := match b.at_ with
  | none => .tup [.int b.copy, .non, .non]
  | some (h, d) => .tup [.int b.copy, .int h, .int d]
def Bk.Ok (H : List Hs) (gr day : Int) (pls : List D) (b : Bk) : Prop := ∀ q, b.at_ = some q → okPr H gr day (dueAt pls b.copy) q
def GoneP (pls : List D) (bs : List Bk) (c : Int) : Prop := 0 ≤ c ∧ c < (pls.length : Int) ∧ (wrd (pls.getD c.toNat .non) = "free" ∨ wrd (pls.getD c.toNat .non) = "in" ∨ (wrd (pls.getD c.toNat .non) = "lent" ∧ ∃ b ∈ bs, b.copy = c ∧ b.at_ = none))
theorem isW_mem {ws : List Str} {z : Str} (h : z ∈ ws) : isW ws (.str z) = true := List.any_eq_true.mpr ⟨z, h, decide_eq_true rfl⟩
theorem en_right {wd : Int} {many : Nat} {e : En} (ok : e.Ok wd many) : entB wd many e.num e.d = true := by
  show (isI e.num e.num (.int e.num) && (isI 1 wd (.int e.p) && (isI 1 400 (.int e.keep) && (isI 0 ((many : Int) - 1) (.int e.house) && isW hows (.str e.how))))) = true
  rw [isI_self, show isI 1 wd (.int e.p) = true from decide_eq_true ⟨ok.p1, ok.p2⟩, show isI 1 400 (.int e.keep) = true from decide_eq_true ⟨ok.k1, ok.k2⟩, show isI 0 ((many : Int) - 1) (.int e.house) = true from decide_eq_true ⟨ok.h1, by have := ok.h2; omega⟩, isW_mem ok.w]
  rfl
theorem bk_right {H : List Hs} {gr day : Int} {pls : List D} {b : Bk} (ok : b.Ok H gr day pls) : bkB H gr day pls b.copy b.d = true := by
  unfold Bk.d
  cases e : b.at_ with
  | none =>
    show (isI b.copy b.copy (.int b.copy) && ((D.non).isNon && (D.non).isNon || _)) = true
    rw [isI_self]
    rfl
  | some q =>
    obtain ⟨h, d⟩ := q
    obtain ⟨o1, o2, o3, o4, o5⟩ := ok _ e
    show (isI b.copy b.copy (.int b.copy) && ((D.int h).isNon && (D.int d).isNon || (isI 0 ((H.length : Int) - 1) (.int h) && (isI (day + 1) (nxF (HAt H h).w (dueAt pls b.copy + gr)) (.int d) && openB (HAt H h).w d)))) = true
    have o2 : h < (H.length : Int) := o2
    rw [isI_self, show isI 0 ((H.length : Int) - 1) (.int h) = true from decide_eq_true ⟨o1, by omega⟩, show isI (day + 1) (nxF (HAt H h).w (dueAt pls b.copy + gr)) (.int d) = true from decide_eq_true ⟨o3, o4⟩, o5]
    rfl
theorem zip_map_all {α : Type} {g : Int → D → Bool} {f : α → D} {k : α → Int} : ∀ {l : List α}, (∀ x ∈ l, g (k x) (f x) = true) → (((l.map k).zip (l.map f)).all fun q => g q.1 q.2) = true
  | [], _ => rfl
  | x :: l, h => by
    rw [List.map_cons, List.map_cons, List.zip_cons_cons, List.all_cons, h x (by simp), zip_map_all fun y hy => h y (List.mem_cons_of_mem _ hy)]
    rfl
theorem nvs_mem {bs : List Bk} {b : Bk} (hb : b ∈ bs) (hn : b.at_ = none) : b.copy ∈ nvs (.tup (bs.map Bk.d)) := by
  have e : b.d = .tup [.int b.copy, .non, .non] := by unfold Bk.d; rw [hn]
  refine List.mem_map.mpr ⟨b.d, List.mem_filter.mpr ⟨List.mem_map.mpr ⟨b, hb, rfl⟩, by rw [e]; rfl⟩, by rw [e]; rfl⟩
theorem asc_of {l : List Int} (h : l.Pairwise (· < ·)) : ascB l = true := by
  refine List.all_eq_true.mpr fun k hk => decide_eq_true ?_
  have hk := List.mem_range.mp hk
  rw [List.getD_eq_getElem?_getD, List.getD_eq_getElem?_getD, List.getElem?_eq_getElem (by omega), List.getElem?_eq_getElem (by omega)]
  exact List.pairwise_iff_getElem.mp h k (k + 1) (by omega) (by omega) (by omega)
/-- a right course is found right -/
theorem course_right {H : List Hs} {gr wd day : Int} {pls : List D} {es : List En} {bs : List Bk} {g : List Int} (he : ∀ e ∈ es, e.Ok wd H.length) (hb : ∀ b ∈ bs, b.Ok H gr day pls) (hx : bs.map (·.copy) = lentIx pls) (ha : g.Pairwise (· < ·)) (hg : ∀ c ∈ g, GoneP pls bs c) :
    fltB H gr wd day pls (es.map (·.num)) (.tup [.tup (es.map En.d), .tup (bs.map Bk.d), .tup (g.map D.int)]) = none := by
  have e1 : entsB wd H.length (es.map (·.num)) (.tup (es.map En.d)) = true := by
    unfold entsB
    rw [show isT (es.map (·.num)).length (.tup (es.map En.d)) = true from decide_eq_true (by rw [List.length_map, List.length_map]), Bool.true_and]
    exact zip_map_all fun e h => en_right (he e h)
  have e2 : bksB H gr day pls (.tup (bs.map Bk.d)) = true := by
    unfold bksB
    rw [← hx, show isT (bs.map (·.copy)).length (.tup (bs.map Bk.d)) = true from decide_eq_true (by rw [List.length_map, List.length_map]), Bool.true_and]
    exact zip_map_all fun b h => bk_right (hb b h)
  have e3 : gonB pls (nvs (.tup (bs.map Bk.d))) (.tup (g.map D.int)) = true := by
    show ((g.map D.int).all (gon1 pls _) && ascB ((g.map D.int).map numD)) = true
    rw [show (g.map D.int).map numD = g by rw [List.map_map]; exact List.map_id _, asc_of ha, Bool.and_true, List.all_eq_true]
    intro x hx
    obtain ⟨c, hc, rfl⟩ := List.mem_map.mp hx
    obtain ⟨c1, c2, c3⟩ := hg c hc
    unfold gon1
    rw [show isI 0 ((pls.length : Int) - 1) (.int c) = true from decide_eq_true ⟨c1, by omega⟩, Bool.true_and]
    refine decide_eq_true (c3.imp_right (Or.imp_right fun ⟨w, b, h1, h2, h3⟩ => ⟨w, ?_⟩))
    rw [show numD (.int c) = c from rfl, ← h2]
    exact nvs_mem h1 h3
  show (if entsB wd H.length (es.map (·.num)) (.tup (es.map En.d)) = true then if bksB H gr day pls (.tup (bs.map Bk.d)) = true then if gonB pls (nvs (.tup (bs.map Bk.d))) (.tup (g.map D.int)) = true then none else some "gone" else some "backs" else some "entries" : Option Str) = none
  rw [if_pos e1, if_pos e2, if_pos e3]
theorem Bk.d_at (b : Bk) : ∃ u v, b.d = .tup [.int b.copy, u, v] ∧ (b.at_ = none → u = .non ∧ v = .non) ∧ (∀ p, b.at_ = some p → u = .int p.1 ∧ v = .int p.2) := by
  unfold Bk.d
  cases b.at_ with
  | none => exact ⟨_, _, rfl, fun _ => ⟨rfl, rfl⟩, fun p e => by cases e⟩
  | some p => exact ⟨_, _, rfl, fun e => (by cases e), fun q e => (by cases e; exact ⟨rfl, rfl⟩)⟩
theorem ixAt_last {l : List D} {x : D} : ixAt (l ++ [x]) (-1) = some x := by
  unfold ixAt atI ixN
  simp
  rw [if_pos (by omega)]
  show (l ++ [x])[(-1 + ((l.length : Int) + 1)).toNat]? = some x
  rw [show (-1 + ((l.length : Int) + 1)).toNat = l.length by omega, List.getElem?_append_right (Nat.le_refl _), Nat.sub_self]
  rfl
section
variable {n : Nat} {S S1 : Store} {Q : DK} {Ex : EK}
theorem x_law_course {H : List Hs} {classes wd gr works day : Int} {ls : List D} {cs ps : List (Int × Int)} {rs : D} {rest pls lns com : List D} {ns : List Int} (a : Up S S1) (W : Wd H gr wd day ps.length pls lns com ns)
    (h : ∀ (es : List En) (bs : List Bk) (g : List Int) S', es.map (·.num) = ns → (∀ e ∈ es, e.Ok wd H.length) → (∀ b ∈ bs, b.Ok H gr day pls) → bs.map (·.copy) = lentIx pls → g.Pairwise (· < ·) → (∀ c ∈ g, GoneP pls bs c) → Up S S' → Q (.tup [.tup (es.map En.d), .tup (bs.map Bk.d), .tup (g.map D.int)]) S') :
    run T (n + 4) 35 [.ref 1, lbD H classes wd gr works ls cs ps, .tup (.int day :: .tup pls :: rs :: .tup lns :: rest), .tup com] S1 Q Ex := by
  refine ⟨d_law_course, rfl, ?_⟩
  unfold d_law_course b_law_course
  have s1 := a.tp.lt
  have le1 : S.length ≤ S1.length := a.le
  have w1 := W.w1; have w2 := W.w2; have h1 := W.h1; have h6 := W.h6; have nn := W.nn; have np := W.np
  have d0 := W.d0; have d1 := W.d1; have g0 := W.g0; have g1 := W.g1
  walk_at "go"
  have u2 := a.app [.lst ((["back", "back", "back", "lapse", "lost"] : List Str).map D.str), .lst []]
  have e2 : (S1 ++ [Ob.lst ((["back", "back", "back", "lapse", "lost"] : List Str).map D.str), .lst []])[S1.length]? = some (.lst ((["back", "back", "back", "lapse", "lost"] : List Str).map D.str)) := by rw [st_get0]; rfl
  have f2 : (S1 ++ [Ob.lst ((["back", "back", "back", "lapse", "lost"] : List Str).map D.str), .lst []])[S1.length + 1]? = some (.lst (([] : List En).map En.d)) := by rw [st_get]; rfl
  have tp6 : 1 < S1.length + 1 := by omega
  have le6 : S.length ≤ S1.length + 1 := by omega
  have ne56 : S1.length ≠ S1.length + 1 := by omega
  have eS : S1 ++ [Ob.lst [D.str (Str.ofString "back"), D.str (Str.ofString "back"), D.str (Str.ofString "back"), D.str (Str.ofString "lapse"), D.str (Str.ofString "lost")], Ob.lst []] = S1 ++ [Ob.lst ((["back", "back", "back", "lapse", "lost"] : List Str).map D.str), .lst []] := rfl
  rw [eS]
  clear eS
  generalize S1 ++ [Ob.lst ((["back", "back", "back", "lapse", "lost"] : List Str).map D.str), .lst []] = S2 at u2 e2 f2 ⊢
  generalize S1.length + 1 = p6 at *
  have lt5 := lt_of_get e2
  generalize hp5 : S1.length = p5 at *
  refine x_law_entered W.ln W.nl W.pl W.np W.cm W.nc fun ns' p S3 a3 l3 e3 p1 p2 => ?_
  rw [W.hns ns' p1 p2] at e3
  clear p1 p2
  obtain ⟨t, rfl⟩ := a3
  have u3 := u2.app t
  have tp : 1 < p := by have := u2.tp.lt; omega
  have m3 : Same S2 (S2 ++ t) := Same.refl.app t
  have e5 := m3.get e2 s1
  have e6 := m3.get f2 tp6
  have ne6 : p ≠ p6 := by have := lt_of_get f2; omega
  generalize S2 ++ t = S3 at u3 e3 e5 e6 ⊢
  clear e2 f2 m3
  walk_at "go"
  refine ⟨_, e3, ?_⟩
  refine for_by (fun i r S' => (Up S S' ∧ S'[p]? = some (.lst (ns.map D.int)) ∧ S'[p5]? = some (.lst ((["back", "back", "back", "lapse", "lost"] : List Str).map D.str))) ∧ ∃ (es : List En) (y7 y8 : Option D), r = [some (.ref 1), some (lbD H classes wd gr works ls cs ps), some (.tup (.int day :: .tup pls :: rs :: .tup lns :: rest)), some (.tup com), some (bkD H classes wd gr ls), some (.ref p5), some (.ref p6), y7, y8, none, none, none, none, none, none] ∧ S'[p6]? = some (.lst (es.map En.d)) ∧ es.map (·.num) = ns.take i ∧ ∀ e ∈ es, e.Ok wd H.length) ⟨⟨u3, e3, e5⟩, [], _, _, rfl, e6, by simp, by simp⟩ (fun i r S' z => by show S'[p]? = S3[p]?; rw [z.1.2.1, e3]) ?_ ?_
  · rintro i x r S4 K hx ⟨⟨u4, e4, f4⟩, es, y7, y8, rfl, g4, k1, k2⟩ hK
    have hx : (ns.map D.int)[i]? = some x := hx
    rw [List.getElem?_map] at hx
    obtain ⟨num, hnum, rfl⟩ := Option.map_eq_some_iff.mp hx
    have hi := (List.getElem?_eq_some_iff.mp hnum).1
    have ht := take_succ hnum
    have les : es.length ≤ i := by
      have := congrArg List.length k1
      rw [List.length_map, List.length_take] at this
      omega
    walk_at "go"
    refine x_takeS u4 (by omega) (by omega) fun v1 S5 z1 z2 u5 m5 => ?_
    walk_at "go"
    refine x_one (l := [.int 1, .int 5, .int 13, .int 20, .int 400, .int (1 + v1)]) (u5.app _) (by rw [st_get0]; rfl) u5.tp.lt (by simp) (by simp) fun d S6 hd u6 m6 => ?_
    have m6 := m5.trans ((Same.refl.app _).trans m6)
    obtain ⟨keep, rfl, kp1, kp2⟩ : ∃ i : Int, d = .int i ∧ 1 ≤ i ∧ i ≤ 400 := by
      simp only [List.mem_cons, List.not_mem_nil, or_false] at hd
      rcases hd with rfl | rfl | rfl | rfl | rfl | rfl <;> exact ⟨_, rfl, by omega, by omega⟩
    walk_at "go"
    refine ⟨⟨_, m6.get g4 tp6⟩, ?_⟩
    refine x_takeS u6 (by omega) (by omega) fun v2 S7 a1 a2 u7 m7 => ?_
    walk_at "go"
    refine x_takeS u7 (by rw [List.length_map]; omega) (by rw [List.length_map]; omega) fun v3 S8 a3 a4 u8 m8 => ?_
    rw [List.length_map] at a4
    have m8 := m6.trans (m7.trans m8)
    refine x_one u8 (m8.get f4 s1) s1 (by simp) (by simp) fun d S9 hd u9 m9 => ?_
    have m9 := m8.trans m9
    obtain ⟨how, hh, rfl⟩ := List.mem_map.mp hd
    have hh : how ∈ hows := (show ∀ z ∈ (["back", "back", "back", "lapse", "lost"] : List Str), z ∈ hows by decide +kernel) how hh
    have g9 := m9.get g4 tp6
    walk_at "go"
    refine ⟨_, g9, by rw [List.length_map, sizeLine_eq]; omega, ?_⟩
    walk_at "go"
    refine hK _ _ ⟨⟨u9.set le6 tp6 _, by rw [get_set_ne (fun z => ne6 z.symm)]; exact m9.get e4 tp, by rw [get_set_ne (fun z => ne56 z.symm)]; exact m9.get f4 s1⟩, es ++ [⟨num, 1 + v2, keep, v3, how⟩], _, _, rfl, by rw [get_set_self (lt_of_get g9)]; simp [En.d], by rw [List.map_append, k1, ht]; rfl, fun e he => ?_⟩
    rcases List.mem_append.mp he with z | z
    · exact k2 e z
    · rw [List.mem_singleton.mp z]
      exact ⟨by show (1 : Int) ≤ 1 + v2; omega, by show 1 + v2 ≤ wd; omega, kp1, kp2, a3, a4, hh⟩
  rintro r S4 ⟨⟨u4, e4, f4⟩, es, y7, y8, rfl, g4, k1, k2⟩
  have k1 : es.map (·.num) = ns.take (ns.map D.int).length := k1
  rw [List.length_map, List.take_length] at k1
  have t4 := u4.tp.lt
  have le4 : S.length ≤ S4.length := u4.le
  have l64 := lt_of_get g4
  walk_at "go"
  have u5 := u4.app [.lst [], .lst []]
  have e5 : (S4 ++ [Ob.lst [], .lst []])[p6]? = some (.lst (es.map En.d)) := (get_app l64).trans g4
  have f5 : (S4 ++ [Ob.lst [], .lst []])[S4.length]? = some (.lst (([] : List Bk).map Bk.d)) := by rw [st_get0]; rfl
  have g5 : (S4 ++ [Ob.lst [], .lst []])[S4.length + 1]? = some (.lst (([] : List Int).map D.int)) := by rw [st_get]; rfl
  generalize S4 ++ [Ob.lst [], .lst []] = S5 at u5 e5 f5 g5 ⊢
  have t9 : 1 < S4.length := by omega
  have t10 : 1 < S4.length + 1 := by omega
  have ne69 : p6 ≠ S4.length := by omega
  have ne60 : p6 ≠ S4.length + 1 := by omega
  have ne90 : S4.length ≠ S4.length + 1 := by omega
  have le10 : S.length ≤ S4.length + 1 := by omega
  generalize S4.length + 1 = p10 at *
  generalize S4.length = p9 at *
  clear e4 f4 g4 e3 u4 u3
  refine ⟨by omega, by omega, for_by (fun i r S' => (Up S S' ∧ S'[p6]? = some (.lst (es.map En.d))) ∧ ∃ (bs : List Bk) (g : List Int) (y11 y12 y13 y14 : Option D), r = [some (.ref 1), some (lbD H classes wd gr works ls cs ps), some (.tup (.int day :: .tup pls :: rs :: .tup lns :: rest)), some (.tup com), some (bkD H classes wd gr ls), some (.ref p5), some (.ref p6), y7, y8, some (.ref p9), some (.ref p10), y11, y12, y13, y14] ∧ S'[p9]? = some (.lst (bs.map Bk.d)) ∧ S'[p10]? = some (.lst (g.map D.int)) ∧ bs.map (·.copy) = ((List.range i).filter fun i => decide (wrd (pls.getD i .non) = "lent")).map (fun (i : Nat) => (i : Int)) ∧ (∀ b ∈ bs, b.Ok H gr day pls) ∧ g.Pairwise (· < ·) ∧ (∀ c ∈ g, c < (i : Int)) ∧ g.length ≤ i ∧ ∀ c ∈ g, GoneP pls bs c) ⟨⟨u5, e5⟩, [], [], _, _, _, _, rfl, f5, g5, rfl, by simp, by simp, by simp, Nat.le_refl _, by simp⟩ (fun _ _ _ _ => trivial) ?_ ?_⟩
  · rintro i x r S6 K hx ⟨⟨u6, e6⟩, bs, g, y11, y12, y13, y14, rfl, f6, g6, j1, j2, j3, j4, j6, j5⟩ hK
    obtain ⟨hi, rfl⟩ := rngL_at hx
    have hi : i < pls.length := by omega
    have e : pls[i]? = some pls[i] := List.getElem?_eq_getElem hi
    have pl := W.pl _ (List.getElem_mem hi)
    obtain ⟨⟨l, el, -⟩, hz, -⟩ := six pl
    have eg := getD_of e
    have lb : bs.length ≤ i := by
      have := congrArg List.length j1
      have le := List.length_filter_le (fun i => decide (wrd (pls.getD i .non) = "lent")) (List.range i)
      rw [List.length_map, List.length_map] at this
      rw [List.length_range] at le
      omega
    generalize pls[i] = x at *
    walk_at "go"
    refine ⟨_, ixAt_nat (by omega) (by rw [show (0 + (i : Int)).toNat = i by omega]; exact e), ?_⟩
    rw [el]
    walk_at "go"
    generalize hL : later (wpB _ _ _) = L
    have tail : ∀ (bs' : List Bk) (S' : Store) (y13 : Option D), Up S S' → S'[p6]? = some (.lst (es.map En.d)) → S'[p9]? = some (.lst (bs'.map Bk.d)) → S'[p10]? = some (.lst (g.map D.int)) → bs'.map (·.copy) = ((List.range (i + 1)).filter fun i => decide (wrd (pls.getD i .non) = "lent")).map (fun (i : Nat) => (i : Int)) → (∀ b ∈ bs', b.Ok H gr day pls) → (∀ c ∈ g, GoneP pls bs' c) →
        (wrd x = "lent" → ∃ b0 b, bs' = b0 ++ [b] ∧ b.copy = (i : Int)) → L [some (.ref 1), some (lbD H classes wd gr works ls cs ps), some (.tup (.int day :: .tup pls :: rs :: .tup lns :: rest)), some (.tup com), some (bkD H classes wd gr ls), some (.ref p5), some (.ref p6), y7, y8, some (.ref p9), some (.ref p10), some (.int (0 + (i : Int))), some (.tup (.str (wrd x) :: l)), y13, y14] S' := by
      intro bs' S7 y13 u7 e7 f7 g7 b1 b2 b3 b4
      rw [← hL]
      walk_at "go"
      generalize hM : later (wpB _ _ _) = M
      have skip : ∀ (y14 : Option D) S8, Up S S8 → Same S7 S8 → K [some (.ref 1), some (lbD H classes wd gr works ls cs ps), some (.tup (.int day :: .tup pls :: rs :: .tup lns :: rest)), some (.tup com), some (bkD H classes wd gr ls), some (.ref p5), some (.ref p6), y7, y8, some (.ref p9), some (.ref p10), some (.int (0 + (i : Int))), some (.tup (.str (wrd x) :: l)), y13, y14] S8 := fun y14 S8 u8 m8 =>
        hK _ _ ⟨⟨u8, m8.get e7 tp6⟩, bs', g, _, _, _, _, rfl, m8.get f7 t9, m8.get g7 t10, b1, b2, j3, fun c hc => by have := j4 c hc; omega, by omega, b3⟩
      have tail2 : ∀ (fl : Bool) S8, (fl = true → GoneP pls bs' (i : Int)) → Up S S8 → Same S7 S8 → M [some (.ref 1), some (lbD H classes wd gr works ls cs ps), some (.tup (.int day :: .tup pls :: rs :: .tup lns :: rest)), some (.tup com), some (bkD H classes wd gr ls), some (.ref p5), some (.ref p6), y7, y8, some (.ref p9), some (.ref p10), some (.int (0 + (i : Int))), some (.tup (.str (wrd x) :: l)), y13, some (.bl fl)] S8 := by
        intro fl S8 hfl u8 m8
        rw [← hM]
        walk_at "go"
        refine ifC_b (fun q => ?_) (fun q => ?_)
        · refine x_takeS u8 (by omega) (by omega) fun v S9 _ _ u9 m9 => ?_
          have m9 := m8.trans m9
          walk_at "go"
          refine ifK_d (fun q1 => ?_) (fun q1 => ?_)
          · have g9 := m9.get g7 t10
            walk_at "go"
            refine ⟨⟨_, g9⟩, _, g9, by rw [List.length_map, sizeLine_eq]; omega, ?_⟩
            walk_at "go"
            refine hK _ _ ⟨⟨u9.set le10 t10 _, by rw [get_set_ne (fun z => ne60 z.symm)]; exact m9.get e7 tp6⟩, bs', g ++ [(i : Int)], _, _, _, _, rfl, by rw [get_set_ne (fun z => ne90 z.symm)]; exact m9.get f7 t9, by rw [get_set_self (lt_of_get g9)]; simp, b1, b2, List.pairwise_append.mpr ⟨j3, by simp, fun x hx y hy => by rw [List.mem_singleton.mp hy]; exact j4 x hx⟩, fun c hc => ?_, by simp; omega, fun c hc => ?_⟩
            · rcases List.mem_append.mp hc with z | z
              · have := j4 c z; omega
              · rw [List.mem_singleton.mp z]; omega
            · rcases List.mem_append.mp hc with z | z
              · exact b3 c z
              · rw [List.mem_singleton.mp z]; exact hfl q
          · walk_at "go"
            exact skip _ _ u9 m9
        · walk_at "go"
          exact skip _ _ u8 m8
      have gp : (wrd x = "free" ∨ wrd x = "in" ∨ (wrd x = "lent" ∧ ∃ b ∈ bs', b.copy = (i : Int) ∧ b.at_ = none)) → GoneP pls bs' (i : Int) := fun w => ⟨by omega, by omega, by rw [Int.toNat_natCast, eg]; exact w⟩
      refine in_wordsL (ws := ["free", "in"]) (by rw [st_get0]; rfl) hz (by decide +kernel) ⟨_, rfl, ?_⟩
      refine ifC_d (fun q => ?_) (fun q => ?_)
      · walk_at "go"
        refine tail2 true _ (fun _ => gp ?_) (u7.app _) (Same.refl.app _)
        simp only [List.mem_cons, List.not_mem_nil, or_false] at q
        exact q.imp_right .inl
      · walk_at "go"
        refine ⟨hz, by decide +kernel, ?_⟩
        refine ifC_d (fun q1 => ?_) (fun q1 => ?_)
        · obtain ⟨b0, b, rfl, hb⟩ := b4 q1
          have f8 := (get_app (l := [Ob.lst [D.str (Str.ofString "free"), D.str (Str.ofString "in")]]) (lt_of_get f7)).trans f7
          obtain ⟨u, v, ed, n1, n2⟩ := b.d_at
          refine ⟨_, f8, _, by rw [List.map_append]; exact ixAt_last, ?_⟩
          rw [ed]
          walk_at "go"
          refine tail2 _ _ (fun z => gp (.inr (.inr ⟨q1, b, by simp, hb, ?_⟩))) (u7.app _) (Same.refl.app _)
          cases ea : b.at_ with
          | none => rfl
          | some p =>
            obtain ⟨rfl, _⟩ := n2 _ ea
            cases z
        · walk_at "go"
          exact tail2 false _ (fun z => by cases z) (u7.app _) (Same.refl.app _)
    refine ⟨hz, by decide +kernel, ifK_d (fun q => ?_) (fun q => ?_)⟩
    · have him : (i : Int) ∈ lentIx pls := by
        unfold lentIx
        exact List.mem_map.mpr ⟨i, List.mem_filter.mpr ⟨List.mem_range.mpr hi, decide_eq_true (by rw [eg]; exact q)⟩, rfl⟩
      obtain ⟨i', due, num, rr, ei, ex, lo1, lo2⟩ := lent_of W.pl him
      have : i' = i := by omega
      subst this
      have du := due_of ex
      rw [e] at ex
      have ex := Option.some.inj ex
      rw [ex] at el
      injection el with el
      injection el with el1 el2
      subst el2
      have jr : (bs.map (·.copy) ++ [(i' : Int)]) = ((List.range (i' + 1)).filter fun i => decide (wrd (pls.getD i .non) = "lent")).map (fun (i : Nat) => (i : Int)) := by
        rw [range_succ_filter, eg, if_pos (decide_eq_true q), List.map_append, j1]
        rfl
      have fin : ∀ (b : Bk) S' y13, b.copy = (i' : Int) → b.Ok H gr day pls → Up S S' → Same S6 S' → L [some (.ref 1), some (lbD H classes wd gr works ls cs ps), some (.tup (.int day :: .tup pls :: rs :: .tup lns :: rest)), some (.tup com), some (bkD H classes wd gr ls), some (.ref p5), some (.ref p6), y7, y8, some (.ref p9), some (.ref p10), some (.int (0 + (i' : Int))), some (.tup (.str (wrd x) :: [.int due, .int num, .int (rr : Int)])), y13, y14] (S'.set p9 (.lst (bs.map Bk.d ++ [b.d]))) := by
        intro b S' y13 hb ho u' m'
        have l9 := lt_of_get (m'.get f6 t9)
        refine tail (bs ++ [b]) _ _ (u'.set (by omega) t9 _) (by rw [get_set_ne (fun z => ne69 z.symm)]; exact m'.get e6 tp6) (by rw [get_set_self l9]; simp) (by rw [get_set_ne ne90]; exact m'.get g6 t10) (by rw [List.map_append, ← jr]; simp [hb]) (fun b' hb' => ?_) (fun c hc => ?_) (fun _ => ⟨bs, b, rfl, hb⟩)
        · rcases List.mem_append.mp hb' with z | z
          · exact j2 b' z
          · rw [List.mem_singleton.mp z]; exact ho
        · obtain ⟨c1, c2, c3⟩ := j5 c hc
          exact ⟨c1, c2, c3.imp_right (Or.imp_right fun ⟨w, b', z1, z2⟩ => ⟨w, b', List.mem_append_left _ z1, z2⟩)⟩
      walk_at "go"
      refine x_law_days_back W.wk W.h6 W.d0 W.d1 W.g0 W.g1 lo1 lo2 fun qs pd t ld ed lq hq => ?_
      have u7 := u6.app t
      have m7 : Same S6 (S6 ++ t) := Same.refl.app t
      have t6 := u6.tp.lt
      generalize S6 ++ t = S7 at u7 m7 ed ⊢
      have tpd : 1 < pd := by omega
      have none' : ∀ S' y13, Up S S' → Same S6 S' → L [some (.ref 1), some (lbD H classes wd gr works ls cs ps), some (.tup (.int day :: .tup pls :: rs :: .tup lns :: rest)), some (.tup com), some (bkD H classes wd gr ls), some (.ref p5), some (.ref p6), y7, y8, some (.ref p9), some (.ref p10), some (.int (0 + (i' : Int))), some (.tup (.str (wrd x) :: [.int due, .int num, .int (rr : Int)])), y13, y14] (S'.set p9 (.lst (bs.map Bk.d ++ [.tup [.int (0 + (i' : Int)), .non, .non]]))) := by
        intro S' y13 u' m'
        have := fin ⟨(i' : Int), none⟩ S' y13 rfl (fun _ e => by cases e) u' m'
        rw [Int.zero_add] at this ⊢
        exact this
      have ed8 : (S7 ++ [Ob.lst []])[pd]? = some (.lst (qs.map Ev.prD)) := (get_app (lt_of_get ed)).trans ed
      walk_at "go"
      refine ⟨⟨_, m7.get f6 t9⟩, prs_eq lq ed8 (by rw [st_get0]; rfl) ?_⟩
      have u8 := u7.app [Ob.lst []]
      have m8 := m7.app [Ob.lst []]
      generalize S7 ++ [Ob.lst []] = S8 at u8 m8 ed8 ⊢
      refine ⟨_, rfl, ifC_b (fun q1 => ?_) (fun q1 => ?_)⟩
      · refine ⟨_, m8.get f6 t9, by rw [List.length_map, sizeLine_eq]; omega, ?_⟩
        walk_at "go"
        exact none' _ _ u8 m8
      · refine x_takeS u8 (by omega) (by omega) fun v S9 _ _ u9 m9 => ?_
        have ed9 := m9.get ed8 tpd
        have m9 := m8.trans m9
        walk_at "go"
        refine ifC_d (fun q2 => ?_) (fun q2 => ?_)
        · refine ⟨_, m9.get f6 t9, by rw [List.length_map, sizeLine_eq]; omega, ?_⟩
          walk_at "go"
          exact none' _ _ u9 m9
        · walk_at "go"
          have qpos : 0 < qs.length := List.length_pos_iff.mpr fun e => by rw [e] at q1; cases q1
          refine x_one u9 ed9 tpd (by rw [List.length_map]; exact qpos) (by rw [List.length_map]; omega) fun d S10 hd u10 m10 => ?_
          obtain ⟨pr, hpr, rfl⟩ := List.mem_map.mp hd
          have m10 := m9.trans m10
          have okp := (hq pr).mp hpr
          have last := fin ⟨(i' : Int), some (pr.1, pr.2)⟩ S10 (some (.ref pd)) rfl (fun q0 e0 => by
            cases e0
            show okPr H gr day (dueAt pls (i' : Int)) _
            rw [du]
            exact okp) u10 m10
          rw [show Bk.d ⟨(i' : Int), some (pr.1, pr.2)⟩ = .tup [.int (0 + (i' : Int)), .int pr.1, .int pr.2] by rw [Int.zero_add]; rfl] at last
          refine ⟨by show 1 + 2 ≤ sizeLine; rw [sizeLine_eq]; omega, _, m10.get f6 t9, by rw [List.length_map, sizeLine_eq]; omega, ?_⟩
          walk_at "go"
          exact last
    · walk_at "go"
      refine tail bs S6 _ u6 e6 f6 g6 ?_ j2 j5 (fun z => absurd z q)
      rw [range_succ_filter, eg, if_neg (by simpa using q), List.append_nil]
      exact j1
  rintro r S6 ⟨⟨u6, e6⟩, bs, g, y11, y12, y13, y14, rfl, f6, g6, j1, j2, j3, j4, j6, j5⟩
  rw [rngL_length, Int.toNat_natCast] at j1
  walk_at "go"
  refine ⟨_, e6, _, f6, _, g6, ?_⟩
  exact ret_same (h es bs g _ k1 k2 j2 j1 j3 j5 u6)
end
def Vs (N m : Nat) (l : List D) : Prop := ∀ x ∈ l, V N m x
theorem Vs.nil {N m : Nat} : Vs N m [] := by simp [Vs]
theorem Vs.cons {N m : Nat} {x : D} {l : List D} (h : V N m x) (t : Vs N m l) : Vs N m (x :: l) := fun y hy => by
  rcases List.mem_cons.mp hy with rfl | z
  · exact h
  · exact t y z
theorem Vs.app {N m : Nat} {a b : List D} (h : Vs N m a) (t : Vs N m b) : Vs N m (a ++ b) := fun y hy => by
  rcases List.mem_append.mp hy with z | z
  · exact h y z
  · exact t y z
theorem Vs.take {N m : Nat} {l : List D} (h : Vs N m l) (i : Nat) : Vs N m (l.take i) := fun x hx => h x (List.mem_of_mem_take hx)
theorem Vs.drop {N m : Nat} {l : List D} (h : Vs N m l) (i : Nat) : Vs N m (l.drop i) := fun x hx => h x (List.mem_of_mem_drop hx)
theorem Vs.cut {N m : Nat} {l : List D} (h : Vs N m l) (lo hi : Option Int) : Vs N m (Ev.cut l lo hi) := fun x hx => h x (mem_cut hx)
theorem Vs.rev {N m : Nat} {l : List D} (h : Vs N m l) : Vs N m l.reverse := fun x hx => h x (List.mem_reverse.mp hx)
theorem Vs.mono {N M m k : Nat} {l : List D} (h : Vs N m l) (hN : N ≤ M) (hk : m ≤ k) : Vs M k l := fun x hx => (h x hx).mono hN hk
theorem V.strI {N m : Nat} {z : Str} (h : z.length ≤ 10) (hN : 10 ≤ N) (hz : PyData.strOk z = true) : V N (m + 1) (.str z) := .str (Nat.le_trans h hN) hz
local macro_rules | `(tactic| walk_at "lens") => `(tactic| (simp only [List.length_append, List.length_take, List.length_drop, List.length_cons, List.length_nil, List.length_reverse, sizeLine_eq]; omega))
local macro_rules | `(tactic| walk_at "vs") => `(tactic| repeat' first | exact Vs.nil | refine Vs.cons ?_ ?_ | exact V.non | exact V.bl | exact V.int | exact V.strI (by decide +kernel) (by omega) (by decide +kernel) | assumption | (refine V.tupI ?_ ?_; walk_at "lens"))
section
variable {N m n : Nat} {S S1 : Store} {Q : DK} {Ex : EK}
theorem x_law_bent {day part : Int} {lib : D} {pls rest l : List D} (a : Up S S1) (hl : l.length ≤ N) (hx : Vs N (m + 3) l) (hm2 : m ≤ 40) (hN : 10 ≤ N) (hN2 : N ≤ 100000) (np : pls.length ≤ 5)
    (h : ∀ v S', V (N + 1) (m + 5) v → Up S S' → Q v S') : run T (n + 4) 40 [.ref 1, lib, .tup (.int day :: .tup pls :: rest), .int part, .tup l] S1 Q Ex := by
  refine ⟨d_law_bent, rfl, ?_⟩
  unfold d_law_bent b_law_bent
  have s1 := a.tp.lt
  have hx4 : Vs (N + 1) (m + 4) l := hx.mono (by omega) (by omega)
  have hx3 : Vs (N + 1) (m + 3) l := hx.mono (by omega) (by omega)
  have out : ∀ (k : List D) S', k.length ≤ N + 1 → Vs (N + 1) (m + 4) k → Up S S' → Ret S1 (.tup k) S' Q := fun k S' z1 z2 u => ret_same (h _ _ (.tupI z1 z2) u)
  walk_at "go"
  refine x_takeS a (by omega) (by omega) fun how S2 _ _ u2 m2 => ?_
  walk_at "go"
  refine x_takeS u2 (by omega) (by omega) fun at_ S3 a0 a1 u3 m3 => ?_
  walk_at "go"
  refine ifK_d (fun q0 => ?_) (fun q0 => ?_)
  · walk_at "go"
    exact ⟨by walk_at "lens", out _ _ (by walk_at "lens") ((hx4.take _).app (hx4.drop _)) u3⟩
  walk_at "go"
  refine ifK_d (fun q1 => ?_) (fun q1 => ?_)
  · walk_at "go"
    have c1 := cut_len l (some at_) (some (at_ + 1))
    have c2 : (Ev.cut l (some at_) (some (at_ + 1))).length ≤ 1 := by
      have x1 : HT.sIx l.length l.length (some (at_ + 1)) = min (at_ + 1).toNat l.length := if_neg (by omega)
      have x2 : HT.sIx l.length 0 (some at_) = min at_.toNat l.length := if_neg (by omega)
      unfold Ev.cut
      rw [List.length_take, x1, x2]
      omega
    exact ⟨by walk_at "lens", by walk_at "lens", out _ _ (by walk_at "lens") (((hx4.take _).app (hx4.cut _ _)).app (hx4.drop _)) u3⟩
  walk_at "go"
  refine ifK_d (fun q2 => ?_) (fun q2 => ?_)
  · walk_at "go"
    exact ⟨l, rfl, out _ _ (by walk_at "lens") hx4.rev u3⟩
  walk_at "go"
  refine ifK_d (fun q3 => ?_) (fun q3 => ?_)
  · walk_at "go"
    refine ⟨by walk_at "lens", by walk_at "lens", ?_⟩
    have V4 : V (N + 1) (m + 4) (.tup l) := .tupI (by omega) hx3
    have V5a : V (N + 1) (m + 5) (.tup (l ++ [.int 0])) := .tupI (by walk_at "lens") (hx4.app (by walk_at "vs"))
    have V5b : V (N + 1) (m + 5) (.tup (l ++ [.tup []])) := .tupI (by walk_at "lens") (hx4.app (by walk_at "vs"))
    refine x_one (u3.app _) (by rw [st_get0]; rfl) u3.tp.lt (by simp) (by simp) fun v S4 hv u4 m4 => ret_same (h v S4 ?_ u4)
    exact (show Vs (N + 1) (m + 5) _ by walk_at "vs") v hv
  walk_at "go"
  refine ifK_d (fun q4 => ?_) (fun q4 => ?_)
  · walk_at "go"
    refine x_one (u3.app _) (by rw [st_get0]; rfl) u3.tp.lt (by simp) (by simp) fun v S4 hv u4 m4 => ?_
    have vv := (show Vs (N + 1) (m + 4) _ by walk_at "vs") v hv
    exact ⟨by walk_at "lens", out _ _ (by walk_at "lens") (hx4.app (.cons vv .nil)) u4⟩
  walk_at "go"
  have hat : at_.toNat < l.length := by omega
  have vone := hx _ (List.getElem_mem hat)
  refine ⟨_, ixAt_nat a0 (List.getElem?_eq_getElem hat), ?_⟩
  generalize l[at_.toNat] = one at vone ⊢
  have put : ∀ (v : D) S', V (N + 1) (m + 4) v → Up S S' → ((l.take at_.toNat).length + 1 ≤ sizeLine ∧ (l.take at_.toNat ++ [v]).length + (l.drop (at_ + 1).toNat).length ≤ sizeLine ∧ Ret S1 (.tup (l.take at_.toNat ++ [v] ++ l.drop (at_ + 1).toNat)) S' Q) := fun v S' hv u =>
    ⟨by walk_at "lens", by walk_at "lens", out _ _ (by walk_at "lens") (((hx4.take _).app (.cons hv .nil)).app (hx4.drop _)) u⟩
  walk_at "go"
  refine ifK_d (fun q5 => ?_) (fun q5 => ?_)
  · walk_at "go"
    generalize hL : later (wpB _ _ _) = L
    have tail : ∀ (sm : List D) (p : Nat) S', S'[p]? = some (.lst sm) → sm.length ≤ 10 → Vs (N + 1) (m + 4) sm → Up S S' → L [some (.ref 1), some lib, some (.tup (.int day :: .tup pls :: rest)), some (.int part), some (.tup l), some (.int how), some (.int at_), some one, some (.ref p), none, none] S' := by
      intro sm p S' e1 e2 e3 u'
      rw [← hL]
      walk_at "go"
      refine ⟨_, _, (get_app (lt_of_get e1)).trans e1, rfl, by simp [sizeLine_eq]; omega, ?_⟩
      walk_at "go"
      have t' := u'.tp.lt
      refine x_one (u'.app _) (by rw [st_get]; rfl) (by omega) (by simp) (by simp; omega) fun v S5 hv u5 _ => ?_
      have vv := (e3.app (show Vs (N + 1) (m + 4) _ by walk_at "vs")) v hv
      exact put v S5 vv u5
    have one' : ∀ S', S' = S3 → L [some (.ref 1), some lib, some (.tup (.int day :: .tup pls :: rest)), some (.int part), some (.tup l), some (.int how), some (.int at_), some one, some (.ref S3.length), none, none] (S3 ++ [.lst [.int 1]]) := fun _ _ => tail _ _ _ (by rw [st_get0]; rfl) (by simp) (by walk_at "vs") (u3.app _)
    have two' : ∀ (i j : Int), L [some (.ref 1), some lib, some (.tup (.int day :: .tup pls :: rest)), some (.int part), some (.tup l), some (.int how), some (.int at_), some one, some (.ref S3.length), none, none] (S3 ++ [.lst [.int i, .int j]]) := fun i j => tail _ _ _ (by rw [st_get0]; rfl) (by simp) (by walk_at "vs") (u3.app _)
    cases one with
    | ref _ => exact vone.pt.elim
    | cl _ => exact vone.pt.elim
    | int i =>
      refine ⟨_, rfl, ?_⟩
      walk_at "go"
      exact two' _ _
    | bl b =>
      refine ⟨_, rfl, ?_⟩
      walk_at "go"
      exact two' _ _
    | _ =>
      refine ⟨_, rfl, ?_⟩
      walk_at "go"
      exact one' _ rfl
  walk_at "go"
  have leave : (l.take at_.toNat).length + (l.drop (at_ + 1).toNat).length ≤ sizeLine ∧ Ret S1 (.tup (l.take at_.toNat ++ l.drop (at_ + 1).toNat)) S3 Q := ⟨by walk_at "lens", out _ _ (by walk_at "lens") ((hx4.take _).app (hx4.drop _)) u3⟩
  cases one with
  | ref _ => exact vone.pt.elim
  | cl _ => exact vone.pt.elim
  | tup k =>
    refine ⟨_, rfl, ?_⟩
    walk_at "go"
    obtain ⟨kl, kx⟩ := vone.tup
    have kx : Vs N (m + 2) k := kx
    obtain ⟨e, e0, e1, e2, e3⟩ := vone.pyS (S := S3)
    have ek : PyData.eqv e (.tuple []) = k.isEmpty := by
      have e1 : (pys k).map PyData.tuple = some e := e1
      obtain ⟨es, e4, rfl⟩ := Option.map_eq_some_iff.mp e1
      cases k with
      | nil => cases e4; rfl
      | cons x k =>
        have e4 : (match Ev.py x, pys k with
          | some x, some y => some (x :: y)
          | _, _ => none) = some es := e4
        split at e4
        · cases e4; rfl
        · cases e4
    refine ⟨e, .tuple [], e0, rfl, shaped_of e2 e3 (by omega), by decide +kernel, ?_⟩
    rw [ek]
    refine ⟨_, rfl, ifK_b (fun q6 => ?_) (fun q6 => ?_)⟩
    · walk_at "go"
      exact leave
    have kpos : 0 < k.length := List.length_pos_iff.mpr fun e => by rw [e] at q6; cases q6
    walk_at "go"
    refine x_takeS u3 (by omega) (by omega) fun kk S4 b0 b1 u4 m4 => ?_
    have t4 := u4.tp.lt
    have hk : kk.toNat < k.length := by omega
    have ek2 : k[kk.toNat]? = some k[kk.toNat] := List.getElem?_eq_getElem hk
    have vkk := kx _ (List.getElem_mem hk)
    generalize k[kk.toNat] = ok at ek2 vkk
    walk_at "go"
    refine ⟨_, ixAt_nat b0 ek2, ?_⟩
    have kx3 : Vs (N + 1) (m + 3) k := kx.mono (by omega) (by omega)
    generalize hL : later (wpB _ _ _) = L
    have tail : ∀ (sm : List D) (p : Nat) S', S'[p]? = some (.lst sm) → 1 < p → 0 < sm.length → sm.length ≤ 30 → Vs (N + 1) (m + 3) sm → Up S S' → L [some (.ref 1), some lib, some (.tup (.int day :: .tup pls :: rest)), some (.int part), some (.tup l), some (.int how), some (.int at_), some (.tup k), some (.ref p), some (.int kk), none] S' := by
      intro sm p S' e1 ep e2 e2' e3 u'
      rw [← hL]
      walk_at "go"
      refine x_one u' e1 ep e2 (by omega) fun v S5 hv u5 _ => ?_
      have vv := e3 v hv
      refine ⟨by walk_at "lens", by walk_at "lens", ?_⟩
      walk_at "go"
      have val : V (N + 1) (m + 4) (.tup (k.take kk.toNat ++ [v] ++ k.drop (kk + 1).toNat)) := .tupI (by walk_at "lens") (((kx3.take _).app (.cons vv .nil)).app (kx3.drop _))
      refine ifK_d (fun q7 => ?_) (fun q7 => ?_)
      · walk_at "go"
        refine x_takeS u5 (by omega) (by omega) fun w S6 _ _ u6 m6 => ?_
        walk_at "go"
        refine ifC_d (fun q8 => ?_) (fun q8 => ?_)
        · refine ⟨by walk_at "lens", ?_⟩
          walk_at "go"
          exact put _ S6 (.tupI (by walk_at "lens") ((kx3.take _).app (kx3.drop _))) u6
        · refine ⟨by walk_at "lens", ?_⟩
          walk_at "go"
          exact put _ S6 (.tupI (by walk_at "lens") (kx3.app (.cons .non .nil))) u6
      · walk_at "go"
        exact put _ S5 val u5
    have hB : ∃ B : List D, B = [D.int 0, D.int (-1), D.int 1, D.int 2, D.int 3, D.int 401, D.int 400, D.bl true, D.bl false, D.non, D.str "back", D.str "lost", D.str "Back", D.str "", D.int day, D.int (day + 1), D.int 100000000000000000000000000000, D.tup [], D.tup [D.int 0], D.tup [D.str "back"]] ∧ B.length = 20 ∧ Vs (N + 1) (m + 3) B := ⟨_, rfl, rfl, by walk_at "vs"⟩
    obtain ⟨B, eB, lB, vB⟩ := hB
    rw [← eB]
    clear eB
    have plain : L [some (.ref 1), some lib, some (.tup (.int day :: .tup pls :: rest)), some (.int part), some (.tup l), some (.int how), some (.int at_), some (.tup k), some (.ref S4.length), some (.int kk), none] (S4 ++ [.lst B]) := tail B _ _ (by rw [st_get0]; rfl) t4 (by omega) (by omega) vB (u4.app _)
    have more : ∀ (i j h : Int), L [some (.ref 1), some lib, some (.tup (.int day :: .tup pls :: rest)), some (.int part), some (.tup l), some (.int how), some (.int at_), some (.tup k), some (.ref (S4.length + 2)), some (.int kk), none] (S4 ++ [.lst B, .lst [.int i, .int j, .int h], .lst (B ++ [.int i, .int j, .int h])]) := fun i j h => tail (B ++ [.int i, .int j, .int h]) _ _ (by rw [st_get]; rfl) (by omega) (by simp) (by simp; omega) (vB.app (by walk_at "vs")) (u4.app _)
    have e5 : (S4 ++ [Ob.lst B])[S4.length]? = some (.lst B) := by rw [st_get0]; rfl
    cases ok with
    | ref _ => exact vkk.pt.elim
    | cl _ => exact vkk.pt.elim
    | int i =>
      refine ⟨_, rfl, ?_⟩
      walk_at "go"
      refine ⟨_, ixAt_nat b0 ek2, ?_⟩
      walk_at "go"
      refine ⟨_, ixAt_nat b0 ek2, ?_⟩
      walk_at "go"
      refine ⟨_, ixAt_nat b0 ek2, ?_⟩
      walk_at "go"
      refine ⟨B, _, (by first | exact e5 | rfl | simp), rfl, by simp [lB, sizeLine_eq], ?_⟩
      walk_at "go"
      exact more _ _ _
    | bl b =>
      refine ⟨_, rfl, ?_⟩
      walk_at "go"
      refine ⟨_, ixAt_nat b0 ek2, ?_⟩
      walk_at "go"
      refine ⟨_, ixAt_nat b0 ek2, ?_⟩
      walk_at "go"
      refine ⟨_, ixAt_nat b0 ek2, ?_⟩
      walk_at "go"
      refine ⟨B, _, (by first | exact e5 | rfl | simp), rfl, by simp [lB, sizeLine_eq], ?_⟩
      walk_at "go"
      exact more _ _ _
    | _ =>
      refine ⟨_, rfl, ?_⟩
      walk_at "go"
      exact plain
  | _ =>
    refine ⟨_, rfl, ?_⟩
    walk_at "go"
    exact leave
end
local macro_rules | `(tactic| walk_at "lens") => `(tactic| (simp only [List.length_append, List.length_take, List.length_drop, List.length_cons, List.length_nil, List.length_reverse, sizeLine_eq]; omega))
local macro_rules | `(tactic| walk_at "vs") => `(tactic| repeat' first | exact Vs.nil | refine Vs.cons ?_ ?_ | exact V.non | exact V.bl | exact V.int | exact V.strI (by decide +kernel) (by omega) (by decide +kernel) | assumption | (refine V.tupI ?_ ?_; walk_at "lens"))
theorem sorted_one {l a b : List Int} (h1 : a.Perm l) (h2 : b.Perm l) (p1 : a.Pairwise (· ≤ ·)) (p2 : b.Pairwise (· ≤ ·)) : a = b :=
  List.Perm.eq_of_pairwise (fun a b _ _ h1 h2 => Int.le_antisymm h1 h2) p1 p2 (h1.trans h2.symm)
theorem ms_sorted (l : List Int) : (l.mergeSort fun a b => decide (a ≤ b)).Pairwise (· ≤ ·) :=
  (List.pairwise_mergeSort (le := fun a b : Int => decide (a ≤ b)) (fun a b c h1 h2 => decide_eq_true (Int.le_trans (of_decide_eq_true h1) (of_decide_eq_true h2))) (fun a b => by
    rcases Int.le_total a b with z | z <;> simp [z]) l).imp fun h => of_decide_eq_true h
theorem flt_ok {H : List Hs} {gr wd day : Int} {pls : List D} {ns : List Int} {v : D} : ∀ w, fltB H gr wd day pls ns v = some w → PyData.strOk w = true := by
  intro w e
  unfold fltB at e
  split at e
  · split at e
    · split at e
      · split at e
        · cases e
        · cases e; decide +kernel
      · cases e; decide +kernel
    · cases e; decide +kernel
  · cases e; decide +kernel
theorem nums_len {pls lns com : List D} {ns : List Int} (hl : ∀ x ∈ lns, Line x) (nl : lns.length ≤ 2) (np : pls.length ≤ 5) (nc : com.length ≤ 6) : ((cNums lns pls com).mergeSort fun a b => decide (a ≤ b)).length ≤ 17 := by
  rw [List.length_mergeSort]
  unfold cNums
  rw [List.length_append, List.length_append, List.length_map]
  have := hn_len hl nl
  have := wn_len (pls := pls) np
  omega
theorem en_V (es : List En) (ok : ∀ e ∈ es, e.how ∈ hows) : Vs 20 3 (es.map En.d) := fun x hx => by
  obtain ⟨e, he, rfl⟩ := List.mem_map.mp hx
  have hz := ok e he
  have z1 : e.how.length ≤ 10 := (show ∀ z ∈ hows, z.length ≤ 10 by decide +kernel) _ hz
  have z2 : PyData.strOk e.how = true := (show ∀ z ∈ hows, PyData.strOk z = true by decide +kernel) _ hz
  have z3 : V 20 2 (.str e.how) := .strI z1 (by omega) z2
  show V 20 3 (.tup [.int e.num, .int e.p, .int e.keep, .int e.house, .str e.how])
  exact .tupI (by walk_at "lens") (show Vs 20 2 _ by walk_at "vs")
theorem bk_V (bs : List Bk) : Vs 20 3 (bs.map Bk.d) := fun x hx => by
  obtain ⟨b, hb, rfl⟩ := List.mem_map.mp hx
  unfold Bk.d
  cases b.at_ with
  | none => exact .tupI (by walk_at "lens") (show Vs 20 2 _ by walk_at "vs")
  | some q => exact .tupI (by walk_at "lens") (show Vs 20 2 _ by walk_at "vs")
theorem it_V (g : List Int) : Vs 20 3 (g.map D.int) := fun x hx => by
  obtain ⟨i, _, rfl⟩ := List.mem_map.mp hx
  exact .int
theorem asc_len : ∀ (k : Nat) {lo : Int} {l : List Int}, l.Pairwise (· < ·) → (∀ x ∈ l, lo ≤ x ∧ x < lo + k) → l.length ≤ k
  | k, _, [], _, _ => Nat.zero_le _
  | 0, lo, x :: l, _, h => by
    have := h x (List.mem_cons_self ..)
    omega
  | k + 1, lo, x :: l, p, h => by
    have hx := h x (List.mem_cons_self ..)
    obtain ⟨p1, p2⟩ := List.pairwise_cons.mp p
    have := asc_len k (lo := lo + 1) p2 fun y hy => by
      have := p1 y hy
      have := h y (List.mem_cons_of_mem _ hy)
      omega
    rw [List.length_cons]
    omega
theorem place_lent {hs : List D} {gr day : Int} {rd : Nat} {p : D} (hp : Place hs gr rd day p) (q : wrd p = "lent") : ∃ (due num : Int) (r : Nat), p = .tup [.str "lent", .int due, .int num, .int (r : Int)] ∧ r < rd := by
  rcases hp with rfl | rfl | ⟨_, rfl⟩ | ⟨z, _, _, _, hz', rfl, _⟩ | ⟨due, num, rd', rfl, hr, ok⟩
  · exact absurd q (show ("free" : Str) ≠ "lent" by decide +kernel)
  · exact absurd q (show ("lost" : Str) ≠ "lent" by decide +kernel)
  · exact absurd q (show ("in" : Str) ≠ "lent" by decide +kernel)
  · rcases hz' with rfl | rfl
    · exact absurd q (show ("way" : Str) ≠ "lent" by decide +kernel)
    · exact absurd q (show ("ready" : Str) ≠ "lent" by decide +kernel)
  · exact ⟨due, num, rd', rfl, hr⟩
theorem eq_empty {N m : Nat} {k : List D} {S : Store} {Q : DK} (hv : V N m (.tup k)) (hm : m ≤ 50) (h : Q (.bl k.isEmpty) S) : wpCmp .eq (.tup k) (.tup []) S Q := by
  obtain ⟨e, e0, e1, e2, e3⟩ := hv.pyS (S := S)
  have ek : PyData.eqv e (.tuple []) = k.isEmpty := by
    have e1 : (pys k).map PyData.tuple = some e := e1
    obtain ⟨es, e4, rfl⟩ := Option.map_eq_some_iff.mp e1
    cases k with
    | nil => cases e4; rfl
    | cons x k =>
      have e4 : (match Ev.py x, pys k with
        | some x, some y => some (x :: y)
        | _, _ => none) = some es := e4
      split at e4
      · cases e4; rfl
      · cases e4
  refine ⟨e, .tuple [], e0, rfl, shaped_of e2 e3 (by omega), by decide +kernel, ?_⟩
  rw [ek]
  exact h
theorem law_true (ns : List Int) (h : ns.length ≤ 63) : run T 61 43 [.cl (ns.map D.int)] [] (fun v _ => v = .bl true) noE := by
  refine ⟨d_law, rfl, ?_⟩
  unfold d_law b_law
  walk_at "go"
  refine x_law_feed h fun S0 t0 => ?_
  have a0 := Up.refl t0
  walk_at "go"
  refine x_law_library (n := 55) a0 fun H classes wd gr works ls cs ps S1 lb a1 => ?_
  have bk := lb.bk
  have n1 := lb.n1; have n4 := lb.n4; have lw1 := lb.w1; have lw2 := lb.w2
  walk_at "go"
  refine x_takeS a1 (by omega) (by omega) fun v1 S2 _ _ a2 _ => ?_
  walk_at "go"
  refine x_one (n := 57) (l := [.int 0, .int 6, .int (5 + v1), .int 99990]) (a2.app _) (by rw [st_get0]; rfl) a2.tp.lt (by simp) (by simp) fun d S3 hd a3 _ => ?_
  obtain ⟨day, rfl, hd0, hd1⟩ : ∃ i : Int, d = .int i ∧ 0 ≤ i ∧ i ≤ 100000 := by
    simp only [List.mem_cons, List.not_mem_nil, or_false] at hd
    rcases hd with rfl | rfl | rfl | rfl <;> exact ⟨_, rfl, by omega, by omega⟩
  refine x_law_stand (n := 54) a3 lb hd0 hd1 fun pls lns left rs S4 hpl hpls hln hlns a4 => ?_
  walk_at "go"
  generalize hL : later (wpB _ _ _) = L
  have tail : ∀ (pls : List D) S' y4, pls.length = cs.length → (∀ p ∈ pls, Place (H.map hsD) gr ps.length day p) → Up S0 S' → L [some (.cl (ns.map D.int)), some (.ref 1), some (lbD H classes wd gr works ls cs ps), some (.tup [.int day, .tup pls, .tup (rs.map D.int), .tup lns, .tup left, .int 0]), y4, none, none, none, none, none, none, none, none] S' := by
    intro pls S5 y4 hpl hpls a5
    rw [← hL]
    walk_at "go"
    refine x_law_coming (n := 56) a5 lb fun com S6 hc1 hc2 a6 => ?_
    walk_at "go"
    have W : Wd H gr wd day ps.length pls lns com ((cNums lns pls com).mergeSort fun a b => decide (a ≤ b)) := ⟨bk.wk, bk.h1, bk.h6, bk.w1, bk.w2, hd0, hd1, bk.g0, bk.g1, hlns, by omega, hpls, by omega, hc2, by omega, fun ns' h1 h2 => sorted_one h1 (List.mergeSort_perm _ _) h2 (ms_sorted _), nums_len (ns := ns) hlns (by omega) (by omega) (by omega)⟩
    generalize ((cNums lns pls com).mergeSort fun a b => decide (a ≤ b)) = nums at W
    refine x_law_course (n := 56) a6 W fun es bs g S7 c1 c2 c3 c4 c5 c6 a7 => ?_
    have cr := course_right (wd := wd) c2 c3 c4 c5 c6
    rw [c1] at cr
    have les : es.length ≤ 20 := by
      have := congrArg List.length c1
      rw [List.length_map] at this
      have := W.nn
      omega
    have lbs : bs.length ≤ 20 := by
      have := congrArg List.length c4
      rw [List.length_map] at this
      have := lentIx_len (pls := pls)
      omega
    have lg : g.length ≤ 20 := by
      have := asc_len pls.length (lo := 0) c5 fun x hx => by
        obtain ⟨z1, z2, _⟩ := c6 x hx
        omega
      omega
    have ve := en_V es fun e he => (c2 e he).w
    have vb := bk_V bs
    have vg := it_V g
    have cvs : ∀ x ∈ [D.tup (es.map En.d), .tup (bs.map Bk.d), .tup (g.map D.int)], ∃ l, x = .tup l ∧ l.length ≤ 20 ∧ Vs 20 3 l := by
      intro x hx
      simp only [List.mem_cons, List.not_mem_nil, or_false] at hx
      rcases hx with rfl | rfl | rfl
      · exact ⟨_, rfl, by rw [List.length_map]; exact les, ve⟩
      · exact ⟨_, rfl, by rw [List.length_map]; exact lbs, vb⟩
      · exact ⟨_, rfl, by rw [List.length_map]; exact lg, vg⟩
    have ccl : [D.tup (es.map En.d), .tup (bs.map Bk.d), .tup (g.map D.int)].length = 3 := rfl
    generalize [D.tup (es.map En.d), .tup (bs.map Bk.d), .tup (g.map D.int)] = cv at cvs ccl cr ⊢
    have vcv : Vs 20 4 cv := fun x hx => by
      obtain ⟨l, rfl, h1, h2⟩ := cvs x hx
      exact .tupI h1 h2
    clear ve vb vg c1 c2 c3 c4 c5 c6 les lbs lg
    walk_at "go"
    refine x_law_told (n := 53) (N := 20) (m := 5) W (.tupI (by omega) vcv) (by omega) (by omega) ?_
    rw [cr]
    walk_at "go"
    refine x_law_is_due (n := 59) (f := none) (d := none) (fun w e => by cases e) (fun w e => by cases e) ?_
    walk_at "go"
    refine for_by (fun i r S' => Up S0 S' ∧ ∃ y8 y9 y10 y11 y12 : Option D, r = [some (.cl (ns.map D.int)), some (.ref 1), some (lbD H classes wd gr works ls cs ps), some (.tup [.int day, .tup pls, .tup (rs.map D.int), .tup lns, .tup left, .int 0]), y4, none, some (.tup com), some (.tup cv), y8, y9, y10, y11, y12]) ⟨a7, _, _, _, _, _, rfl⟩ (fun _ _ _ _ => trivial) ?_ ?_
    · rintro i x r S8 K hx ⟨a8, y8, y9, y10, y11, y12, rfl⟩ hK
      obtain ⟨hi, rfl⟩ := rngL_at hx
      walk_at "go"
      refine x_takeS a8 (by omega) (by omega) fun v3 S9 v30 v31 a9 _ => ?_
      walk_at "go"
      refine ⟨by omega, by omega, for_by (fun j r S' => Up S0 S' ∧ ∃ (vs : List D) (y10 y11 y12 : Option D), r = [some (.cl (ns.map D.int)), some (.ref 1), some (lbD H classes wd gr works ls cs ps), some (.tup [.int day, .tup pls, .tup (rs.map D.int), .tup lns, .tup left, .int 0]), y4, none, some (.tup com), some (.tup cv), some (.int (0 + (i : Int))), some (.tup vs), y10, y11, y12] ∧ vs.length = 3 ∧ Vs (20 + j) (4 + j) vs) ⟨a9, cv, _, _, _, rfl, ccl, vcv⟩ (fun _ _ _ _ => trivial) ?_ ?_⟩
      · rintro j y r S10 K2 hy ⟨a10, vs, y10, y11, y12, rfl, w1, w2⟩ hK2
        obtain ⟨hj, rfl⟩ := rngL_at hy
        have hj : j < 2 := by omega
        walk_at "go"
        refine x_takeS a10 (by omega) (by omega) fun part S11 p0 p1 a11 _ => ?_
        have hp : part.toNat < vs.length := by omega
        have hpc : part.toNat < cv.length := by omega
        have ep : vs[part.toNat]? = some vs[part.toNat] := List.getElem?_eq_getElem hp
        have epc : cv[part.toNat]? = some cv[part.toNat] := List.getElem?_eq_getElem hpc
        have vp := w2 _ (List.getElem_mem hp)
        obtain ⟨cl, ecl, ccl1, ccl2⟩ := cvs _ (List.getElem_mem hpc)
        rw [ecl] at epc
        generalize vs[part.toNat] = x at ep vp
        walk_at "go"
        refine ⟨_, ixAt_nat p0 ep, ?_⟩
        generalize hL2 : later (wpB _ _ _) = L2
        have tail2 : ∀ (k : List D) , k.length ≤ 20 + j → Vs (20 + j) (j + 3) k → L2 [some (.cl (ns.map D.int)), some (.ref 1), some (lbD H classes wd gr works ls cs ps), some (.tup [.int day, .tup pls, .tup (rs.map D.int), .tup lns, .tup left, .int 0]), y4, none, some (.tup com), some (.tup cv), some (.int (0 + (i : Int))), some (.tup vs), some (.int (0 + (j : Int))), some (.int part), some (.tup k)] S11 := by
          intro k kl kv
          rw [← hL2]
          walk_at "go"
          refine eq_empty (N := 20 + j) (m := j + 4) (.tupI kl kv) (by omega) ?_
          have fin : ∀ v S', V (20 + j + 1) (j + 5) v → Up S0 S' → ((vs.take part.toNat).length + 1 ≤ sizeLine ∧ (vs.take part.toNat ++ [v]).length + (vs.drop (part + 1).toNat).length ≤ sizeLine ∧ K2 [some (.cl (ns.map D.int)), some (.ref 1), some (lbD H classes wd gr works ls cs ps), some (.tup [.int day, .tup pls, .tup (rs.map D.int), .tup lns, .tup left, .int 0]), y4, none, some (.tup com), some (.tup cv), some (.int (0 + (i : Int))), some (.tup (vs.take part.toNat ++ [v] ++ vs.drop (part + 1).toNat)), some (.int (0 + (j : Int))), some (.int part), some (.tup k)] S') := by
            intro v S' hv a'
            refine ⟨by walk_at "lens", by walk_at "lens", hK2 _ _ ⟨a', _, _, _, _, rfl, by walk_at "lens", ?_⟩⟩
            have w3 : Vs (20 + (j + 1)) (4 + (j + 1)) vs := w2.mono (by omega) (by omega)
            exact ((w3.take _).app (.cons (hv.mono (by omega) (by omega)) .nil)).app (w3.drop _)
          refine ⟨_, rfl, ifC_b (fun q => ?_) (fun q => ?_)⟩
          · refine ⟨_, ixAt_nat p0 epc, ?_⟩
            refine x_law_bent (n := 56) (N := 20 + j) (m := j) a11 (by omega) (ccl2.mono (by omega) (by omega)) (by omega) (by omega) (by omega) (by omega) fun v S12 hv a12 => ?_
            have f := fin v S12 hv a12
            refine ⟨f.1, f.2.1, ?_⟩
            walk_at "go"
            exact f.2.2
          · refine x_law_bent (n := 56) (N := 20 + j) (m := j) a11 kl kv (by omega) (by omega) (by omega) (by omega) fun v S12 hv a12 => ?_
            have f := fin v S12 hv a12
            refine ⟨f.1, f.2.1, ?_⟩
            walk_at "go"
            exact f.2.2
        cases x with
        | ref _ => exact vp.pt.elim
        | cl _ => exact vp.pt.elim
        | tup k =>
          obtain ⟨kl, kx⟩ := vp.tup
          refine ⟨_, rfl, ?_⟩
          walk_at "go"
          refine ⟨_, ixAt_nat p0 ep, ?_⟩
          exact tail2 k kl (by rw [show j + 3 = 4 + j - 1 by omega]; exact kx)
        | _ =>
          refine ⟨_, rfl, ?_⟩
          walk_at "go"
          exact tail2 [] (Nat.zero_le _) .nil
      · rintro r S10 ⟨a10, vs, y10, y11, y12, rfl, w1, w2⟩
        rw [rngL_length] at w2
        have w2 : Vs 22 6 vs := w2.mono (by omega) (by omega)
        walk_at "go"
        refine x_takeS a10 (by omega) (by omega) fun v5 S11 _ _ a11 _ => ?_
        walk_at "go"
        generalize hL3 : later (wpB _ _ _) = L3
        have tail3 : ∀ (v : D) S', V 22 8 v → Up S0 S' → L3 [some (.cl (ns.map D.int)), some (.ref 1), some (lbD H classes wd gr works ls cs ps), some (.tup [.int day, .tup pls, .tup (rs.map D.int), .tup lns, .tup left, .int 0]), y4, none, some (.tup com), some (.tup cv), some (.int (0 + (i : Int))), some v, y10, y11, y12] S' := by
          intro v S' hv a'
          rw [← hL3]
          walk_at "go"
          refine x_law_told (n := 53) (N := 22) (m := 8) W hv (by omega) (by omega) ?_
          walk_at "go"
          refine x_law_fault (n := 55) (N := 22) (m := 8) W hv (by omega) (by omega) ?_
          walk_at "go"
          refine x_law_is_due (n := 59) flt_ok flt_ok ?_
          rw [decide_eq_true rfl]
          walk_at "go"
          exact hK _ _ ⟨a', _, _, _, _, _, rfl⟩
        refine ifK_d (fun q => ?_) (fun q => ?_)
        · walk_at "go"
          have V7 : V 22 7 (.tup cv) := .tupI (by omega) (vcv.mono (by omega) (by omega))
          have V8a : V 22 8 (.tup (cv.take 2)) := .tupI (by walk_at "lens") ((vcv.mono (by omega) (by omega)).take _)
          have V8b : V 22 8 (.tup (cv ++ [.tup []])) := .tupI (by walk_at "lens") ((vcv.mono (by omega) (by omega)).app (by walk_at "vs"))
          refine ⟨by rw [sizeLine_eq]; omega, ?_⟩
          refine x_one (n := 57) (a11.app _) (by rw [st_get0]; rfl) a11.tp.lt (by simp) (by simp) fun v S12 hv a12 _ => ?_
          have vv := (show Vs 22 8 _ by walk_at "vs") v hv
          walk_at "go"
          exact tail3 v _ vv a12
        · walk_at "go"
          exact tail3 _ _ (.tupI (by omega) (w2.mono (by omega) (by omega))) a11
    · rintro r S8 ⟨a8, y8, y9, y10, y11, y12, rfl⟩
      walk_at "go"
      exact ret_same rfl
  refine x_takeS a4 (by omega) (by omega) fun v2 S5 _ _ a5 _ => ?_
  walk_at "go"
  refine ifK_d (fun q => ?_) (fun q => ?_)
  · walk_at "go"
    refine lc_by (fun i S' l => Up S0 S' ∧ l.length = i ∧ ∀ p ∈ l, Place (H.map hsD) gr ps.length day p) ⟨a5, rfl, by simp⟩ (fun _ _ _ _ => trivial) ?_ ?_
    · rintro i x S6 l K hx ⟨a6, k1, k2⟩ hK
      have hx : pls[i]? = some x := hx
      have hi := (List.getElem?_eq_some_iff.mp hx).1
      have hpx := hpls x (List.mem_of_getElem? hx)
      obtain ⟨⟨l', el, -⟩, hz, -⟩ := six hpx
      have put : ∀ d S', Place (H.map hsD) gr ps.length day d → Up S0 S' → l.length < sizeLine ∧ K (l ++ [d]) S' := fun d S' hd a => ⟨by rw [sizeLine_eq]; omega, hK _ _ ⟨a, by simp [k1], fun p hp => by
        rcases List.mem_append.mp hp with z | z
        · exact k2 p z
        · rw [List.mem_singleton.mp z]; exact hd⟩⟩
      walk_at "go"
      rw [el]
      walk_at "go"
      refine ⟨hz, by decide +kernel, ifC_d (fun q1 => ?_) (fun q1 => ?_)⟩
      · obtain ⟨due, num, rd, ex, hr⟩ := place_lent hpx q1
        rw [ex] at el
        injection el with el
        injection el with el1 el2
        subst el2
        walk_at "go"
        refine x_one (n := 57) (l := [.int 2990, .int 3000]) (a6.app _) (by rw [st_get0]; rfl) a6.tp.lt (by simp) (by simp) fun d S7 hd a7 _ => ?_
        obtain ⟨dd, rfl, hdd⟩ : ∃ i : Int, d = .int i ∧ (i = 2990 ∨ i = 3000) := by
          simp only [List.mem_cons, List.not_mem_nil, or_false] at hd
          rcases hd with rfl | rfl <;> exact ⟨_, rfl, by omega⟩
        walk_at "go"
        exact ⟨by rw [sizeLine_eq]; omega, put _ _ (.inr (.inr (.inr (.inr ⟨day + dd, num, rd, rfl, hr, by omega, by omega⟩)))) a7⟩
      · rw [← el]
        exact put _ _ hpx a6
    · rintro l S6 ⟨a6, k1, k2⟩
      walk_at "go"
      refine ⟨by rw [sizeLine_eq]; omega, by rw [sizeLine_eq]; omega, ?_⟩
      walk_at "go"
      have k1 : l.length = pls.length := k1
      exact tail l _ _ (by omega) k2 (a6.app _)
  · walk_at "go"
    exact tail pls S5 _ hpl hpls a5

end K20
open PySem PySem.W PySem.Calls PyProof.Rows
set_option maxHeartbeats 0 in
theorem PySem.Challenge.cw_earlyback_k20_courses_checked_holds : PySem.Challenge.rw_earlyback_k20_courses_checked.Holds := by
  w_on; o_law
  refine HandSHeadRun.head_any (r := OpenLaw.row PySem.Challenge.rw_earlyback_k20_courses_checked) (q := view (OpenLaw.row PySem.Challenge.rw_earlyback_k20_courses_checked).prog [60]) (H := K20.hk) (ob := K20.ob) (M := 4000) (loose := K20.names)
    (d := HandSHeadRun.topDef (OpenLaw.row PySem.Challenge.rw_earlyback_k20_courses_checked).prog 60) (kwd := []) K20.ob_eq (by kernel_rfl) (fun s => by kernel_rfl) K20.runs (by kernel_rfl) (by kernel_rfl) (by kernel_rfl) (by rfl) (by first | assumption | decide +kernel) (by decide +kernel) ⟨rfl, rfl, rfl, rfl, rfl, by decide +kernel⟩ ?hw ?hc
  case hw => w_witness2
  case hc =>
    exact Ev.law_endX (l := PySem.Challenge.rw_earlyback_k20_courses_checked) (T := K20.T) (sts := K20.sts) (f := 43) (n := 60) (dl := K20.d_law) (sl := K20.topS 60) (x := "script") rfl (by kernel_rfl) (by decide) (fun w h ⟨K, KX, c⟩ => ⟨K, KX, Ev.told_of c⟩) K20.oks K20.alD rfl rfl (by kernel_rfl) rfl K20.law_true

