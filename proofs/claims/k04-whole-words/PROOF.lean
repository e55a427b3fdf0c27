import PyProof.Rows.All
import Wide.All
import OpenK.AllK
import Wide.FinOn
import KE.KSuper
import HandS.ForMost
import HandS.Lambda
import HandS.Style
import KE.SortKeyHeap
import KE.SortData
import KE.DatumOrd
import HandS.CallRecv
import HandS.TupAny
import HandS.Deep
import HandS.Property
import HandS.Wide
import HandS.Dict
import HandS.Defaults
import HandS.NoneIn
import HandS.Walk
import KE.KIndexOf
import HandS.Conv
import HandS.DictSub
import KE.KStateDown
import HandS.Head0
import HandS.Head1
import HandS.Head2
import HandS.HeadHook4
import HandS.HeadWalk
import HandS.NestedK
import PySem.Challenge.RW_movedstates_k04_whole_words
set_option Elab.async false
set_option linter.all false
set_option maxRecDepth 100000
set_option maxHeartbeats 0
/-! own rules, part 1: what runs in a known activation (zero-argument super) -/
namespace K4
open PySem PySem.Spec PyProof.Rows L2

/-! ### judgements in a known activation -/
structure QE (X : Cx) (c : Code) (e : Expr) (t : TE) : Prop where
  run : ∀ (pins : List (Addr × Obj)) (s : Shared) (σ : L2.St) (H : Hp) (Q : VK), Inv X pins σ H s → t σ H Q → _root_.PySem.wpAt (model X.prog X.w) X.A c (eval e X.env) (EP X pins σ Q) X.xe s
structure QS (X : Cx) (c : Code) (st : Stmt) (t : L2.TS) : Prop where
  run : ∀ (pins : List (Addr × Obj)) (s : Shared) (σ : L2.St) (H : Hp) (D : Ends), Inv X pins σ H s → t D σ H → _root_.PySem.wpAt (model X.prog X.w) X.A c (exec st X.env) (SP X pins D) X.xe s
structure QSs (X : Cx) (c : Code) (st : List Stmt) (t : L2.TS) : Prop where
  run : ∀ (pins : List (Addr × Obj)) (s : Shared) (σ : L2.St) (H : Hp) (D : Ends), Inv X pins σ H s → t D σ H → _root_.PySem.wpAt (model X.prog X.w) X.A c (execs st X.env) (SP X pins D) X.xe s
theorem athn {α : Type} {t : Sem α} {Q Q' : α → Shared → Prop} {M : Model} {A : Around} {c : Code} {E : Value → Shared → Prop} {s : Shared} (h : _root_.PySem.wpAt M A c t Q E s) (hQ : ∀ a s, Q a s → Q' a s) : _root_.PySem.wpAt M A c t Q' E s := ks_wpAt_mono h hQ fun _ _ x => x
section
variable {X : Cx} {c : Code} {st : Stmt} {rest : List Stmt} {t u : L2.TS} {e : Expr} {te : TE} {pos : Pos}
theorem QE.of (h : PE X e te) : QE X c e te := ⟨fun pins s σ H Q I q => wpAt_of_wpAny (h.run pins s σ H Q I q)⟩
theorem QS.of (h : PS X st t) : QS X c st t := ⟨fun pins s σ H D I q => wpAt_of_wpAny (h.run pins s σ H D I q)⟩
theorem QSs.of {sts : List Stmt} (h : PSs X sts t) : QSs X c sts t := ⟨fun pins s σ H D I q => wpAt_of_wpAny (h.run pins s σ H D I q)⟩
theorem qss_cons (h1 : QS X c st t) (h2 : QSs X c rest u) : QSs X c (st :: rest) (tSeq t u) := by
  refine ⟨fun pins s σ H D I h => ?_⟩
  refine ks_wpAt_execs_cons (athn (h1.run pins s σ H { D with nx := u D } I h) fun f s1 q => ?_)
  cases f with
  | next =>
    obtain ⟨σ', H', I', q⟩ := q
    exact h2.run pins s1 σ' H' D I' q
  | ret v => exact q
  | brk => exact q
  | cont => exact q
theorem qss_one (h1 : QS X c st t) : QSs X c [st] t := by
  refine ⟨fun pins s σ H D I h => ?_⟩
  refine ks_wpAt_execs_cons (athn (h1.run pins s σ H D I h) fun f s1 q => ?_)
  cases f with
  | next => exact wpAt_of_wpAny (wpAny_execs_nil q)
  | ret v => exact q
  | brk => exact q
  | cont => exact q
theorem qs_ret (he : QE X c e te) : QS X c (.Return (some e) pos) (tRet te) := by
  refine ⟨fun pins s σ H D I h => ?_⟩
  exact ks_wpAt_Return_some (athn (he.run pins s σ H _ I h) fun v s1 ⟨x, H1, I1, r1, q1⟩ => ⟨x, σ, H1, I1, r1, q1⟩)
theorem qs_set {i : Nat} {x : Str} {pos' : Pos} (hN : X.N.Nodup) (hi : X.N[i]? = some x) (hx : Loc X.env.scope x) (he : QE X c e te) (hs : swapsWith e (some (.Name x pos')) pos.line X.env = pure false := by rfl) (hf : X.fn x = true ∨ X.env.scope.names.lookup x = some .local := by first | exact .inl rfl | exact .inr rfl | assumption) :
    QS X c (.Assign [.Name x pos'] e pos) (tAsg te (gName i)) := by
  refine ⟨fun pins s σ H D I h => ?_⟩
  refine ks_wpAt_Assign_Name (athn (he.run pins s σ H _ I h) fun v s1 ⟨y, H1, I1, r1, q1⟩ => ?_) hs
  exact store_ok I1 hN hi hx r1 (fun s2 I2 => ⟨_, H1, I2, q1⟩) hf
theorem at_Subscript {M : Model} {A : Around} {E : Value → Shared → Prop} {s : Shared} {env : Env} {value slice : Expr} {Q : Value → Shared → Prop}
    (h : _root_.PySem.wpAt M A c (eval value env) (fun o s₁ => wpAny M A (eval slice env) (fun i s₂ => wpAny M A (subscriptTail value slice o i) Q E s₂) E s₁) E s) :
    _root_.PySem.wpAt M A c (eval (.Subscript value slice pos) env) Q E s := by
  rw [eval_Subscript]
  exact _root_.PySem.wpAt_bind (athn h fun o s₁ h₁ => wpAt_of_wpAny (wpAny_bind (wpAny_holding (wpAny_mono h₁ (fun i s₂ h₂ => wpAny_bind (wpAny_standAt h₂)) fun _ _ x => x))))
/-- what stands behind the base of a subscript: the slice is evaluated, then the item is got -/
def Tail (X : Cx) (sl : Expr) (r : V → Hp → VK → Prop) : Prop := ∀ (e : Expr) (pins : List (Addr × Obj)) (s : Shared) (σ : L2.St) (H : Hp) (x : V) (v : Value) (Q : VK), Inv X pins σ H s → RelV x v → r x H Q →
  wpAny (model X.prog X.w) X.A (eval sl X.env) (fun i s' => wpAny (model X.prog X.w) X.A (subscriptTail e sl v i) (EP X pins σ Q) X.xe s') X.xe s
def tSub (r : V → Hp → VK → Prop) (te : TE) : TE := fun σ H Q => te σ H fun x H1 => r x H1 Q
theorem qe_sub {sl : Expr} {r : V → Hp → VK → Prop} (hr : Tail X sl r) (he : QE X c e te) : QE X c (.Subscript e sl pos) (tSub r te) :=
  ⟨fun pins s σ H Q I h => at_Subscript (athn (he.run pins s σ H _ I h) fun v s1 ⟨x, H1, I1, rx, q⟩ => hr e pins s1 σ H1 x v Q I1 rx q)⟩
theorem pe_sub {sl : Expr} {r : V → Hp → VK → Prop} (hr : Tail X sl r) (he : PE X e te) : PE X (.Subscript e sl pos) (tSub r te) :=
  ⟨fun pins s σ H Q I h => Subscript_ (thn (he.run pins s σ H _ I h) fun v s1 ⟨x, H1, I1, rx, q⟩ => hr e pins s1 σ H1 x v Q I1 rx q)⟩
/-- a written integer of a slice, or its negation -/
theorem part_int {i : Int} {k : Nat} {p : Pos} : PO X (some (.Constant (.int i) k p)) (tPart (tC (.int i))) := po_some pe_int
theorem tail_cut {r : V → Option Int → Option Int → Hp → VK → Prop} {lo hi : Option Expr} {tl th : TO} {p2 : Pos} (hr : SlR X r) (hl : PO X lo tl) (hu : PO X hi th) {l u : Option Int}
    (al : ∀ (σ : L2.St) (H : Hp) (Q : Option Int → Hp → Prop), Q l H → tl σ H Q) (au : ∀ (σ : L2.St) (H : Hp) (Q : Option Int → Hp → Prop), Q u H → th σ H Q) : Tail X (.Slice lo hi none p2) fun x H Q => r x l u H Q := by
  intro e pins s σ H x v Q I rx q
  refine wpAny_Slice (thn (hl.run pins s σ H (fun o G => o = l ∧ G = H) I (al _ _ _ ⟨rfl, rfl⟩)) ?_)
  rintro v1 s1 ⟨_, _, I1, p1, rfl, rfl⟩
  refine thn (hu.run pins s1 σ _ (fun o G => o = u ∧ G = _) I1 (au _ _ _ ⟨rfl, rfl⟩)) ?_
  rintro v2 s2 ⟨_, _, I2, p2', rfl, rfl⟩
  rw [evalPart_none]
  refine wpAny_pure ?_
  have I3 : Inv X pins σ _ { s2 with heap := s2.heap.push { cls := .type "slice", data := .fields #[v1, v2, .none] } } := I2.kept (t' := s2.toks) fun _ _ z => Heap.get?_push_of_some _ z
  obtain ⟨T, id, h1, h2, h3⟩ := hr pins _ σ _ x v v1 v2 _ _ s2.heap.objs.size Q I3 rx (Heap.IsSliceOf.new ..) p1 p2' q
  exact tail_any (ops := [.ref s2.heap.objs.size, v]) h2 h1 h3 (by with_unfolding_all rfl)
/-- e[::-1]: the list | the tuple backwards, as a new one -/
def rBackL (K : PySem.W.Frag) : V → Hp → VK → Prop := fun x H Q => ∃ a xs, x = .ref a ∧ SqL K H a xs ∧ ∀ p, H p = none → Q (.ref p) (upd H p (.lst xs.reverse))
theorem tail_backL {k : Nat} {p1 p2 p3 : Pos} : Tail X (.Slice none none (some (.UnaryOp .USub (.Constant (.int 1) k p1) p2)) p3) (rBackL X.K) := by
  intro e pins s σ H x v Q I rx h
  obtain ⟨a, xs, rfl, hx, q⟩ := h
  cases rx
  have step : PO X (some (.UnaryOp .USub (.Constant (.int 1) k p1) p2)) (tPart (tUn (rU fun i => .int (-i)) (tC (.int 1)))) := po_some (pe_un un_neg pe_int)
  refine wpAny_Slice (thn (po_none.run pins s σ H (fun o G => o = none ∧ G = H) I ⟨rfl, rfl⟩) ?_)
  rintro v1 s1 ⟨_, _, I1, p1, rfl, rfl⟩
  refine thn (po_none.run pins s1 σ _ (fun o G => o = none ∧ G = _) I1 ⟨rfl, rfl⟩) ?_
  rintro v2 s2 ⟨_, _, I2, p2, rfl, rfl⟩
  refine thn (step.run pins s2 σ _ (fun o G => o = some (-1) ∧ G = _) I2 ⟨1, rfl, -1, rfl, rfl, rfl⟩) ?_
  rintro v3 s3 ⟨_, _, I3, p3, rfl, rfl⟩
  have I4 : Inv X pins σ _ { s3 with heap := s3.heap.push { cls := .type "slice", data := .fields #[v1, v2, v3] } } := I3.kept (t' := s3.toks) fun _ _ z => Heap.get?_push_of_some _ z
  obtain ⟨its, r, ht, hz⟩ := I4.list hx
  refine tail_any (ops := [.ref a, .ref s3.heap.objs.size]) ht.isList.typeIs PySem.slot_list_getitem.lookup ?_ (by with_unfolding_all rfl)
  refine wpAny_getItem_list_slice ht.isList (Heap.IsSliceOf.new _ v1 v2 v3) p1 p2 p3 (by decide) ?_ (by have := r.length; rw [List.size_toArray]; omega)
  rw [PySem.W.krv_pick]
  exact ⟨.ref _, _, I4.laid (t' := s3.toks) (o := .lst xs.reverse) (fun _ _ z => Heap.get?_push_of_some _ z) (Nat.le_refl _) ⟨by rw [List.length_reverse]; exact hz, _, 0, r.reverse, Heap.get?_push_size _ rfl⟩, rfl, q _ (I4.hok.fresh (Nat.le_refl _))⟩
/-! for over a list whose expression stands in the known activation -/
theorem at_For {M : Model} {A : Around} {E : Value → Shared → Prop} {s : Shared} {env : Env} {target iter : Expr} {body orelse : List Stmt} {Q : Flow → Shared → Prop}
    (h : _root_.PySem.wpAt M A c (eval iter env) (fun x s₁ => wpAny M A (pyIter x) (fun it s₂ =>
      codeAny M A (.forLoop target it body orelse env) (fun r s' => match r with | .ok f => Q f s' | .error e => cameBackBy M A env E e s') s₂) E s₁) E s)
    (hs : ∀ x, foldedSetIterable iter env x = pure x := by intro _; rfl) : _root_.PySem.wpAt M A c (exec (.For target iter body orelse pos) env) Q E s := by
  rw [exec_For]
  exact _root_.PySem.wpAt_bind (wpAt_of_wpAny (wpAny_standAt (_root_.PySem.wpAt_bind (athn h fun x s₁ h₁ => wpAt_of_wpAny (wpAny_bind (wpAny_of_eq (hs x) (wpAny_bind (wpAny_standAt (wpAny_bind (wpAny_holding
    (wpAny_mono h₁ (fun it s₂ h₂ => wpAny_runOwn h₂) fun _ _ h' => h')))))))))))
end
section
variable {X : Cx} {c : Code} {tg : Expr}
/-- the reading of a for over a list (its expression te), the list standing through the loop -/
def tForL (K : PySem.W.Frag) (te : TE) (g : TG) (tb : L2.TS) : L2.TS := fun D σ H => te σ H fun x H1 => ∃ (a : Addr) (xs : List V) (P : Nat → L2.St → Hp → Prop), x = .ref a ∧ P 0 σ H1 ∧ (∀ i σ H, P i σ H → SqL K H a xs) ∧
  (∀ i y σ H, xs[i]? = some y → P i σ H → g y σ H fun σ2 H2 => tb { D with nx := P (i + 1), ct := P (i + 1), bk := D.nx } σ2 H2) ∧ ∀ σ H, P xs.length σ H → D.nx σ H
theorem qs_forL {iter : Expr} {body : List Stmt} {te : TE} {g : TG} {tb : L2.TS} {pos : Pos} (hp : PassesOwn (model X.prog X.w) X.A X.env X.xe) (hc : X.calm = true) (hi : QE X c iter te) (hg : PG X tg g) (hb : PSs X body tb)
    (hs : ∀ x, foldedSetIterable iter X.env x = pure x := by intro _; rfl) : QS X c (.For tg iter body [] pos) (tForL X.K te g tb) := by
  refine ⟨fun pins s σ H D I h => at_For (athn (hi.run pins s σ H _ I h) ?_) hs⟩
  rintro v s1 ⟨x, H1, I1, rx, a, xs, P, rfl, hP, hq, turn, done⟩
  cases rx
  obtain ⟨its, rv, hl, hz⟩ := I1.list (hq 0 σ H1 hP)
  refine wpAny_pyIter_list hl.isList ?_
  have T : Turn X.prog X.w X.K tg (Itl X.K a) [s1.heap.objs.size] s1.heap.objs.size fun i h => h.IsListIter s1.heap.objs.size a i := turn_list a _
  have one : ∀ {b : Addr}, b ∈ [s1.heap.objs.size] → b = s1.heap.objs.size := fun hb => by simpa using hb
  have ok0 := I1.fpOk (H' := H1) (Nat.le_refl s1.heap.objs.size) (I1.hok.fresh (Nat.le_refl _))
  -- the turn's number, its measure
  refine codeAny_forLoop_any (fun n s' => ∃ i σ' H', n + i = xs.length ∧ Inv X pins σ' H' s' ∧ s'.heap.IsListIter s1.heap.objs.size a i ∧ H' s1.heap.objs.size = none ∧ P i σ' H') ?_ xs.length
    ⟨0, σ, H1, rfl, I1.kept (t' := s1.toks) fun _ _ z => Heap.get?_push_of_some _ z, ⟨_, Heap.get?_push_size _ rfl, rfl, rfl⟩, ok0.1, hP⟩
  rintro n s3 ⟨i, σ3, H3, hn, I3, it3, n3, P3⟩
  have ok3 : ∀ {G : Hp}, G s1.heap.objs.size = none → ∀ b ∈ [s1.heap.objs.size], FpOk X pins G b := fun z b hb => by rw [one hb]; exact ⟨z, ok0.2⟩
  by_cases hlt : i < xs.length
  · obtain ⟨y, hy⟩ : ∃ y, xs[i]? = some y := ⟨_, List.getElem?_eq_getElem hlt⟩
    refine wpAny_passesOwn hp (thn (T.item X rfl rfl rfl hc i pins s3 σ3 H3 X.xe I3 (ok3 n3) it3 ⟨xs, y, hq _ _ _ P3, hy⟩) ?_)
    rintro _ s4 ⟨u, rfl, h4⟩
    refine wpAny_passesOwn hp (thn h4 ?_)
    rintro _ s5 ⟨z, H5, I5, r5, ⟨rfl, ey⟩, it5, fr5⟩
    obtain rfl : y = z := Option.some.inj (hy.symm.trans (ey xs (hq _ _ _ P3)))
    have I6 := I5.pinned (ok3 n3) (T.obj _ _ it5)
    refine wpAny_passesOwn hp (thn (hg.run _ s5 σ3 _ y u _ I6 r5 (turn i y σ3 _ hy P3)) ?_)
    rintro _ s6 ⟨σ6, H6, I7, q6⟩
    refine wpAny_passesOwn hp (thn (hb.run _ s6 σ6 H6 _ I7 q6) fun fl s7 q7 => ?_)
    obtain ⟨oi, hoi, hci, hdi⟩ := id it5
    have back : ∀ {σ7 : L2.St} {H7 : Hp}, Inv X (pins ++ pinsAt [s1.heap.objs.size] s5.heap) σ7 H7 s7 → P (i + 1) σ7 H7 →
        ∃ m, m < n ∧ ∃ i σ' H', m + i = xs.length ∧ Inv X pins σ' H' s7 ∧ s7.heap.IsListIter s1.heap.objs.size a i ∧ H' s1.heap.objs.size = none ∧ P i σ' H' := fun {σ7 H7} I8 p8 => by
      have pn := I8.pin _ (List.mem_append_right _ (List.mem_append_right _ (mem_pinsAt (List.mem_singleton.mpr rfl) hoi)))
      exact ⟨n - 1, by omega, i + 1, σ7, H7, by omega, I8.unpinned, ⟨oi, pn.1, hci, hdi⟩, pn.2.1, p8⟩
    cases fl with
    | next => obtain ⟨_, _, I8, p8⟩ := q7; exact back I8 p8
    | cont => obtain ⟨_, _, I8, p8⟩ := q7; exact back I8 p8
    | brk => obtain ⟨_, _, I8, p8⟩ := q7; exact ⟨_, _, I8.unpinned, p8⟩
    | ret w => obtain ⟨_, _, _, I8, r8, p8⟩ := q7; exact ⟨_, _, _, I8.unpinned, r8, p8⟩
  · have ei : i = xs.length := by omega
    subst ei
    refine wpAny_passesOwn hp (thn (T.done X rfl rfl rfl hc _ pins s3 σ3 H3 X.xe I3 (ok3 n3) it3 ⟨xs, hq _ _ _ P3, Nat.le_refl _⟩) ?_)
    rintro _ s4 ⟨rfl, I4⟩
    exact wpAny_execs_nil ⟨σ3, H3, I4, done _ _ P3⟩
end
end K4
/-! own rules, part 2: a method that closes over __class__ -/
namespace K4
open PySem PySem.Spec PyProof.Rows L2

/-! ### a call's environment with captured cells and own cells -/
theorem cells_acc : ∀ (names : List (Str × NameKind)) (n : Nat) (acc : List (Str × Addr)), cellsFrom n names acc = cellsFrom n names [] ++ acc
  | [], _, _ => rfl
  | (x, k) :: r, n, acc => by
    unfold cellsFrom
    cases hk : (k == NameKind.cell) with
    | true =>
      rw [if_pos rfl, if_pos rfl, cells_acc r (n + 1) ((x, n) :: acc), cells_acc r (n + 1) [(x, n)], List.append_assoc]
      all_goals rfl
    | false =>
      rw [if_neg Bool.false_ne_true, if_neg Bool.false_ne_true]
      exact cells_acc r n acc
theorem store_two {env : Env} {cs : List (Str × Addr)} {n : Str} {v : Value} (h : env.kindOf n = some .local ∨ (env.kindOf n = some .cell ∧ ∃ c, cs.lookup n = some c ∧ env.cells.lookup n = some c)) :
    storeName env n v = storeName { env with cells := cs } n v := by
  rcases h with h | ⟨h, c, h1, h2⟩
  · have h' : ({ env with cells := cs } : Env).kindOf n = some .local := h
    unfold storeName
    rw [h, h'] <;> rfl
  · have h' : ({ env with cells := cs } : Env).kindOf n = some .cell := h
    unfold storeName _root_.PySem.cellOf
    rw [h, h', h1, h2] <;> rfl
section
variable {M : Model} {A : Around} {E : Value → Shared → Prop} {s s₀ : Shared} {env : Env} {cs : List (Str × Addr)}
theorem bind_two (f : Str × Value → PUnit → Sem (ForInStep PUnit)) (hf : ∀ n v u, f (n, v) u = (do storeName env n v; pure (.yield ⟨⟩))) (hk : env.scope.kind = .function) (hc : ∀ x c, cs.lookup x = some c → env.cells.lookup x = some c) :
    ∀ (bs : List (Str × Value)) (m cm : Str → Option Value) (s : Shared) (Q : PUnit → Shared → Prop), InCallC s₀ env.locals m cs cm s →
      (∀ x ∈ bs, env.kindOf x.1 = some .local ∨ (env.kindOf x.1 = some .cell ∧ (cs.lookup x.1).isSome = true)) →
      (∀ s', InCallC s₀ env.locals (bindL env.kindOf bs m) cs (bindC env.kindOf bs cm) s' → Q ⟨⟩ s') → wpAny M A (forIn bs ⟨⟩ f) Q E s
  | [], m, cm, s, Q, x, _, h => by
    rw [List.forIn_nil]
    exact wpAny_pure (h s x)
  | (n, v) :: r, m, cm, s, Q, x, hb, h => by
    have hr : ∀ y ∈ r, env.kindOf y.1 = some .local ∨ (env.kindOf y.1 = some .cell ∧ (cs.lookup y.1).isSome = true) := fun y hy => hb y (List.mem_cons_of_mem _ hy)
    rw [List.forIn_cons, hf]
    rcases hb (n, v) List.mem_cons_self with hl | ⟨hl, he⟩
    · rw [store_two (cs := cs) (.inl hl)]
      refine wpAny_bind (wpAny_bind (stLC (env := { env with cells := cs }) x hk hl fun s' x' => wpAny_pure (bind_two f hf hk hc r _ _ s' Q x' hr fun s'' x'' => h s'' ?_)))
      have e1 : bindL env.kindOf ((n, v) :: r) m = bindL env.kindOf r (fun y => if y = n then some v else m y) := by
        show bindL env.kindOf r (if env.kindOf n = some .local then _ else _) = _
        rw [if_pos hl]
      have e2 : bindC env.kindOf ((n, v) :: r) cm = bindC env.kindOf r cm := by
        show bindC env.kindOf r (if env.kindOf n = some .local then _ else _) = _
        rw [if_pos hl]
      rw [e1, e2]
      exact x''
    · obtain ⟨c, e⟩ := Option.isSome_iff_exists.mp he
      have hn : ¬ env.kindOf n = some .local := by rw [hl]; decide
      rw [store_two (cs := cs) (.inr ⟨hl, c, e, hc n c e⟩)]
      refine wpAny_bind (wpAny_bind (stCC (env := { env with cells := cs }) x hk hl e fun s' x' => wpAny_pure (bind_two f hf hk hc r _ _ s' Q x' hr fun s'' x'' => h s'' ?_)))
      have e1 : bindL env.kindOf ((n, v) :: r) m = bindL env.kindOf r m := by
        show bindL env.kindOf r (if env.kindOf n = some .local then _ else _) = _
        rw [if_neg hn]
      have e2 : bindC env.kindOf ((n, v) :: r) cm = bindC env.kindOf r (fun y => if y = n then some v else cm y) := by
        show bindC env.kindOf r (if env.kindOf n = some .local then _ else _) = _
        rw [if_neg hn]
      rw [e1, e2]
      exact x''
end
abbrev envS (qual : Str) (sc : Scope) (L f : Addr) (cd : Value) (cl : List (Str × Addr)) : Env := PySem.W.envX qual sc L f cd (cellsFrom (L + 1) sc.names [] ++ cl)
theorem own_name {n : Nat} {x : Str} {c : Addr} : ∀ {names : List (Str × NameKind)} {n : Nat} {acc : List (Str × Addr)}, (x, c) ∈ cellsFrom n names acc → (x, c) ∈ acc ∨ (x, NameKind.cell) ∈ names
  | [], _, _, h => .inl h
  | (y, k) :: r, n, acc, h => by
    unfold cellsFrom at h
    cases hk : (k == NameKind.cell) with
    | true =>
      rw [hk, if_pos rfl] at h
      rcases own_name (n := n) h with q | q
      · rcases List.mem_cons.mp q with q | q
        · cases q
          refine .inr ?_
          rw [eq_of_beq hk]
          exact List.mem_cons_self
        · exact .inl q
      · exact .inr (List.mem_cons_of_mem _ q)
    | false =>
      rw [hk, if_neg Bool.false_ne_true] at h
      rcases own_name (n := n) h with q | q
      · exact .inl q
      · exact .inr (List.mem_cons_of_mem _ q)
theorem has_look {p : Str × Addr} : ∀ {l : List (Str × Addr)}, p ∈ l → ∃ c, l.lookup p.1 = some c
  | [], h => nomatch h
  | (a, b) :: r, h => by
    rw [List.lookup_cons]
    cases hb : (p.1 == a) with
    | true => exact ⟨b, rfl⟩
    | false =>
      rcases List.mem_cons.mp h with z | z
      · rw [z] at hb
        simp at hb
      · exact has_look z
/-- the names of a method that closes over the names of cl: N's first are the parameters -/
structure SScope (N ps : List Str) (cl : List Str) (sc : Scope) : Prop where
  kind : sc.kind = .function
  co : sc.isCoroutine = false
  gen : sc.isGenerator = false
  nd : N.Nodup
  pre : N.take ps.length = ps
  par : ∀ x ∈ ps, sc.names.lookup x = some .local ∨ sc.names.lookup x = some .cell
  free : ∀ y ∈ sc.names, y.2 = .free → y.1 ∈ cl
  out : ∀ x ∈ cl, x ∉ N ∧ sc.names.lookup x = some .free
  one : ∀ y ∈ sc.names, sc.names.lookup y.1 = some y.2
/-- the context of such a method's body at its entry -/
def scx (CX : CXT) (P : Program) (w : World) (K : PySem.W.Frag) (mg : Str → Option Value) (base : Heap) (N : List Str) (qual : Str) (sc : Scope) (f : Addr) (cd : Value) (cl : List (Str × Addr)) (A : Around) (outer : List Env) (s : Shared) (H : Hp) (E : XK) : Cx where
  prog := P
  w := w
  K := K
  mg := mg
  base := base
  A := A.deeper (envS qual sc s.heap.objs.size f cd cl)
  N := N
  s_0 := s
  H_0 := H
  env := envS qual sc s.heap.objs.size f cd cl
  outer := outer
  stack := envS qual sc s.heap.objs.size f cd cl :: outer
  ex := []
  calm := true
  fn := fun x => decide (sc.names.lookup x = some .cell)
  pn := []
  xe := fun e s' => wpAny (model P w) (A.deeper (envS qual sc s.heap.objs.size f cd cl)) (leaving (envS qual sc s.heap.objs.size f cd cl) e) (fun _ s'' => CX outer H s E e s'') (fun e' s'' => CX outer H s E e' s'') s'
section
variable {CX : CXT} {P : Program} {w : World} {K : PySem.W.Frag} {mg : Str → Option Value} {base : Heap} {N ps : List Str} {qual : Str} {sc : Scope} {f : Addr} {cd : Value} {cl : List (Str × Addr)} {A : Around} {outer : List Env} {s s1 : Shared} {H : Hp} {E : XK} {us : List Value} {vs : List V}
theorem look_two {x : Str} {c : Addr} {n : Nat} (h : (cellsFrom n sc.names [] ++ cl).lookup x = some c) : (cellsFrom n sc.names []).lookup x = some c ∨ ((cellsFrom n sc.names []).lookup x = none ∧ cl.lookup x = some c) := by
  rw [List.lookup_append] at h
  cases e : (cellsFrom n sc.names []).lookup x with
  | some d =>
    rw [e] at h
    exact .inl h
  | none =>
    rw [e] at h
    exact .inr ⟨rfl, h⟩
/-- what stands at the entry; the captured cells stand in the written part -/
theorem inv_startS (S : SScope N ps (cl.map (·.1)) sc) (hd : A.handled = none) (e0 : Env0 P w K mg base A outer s H) (hl : vs.length = ps.length) (r : Vals vs us) (hcl : ∀ p ∈ cl, ∃ v, base.IsCell p.2 v) (hinj : cl.Pairwise fun x y => x.2 ≠ y.2)
    (x : InCallC s s.heap.objs.size (bindL (envS qual sc s.heap.objs.size f cd cl).kindOf (ps.zip us) fun _ => none) (cellsFrom (s.heap.objs.size + 1) sc.names []) (bindC (envS qual sc s.heap.objs.size f cd cl).kindOf (ps.zip us) fun _ => none) s1) :
    Inv (scx CX P w K mg base N qual sc f cd cl A outer s H E) [] (start N vs) H s1 := by
  obtain ⟨h1, tk, rfl, hk⟩ := x.done
  have hpl : ps.length ≤ N.length := by
    have q := congrArg List.length S.pre
    rw [List.length_take] at q
    omega
  have ndP : ps.Nodup := by
    rw [← S.pre]
    exact S.nd.sublist (List.take_sublist _ _)
  have nex : ∀ b : Addr, b ∉ (scx CX P w K mg base N qual sc f cd cl A outer s H E).ex := fun b z => (List.not_mem_nil z : False)
  have old : ∀ p ∈ cl, ∃ v, base.IsCell p.2 v ∧ p.2 < s.heap.objs.size ∧ H p.2 = none := fun p hp => by
    obtain ⟨v, o, ho, hv⟩ := hcl p hp
    exact ⟨v, ⟨o, ho, hv⟩, Heap.lt_size (e0.bs _ _ ho).1, (e0.bs _ _ ho).2⟩
  have ab : ∀ y c, (cellsFrom (s.heap.objs.size + 1) sc.names []).lookup y = some c → s.heap.objs.size < c := fun y c h => x.above y c (PySem.mem_of_lookup h)
  have cellOld : ∀ {c : Addr} {v : Option Value}, base.IsCell c v → (({ s with heap := h1, toks := tk } : Shared).heap).IsCell c v := fun {c v} ⟨o, ho, hv⟩ => ⟨o, hk _ _ (e0.bs _ _ ho).1, hv⟩
  refine ⟨⟨e0.mod, S.kind, rfl, rfl, Nat.le_refl _, fun y z c ey ez => ?_, fun y hy => ?_, fun y c hf ey => ?_, fun _ => hd, Around.frames_deeper e0.frames, .inr ⟨rfl, rfl⟩, fun b z => absurd z (nex b), e0.bs, e0.bsz, fun b _ _ => nex b, fun b z => absurd z (nex b), e0.funs, e0.frf⟩,
    rfl, e0.bare, Un.kept hk, ⟨_, x.toInCall.ns, fun i y v e1 e2 e3 => ?_⟩, fun y c ey => ?_, e0.hok.fresh (Nat.le_refl _), fun y c ey => ?_, fun p hp => (List.not_mem_nil hp : False).elim, e0.hok.kept hk, ?_⟩
  · -- one cell, one name
    rcases look_two ey with a | ⟨_, a⟩ <;> rcases look_two ez with b | ⟨_, b⟩
    · exact name_of_addr x.apart (PySem.mem_of_lookup a) (PySem.mem_of_lookup b)
    · obtain ⟨_, _, q, _⟩ := old _ (PySem.mem_of_lookup b)
      exact absurd (Nat.lt_trans (ab y c a) q) (Nat.lt_irrefl _)
    · obtain ⟨_, _, q, _⟩ := old _ (PySem.mem_of_lookup a)
      exact absurd (Nat.lt_trans (ab z c b) q) (Nat.lt_irrefl _)
    · exact name_of_addr hinj (PySem.mem_of_lookup a) (PySem.mem_of_lookup b)
  · show ∃ c, (cellsFrom (s.heap.objs.size + 1) sc.names [] ++ cl).lookup y = some c
    rw [List.lookup_append]
    have hy : sc.names.lookup y = some .cell ∨ sc.names.lookup y = some .free := hy
    rcases hy with hy | hy
    · obtain ⟨c, e⟩ := cell_has (n := s.heap.objs.size + 1) hy
      exact ⟨c, by rw [e] <;> rfl⟩
    · have hm := S.free _ (PySem.mem_of_lookup hy) rfl
      cases e : (cellsFrom (s.heap.objs.size + 1) sc.names []).lookup y with
      | some c => exact ⟨c, rfl⟩
      | none =>
        obtain ⟨p, hp, ep⟩ := List.mem_map.mp hm
        have ep : p.1 = y := ep
        have hex : ∃ c, cl.lookup y = some c := by
          rw [← ep]
          exact has_look hp
        obtain ⟨c, ec⟩ := hex
        exact ⟨c, ec⟩
  · have hf : decide (sc.names.lookup y = some .cell) = true := hf
    rcases look_two ey with a | ⟨_, a⟩
    · exact Nat.le_of_lt (ab y c a)
    · have q := (S.out y (List.mem_map.mpr ⟨(y, c), PySem.mem_of_lookup a, rfl⟩)).2
      rw [of_decide_eq_true hf] at q
      cases q
  · have hi : i < vs.length := by
      by_cases hi : i < vs.length
      · exact hi
      · unfold L2.start at e2
        rw [List.getElem?_append_right (by simpa using hi), List.getElem?_replicate] at e2
        split at e2 <;> cases e2
    have ha : vs[i]? = some v := by
      unfold L2.start at e2
      rw [List.getElem?_append_left (by simpa using hi), List.getElem?_map] at e2
      cases e : vs[i]? with
      | none => rw [e] at e2; cases e2
      | some a => rw [e] at e2; cases e2; rfl
    obtain ⟨u, hu, rv⟩ := r.get ha
    have hp : ps[i]? = some y := by
      rw [← S.pre, List.getElem?_take_of_lt (by omega)]
      exact e1
    refine ⟨u, rv, ?_⟩
    rcases S.par y (List.mem_of_getElem? hp) with k | k
    · exact .inl ⟨k, bindL_get ndP hp hu k⟩
    · obtain ⟨c, e⟩ := cell_has (n := s.heap.objs.size + 1) k
      refine .inr ⟨.inl k, c, ?_, ?_⟩
      · show (cellsFrom (s.heap.objs.size + 1) sc.names [] ++ cl).lookup y = some c
        rw [List.lookup_append, e] <;> rfl
      · have q := x.cell y c e
        rw [bindC_get ndP hp hu (by show sc.names.lookup y ≠ _; rw [k]; decide)] at q
        exact q
  · rcases look_two ey with a | ⟨_, a⟩
    · exact ⟨_, x.cell y c a⟩
    · obtain ⟨v, q, _⟩ := old _ (PySem.mem_of_lookup a)
      exact ⟨v, cellOld q⟩
  · rcases look_two ey with a | ⟨_, a⟩
    · exact e0.hok.fresh (Nat.le_of_lt (ab y c a))
    · obtain ⟨_, _, _, q⟩ := old _ (PySem.mem_of_lookup a)
      exact q
  · unfold L2.start
    show _ = N.length
    rw [List.length_append, List.length_map, List.length_replicate]
    omega
end
/-- the cells that a method closes over -/
abbrev clo (cc : Addr) : List (Str × Addr) := [("__class__", cc)]
/-- THE RULE for a method that closes over __class__ (its cell at cc): its body in its own activation -/
theorem fn_ofS {CX : CXT} {P : Program} {w : World} {K : PySem.W.Frag} {mg : Str → Option Value} {base : Heap} {k : Nat} {f cc : Addr} {name qual : Str} {params : Arguments} {body : List Stmt} {sc : Scope} {dV kV doc pm cdv ct oc : Value} {an od : Option Addr}
    {osl : Array (Option Value)} {N ps : List Str} {sp : Sp} (lk : K.lookup f = some ⟨oc, od, .func (PySem.W.ksFn name qual params body sc dV kV doc pm an cdv ct cc), osl⟩) (hcd : PySem.W.codeIn K cdv qual = true) (S : SScope N ps ((clo cc).map (·.1)) sc)
    {occ : Value} {odc : Option Addr} {vc : Option Value} {slc : Array (Option Value)} (lc : K.lookup cc = some ⟨occ, odc, .cell vc, slc⟩)
    (len : ∀ vs H Q E, sp vs H Q E → vs.length = ps.length)
    (hbody : ∀ (A : Around) (outer : List Env) (s : Shared) (H : Hp) (vs : List V) (Q : VK) (E : XK), Room k (A.deeper (envS qual sc s.heap.objs.size f cdv (clo cc))) → sp vs H Q E →
      ∃ t, QSs (scx CX P w K mg base N qual sc f cdv (clo cc) A outer s H E) (.func body (envS qual sc s.heap.objs.size f cdv (clo cc))) body t ∧ t { nx := fun _ H' => Q .non H', rt := Q } (start N vs) H) :
    FnOk P w K mg base CX (k + 1) f (PySem.W.ksFn name qual params body sc dV kV doc pm an cdv ct cc) ps sp := by
  refine ⟨len, fun A outer s H args us vs Q E hr e0 hb r hsp => ?_⟩
  have hl := len _ _ _ _ hsp
  have KX : K.In s.heap := e0.mod.kin.keeps fun b o e => (e0.bs b o e).1
  have lim : s.heap.NoLimit := e0.mod.nolimit.keeps fun b o e => (e0.bs b o e).1
  refine codeAny_call_function hr.depth (KX _ _ lk) rfl S.co S.gen rfl (PySem.W.codeRec_of KX hcd) (hb _ _ _ _ ?_)
  have own : ∀ y c, (cellsFrom (s.heap.objs.size + 1) sc.names []).lookup y = some c → sc.names.lookup y = some .cell := fun y c e => by
    rcases own_name (n := 0) (PySem.mem_of_lookup e) with q | q
    · cases q
    · exact S.one _ q
  -- the frame, the cells, the parameters
  show wpAny (model P w) A.in1 (newFunctionEnv sc mainGlobals (clo cc) (ps.zip us) (qual ++ ".<locals>.") (some f) cdv none builtinsNs) _ _ s
  simp only [newFunctionEnv, Option.isSome_none, Bool.false_eq_true, if_false]
  refine wpAny_bind (wpAny_alloc ?_)
  refine wpAny_bind (wpAny_layCells _ (fun name kind cells => by cases hkc : kind == NameKind.cell <;> simp [hkc]) _ _ _ _ ?_)
  have ok := cellsFrom_ok sc.names (s.heap.push { cls := .type "frame", data := .dict #[] }) (s.heap.objs.size + 1) [] ⟨fun _ _ hm => (nomatch hm), List.Pairwise.nil⟩ (by rw [Heap.size_push]; exact Nat.le_refl _)
  rw [Heap.size_push] at ok
  rw [show ({ s with heap := s.heap.push { cls := .type "frame", data := .dict #[] } } : Shared).heap.objs.size = s.heap.objs.size + 1 from Heap.size_push .., cells_acc]
  refine wpAny_bind (bind_two (s₀ := s) (env := envS qual sc s.heap.objs.size f cdv (clo cc)) (cs := cellsFrom (s.heap.objs.size + 1) sc.names []) _ (fun _ _ _ => rfl) S.kind (fun y c e => ?_) (ps.zip us) (fun _ => none) (fun _ => none) _ _
    ⟨⟨⟨_, _, rfl⟩, (Heap.Ns.new s.heap (.type "frame")).keeps (pushCells_keeps _ _), fun b o e => pushCells_keeps _ _ b o (Heap.get?_push_of_some _ e), Nat.le_refl _⟩,
      fun n c hc => (ok.empty n c (PySem.mem_of_lookup hc)).1, ok.apart, fun n c hm => (ok.empty n c hm).2⟩ (fun ⟨n, v⟩ hy => ?_) fun s1 x => wpAny_pure ⟨lim.keeps x.toInCall.keep, ?_⟩)
  · show (cellsFrom (s.heap.objs.size + 1) sc.names [] ++ (clo cc)).lookup y = some c
    rw [List.lookup_append, e] <;> rfl
  · rcases S.par n (List.of_mem_zip hy).1 with q | q
    · exact .inl q
    · exact .inr ⟨q, PySem.W.cellsFrom_some _ _ _ (.inl q)⟩
  · refine ks_codeAny_funcAt ?_
    obtain ⟨t, ht, hq⟩ := hbody A outer s H vs Q E (hr.deeper _) hsp
    have I : Inv (scx CX P w K mg base N qual sc f cdv (clo cc) A outer s H E) [] (start N vs) H s1 :=
      inv_startS S hr.hd e0 hl r (fun p hp => by rw [List.mem_singleton.mp hp]; exact ⟨_, _, e0.mod.kin _ _ lc, rfl⟩) (List.pairwise_singleton _ _) x
    refine ks_wpAt_mono (ht.run [] s1 (start N vs) H _ I hq) (fun fl s' hs => ?_) fun e s' hs => hs
    have fin : ∀ {σ' : L2.St} {H' : Hp} {v : V} {u : Value}, Inv (scx CX P w K mg base N qual sc f cdv (clo cc) A outer s H E) [] σ' H' s' → RelV v u → Q v H' → CE outer P w H s Q u s' :=
      fun {σ' H' v u} J rv q => ⟨v, H', J.os, J.bare, J.base, J.hok, rv, q⟩
    cases fl with
    | ret u =>
      obtain ⟨v, σ', H', J, rv, q⟩ := hs
      exact fin J rv q
    | next =>
      obtain ⟨σ', H', J, q⟩ := hs
      exact fin (v := V.non) (u := Value.none) J rfl q
    | brk =>
      obtain ⟨_, _, _, q⟩ := hs
      exact False.elim q
    | cont =>
      obtain ⟨_, _, _, q⟩ := hs
      exact False.elim q
end K4
/-! own rules, part 3: super().m(word) -/
namespace K4
open PySem PySem.Spec PyProof.Rows L2

/-- what super() leans on in a method of the class at D (its function at f, its code at cda, its cell at cc): the written part -/
structure SupAt (P : Program) (K : PySem.W.Frag) (f cda cc D : Addr) : Prop where
  fn : ∃ (oc : Value) (od : Option Addr) (fd : FuncData) (osl : Array (Option Value)) (ar : Arg), K.lookup f = some ⟨oc, od, .func fd, osl⟩ ∧ (fd.params.posonlyargs ++ fd.params.args).head? = some ar ∧ ar.arg = ("self" : Str)
  code : ∃ (oc : Value) (od : Option Addr) (vs : Array Value) (osl : Array (Option Value)) (file : Str) (tf : Tok), K.lookup cda = some ⟨oc, od, .fields vs, osl⟩ ∧ vs[2]? = some (.str file tf) ∧ ((P.main.file : Str) == file) = true
  cell : ∃ (oc : Value) (od : Option Addr) (osl : Array (Option Value)), K.lookup cc = some ⟨oc, od, .cell (some (.ref D)), osl⟩
  cls : ∃ cd, PySem.W.clsIn K D = some cd
  top : (P.main.scope.names.lookup ("super" : Str)).isSome = false
/-- .. and what it finds for an instance of the class at C: the method m's function at f2 -/
structure SupTo (K : PySem.W.Frag) (C D : Addr) (m : Str) (f2 : Addr) : Prop where
  sub : PySem.W.mroIn K C (.ref D) = some true
  opq : PySem.W.nsIn K PySem.cStatics "thirdparty.any" = some none
  at_ : PySem.W.ks_superIn K C D m = some (some (.ref f2))
  ty : PySem.W.typeIn K (.ref f2) = some (.type "function")
  fn : PySem.W.fnIn K f2 = true
theorem cls_obj {K : PySem.W.Frag} {D : Addr} {cd : ClassData} {h : Heap} (X : K.In h) (e : PySem.W.clsIn K D = some cd) : ∃ o, h.get? D = some o ∧ o.data = .cls cd ∧ K.lookup D = some o := by
  unfold PySem.W.clsIn at e
  split at e
  · rename_i q
    cases e
    exact ⟨_, X _ _ q, rfl, q⟩
  · cases e
/-- super().m(e, ..): self is what slot 0 holds -/
def tSuper (C : Addr) (sp : Sp) (E : XK) (t : TA) : TE := fun σ H Q => ∃ a dx fs, σ[0]? = some (some (.ref a)) ∧ H a = some (.ins C dx fs) ∧ t σ H fun vs H1 => sp (.ref a :: vs) H1 Q E
theorem qe_super {X : Cx} {CX : CXT} {k : Nat} {f cda cc D C f2 : Addr} {body : List Stmt} {fd2 : FuncData} {ps : List Str} {sp : Sp} {E : XK} {m : Str} {p0 p1 apos pos : Pos} {e : Expr} {es : List Expr} {t : TA}
    (hfu : X.env.func = some f) (hco : X.env.code = .ref cda) (hcl : X.env.cells.lookup ("__class__" : Str) = some cc) (hS : X.N[0]? = some ("self" : Str)) (hself : X.env.scope.names.lookup ("self" : Str) = some .local)
    (hks : X.env.scope.names.lookup ("super" : Str) = some .globalImplicit) (hkc : X.env.scope.names.lookup ("__class__" : Str) = some .free) (hms : X.mg "super" = none) (hat : (m == ("__class__" : Str)) = false)
    (T : SupAt X.prog X.K f cda cc D) (U : SupTo X.K C D m f2) (F : FnOk X.prog X.w X.K X.mg X.base CX k f2 fd2 ps sp) (hr : Room k X.A) (hb : Binds X.K fd2 ps []) (hx : Passes CX X E) (ha : PA X (e :: es) t)
    (hst : starEach (e :: es) X.env = (false, eval e X.env) :: starEach es X.env := by rfl) (hpl : (backTo pos (starEach es X.env)).any (·.1) = false := by rfl)
    (pl : Sem Bool := pure false)
    (ht : eval (.Call (.Attribute (.Call (.Name "super" p0) [] [] p1) m apos) (e :: es) [] pos) X.env = (do
      let ov ← attributeBase (.Call (.Name "super" p0) [] [] p1) m X.env (eval (.Call (.Name "super" p0) [] [] p1) X.env)
      standAt apos.atName
      let (f, first) ← holding [ov] (getMethod ov m pl)
      callWith pos f first (backTo pos (starEach (e :: es) X.env)) []) := by rfl) :
    QE X (.func body X.env) (.Call (.Attribute (.Call (.Name "super" p0) [] [] p1) m apos) (e :: es) [] pos) (tSuper C sp E t) := by
  refine ⟨fun pins s σ H Q I h => ?_⟩
  obtain ⟨a, dx, fs, hσ, hH, h⟩ := h
  have KX := I.kIn
  obtain ⟨oc, od, fd, osl, ar, lf, har, ears⟩ := T.fn
  obtain ⟨occ, odc, vs, oslc, file, tf, lcode, hvs, hfile⟩ := T.code
  obtain ⟨ocl, odl, oll, lcell⟩ := T.cell
  obtain ⟨cdD, hD⟩ := T.cls
  obtain ⟨oD, hoD, hdD, _⟩ := cls_obj KX hD
  obtain ⟨mA, O, _, _, _, _⟩ := ins_get I.hok hH
  obtain ⟨m0, hns, hl⟩ := I.loc
  obtain ⟨us, rs, lk⟩ := hl 0 "self" (.ref a) hS hσ (.inl hself)
  obtain rfl : us = Value.ref a := rs
  refine ks_wpAt_MethodCall (pl := pl) ?_ ht
  refine ks_wpAt_super_base hks hkc hat hfu (KX _ _ lf) rfl har hco (KX _ _ lcode) rfl hvs hfile T.top ?_
  -- super, __class__, self
  obtain ⟨mb, hb1, hb2⟩ := I.mod.blt
  refine PySem.W.ks_loadName_global I.ok.kind hks (Calls.loadGlobal_builtin (by rw [I.ok.glob]; exact I.mod.glob.keeps I.bk) hms (by rw [I.ok.blt]; exact hb1.keeps I.bk) ((hb2 _ (by decide +kernel)).trans (by decide +kernel : bootBuiltins "super" = some (.type "super"))) ⟨rfl, ?_⟩)
  refine wpAny_loadName_free I.ok.kind hkc hcl ⟨_, KX _ _ lcell, rfl⟩ ?_
  rw [ears]
  have hmS : m0 "self" = some (.ref a) := by
    rcases lk with ⟨_, q⟩ | ⟨q, _⟩
    · exact q
    · rcases q with q | q
      · have q' : X.env.scope.names.lookup ("self" : Str) = some .cell := q
        rw [hself] at q'
        cases q'
      · have q' : X.env.scope.names.lookup ("self" : Str) = some .free := q
        rw [hself] at q'
        cases q'
  refine wpAny_loadName_local I.ok.kind hself hns hmS ?_
  obtain ⟨hh, g, d, tk, os⟩ := s
  refine ks_wpAny_isType_cls hoD hdD ⟨rfl, ?_⟩
  -- the super object
  refine ks_wpAny_call_super hoD hdD O.obj rfl (fun c z => by cases z) (PySem.W.looks_mroIn KX U.sub) fun h1 e1 k1 => ?_
  have I1 : Inv X pins σ H ⟨h1, g, d, tk, os⟩ := I.kept (t' := tk) k1
  -- the bound method
  have U1 := U.at_
  unfold PySem.W.ks_superIn at U1
  cases hc : PySem.W.clsIn X.K C with
  | none =>
    rw [hc] at U1
    cases U1
  | some cdC =>
    rw [hc] at U1
    obtain ⟨oC, hoC, _, hkC⟩ := cls_obj KX hc
    have nac : a ≠ C := fun q => by
      have z := (I.bs C _ (I.mod.kin _ _ hkC)).2
      rw [← q, hH] at z
      cases z
    obtain ⟨of, hof, hofc⟩ : ∃ of, h1.get? f2 = some of ∧ of.cls = .type "function" := by
      have ht' : (X.K.lookup f2).map (·.cls) = some (.type "function") := U.ty
      cases z : X.K.lookup f2 with
      | none =>
        rw [z] at ht'
        cases ht'
      | some of =>
        rw [z] at ht'
        exact ⟨of, I1.kIn _ _ z, Option.some.inj ht'⟩
    refine ks_wpAny_getMethod_super e1 (PySem.W.looks_opaque I1.kIn U.opq) (l₀ := cdC.mro) (fun A Q E s k q => wpAny_bind ((PySem.W.looks_clsIn I1.kIn hc) A _ E s k (wpAny_pure q))) rfl I1.kIn U1 hof hofc nac hat ?_
    -- the arguments, the call
    have I2 : Inv X pins σ H ⟨h1.push (PySem.W.methodObj (.ref f2) (.ref a)), g, d, tk + 1, os⟩ := I1.kept (t' := tk + 1) fun _ _ z => Heap.get?_push_of_some _ z
    have fr : FpOk X pins H h1.objs.size := I1.fpOk (s := ⟨h1, g, d, tk, os⟩) (Nat.le_refl _) (I1.hok.fresh (Nat.le_refl _))
    have I3 : Inv X ((h1.objs.size, PySem.W.methodObj (.ref f2) (.ref a)) :: pins) σ H ⟨h1.push (PySem.W.methodObj (.ref f2) (.ref a)), g, d, tk + 1, os⟩ := I2.pins_of fun p hp => by
      rcases List.mem_cons.mp hp with rfl | hp
      · exact ⟨Heap.get?_push_size _ rfl, fr.1, fr.2.1, fr.2.2.1, fun v z => by cases z⟩
      · exact I2.pin p (List.mem_append_right _ hp)
    rw [hst]
    refine PySem.W.callWith_of (P := PySem.W.MethP X.K h1.objs.size f2 (.ref a)) (by show ((false || (backTo pos (starEach es X.env)).any (·.1)) || false) = false; rw [hpl]; rfl) (PySem.W.keeps_M U.fn) (Calls.evalArgs_plain ?_)
    have hrun := ha.run pos _ _ σ H _ I3 h
    rw [hst] at hrun
    refine thn hrun fun us s2 ⟨ws, H2, J, rv, q⟩ => ?_
    have pn := J.pin (h1.objs.size, PySem.W.methodObj (.ref f2) (.ref a)) (List.mem_append_right _ List.mem_cons_self)
    have J' : Inv X pins σ H2 s2 := J.pins_of fun p hp => J.pin p (List.mem_append_right _ (List.mem_cons_of_mem _ hp))
    refine ⟨⟨pn.1, J'.kIn⟩, ?_⟩
    refine wpAny_call (ks_codeAny_call_bound pn.1 ?_)
    have r2 : Vals (V.ref a :: ws) (Value.ref a :: us) := .cons rfl rv
    have hlen : ((Value.ref a :: us) ++ []).length = ps.length := by
      rw [List.append_nil, ← r2.length]
      exact F.len _ _ _ _ q
    have bd := hb s2 (Value.ref a :: us) J'.kIn hlen
    rw [List.append_nil] at bd
    refine codeAny_mono (F.run X.A X.stack s2 H2 ⟨Value.ref a :: us, []⟩ (Value.ref a :: us) (V.ref a :: ws) Q E hr J'.env0 bd r2 q) fun r s' hq => ?_
    cases r with
    | error e => exact hx pins σ H2 s2 e s' J' hq
    | ok fl =>
      cases fl with
      | ret u => exact J'.after hq
      | next => exact False.elim hq
      | brk => exact False.elim hq
      | cont => exact False.elim hq
end K4
/-! own rules, part 4: sorted(xs, key=lambda i: word[i]) -/
namespace K4
open PySem PySem.Spec PyProof.Rows L2 LamX

/-! ### one positional argument in the known activation, keywords behind it -/
section
variable {M : Model} {A : Around} {c : Code} {E : Value → Shared → Prop} {s : Shared}
theorem at_callB {pos : Pos} {id : String} {x : Sem Value} {kws : List (Option Str × Sem Value)} {Q : Value → Shared → Prop} (hall : kws.all (·.1.isSome) = true) (hnone : kws.any (·.1.isNone) = false)
    (h : _root_.PySem.wpAt M A c x (fun v s1 => wpAny M A (evalAll (kws.map (·.2))) (fun ks s2 => wpAny M A (call (.builtin id) [v] ((kws.filterMap (·.1)).zip ks)) Q E s2) E s1) E s) :
    _root_.PySem.wpAt M A c (callWith pos (.builtin id) [] [(false, x)] kws) Q E s := by
  unfold callWith
  refine _root_.PySem.wpAt_bind (ks_wpAt_holding ?_)
  unfold evalArgs
  show _root_.PySem.wpAt M A c (spliced [(false, x)] >>= _) _ _ s
  rw [spliced]
  refine _root_.PySem.wpAt_bind (_root_.PySem.wpAt_bind (athn h fun v s1 h1 => ?_))
  simp only [Bool.false_eq_true, if_false, spliced]
  refine _root_.PySem.wpAt_bind (wpAt_of_wpAny (wpAny_pure ?_))
  refine _root_.PySem.wpAt_bind (ks_wpAt_holding (wpAt_of_wpAny (wpAny_pure ?_)))
  refine wpAt_of_wpAny (wpAny_pure ?_)
  refine ks_wpAt_holding ?_
  rw [if_pos hall]
  refine wpAt_of_wpAny (wpAny_bind (wpAny_mono h1 (fun ks s2 h2 => ?_) fun _ _ z => z))
  refine wpAny_bind (wpAny_pure (wpAny_pure ?_))
  refine wpAt_of_wpAny (wpAny_bind (wpAny_standAt ?_))
  simp only [hnone, List.any_cons, List.any_nil, Bool.or_false]
  refine wpAny_bind (wpAny_pure ?_)
  exact wpAny_bind (wpAny_mono h2 (fun r s3 h3 => wpAny_bind (wpAny_holding (wpAny_point (wpAny_pure h3)))) fun _ _ z => z)
end

/-! ### the lambda: word[index] -/
section
variable {P : Program} {w : World} {A : Around} {s : Shared}
/-- the call f(i): the item of the tuple that the captured cell holds -/
theorem lam_key {f c' cw aw : Addr} {q : Str} {params : Arguments} {sc : Scope} {cl : List (Str × Addr)} {pm ctv : Value} {p1 p2 p3 : Pos} {i : Nat} {tk : Tok} {its : Array Value} {n : Int}
    (hd : A.depth < recursionLimit) (hf : s.heap.get? f = some (PySem.W.kla_obj "<lambda>" q params (.Subscript (.Name "word" p1) (.Name "index" p2) p3) sc cl pm c' ctv)) (hc : s.heap.CodeRec (.ref c') q) (hl : s.heap.NoLimit)
    (hk : sc.kind = .function) (hco : sc.isCoroutine = false) (hgen : sc.isGenerator = false) (hnc : ∀ y ∈ sc.names, y.2 ≠ .cell) (hi : sc.names.lookup ("index" : Str) = some .local) (hw : sc.names.lookup ("word" : Str) = some .free)
    (hcl : cl.lookup ("word" : Str) = some cw) (hcw : s.heap.IsCell cw (some (.ref aw))) (ht : IsTup s.heap aw its)
    (hb : ∀ v : Value, bindArgs (PySem.W.kla_fn "<lambda>" q params (.Subscript (.Name "word" p1) (.Name "index" p2) p3) sc cl pm (.ref c') ctv) ⟨[v], []⟩ = pure [(("index" : Str), v)])
    (hn : i < its.size) (h63 : its.size ≤ sizeLine) (hv : ∃ u, its[i]? = some (.int n u)) :
    wpAny (model P w) A (call (.ref f) [.int (i : Int) tk]) (PySem.W.KeyPure (.int n) s) (fun _ _ => False) s := by
  obtain ⟨u, hv⟩ := hv
  refine wpAny_call (PySem.W.kla_callFunE hd hf rfl hco hgen rfl hc ?_)
  rw [hb]
  refine wpAny_pure (wpAny_newFunctionEnv hnc (fun y hy => by rw [List.mem_singleton.mp hy]; exact hi) (fun h1 hns hsb => ⟨hl.fresh _ hsb, ?_⟩) hk)
  have kp : ∀ b o, s.heap.get? b = some o → h1.get? b = some o := fun b o e => hsb.extBut b o (Nat.ne_of_lt (Heap.lt_size e)) (Heap.get?_push_of_some _ e)
  refine PySem.W.kla_codeExpr ?_
  refine Subscript_ ?_
  refine wpAny_Name (wpAny_loadName_free hk hw hcl (v := .ref aw) (hcw.keeps kp) ?_) (by decide)
  refine wpAny_Name (wpAny_loadName_local hk hi hns (v := .int (i : Int) tk) (by rfl) ?_) (by decide)
  have ht1 : IsTup h1 aw its := by
    obtain ⟨o, ho, r⟩ := ht
    exact ⟨o, kp _ _ ho, r⟩
  have h16 := sizeLine_eq
  exact subscriptTail_builtinR (x := .int n u) (s := { s with heap := h1, toks := s.toks + _ }) ht1.typeIs slot_tuple_getitem.lookup
    (getItem_tuple (j := i) ht1 (by omega) (by omega) (by unfold seqIndex?; split <;> first | (simp; omega) | (exfalso; omega)) hv ⟨rfl, h1, _, rfl, kp, .int n u⟩)
end
/-- sorted(e, key=lambda index: word[index]): e a list of places of the word (the cell in slot iw); a new list of the same places, their letters ascending; the table of code objects may have grown -/
def tSortKey (K : PySem.W.Frag) (T : List (Addr × Str)) (iw : Nat) (te : TE) : TE := fun σ H Q => te σ H fun x H1 => ∃ (a aw : Addr) (is : List Nat) (ws : List Int), x = .ref a ∧ SqL K H1 a (is.map fun i => V.int (i : Nat)) ∧ σ[iw]? = some (some (.ref aw)) ∧
  H1 aw = some (.tup (ws.map V.int)) ∧ (∀ i ∈ is, i < ws.length) ∧ Tabs T H1 ∧
  ∀ (H2 : Hp) (p : Addr) (js : List Nat), ExtN H1 H2 → Tabs T H2 → H2 p = none → js.Perm is → js.Pairwise (fun i j => ws.getD i 0 ≤ ws.getD j 0) → Q (.ref p) (upd H2 p (.lst (js.map fun i => V.int (i : Nat))))
theorem each_of {vs : List Value} : ∀ {is : List Nat}, Vals (is.map fun i => V.int (i : Nat)) vs → PySem.W.EachIs (fun (v : Value) (i : Nat) => ∃ t, v = .int (i : Nat) t) vs is
  | [], r => by
    cases r
    exact .nil
  | i :: is, r => by
    cases r with
    | cons h t => exact .cons h (each_of t)
theorem each_back {vs : List Value} {is : List Nat} (h : PySem.W.EachIs (fun (v : Value) (i : Nat) => ∃ t, v = .int (i : Nat) t) vs is) : Vals (is.map fun i => V.int (i : Nat)) vs := by
  induction h with
  | nil => exact .nil
  | cons h t ih => exact .cons h ih
theorem qe_sortKey {X : Cx} {c : Code} {T : List (Addr × Str)} {cd P cw : Addr} {e : Expr} {te : TE} {p p1 p2 p3 lpos kpos pos : Pos} {params : Arguments} {sc : Scope} {iw : Nat} (he : QE X c e te) (hcalm : X.calm = true) (hr : Room 3 X.A)
    (hg : Gl X "sorted") (hm : X.mg "sorted" = none) (TB : TabB X.base X.mg cd P) (hcode : X.env.code = .ref cd) (hmT : (P, X.env.qual ++ "<lambda>") ∈ T) (hu : ∀ q ∈ T, q.1 = P → q.2 = X.env.qual ++ "<lambda>") (hdef : defaultsOf params X.env = ([], []))
    (hfree : ∀ y ∈ sc.names, y.2 = .free → ∃ c, X.env.cells.lookup y.1 = some c) (hk : sc.kind = .function) (hco : sc.isCoroutine = false) (hgen : sc.isGenerator = false) (hnc : ∀ y ∈ sc.names, y.2 ≠ .cell)
    (hi : sc.names.lookup ("index" : Str) = some .local) (hw : sc.names.lookup ("word" : Str) = some .free) (hN : X.N[iw]? = some ("word" : Str)) (hwc : X.env.scope.names.lookup ("word" : Str) = some .cell)
    (hcw : X.env.cells.lookup ("word" : Str) = some cw) (hclo : (cloFrom X.env.cells sc.names []).lookup ("word" : Str) = some cw)
    (hb : ∀ (q : Str) (cl : List (Str × Addr)) (pm cv ctv v : Value), bindArgs (PySem.W.kla_fn "<lambda>" q params (.Subscript (.Name "word" p1) (.Name "index" p2) p3) sc cl pm cv ctv) ⟨[v], []⟩ = pure [(("index" : Str), v)])
    (hst : starEach [e] X.env = [(false, eval e X.env)] := by rfl) :
    QE X c (.Call (.Name "sorted" p) [e] [⟨some "key", .Lambda params (.Subscript (.Name "word" p1) (.Name "index" p2) p3) sc lpos, kpos⟩] pos) (tSortKey X.K T iw te) := by
  refine ⟨fun pins s σ H Q I h => ?_⟩
  rw [arm_eval_Call_Name', hst]
  refine _root_.PySem.wpAt_bind (wpAt_of_wpAny (ld_blt I hg hm (by decide +kernel : bootBuiltins "sorted" = some (.builtin "sorted")) ?_))
  show _root_.PySem.wpAt _ _ _ (callWith pos (.builtin "sorted") [] [(false, eval e X.env)] (backToKw pos (keywordEach [⟨some "key", .Lambda params (.Subscript (.Name "word" p1) (.Name "index" p2) p3) sc lpos, kpos⟩] X.env))) _ _ _
  refine at_callB rfl rfl (athn (he.run pins s σ H _ I h) fun v s1 ⟨x, H1, I1, rx, a, aw, is, ws, ex, hL, hs, hH, hlt, hT, q⟩ => ?_)
  subst ex
  obtain rfl : v = Value.ref a := rx
  refine kws_cons (lam_make2 I1 TB hcode hmT hu hT hdef hfree fun f c' pm ctv H2 s2 I2 ext T2 hf _ _ hcd => ?_)
  refine kws_nil ?_
  -- what the lambda leans on
  obtain ⟨its, rv, hl, hz⟩ := I2.list (show SqL X.K H2 a _ from (by
    rcases hL with (z | ⟨o, z⟩) | z
    · exact .inl (.inl (ext _ _ z fun _ q => by cases q))
    · exact .inl (.inr ⟨o, ext _ _ z fun _ q => by cases q⟩)
    · exact .inr z))
  obtain ⟨hzw, ws', rw', htw⟩ := I2.hok aw _ (ext _ _ hH fun _ q => by cases q)
  obtain ⟨mm, _, hloc⟩ := I2.loc
  obtain ⟨uw, ruw, lkw⟩ := hloc iw "word" (.ref aw) hN hs (.inr (.inl hwc))
  obtain rfl : uw = Value.ref aw := ruw
  have hcell : s2.heap.IsCell cw (some (.ref aw)) := by
    rcases lkw with ⟨z, _⟩ | ⟨_, c2, e2, z⟩
    · have z' : X.env.scope.names.lookup ("word" : Str) = some .local := z
      rw [hwc] at z'
      cases z'
    · rw [hcw] at e2
      cases e2
      exact z
  obtain ⟨⟨oc, vs, tt, hoc, hdc, hvc⟩, _, _⟩ := I2.hok c' _ hcd
  have hlw : ws'.length = ws.length := by
    have z := rw'.length
    rw [List.length_map] at z
    exact z.symm
  have key : (fun i : Nat => PyData.int (ws.getD i 0)) = fun i => PyData.int ((fun i => ws.getD i 0) i) := rfl
  refine PySem.W.sorted_key_data (s := s2) (b := false) (β := Nat) (R := fun (v : Value) (i : Nat) => ∃ t, v = .int (i : Nat) t) (vs := its) (bs := is) (kw := [(Str.ofString "key", .ref f)]) (f := .ref f) (fun i => PyData.int (ws.getD i 0)) hl.isList (each_of rv)
    (fun d hd d' hd' => ?_) (.inr fun d hd => ?_) (by rw [List.length_map] at hz; exact hz) (fun i _ => ?_) (ksk_s1 _ _) (fun x => ksk_l1 _ _) (fun x => ksk_t1 _ _) ?_ ?_
  · obtain ⟨i, _, rfl⟩ := List.mem_map.mp hd
    obtain ⟨j, _, rfl⟩ := List.mem_map.mp hd'
    rfl
  · obtain ⟨i, _, rfl⟩ := List.mem_map.mp hd
    exact ⟨(by intro z; cases z), (by intro xs z; cases z)⟩
  · have z := hr.units
    show X.A.units + 2 + 0 < cLine
    omega
  · -- the key of one place
    rintro v i ⟨t, rfl⟩ hi' h tk kp
    have hlt' := hlt i hi'
    have hir : ∃ u, ws'[i]? = some (.int (ws.getD i 0) u) := by
      have z : (ws.map V.int)[i]? = some (V.int (ws.getD i 0)) := by
        rw [List.getElem?_map, List.getElem?_eq_getElem hlt', List.getD_eq_getElem?_getD, List.getElem?_eq_getElem hlt']
        rfl
      obtain ⟨u, hu', ru⟩ := rw'.get z
      obtain ⟨t', rfl⟩ := ru
      exact ⟨t', hu'⟩
    have hd := hr.dp
    refine lam_key (s := { s2 with heap := h, toks := tk }) (its := ws'.toArray) (cw := cw) (aw := aw) (by show X.A.depth < _; omega) (kp _ _ hf) ⟨c', oc, vs, tt, rfl, kp _ _ hoc, hdc, hvc⟩ ?_ hk hco hgen hnc hi hw hclo (hcell.keeps kp) ?_ (fun v => hb _ _ _ _ _ v) (by rw [List.size_toArray]; omega) (by rw [List.size_toArray, hlw]; rw [List.length_map] at hzw; exact hzw) (by
        obtain ⟨u, hu'⟩ := hir
        exact ⟨u, by rw [List.getElem?_toArray]; exact hu'⟩)
    · exact I2.nolimit.keeps kp
    · obtain ⟨o, ho, r⟩ := htw
      exact ⟨o, kp _ _ ho, r⟩
  · -- the sorted list
    intro out cnt h' tk kp fresh hnew hlen he'
    rw [key, PySem.W.dataLe_int] at he'
    have hperm := List.mergeSort_perm is (fun a b => decide (ws.getD a 0 ≤ ws.getD b 0))
    have hsort : (is.mergeSort fun a b => decide (ws.getD a 0 ≤ ws.getD b 0)).Pairwise (fun i j => ws.getD i 0 ≤ ws.getD j 0) := by
      have z := List.pairwise_mergeSort (le := fun a b : Nat => decide (ws.getD a 0 ≤ ws.getD b 0)) (fun a b c h1 h2 => by
        have h1 := of_decide_eq_true h1
        have h2 := of_decide_eq_true h2
        exact decide_eq_true (Int.le_trans h1 h2)) (fun a b => by
        rw [Bool.or_eq_true]
        exact (Int.le_total (ws.getD a 0) (ws.getD b 0)).elim (fun z => .inl (decide_eq_true z)) fun z => .inr (decide_eq_true z)) is
      exact z.imp fun h => of_decide_eq_true h
    have hn : H2 (s2.heap.objs.size + 1) = none := I2.hok.fresh (Nat.le_succ _)
    refine ⟨.ref _, _, I2.laid (t' := tk) (h' := h') (o := .lst ((is.mergeSort fun a b => decide (ws.getD a 0 ≤ ws.getD b 0)).map fun i => V.int (i : Nat))) kp (Nat.le_succ _) ⟨?_, out, cnt, each_back he', hnew⟩, rfl, q _ _ _ ext T2 hn hperm hsort⟩
    rw [List.length_map, hperm.length_eq]
    rw [List.length_map] at hz
    exact hz
end K4
/-! own rules, part 5: match on texts, C() without an own __init__, t[::-1], sorted and max of a tuple -/
namespace K4
open PySem PySem.Spec PyProof.Rows L2

/-! ### match name: case "..": .. case _: .. -/
structure PMs (X : Cx) (cases : List MatchCase) (t : V → L2.TS) : Prop where
  run : ∀ (first : Bool) (pins : List (Addr × Obj)) (s : Shared) (σ : L2.St) (H : Hp) (D : Ends) (v : V) (u : Value), Inv X pins σ H s → RelV v u → t v D σ H → wpAny (model X.prog X.w) X.A (matchCases cases X.env u first) (SP X pins D) X.xe s
def tCase (z : Str) (tb : L2.TS) (tr : V → L2.TS) : V → L2.TS := fun v D σ H => ∃ x, v = .str x ∧ if x = z then tb D σ H else tr v D σ H
section
variable {X : Cx} {body : List Stmt} {rest : List MatchCase} {tb : L2.TS} {tr : V → L2.TS} {pos : Pos}
theorem pms_str {z : Str} {k : Nat} {p1 p2 : Pos} (hb : PSs X body tb) (hr : PMs X rest tr) : PMs X (⟨.MatchValue (.Constant (.str z) k p1) p2, none, body⟩ :: rest) (tCase z tb tr) := by
  refine ⟨fun first pins s σ H D v u I r h => ?_⟩
  obtain ⟨x, rfl, h⟩ := h
  obtain ⟨t, rfl⟩ := r
  refine wpAny_matchCases_cons (wpAny_matchPattern_Value (Calls.Constant_str ?_))
  have I1 := I.tok (s.toks + 1)
  refine PyProof.Rows.eq_str (wpAny_truthy_bool ?_)
  by_cases e : x = z
  · rw [if_pos e] at h
    have e' : (x == z) = true := beq_iff_eq.mpr e
    first
      | rw [e', if_pos rfl]
      | (rw [decide_eq_true e]; rw [if_pos rfl])
      | simp only [e, beq_self_eq_true, decide_true, if_true]
    exact wpAny_assignInOrder_none (hb.run pins _ σ H D I1 h)
  · rw [if_neg e] at h
    have e' : (x == z) = false := beq_eq_false_iff_ne.mpr e
    first
      | rw [e', if_neg Bool.false_ne_true]
      | (rw [decide_eq_false e]; rw [if_neg Bool.false_ne_true])
      | simp only [e, e', decide_false, if_false]
    exact hr.run _ pins _ σ H D (.str x) _ I1 ⟨t, rfl⟩ h
theorem pms_any {p : Pos} (hb : PSs X body tb) : PMs X (⟨.MatchAs none none p, none, body⟩ :: rest) (fun _ => tb) := by
  refine ⟨fun first pins s σ H D v u I r h => ?_⟩
  exact wpAny_matchCases_cons (wpAny_matchPattern_Capture (wpAny_assignInOrder_none (hb.run pins s σ H D I h)))
def tMatch (te : TE) (tm : V → L2.TS) : L2.TS := fun D σ H => te σ H fun v H1 => tm v D σ H1
theorem ps_match {e : Expr} {te : TE} {cases : List MatchCase} {tm : V → L2.TS} (he : PE X e te) (hc : PMs X cases tm) : PS X (.Match e cases pos) (tMatch te tm) :=
  ⟨fun pins s σ H D I h => wpAny_Match (thn (he.run pins s σ H _ I h) fun u s1 ⟨v, H1, I1, r1, q⟩ => hc.run true pins s1 σ H1 D v u I1 r1 q)⟩
end

/-! ### C(), C a class without an own __init__ -/
structure Mk0 (K : PySem.W.Frag) (C : Addr) : Prop where
  makes : PySem.W.makesIn K C = true
  init : PySem.W.findIn K (.ref C) "__init__" = some (some (.builtin "object.__init__"))
  kp : PySem.W.keepIn K (.ref C) = true
def tMk0 (C : Addr) : TE := fun _ H Q => ∀ x dx, H x = none → H dx = none → dx ≠ x → Q (.ref x) (upd (upd H dx (.own x)) x (.ins C dx []))
theorem pe_mk0 {X : Cx} {C : Addr} {x : Str} {p pos : Pos} (M : Mk0 X.K C) (hg : Gl X x) (hm : X.mg x = some (.ref C)) (hdb : (x == ("__debug__" : Str)) = false := by decide) : PE X (.Call (.Name x p) [] [] pos) (tMk0 C) := by
  refine ⟨fun pins s σ H Q I h => ?_⟩
  refine wpAny_Call_Name_kw (ld_glob I hg hm ?_ hdb)
  have q := h (s.heap.objs.size + 1) s.heap.objs.size (I.hok.fresh (Nat.le_succ _)) (I.hok.fresh (Nat.le_refl _)) (Nat.ne_of_lt (Nat.lt_succ_self _))
  have I2 := Inv.made (C := C) I
  refine PySem.W.callWith_K0 I.kIn M.kp (wpAny_call (make_map0 I.kIn M.makes M.init (fun self => PySem.W.Looks.of_pure (PySem.W.oi_bind self)) ?_))
  have Y := PySem.W.makes_of (M := model X.prog X.w) I.kIn M.makes
  have e2 : ((s.heap.push PySem.W.emptyDict).push (PySem.W.instObj C s.heap.objs.size)).get? (s.heap.objs.size + 1) = some (PySem.W.instObj C s.heap.objs.size) := by
    have z := Heap.get?_push_size (s.heap.push PySem.W.emptyDict) (o := PySem.W.instObj C s.heap.objs.size) rfl
    rwa [Heap.size_push] at z
  have t1 : PySem.W.Looks (model X.prog X.w) ((s.heap.push PySem.W.emptyDict).push (PySem.W.instObj C s.heap.objs.size)) (typeOf (.ref (s.heap.objs.size + 1))) (.ref C) := (PySem.W.Looks.ld e2).andThen .now
  have t2 : PySem.W.Looks (model X.prog X.w) ((s.heap.push PySem.W.emptyDict).push (PySem.W.instObj C s.heap.objs.size)) (isInstance (.ref (s.heap.objs.size + 1)) (.type "object")) true :=
    t1.andThen (Y.top.keeps fun b o e => Heap.get?_push_of_some _ (Heap.get?_push_of_some _ e))
  obtain ⟨hh, g, d, tk, os⟩ := s
  refine codeAny_call_builtin PySem.W.oi_plain PySem.W.entry_oi (@PySem.W.check_slot _ _ _ _ "object.__init__" "object" "__init__" _ [] [] _ PySem.W.oi_kind PySem.W.oi_split t2 (PySem.W.oi_args _) ?_)
  rw [PySem.W.oi_run]
  exact wpAny_pure (And.intro rfl ⟨.ref _, _, I2, rfl, q⟩)

/-! ### t[::-1] of a tuple -/
theorem back_places (n : Nat) : Builtin.Slice.slicePlaces ((n : Int) - 1) (-1) (-1) = n := by
  unfold Builtin.Slice.slicePlaces
  rw [if_neg (by decide)]
  by_cases h : (n : Int) - 1 > -1
  · rw [if_pos h]
    have e : ((n : Int) - 1 - -1 - 1) / (- -1) = (n : Int) - 1 := by
      have : (n : Int) - 1 - -1 - 1 = (n : Int) - 1 := by omega
      rw [this]
      exact Int.ediv_one _
    rw [e]
    omega
  · rw [if_neg h]
    omega
theorem back_items (xs : Array Value) : ((List.range xs.size).filterMap fun (k : Nat) => xs[(((xs.size : Int) - 1) + (k : Int) * (-1)).toNat]?).toArray = xs.toList.reverse.toArray := by
  congr 1
  have e : ∀ n : Nat, n ≤ xs.size → ((List.range n).filterMap fun (k : Nat) => xs[(((xs.size : Int) - 1) + (k : Int) * (-1)).toNat]?) = xs.toList.reverse.take n := by
    intro n
    induction n with
    | zero => intro _; rfl
    | succ n ih =>
      intro hn
      rw [List.range_succ, List.filterMap_append, ih (by omega), List.take_add_one]
      congr 1
      have e1 : (((xs.size : Int) - 1) + (n : Int) * (-1)).toNat = xs.size - 1 - n := by omega
      have e2 : xs.toList.reverse[n]? = xs[xs.size - 1 - n]? := by
        rw [List.getElem?_reverse (by simp; omega)]
        simp
      rw [e2]
      rw [List.filterMap_cons, e1]
      cases xs[xs.size - 1 - n]? <;> rfl
  rw [e _ (Nat.le_refl _), List.take_of_length_le (by simp)]
theorem tuple_back {P : Program} {w : World} {A : Around} {E : Value → Shared → Prop} {s : Shared} {t sl : Addr} {items : Array Value} {vl vu vs : Value} {Q : Value → Shared → Prop} (ht : IsTup s.heap t items) (hs : s.heap.IsSliceOf sl vl vu vs)
    (pl : IsPart vl none) (pu : IsPart vu none) (ps : IsPart vs (some (-1))) (hz : items.size ≤ sizeLine)
    (h : Q (.ref s.heap.objs.size) { s with heap := s.heap.push { cls := .type "tuple", data := .seq items.toList.reverse.toArray } }) : wpAny (model P w) A (getItem (.ref t) (.ref sl)) Q E s := by
  obtain ⟨os, hos, hcs, hds⟩ := id hs
  have hTs : s.TypeIs (.ref sl) "slice" := ⟨os, hos, hcs⟩
  have hok : sizeOk (.seq items.toList.reverse.toArray) := by
    show items.toList.reverse.toArray.size ≤ sizeLine
    rw [List.size_toArray, List.length_reverse, Array.length_toList]
    exact hz
  unfold getItem
  try with_reducible refine wpAny_holding ?_
  first | refine wpAny_bind (wpAny_pure ?_) | skip
  refine wpAny_bind (wpAny_sequenceKey ht.typeIs (by decide) ?_)
  refine wpAny_bind (wpAny_callSpecial?_slot (name := Str.ofString "__getitem__") ht.typeIs slot_tuple_getitem (wpAny_call_entry slot_tuple_getitem ht.typeIs entry_tuple_getitem ?_ (args_tuple_getitem _ _)))
  show wpAny _ _ (Builtin.Tuple.tupleItemsOf (.ref t) >>= _) _ _ s
  refine wpAny_bind (tupleItemsOf_ ht (wpAny_bind (wpAny_typeOf hTs ?_)))
  rw [if_pos (by decide)]
  refine wpAny_bind ?_
  unfold Builtin.Slice.sliceApplied Builtin.Slice.sliceFields
  refine wpAny_bind (wpAny_bind (wpAny_field hos hds (x := vl) rfl (wpAny_bind (wpAny_field hos hds (x := vu) rfl (wpAny_bind (wpAny_field hos hds (x := vs) rfl (wpAny_pure ?_)))))))
  refine wpAny_bind (HT.slicePart_ ps ?_)
  show wpAny _ _ (if ((-1 : Int) == 0) = true then _ else _) _ _ s
  rw [if_neg (by decide)]
  refine wpAny_bind (HT.slicePart_ pl (wpAny_bind (HT.slicePart_ pu (wpAny_bind (wpAny_pure ?_)))))
  have ea : Builtin.Slice.sliceAdjust none none (-1) ((items.size : Nat) : Int) = (((items.size : Nat) : Int) - 1, -1) := by
    unfold Builtin.Slice.sliceAdjust
    simp
  show wpAny _ _ (match Builtin.Slice.sliceAdjust none none (-1) ((items.size : Nat) : Int) with
    | (lo, hi) => pure (lo, (-1 : Int), Builtin.Slice.slicePlaces lo hi (-1))) _ _ s
  rw [ea]
  refine wpAny_pure ?_
  show wpAny _ _ (if ((((items.size : Nat) : Int) - 1) == 0 && (-1 : Int) == 1 && _) = true then _ else _) _ _ s
  rw [if_neg (by simp), back_places, back_items]
  first
    | exact wpAny_bind (m := Builtin.Tuple.tupleExact _) (wpAny_newObj_type (wpAny_pure ⟨_, rfl, wpAny_pure h⟩) hok)
    | exact wpAny_bind (m := Builtin.Tuple.tupleExact _) (wpAny_newObj_type (wpAny_bind (wpAny_pure (wpAny_pure ⟨_, rfl, wpAny_pure h⟩))) hok)
/-- e[::-1] of a tuple: a new tuple -/
def rBackT (K : PySem.W.Frag) : V → Hp → VK → Prop := fun x H Q => ∃ a xs, x = .ref a ∧ SqT K H a xs ∧ ∀ p, H p = none → Q (.ref p) (upd H p (.tup xs.reverse))
theorem tail_backT {X : Cx} {k : Nat} {p1 p2 p3 : Pos} : Tail X (.Slice none none (some (.UnaryOp .USub (.Constant (.int 1) k p1) p2)) p3) (rBackT X.K) := by
  intro e pins s σ H x v Q I rx h
  obtain ⟨a, xs, rfl, hx, q⟩ := h
  cases rx
  have step : PO X (some (.UnaryOp .USub (.Constant (.int 1) k p1) p2)) (tPart (tUn (rU fun i => .int (-i)) (tC (.int 1)))) := po_some (pe_un un_neg pe_int)
  refine wpAny_Slice (thn (po_none.run pins s σ H (fun o G => o = none ∧ G = H) I ⟨rfl, rfl⟩) ?_)
  rintro v1 s1 ⟨_, _, I1, p1, rfl, rfl⟩
  refine thn (po_none.run pins s1 σ _ (fun o G => o = none ∧ G = _) I1 ⟨rfl, rfl⟩) ?_
  rintro v2 s2 ⟨_, _, I2, p2, rfl, rfl⟩
  refine thn (step.run pins s2 σ _ (fun o G => o = some (-1) ∧ G = _) I2 ⟨1, rfl, -1, rfl, rfl, rfl⟩) ?_
  rintro v3 s3 ⟨_, _, I3, p3, rfl, rfl⟩
  have I4 : Inv X pins σ _ { s3 with heap := s3.heap.push { cls := .type "slice", data := .fields #[v1, v2, v3] } } := I3.kept (t' := s3.toks) fun _ _ z => Heap.get?_push_of_some _ z
  obtain ⟨its, r, ht, hz⟩ := I4.tuple hx
  have hl := r.length
  refine tail_any (ops := [.ref a, .ref s3.heap.objs.size]) ht.typeIs slot_tuple_getitem.lookup ?_ (by with_unfolding_all rfl)
  refine tuple_back ht (Heap.IsSliceOf.new _ v1 v2 v3) p1 p2 p3 (by rw [List.size_toArray]; omega) ?_
  refine ⟨.ref _, _, I4.laid (t' := s3.toks) (o := .tup xs.reverse) (fun _ _ z => Heap.get?_push_of_some _ z) (Nat.le_refl _) ⟨by rw [List.length_reverse]; exact hz, its.reverse, r.reverse, ?_⟩, rfl, q _ (I4.hok.fresh (Nat.le_refl _))⟩
  exact IsTup.new _ _

/-! ### sorted(t), max(t) of a tuple of whole numbers -/
theorem collect_tup {P : Program} {w : World} {A : Around} {E : Value → Shared → Prop} {s : Shared} {t : Addr} {vs : List Value} {Q : List Value → Shared → Prop} (ht : IsTup s.heap t vs.toArray) (hz : vs.length ≤ sizeLine)
    (h : Q vs { s with heap := (s.heap.push (seqObj "list" #[] 0)).update s.heap.objs.size (Obj.mapSeq (· ++ vs.toArray)) }) : wpAny (model P w) A (collect (.ref t)) Q E s := by
  obtain ⟨o, ho, hc, n, hd⟩ := id ht
  have hn : (s.heap.push (seqObj "list" #[] 0)).get? s.heap.objs.size = some (seqObj "list" #[] 0) := Heap.get?_push_size _ rfl
  unfold collect
  refine wpAny_bind (wpAny_runValue (codeAny_builtin entry_proto_collect' ?_))
  show wpAny _ _ (do again (.builtin "list.__iadd__" ⟨[← newList [], .ref t], []⟩)) _ _ s
  refine wpAny_bind (wpAny_newList (wpAny_pure ⟨Code.quiet_builtin _ (by decide +kernel), codeAny_builtin entry_list_iadd' ?_⟩))
  show wpAny _ _ (Builtin.List.listExtendWith (.ref s.heap.objs.size) (.ref t) (.ref s.heap.objs.size)) _ _ { s with heap := s.heap.push (seqObj "list" #[] 0) }
  unfold Builtin.List.listExtendWith
  refine wpAny_bind (wpAny_typeOf (T := "tuple") ⟨o, Heap.get?_push_of_some _ ho, hc⟩ ?_)
  have e2 : (Value.type "tuple" == Value.type "tuple") = true := rfl
  rw [if_pos (by rw [e2, Bool.or_true])]
  refine wpAny_bind (listItems_at (Heap.get?_push_of_some _ ho) hd (wpAny_bind (listItems_at (xs := #[]) (n := 0) hn rfl ?_)))
  rw [if_neg (by simp)]
  refine wpAny_bind (listUpdate_at (xs := #[]) (n := 0) hn rfl (wpAny_pure ?_) (Nat.zero_le _) (by
    show (#[] ++ vs.toArray).size ≤ sizeLine + 1
    rw [Array.size_append, List.size_toArray]
    show 0 + vs.length ≤ _
    omega))
  show wpAny (model P w) A (do
      let o ← load s.heap.objs.size
      match o.data with
      | .seq xs _ => pure xs.toList
      | _ => unsupported "internal:collect") Q E { s with heap := (s.heap.push (seqObj "list" #[] 0)).update s.heap.objs.size (Obj.mapSeq (· ++ vs.toArray)) }
  refine wpAny_bind (wpAny_load (get?_update_seq hn _) ?_)
  show wpAny _ _ (pure ((#[] : Array Value) ++ vs.toArray).toList) Q E _
  rw [show ((#[] : Array Value) ++ vs.toArray).toList = vs by simp]
  exact wpAny_pure h
theorem sorted_tup {P : Program} {w : World} {A : Around} {E : Value → Shared → Prop} {s : Shared} {t : Addr} {vs : List Value} {ns : List Int} {Q : Value → Shared → Prop} (ht : IsTup s.heap t vs.toArray) (hI : IntsAre vs ns) (h64 : vs.length < 64)
    (h : ∀ (out : Array Value) (ns' : List Int), IntsAre out.toList ns' → ns'.Perm ns → ns'.Pairwise (· ≤ ·) → Q (.ref (s.heap.objs.size + 1)) { s with heap := sortedAll s.heap vs out }) :
    wpAny (model P w) A (call (.builtin "sorted") [.ref t]) Q E s := by
  refine Calls.call_function_entry kind_sorted plain_sorted entry_sorted (args_sorted1 _) ?_
  unfold Builtin.«sorted»
  refine wpAny_bind (m := checkCount "sorted" 1 1 _) (wpAny_pure (wpAny_bind (collect_tup ht (small64 h64) (wpAny_bind (wpAny_newList ?_ (small64 h64))))))
  have es : ((s.heap.push (seqObj "list" #[] 0)).update s.heap.objs.size (Obj.mapSeq (· ++ vs.toArray))).objs.size = s.heap.objs.size + 1 := by rw [Heap.size_update, size_push']
  have hL : (((s.heap.push (seqObj "list" #[] 0)).update s.heap.objs.size (Obj.mapSeq (· ++ vs.toArray))).push (seqObj "list" vs.toArray 0)).get? (s.heap.objs.size + 1) = some (seqObj "list" vs.toArray 0) := by
    rw [← es]
    exact Heap.get?_push_size _ rfl
  show wpAny _ _ _ _ _ { s with heap := ((s.heap.push (seqObj "list" #[] 0)).update s.heap.objs.size (Obj.mapSeq (· ++ vs.toArray))).push (seqObj "list" vs.toArray 0) }
  rw [es]
  exact wpAny_bind (wpAny_holding (wpAny_call_entry slot_list_sort ⟨_, hL, rfl⟩ entry_list_sort (list_sort_tree hL hI h64 fun out ns' b1 b2 b3 => ⟨_, rfl, wpAny_pure ⟨_, rfl, h out ns' b1 b2 b3⟩⟩) (args_list_sort _)))
def rSortTup (K : PySem.W.Frag) : List V → Hp → VK → Prop := fun vs H Q => ∃ (a : Addr) (ns : List Int), vs = [V.ref a] ∧ SqT K H a (ns.map V.int) ∧ ns.length < 64 ∧
  ∀ (ns' : List Int) (p : Addr), ns'.Perm ns → ns'.Pairwise (· ≤ ·) → H p = none → Q (.ref p) (upd H p (.lst (ns'.map V.int)))
theorem cr_sortTup {X : Cx} : CallR X (.builtin "sorted") (rSortTup X.K) := by
  intro pins s σ H vs us Q I r h
  obtain ⟨a, ns, rfl, hs, h64, q⟩ := h
  obtain ⟨its, rv, ht, _⟩ := I.tuple hs
  rw [Vals.ref1 r]
  have hi := rv.ints
  refine sorted_tup ht hi (by rw [hi.length]; exact h64) fun out ns' c1 c2 c3 => ?_
  obtain ⟨ep, he'⟩ := sortedAll_at s.heap its out
  exact ⟨.ref _, _, I.laid (t' := s.toks) (o := .lst (ns'.map V.int)) (fun _ _ => sortedAll_old) (Nat.le_succ _) ⟨by rw [List.length_map, c2.length_eq]; exact small64 h64, out.toList, ep, vals_of_ints c1, he'⟩, rfl, q ns' _ c2 c3 (I.hok.fresh (Nat.le_succ _))⟩
theorem reads_ints {h : Heap} {vs : List Value} {ns : List Int} (r : IntsAre vs ns) : PySem.W.HoldAll h vs ns := by
  induction r with
  | nil => exact ⟨_, .nil⟩
  | cons n t r ih =>
    obtain ⟨as, q⟩ := ih
    exact ⟨_, .cons (.int n t) q⟩
def rMaxTup (K : PySem.W.Frag) : List V → Hp → VK → Prop := fun vs H Q => ∃ (a : Addr) (n : Int) (ns : List Int), vs = [V.ref a] ∧ SqT K H a ((n :: ns).map V.int) ∧ Q (.int (PySem.W.maxOf n ns)) H
theorem cr_maxTup {X : Cx} (hc : X.calm = true) (hu : X.A.units + 64 < cLine) : CallR X (.builtin "max") (rMaxTup X.K) := by
  intro pins s σ H vs us Q I r h
  obtain ⟨a, n, ns, rfl, hs, q⟩ := h
  obtain ⟨its, rv, ht, _⟩ := I.tuple hs
  rw [Vals.ref1 r]
  refine PySem.W.max_tuple_datum (α := Int) (x := n) (xs := ns) (I.ok.hd hc) (show s.heap.IsTuple a its.toArray from ht) (by simpa using reads_ints rv.ints) (by show X.A.units + 1 + 0 < cLine; omega) fun i v h' tk _ hv kp => ?_
  obtain ⟨as, hr⟩ := hv
  have hr : Reads h' v (.int (PySem.W.maxOf n ns)) as := hr
  cases hr with
  | int _ t => exact ⟨.int _, H, I.kept kp, ⟨t, rfl⟩, q⟩
end K4
/-! the mathematics: plain values of words under a kind -/
namespace K4
inductive Kd where
  | list | bag | set | first | last | ends | heads | tails
  deriving DecidableEq

/-! ### first places -/
def dd : List Int → List Int
  | [] => []
  | x :: w => x :: (dd w).filter fun y => decide (y ≠ x)
theorem mem_dd {x : Int} : ∀ {w : List Int}, x ∈ dd w ↔ x ∈ w
  | [] => Iff.rfl
  | y :: w => by
    rw [dd, List.mem_cons, List.mem_cons, List.mem_filter, mem_dd (w := w), decide_eq_true_eq]
    by_cases h : x = y <;> simp [h]
theorem dd_append : ∀ (u v : List Int), dd (u ++ v) = dd u ++ (dd v).filter fun y => decide (y ∉ u)
  | [], v => by
    show dd v = _
    rw [show (fun y : Int => decide (y ∉ ([] : List Int))) = fun _ => true from funext fun y => by simp]
    exact (List.filter_eq_self.mpr fun _ _ => rfl).symm
  | x :: u, v => by
    show dd (x :: (u ++ v)) = _
    rw [dd, dd_append u v, dd, List.filter_append, List.filter_filter, List.cons_append]
    congr 2
    refine List.filter_congr fun y _ => ?_
    by_cases h : y = x <;> simp [h]
theorem nodup_dd : ∀ (w : List Int), (dd w).Nodup
  | [] => List.nodup_nil
  | x :: w => by
    rw [dd, List.nodup_cons]
    refine ⟨fun h => ?_, (nodup_dd w).sublist List.filter_sublist⟩
    have := (List.mem_filter.mp h).2
    simp at this
theorem dd_of_nodup : ∀ {w : List Int}, w.Nodup → dd w = w
  | [], _ => rfl
  | x :: w, h => by
    obtain ⟨h1, h2⟩ := List.nodup_cons.mp h
    rw [dd, dd_of_nodup h2]
    congr 1
    exact List.filter_eq_self.mpr fun y hy => decide_eq_true fun e : y = x => h1 (by rw [← e]; exact hy)
theorem dd_dd (w : List Int) : dd (dd w) = dd w := dd_of_nodup (nodup_dd w)
theorem dd_l (u v : List Int) : dd (dd u ++ v) = dd (u ++ v) := by
  rw [dd_append, dd_append, dd_dd]
  congr 1
  refine List.filter_congr fun y _ => ?_
  simp [mem_dd]
theorem dd_r (u v : List Int) : dd (u ++ dd v) = dd (u ++ v) := by rw [dd_append, dd_append, dd_dd]
theorem dd_snoc_in {u : List Int} {x : Int} (h : x ∈ u) : dd (u ++ [x]) = dd u := by
  rw [dd_append]
  simp [dd, h]
theorem dd_snoc_out {u : List Int} {x : Int} (h : x ∉ u) : dd (u ++ [x]) = dd u ++ [x] := by
  rw [dd_append]
  simp [dd, h]
theorem dd_absorb {u v : List Int} (h : ∀ x ∈ v, x ∈ u) : dd (u ++ v) = dd u := by
  rw [dd_append, List.filter_eq_nil_iff.mpr, List.append_nil]
  intro y hy
  have := h y (mem_dd.mp hy)
  simp [this]
theorem dd_ne {w : List Int} (h : w ≠ []) : dd w ≠ [] := by
  cases w with
  | nil => exact absurd rfl h
  | cons x w => simp [dd]

/-! ### in order -/
def isort (l : List Int) : List Int := l.mergeSort fun a b => decide (a ≤ b)
theorem isort_perm (l : List Int) : (isort l).Perm l := List.mergeSort_perm l _
theorem isort_sorted (l : List Int) : (isort l).Pairwise (· ≤ ·) := by
  have z := List.pairwise_mergeSort (le := fun a b : Int => decide (a ≤ b)) (fun a b c h1 h2 => decide_eq_true (Int.le_trans (of_decide_eq_true h1) (of_decide_eq_true h2)))
    (fun a b => by
      rw [Bool.or_eq_true]
      exact (Int.le_total a b).elim (fun z => .inl (decide_eq_true z)) fun z => .inr (decide_eq_true z)) l
  exact z.imp fun h => of_decide_eq_true h
theorem sorted_eq : ∀ {l m : List Int}, l.Perm m → l.Pairwise (· ≤ ·) → m.Pairwise (· ≤ ·) → l = m
  | [], m, p, _, _ => by rw [List.nil_perm.mp p]
  | a :: l, [], p, _, _ => by
    have := p.length_eq
    simp at this
  | a :: l, b :: m, p, h1, h2 => by
    obtain ⟨ha, hl⟩ := List.pairwise_cons.mp h1
    obtain ⟨hb, hm⟩ := List.pairwise_cons.mp h2
    have e : a = b := by
      have m1 : a ∈ b :: m := p.mem_iff.mp List.mem_cons_self
      have m2 : b ∈ a :: l := p.mem_iff.mpr List.mem_cons_self
      rcases List.mem_cons.mp m1 with h | h
      · exact h
      · rcases List.mem_cons.mp m2 with h' | h'
        · exact h'.symm
        · exact Int.le_antisymm (ha b h') (hb a h)
    subst e
    rw [sorted_eq (List.Perm.cons_inv p) hl hm]
theorem isort_eq {l m : List Int} (p : l.Perm m) (h : l.Pairwise (· ≤ ·)) : l = isort m := sorted_eq (p.trans (isort_perm m).symm) h (isort_sorted m)
theorem isort_congr {l m : List Int} (p : l.Perm m) : isort l = isort m := isort_eq ((isort_perm l).trans p) (isort_sorted l)
theorem mem_isort {x : Int} {l : List Int} : x ∈ isort l ↔ x ∈ l := (isort_perm l).mem_iff
theorem isort_length (l : List Int) : (isort l).length = l.length := (isort_perm l).length_eq
theorem isort_isort (l : List Int) : isort (isort l) = isort l := isort_congr (isort_perm l)
/-! same members, none twice -/
theorem perm_of_mem : ∀ {l m : List Int}, l.Nodup → m.Nodup → (∀ x, x ∈ l ↔ x ∈ m) → l.Perm m
  | [], m, _, _, h => by
    cases m with
    | nil => exact .nil
    | cons b m => exact absurd ((h b).mpr List.mem_cons_self) (by simp)
  | a :: l, m, hl, hm, h => by
    have ha : a ∈ m := (h a).mp List.mem_cons_self
    obtain ⟨h1, h2⟩ := List.nodup_cons.mp hl
    have p : m.Perm (a :: m.erase a) := List.perm_cons_erase ha
    have nd := p.nodup_iff.mp hm
    obtain ⟨n1, n2⟩ := List.nodup_cons.mp nd
    refine (List.Perm.cons a (perm_of_mem h2 n2 fun x => ?_)).trans p.symm
    constructor
    · intro hx
      have hxm : x ∈ m := (h x).mp (List.mem_cons_of_mem _ hx)
      rcases List.mem_cons.mp (p.mem_iff.mp hxm) with e | e
      · exact absurd (e ▸ hx) h1
      · exact e
    · intro hx
      have hxm : x ∈ a :: l := (h x).mpr (p.mem_iff.mpr (List.mem_cons_of_mem _ hx))
      rcases List.mem_cons.mp hxm with e | e
      · exact absurd (e ▸ hx) n1
      · exact e
def sd (w : List Int) : List Int := isort (dd w)
theorem sd_congr {u v : List Int} (h : ∀ x, x ∈ u ↔ x ∈ v) : sd u = sd v := isort_congr (perm_of_mem (nodup_dd u) (nodup_dd v) fun x => by rw [mem_dd, mem_dd, h])
theorem mem_sd {x : Int} {w : List Int} : x ∈ sd w ↔ x ∈ w := mem_isort.trans mem_dd
/-! neighbours that are equal, struck (of a list in order) -/
def adjStep (k : List Int) (x : Int) : List Int := if k.getLast? = some x then k else k ++ [x]
theorem adj_ok : ∀ (l k : List Int), k.Pairwise (· < ·) → (k ++ l).Pairwise (· ≤ ·) → (l.foldl adjStep k).Pairwise (· < ·) ∧ ∀ x, x ∈ l.foldl adjStep k ↔ x ∈ k ∨ x ∈ l
  | [], k, h, _ => ⟨h, fun x => by simp⟩
  | y :: l, k, h, hs => by
    have hle : ∀ z ∈ k, z ≤ y := fun z hz => (List.pairwise_append.mp hs).2.2 z hz y List.mem_cons_self
    by_cases e : k.getLast? = some y
    · have es : adjStep k y = k := if_pos e
      have hs' : (k ++ l).Pairwise (· ≤ ·) := hs.sublist (List.Sublist.append_left (List.sublist_cons_self y l) k)
      obtain ⟨a, b⟩ := adj_ok l k h hs'
      rw [List.foldl_cons, es]
      refine ⟨a, fun x => (b x).trans ?_⟩
      have hy : y ∈ k := List.mem_of_getLast? e
      constructor
      · rintro (z | z)
        · exact .inl z
        · exact .inr (List.mem_cons_of_mem _ z)
      · rintro (z | z)
        · exact .inl z
        · rcases List.mem_cons.mp z with rfl | z
          · exact .inl hy
          · exact .inr z
    · have es : adjStep k y = k ++ [y] := if_neg e
      have hlt : ∀ z ∈ k, z < y := fun z hz => by
        rcases Int.lt_or_eq_of_le (hle z hz) with q | q
        · exact q
        · exfalso
          subst q
          -- the last of k is at least z, and at most z
          obtain ⟨w, hw⟩ : ∃ w, k.getLast? = some w := by
            cases k with
            | nil => cases hz
            | cons c k => exact ⟨_, List.getLast?_eq_getLast (by simp)⟩
          obtain ⟨k0, rfl⟩ : ∃ k0, k = k0 ++ [w] := by
            rw [List.getLast?_eq_some_iff] at hw
            exact hw
          have w1 := hle w (by simp)
          rcases List.mem_append.mp hz with q | q
          · have := (List.pairwise_append.mp h).2.2 z q w (by simp)
            omega
          · rw [List.mem_singleton.mp q] at e
            exact e (by simp)
      have h' : (k ++ [y]).Pairwise (· < ·) := List.pairwise_append.mpr ⟨h, List.pairwise_singleton _ _, fun z hz w hw => by rw [List.mem_singleton.mp hw]; exact hlt z hz⟩
      have hs' : ((k ++ [y]) ++ l).Pairwise (· ≤ ·) := by
        rw [List.append_assoc]
        exact hs
      obtain ⟨a, b⟩ := adj_ok l (k ++ [y]) h' hs'
      rw [List.foldl_cons, es]
      refine ⟨a, fun x => (b x).trans ?_⟩
      simp only [List.mem_append, List.mem_cons, List.not_mem_nil, or_false, or_assoc]
theorem adj_sd (w : List Int) : (isort w).foldl adjStep [] = sd w := by
  obtain ⟨a, b⟩ := adj_ok (isort w) [] List.Pairwise.nil (isort_sorted w)
  have hn : ((isort w).foldl adjStep []).Nodup := a.imp fun h => Int.ne_of_lt h
  have hm : ∀ x, x ∈ (isort w).foldl adjStep [] ↔ x ∈ dd w := fun x => by rw [b, mem_dd, mem_isort]; simp
  exact isort_eq (perm_of_mem hn (nodup_dd w) hm) (a.imp fun h => Int.le_of_lt h)

/-! ### last places -/
def td (w : List Int) : List Int := (dd w.reverse).reverse
theorem mem_td {x : Int} {w : List Int} : x ∈ td w ↔ x ∈ w := by unfold td; rw [List.mem_reverse, mem_dd, List.mem_reverse]
theorem td_l (u v : List Int) : td (td u ++ v) = td (u ++ v) := by
  unfold td
  rw [List.reverse_append, List.reverse_reverse, dd_r, List.reverse_append]
theorem td_r (u v : List Int) : td (u ++ td v) = td (u ++ v) := by
  unfold td
  rw [List.reverse_append, List.reverse_reverse, dd_l, List.reverse_append]

/-! ### the plain value -/
def hd1 (w : List Int) : List Int := w.take 1
def lt1 (w : List Int) : List Int := w.reverse.take 1
def plain : Kd → List Int → List Int
  | .list, w => w
  | .bag, w => isort w
  | .set, w => sd w
  | .first, w => hd1 w
  | .last, w => lt1 w
  | .ends, w => hd1 w ++ lt1 w
  | .heads, w => dd w
  | .tails, w => td w
theorem hd1_l (u v : List Int) : hd1 (hd1 u ++ v) = hd1 (u ++ v) := by
  cases u <;> rfl
theorem hd1_r (u v : List Int) : hd1 (u ++ hd1 v) = hd1 (u ++ v) := by
  cases u with
  | nil => cases v <;> rfl
  | cons a u => rfl
theorem lt1_rev (w : List Int) : lt1 w = hd1 w.reverse := rfl
theorem hd1_rev1 (w : List Int) : (hd1 w).reverse = hd1 w := by cases w <;> rfl
theorem lt1_r (u v : List Int) : lt1 (u ++ lt1 v) = lt1 (u ++ v) := by
  rw [lt1_rev, lt1_rev, lt1_rev, List.reverse_append, List.reverse_append, hd1_rev1, hd1_l]
theorem lt1_l (u v : List Int) : lt1 (lt1 u ++ v) = lt1 (u ++ v) := by
  rw [lt1_rev, lt1_rev, lt1_rev, List.reverse_append, List.reverse_append, hd1_rev1, hd1_r]
theorem hd1_ends (u v : List Int) : hd1 ((hd1 u ++ lt1 u) ++ v) = hd1 (u ++ v) := by
  cases u with
  | nil => rfl
  | cons a u => rfl
theorem lt1_ne {u : List Int} (h : u ≠ []) : lt1 u ≠ [] := by
  rw [lt1_rev]
  cases e : u.reverse with
  | nil => exact absurd (List.reverse_eq_nil_iff.mp e) h
  | cons a r => simp [hd1]
theorem lt1_append {u v : List Int} (h : v ≠ []) : lt1 (u ++ v) = lt1 v := by
  rw [lt1_rev, lt1_rev, List.reverse_append]
  cases e : v.reverse with
  | nil => exact absurd (List.reverse_eq_nil_iff.mp e) h
  | cons a r => rfl
theorem hd1_append {u v : List Int} (h : u ≠ []) : hd1 (u ++ v) = hd1 u := by
  cases u with
  | nil => exact absurd rfl h
  | cons a u => rfl
theorem lt1_lt1 (u : List Int) : lt1 (lt1 u) = lt1 u := by
  have := lt1_r [] u
  simpa using this
theorem lt1_ends (u : List Int) : lt1 (hd1 u ++ lt1 u) = lt1 u := by
  cases u with
  | nil => rfl
  | cons a u => rw [lt1_append (lt1_ne (by simp)), lt1_lt1]
theorem plain_l (k : Kd) (u v : List Int) : plain k (plain k u ++ v) = plain k (u ++ v) := by
  cases k with
  | list => rfl
  | bag => exact isort_congr ((isort_perm u).append_right v)
  | set => exact sd_congr fun x => by rw [List.mem_append, List.mem_append]; show x ∈ sd u ∨ _ ↔ _; rw [mem_sd]
  | first => exact hd1_l u v
  | last => exact lt1_l u v
  | ends =>
    show hd1 ((hd1 u ++ lt1 u) ++ v) ++ lt1 ((hd1 u ++ lt1 u) ++ v) = hd1 (u ++ v) ++ lt1 (u ++ v)
    rw [hd1_ends, ← lt1_l (hd1 u ++ lt1 u) v, lt1_ends, lt1_l]
  | heads => exact dd_l u v
  | tails => exact td_l u v
theorem plain_r (k : Kd) (u v : List Int) : plain k (u ++ plain k v) = plain k (u ++ v) := by
  cases k with
  | list => rfl
  | bag => exact isort_congr ((isort_perm v).append_left u)
  | set => exact sd_congr fun x => by rw [List.mem_append, List.mem_append]; show _ ∨ x ∈ sd v ↔ _; rw [mem_sd]
  | first => exact hd1_r u v
  | last => exact lt1_r u v
  | ends =>
    show hd1 (u ++ (hd1 v ++ lt1 v)) ++ lt1 (u ++ (hd1 v ++ lt1 v)) = hd1 (u ++ v) ++ lt1 (u ++ v)
    rw [← lt1_r u (hd1 v ++ lt1 v), lt1_ends, lt1_r]
    congr 1
    cases u with
    | nil => cases v <;> rfl
    | cons a u => rfl
  | heads => exact dd_r u v
  | tails => exact td_r u v
theorem plain_plain (k : Kd) (u : List Int) : plain k (plain k u) = plain k u := by
  have := plain_l k u []
  simpa using this
theorem plain_assoc (k : Kd) (u v w : List Int) : plain k (plain k (u ++ v) ++ w) = plain k (u ++ plain k (v ++ w)) := by
  rw [plain_l, plain_r, List.append_assoc]
theorem mem_hd1 {x : Int} {w : List Int} (h : x ∈ hd1 w) : x ∈ w := List.mem_of_mem_take h
theorem mem_lt1 {x : Int} {w : List Int} (h : x ∈ lt1 w) : x ∈ w := List.mem_reverse.mp (List.mem_of_mem_take h)
theorem mem_plain (k : Kd) {x : Int} {w : List Int} (h : x ∈ plain k w) : x ∈ w := by
  cases k with
  | list => exact h
  | bag => exact mem_isort.mp h
  | set => exact mem_sd.mp h
  | first => exact mem_hd1 h
  | last => exact mem_lt1 h
  | ends => exact (List.mem_append.mp h).elim mem_hd1 mem_lt1
  | heads => exact mem_dd.mp h
  | tails => exact mem_td.mp h
theorem plain_ne (k : Kd) {w : List Int} (h : w ≠ []) : plain k w ≠ [] := by
  obtain ⟨x, r, rfl⟩ := List.exists_cons_of_ne_nil h
  have ne : ∀ {l : List Int}, x ∈ l → l ≠ [] := fun h e => by rw [e] at h; cases h
  cases k with
  | list => exact h
  | bag => exact ne (mem_isort.mpr List.mem_cons_self)
  | set => exact ne (mem_sd.mpr List.mem_cons_self)
  | first => simp [plain, hd1]
  | last => exact lt1_ne h
  | ends => simp [plain, hd1]
  | heads => exact dd_ne h
  | tails => exact ne (mem_td.mpr List.mem_cons_self)
end K4
/-! the mathematics: tables, their folds, the rules -/
namespace K4

/-! ### folds -/
def foldm (m : Nat → Nat → Nat) : List Nat → Nat
  | [] => 0
  | x :: r => r.foldl m x
structure Closed (m : Nat → Nat → Nat) (n : Nat) : Prop where
  lt : ∀ a b, a < n → b < n → m a b < n
def Assoc (m : Nat → Nat → Nat) (n : Nat) : Prop := ∀ a b c, a < n → b < n → c < n → m (m a b) c = m a (m b c)
section
variable {m : Nat → Nat → Nat} {n : Nat}
theorem foldl_lt (C : Closed m n) : ∀ {v : List Nat} {a : Nat}, a < n → (∀ x ∈ v, x < n) → v.foldl m a < n
  | [], a, h, _ => h
  | x :: v, a, h, hv => foldl_lt (v := v) C (C.lt a x h (hv x List.mem_cons_self)) fun y hy => hv y (List.mem_cons_of_mem _ hy)
theorem foldm_lt (C : Closed m n) {v : List Nat} (h : v ≠ []) (hv : ∀ x ∈ v, x < n) : foldm m v < n := by
  cases v with
  | nil => exact absurd rfl h
  | cons x v => exact foldl_lt C (hv x List.mem_cons_self) fun y hy => hv y (List.mem_cons_of_mem _ hy)
theorem foldl_out (C : Closed m n) (A : Assoc m n) : ∀ {v : List Nat} {a b : Nat}, a < n → b < n → (∀ x ∈ v, x < n) → v.foldl m (m a b) = m a (v.foldl m b)
  | [], _, _, _, _, _ => rfl
  | c :: v, a, b, ha, hb, hv => by
    have hc := hv c List.mem_cons_self
    rw [List.foldl_cons, List.foldl_cons, A a b c ha hb hc]
    exact foldl_out C A ha (C.lt b c hb hc) fun y hy => hv y (List.mem_cons_of_mem _ hy)
theorem foldm_append (C : Closed m n) (A : Assoc m n) {u v : List Nat} (hu : u ≠ []) (hv : v ≠ []) (lu : ∀ x ∈ u, x < n) (lv : ∀ x ∈ v, x < n) : foldm m (u ++ v) = m (foldm m u) (foldm m v) := by
  cases u with
  | nil => exact absurd rfl hu
  | cons a u =>
    cases v with
    | nil => exact absurd rfl hv
    | cons b v =>
      show (u ++ b :: v).foldl m a = m (u.foldl m a) (v.foldl m b)
      rw [List.foldl_append, List.foldl_cons]
      exact foldl_out C A (foldl_lt C (lu a List.mem_cons_self) fun y hy => lu y (List.mem_cons_of_mem _ hy)) (lv b List.mem_cons_self) fun y hy => lv y (List.mem_cons_of_mem _ hy)
theorem foldm_snoc {u : List Nat} {x : Nat} (hu : u ≠ []) : foldm m (u ++ [x]) = m (foldm m u) x := by
  cases u with
  | nil => exact absurd rfl hu
  | cons a u =>
    show (u ++ [x]).foldl m a = _
    rw [List.foldl_append]
    rfl
theorem foldm_one {x : Nat} : foldm m [x] = x := rfl
end

/-! ### rules -/
abbrev Rul := List Nat × List Nat
def rl : Kd → List Rul
  | .list => []
  | .bag => [([0, 1], [1, 0])]
  | .set => [([0, 1], [1, 0]), ([0, 0], [0])]
  | .first => [([0, 1], [0])]
  | .last => [([0, 1], [1])]
  | .ends => [([0, 0], [0]), ([0, 1, 2], [0, 2])]
  | .heads => [([0, 0], [0]), ([0, 1, 0], [0, 1])]
  | .tails => [([0, 0], [0]), ([0, 1, 0], [1, 0])]
def many (r : Rul) : Nat := r.1.foldl max 0 + 1
def choices (n : Nat) : Nat → List (List Nat)
  | 0 => [[]]
  | c + 1 => (choices n c).flatMap fun r => (List.range n).map fun e => r ++ [e]
theorem mem_choices {n : Nat} : ∀ {c : Nat} {r : List Nat}, r ∈ choices n c ↔ r.length = c ∧ ∀ x ∈ r, x < n
  | 0, r => by
    rw [choices, List.mem_singleton]
    constructor
    · rintro rfl
      exact ⟨rfl, fun x h => by cases h⟩
    · rintro ⟨h, _⟩
      exact List.eq_nil_of_length_eq_zero h
  | c + 1, r => by
    rw [choices, List.mem_flatMap]
    constructor
    · rintro ⟨q, hq, hr⟩
      obtain ⟨e, he, rfl⟩ := List.mem_map.mp hr
      obtain ⟨h1, h2⟩ := mem_choices.mp hq
      refine ⟨by simp [h1], fun x hx => ?_⟩
      rcases List.mem_append.mp hx with z | z
      · exact h2 x z
      · rw [List.mem_singleton.mp z]
        exact List.mem_range.mp he
    · rintro ⟨h1, h2⟩
      have hne : r ≠ [] := fun e => by rw [e] at h1; cases h1
      refine ⟨r.dropLast, mem_choices.mpr ⟨by simp [h1], fun x hx => h2 x (List.dropLast_subset _ hx)⟩, List.mem_map.mpr ⟨r.getLast hne, List.mem_range.mpr (h2 _ (List.getLast_mem hne)), List.dropLast_concat_getLast hne⟩⟩
def Keeps (m : Nat → Nat → Nat) (n : Nat) (r : Rul) : Prop := ∀ ch ∈ choices n (many r), foldm m (r.1.map fun d => ch.getD d 0) = foldm m (r.2.map fun d => ch.getD d 0)
structure Good (k : Kd) (m : Nat → Nat → Nat) (n : Nat) : Prop where
  assoc : Assoc m n
  rules : ∀ r ∈ rl k, Keeps m n r
section
variable {m : Nat → Nat → Nat} {n : Nat}
theorem two_in {a b : Nat} (ha : a < n) (hb : b < n) : [a, b] ∈ choices n 2 := mem_choices.mpr ⟨rfl, fun x hx => by
  rcases List.mem_cons.mp hx with rfl | hx
  · exact ha
  · rw [List.mem_singleton.mp hx]; exact hb⟩
theorem one_in {a : Nat} (ha : a < n) : [a] ∈ choices n 1 := mem_choices.mpr ⟨rfl, fun x hx => by rw [List.mem_singleton.mp hx]; exact ha⟩
theorem three_in {a b c : Nat} (ha : a < n) (hb : b < n) (hc : c < n) : [a, b, c] ∈ choices n 3 := mem_choices.mpr ⟨rfl, fun x hx => by
  rcases List.mem_cons.mp hx with rfl | hx
  · exact ha
  · rcases List.mem_cons.mp hx with rfl | hx
    · exact hb
    · rw [List.mem_singleton.mp hx]; exact hc⟩
theorem k_comm (h : Keeps m n ([0, 1], [1, 0])) {a b : Nat} (ha : a < n) (hb : b < n) : m a b = m b a := h [a, b] (two_in ha hb)
theorem k_idem (h : Keeps m n ([0, 0], [0])) {a : Nat} (ha : a < n) : m a a = a := h [a] (one_in ha)
theorem k_first (h : Keeps m n ([0, 1], [0])) {a b : Nat} (ha : a < n) (hb : b < n) : m a b = a := h [a, b] (two_in ha hb)
theorem k_last (h : Keeps m n ([0, 1], [1])) {a b : Nat} (ha : a < n) (hb : b < n) : m a b = b := h [a, b] (two_in ha hb)
theorem k_ends (h : Keeps m n ([0, 1, 2], [0, 2])) {a b c : Nat} (ha : a < n) (hb : b < n) (hc : c < n) : m (m a b) c = m a c := h [a, b, c] (three_in ha hb hc)
theorem k_heads (h : Keeps m n ([0, 1, 0], [0, 1])) {a b : Nat} (ha : a < n) (hb : b < n) : m (m a b) a = m a b := h [a, b] (two_in ha hb)
theorem k_tails (h : Keeps m n ([0, 1, 0], [1, 0])) {a b : Nat} (ha : a < n) (hb : b < n) : m (m a b) a = m b a := h [a, b] (two_in ha hb)

/-! ### a word folds like its plain value -/
theorem fold_perm (C : Closed m n) (A : Assoc m n) (hc : ∀ a b, a < n → b < n → m a b = m b a) {u v : List Nat} (p : u.Perm v) : (∀ x ∈ u, x < n) → foldm m u = foldm m v := by
  induction p with
  | nil => intro _; rfl
  | cons x p ih =>
    rename_i l1 l2
    intro hl
    have hx := hl x List.mem_cons_self
    have h1 : ∀ y ∈ l1, y < n := fun y hy => hl y (List.mem_cons_of_mem _ hy)
    have h2 : ∀ y ∈ l2, y < n := fun y hy => h1 y (p.mem_iff.mpr hy)
    cases l1 with
    | nil => rw [List.nil_perm.mp p]
    | cons a l1 =>
      have ne2 : l2 ≠ [] := fun e => by
        rw [e] at p
        have := p.length_eq
        simp at this
      rw [show x :: a :: l1 = [x] ++ (a :: l1) from rfl, show x :: l2 = [x] ++ l2 from rfl,
        foldm_append C A (by simp) (by simp) (fun y hy => by rw [List.mem_singleton.mp hy]; exact hx) h1, foldm_append C A (by simp) ne2 (fun y hy => by rw [List.mem_singleton.mp hy]; exact hx) h2, ih h1]
  | swap x y l =>
    intro hl
    have hy := hl y List.mem_cons_self
    have hx := hl x (List.mem_cons_of_mem _ List.mem_cons_self)
    show (x :: l).foldl m y = (y :: l).foldl m x
    rw [List.foldl_cons, List.foldl_cons, hc y x hy hx]
  | trans p q ih1 ih2 =>
    intro hl
    rw [ih1 hl, ih2 fun x hx => hl x (p.mem_iff.mpr hx)]
/-- a letter that stood before may be struck at the end -/
def Strike (m : Nat → Nat → Nat) (n : Nat) : Prop := ∀ (u : List Nat) (x : Nat), (∀ y ∈ u, y < n) → x ∈ u → foldm m (u ++ [x]) = foldm m u
theorem strike_of (C : Closed m n) (A : Assoc m n) (hi : ∀ a, a < n → m a a = a) (hh : ∀ a b, a < n → b < n → m (m a b) a = m a b) : Strike m n := by
  intro u x hu hx
  obtain ⟨s, t, rfl⟩ := List.append_of_mem hx
  have hxn := hu x hx
  have hs : ∀ y ∈ s, y < n := fun y hy => hu y (List.mem_append_left _ hy)
  have ht : ∀ y ∈ t, y < n := fun y hy => hu y (List.mem_append_right _ (List.mem_cons_of_mem _ hy))
  have core : foldm m ((x :: t) ++ [x]) = foldm m (x :: t) := by
    cases t with
    | nil => exact hi x hxn
    | cons a t =>
      have e : foldm m (x :: a :: t) = m x (foldm m (a :: t)) := by
        rw [show x :: a :: t = [x] ++ (a :: t) from rfl, foldm_append C A (by simp) (by simp) (fun y hy => by rw [List.mem_singleton.mp hy]; exact hxn) ht]
        rfl
      rw [foldm_snoc (by simp), e]
      exact hh x _ hxn (foldm_lt C (by simp) ht)
  cases s with
  | nil => exact core
  | cons a s =>
    have hxt : ∀ y ∈ x :: t, y < n := fun y hy => hu y (List.mem_append_right _ hy)
    have hxt' : ∀ y ∈ (x :: t) ++ [x], y < n := fun y hy => (List.mem_append.mp hy).elim (hxt y) fun z => by rw [List.mem_singleton.mp z]; exact hxn
    rw [List.append_assoc, foldm_append C A (by simp) (by simp) hs hxt', core, ← foldm_append C A (by simp) (by simp) hs hxt]
theorem fold_dd (S : Strike m n) {f : Int → Nat} (hf : ∀ x, f x < n) : ∀ (r : List Int), foldm m ((dd r.reverse).map f) = foldm m (r.reverse.map f)
  | [] => rfl
  | x :: r => by
    rw [List.reverse_cons]
    have ih := fold_dd S hf r
    by_cases h : x ∈ r.reverse
    · rw [dd_snoc_in h, ih, List.map_append]
      exact (S _ (f x) (fun y hy => by obtain ⟨z, _, rfl⟩ := List.mem_map.mp hy; exact hf z) (List.mem_map_of_mem h)).symm
    · rw [dd_snoc_out h, List.map_append, List.map_append]
      by_cases e : r.reverse = []
      · rw [e]
        rfl
      · rw [List.map_cons, List.map_nil, foldm_snoc (fun z => dd_ne e (List.map_eq_nil_iff.mp z)), foldm_snoc (fun z => e (List.map_eq_nil_iff.mp z)), ih]
/-- .. and from the other side -/
def StrikeL (m : Nat → Nat → Nat) (n : Nat) : Prop := ∀ (u : List Nat) (x : Nat), (∀ y ∈ u, y < n) → x ∈ u → foldm m (x :: u) = foldm m u
theorem strikeL_of (C : Closed m n) (A : Assoc m n) (hi : ∀ a, a < n → m a a = a) (hh : ∀ a b, a < n → b < n → m (m a b) a = m b a) : StrikeL m n := by
  intro u x hu hx
  obtain ⟨s, t, rfl⟩ := List.append_of_mem hx
  have hxn := hu x hx
  have hs : ∀ y ∈ s, y < n := fun y hy => hu y (List.mem_append_left _ hy)
  have ht : ∀ y ∈ t, y < n := fun y hy => hu y (List.mem_append_right _ (List.mem_cons_of_mem _ hy))
  have h1 : ∀ y ∈ [x], y < n := fun y hy => by rw [List.mem_singleton.mp hy]; exact hxn
  have core : foldm m (x :: (s ++ [x])) = foldm m (s ++ [x]) := by
    cases s with
    | nil => exact hi x hxn
    | cons a s =>
      rw [show x :: (a :: s ++ [x]) = ([x] ++ (a :: s)) ++ [x] from rfl, foldm_snoc (by simp), foldm_append C A (by simp) (by simp) h1 hs, foldm_snoc (by simp)]
      exact hh x _ hxn (foldm_lt C (by simp) hs)
  have hsx : ∀ y ∈ s ++ [x], y < n := fun y hy => (List.mem_append.mp hy).elim (hs y) (h1 y)
  have hxs : ∀ y ∈ x :: (s ++ [x]), y < n := fun y hy => (List.mem_cons.mp hy).elim (fun e => by rw [e]; exact hxn) (hsx y)
  rw [show x :: (s ++ x :: t) = (x :: (s ++ [x])) ++ t by simp, show s ++ x :: t = (s ++ [x]) ++ t by simp]
  cases t with
  | nil =>
    rw [List.append_nil, List.append_nil]
    exact core
  | cons b t => rw [foldm_append C A (by simp) (by simp) hxs ht, foldm_append C A (by simp) (by simp) hsx ht, core]
theorem td_cons_in {x : Int} {w : List Int} (h : x ∈ w) : td (x :: w) = td w := by
  unfold td
  rw [List.reverse_cons, dd_snoc_in (List.mem_reverse.mpr h)]
theorem td_cons_out {x : Int} {w : List Int} (h : x ∉ w) : td (x :: w) = x :: td w := by
  unfold td
  rw [List.reverse_cons, dd_snoc_out fun z => h (List.mem_reverse.mp z), List.reverse_append]
  rfl
theorem td_ne {w : List Int} (h : w ≠ []) : td w ≠ [] := fun e => dd_ne (w := w.reverse) (fun z => h (List.reverse_eq_nil_iff.mp z)) (List.reverse_eq_nil_iff.mp e)
theorem fold_td (C : Closed m n) (A : Assoc m n) (S : StrikeL m n) {f : Int → Nat} (hf : ∀ x, f x < n) : ∀ (w : List Int), foldm m ((td w).map f) = foldm m (w.map f)
  | [] => rfl
  | x :: w => by
    have ih := fold_td C A S hf w
    have lt : ∀ (v : List Int), ∀ y ∈ v.map f, y < n := fun v y hy => by obtain ⟨z, _, rfl⟩ := List.mem_map.mp hy; exact hf z
    by_cases h : x ∈ w
    · rw [td_cons_in h, ih]
      exact (S _ (f x) (lt w) (List.mem_map_of_mem h)).symm
    · rw [td_cons_out h]
      by_cases e : w = []
      · rw [e]
        rfl
      · rw [List.map_cons, List.map_cons, show f x :: (td w).map f = [f x] ++ (td w).map f from rfl, show f x :: w.map f = [f x] ++ w.map f from rfl,
          foldm_append (u := [f x]) (v := (td w).map f) C A (by simp) (fun z => td_ne e (List.map_eq_nil_iff.mp z)) (lt [x]) (lt _), foldm_append (u := [f x]) (v := w.map f) C A (by simp) (fun z => e (List.map_eq_nil_iff.mp z)) (lt [x]) (lt _), ih]
theorem sound (C : Closed m n) {k : Kd} (G : Good k m n) {f : Int → Nat} (hf : ∀ x, f x < n) {w : List Int} (hw : w ≠ []) : foldm m (w.map f) = foldm m ((plain k w).map f) := by
  have A := G.assoc
  have lt : ∀ (v : List Int), ∀ y ∈ v.map f, y < n := fun v y hy => by obtain ⟨z, _, rfl⟩ := List.mem_map.mp hy; exact hf z
  obtain ⟨a, r, rfl⟩ := List.exists_cons_of_ne_nil hw
  have ddr : Strike m n → foldm m ((dd (a :: r)).map f) = foldm m ((a :: r).map f) := fun S => by
    have := fold_dd S hf (a :: r).reverse
    rwa [List.reverse_reverse] at this
  -- the last letter apart
  have last : ∀ (w : List Int), w ≠ [] → ∃ u c, w = u ++ [c] ∧ lt1 w = [c] := fun w hw => by
    refine ⟨w.dropLast, w.getLast hw, (List.dropLast_concat_getLast hw).symm, ?_⟩
    have e := (List.dropLast_concat_getLast hw).symm
    rw [lt1_rev]
    conv => lhs; rw [e]
    rw [List.reverse_append]
    rfl
  cases k with
  | list => rfl
  | bag => exact (fold_perm C A (fun a b ha hb => k_comm (G.rules _ (by simp [rl])) ha hb) ((isort_perm (a :: r)).map f) (lt _)).symm
  | set =>
    have hcm : ∀ a b, a < n → b < n → m a b = m b a := fun a b ha hb => k_comm (G.rules _ (by simp [rl])) ha hb
    have hid : ∀ a, a < n → m a a = a := fun a ha => k_idem (G.rules _ (by simp [rl])) ha
    have S : Strike m n := strike_of C A hid fun a b ha hb => by rw [hcm a b ha hb, A b a a hb ha ha, hid a ha]
    exact ((fold_perm C A hcm ((isort_perm (dd (a :: r))).map f) (lt _)).trans (ddr S)).symm
  | first =>
    have h := fun a b (ha : a < n) (hb : b < n) => k_first (m := m) (G.rules _ (by simp [rl])) ha hb
    show (r.map f).foldl m (f a) = f a
    have go : ∀ (v : List Nat), (∀ y ∈ v, y < n) → v.foldl m (f a) = f a := by
      intro v
      induction v with
      | nil => intro _; rfl
      | cons y v ih =>
        intro hv
        rw [List.foldl_cons, h (f a) y (hf a) (hv y List.mem_cons_self)]
        exact ih fun z hz => hv z (List.mem_cons_of_mem _ hz)
    exact go _ (lt r)
  | last =>
    obtain ⟨u, c, e, el⟩ := last (a :: r) hw
    show foldm m ((a :: r).map f) = foldm m ((lt1 (a :: r)).map f)
    rw [el, e, List.map_append]
    by_cases hu : u = []
    · rw [hu]; rfl
    · rw [List.map_cons, List.map_nil, foldm_snoc (by simp [hu])]
      exact k_last (G.rules _ (by simp [rl])) (foldm_lt C (by simp [hu]) (lt u)) (hf c)
  | ends =>
    obtain ⟨u, c, e, el⟩ := last (a :: r) hw
    show foldm m ((a :: r).map f) = foldm m ((hd1 (a :: r) ++ lt1 (a :: r)).map f)
    rw [el]
    show foldm m ((a :: r).map f) = m (f a) (f c)
    cases u with
    | nil =>
      have e' : a = c ∧ r = [] := by simpa using e
      rw [e'.1, e'.2]
      exact (k_idem (G.rules _ (by simp [rl])) (hf c)).symm
    | cons b u =>
      have e' : a = b ∧ r = u ++ [c] := by simpa using e
      rw [e'.2]
      rw [show a :: (u ++ [c]) = (a :: u) ++ [c] from rfl, List.map_append, List.map_cons, List.map_cons, List.map_nil, foldm_snoc (by simp)]
      cases u with
      | nil => rfl
      | cons d u =>
        rw [show f a :: (d :: u).map f = [f a] ++ (d :: u).map f from rfl, foldm_append (u := [f a]) (v := (d :: u).map f) C A (by simp) (by simp) (lt [a]) (lt (d :: u))]
        exact k_ends (G.rules _ (by simp [rl])) (hf a) (foldm_lt C (by simp) (lt _)) (hf c)
  | heads =>
    exact (ddr (strike_of C A (fun a ha => k_idem (G.rules _ (by simp [rl])) ha) fun a b ha hb => k_heads (G.rules _ (by simp [rl])) ha hb)).symm
  | tails =>
    exact (fold_td C A (strikeL_of C A (fun a ha => k_idem (G.rules _ (by simp [rl])) ha) fun a b ha hb => k_tails (G.rules _ (by simp [rl])) ha hb) hf (a :: r)).symm
end
end K4
/-! the mathematics: the table of all plain values of short words -/
namespace K4

/-! ### the rules hold for words -/
theorem wi (k : Kd) : ∀ r ∈ rl k, ∀ g : Nat → List Int, (∀ d, g d ≠ []) → plain k (r.1.flatMap g) = plain k (r.2.flatMap g) := by
  intro r hr g hg
  have same : ∀ {u v : List Int}, (∀ x, x ∈ u ↔ x ∈ v) → sd u = sd v := fun h => sd_congr h
  have e2 : ∀ a b, [a, b].flatMap g = g a ++ g b := fun a b => by simp
  have e1 : ∀ a, [a].flatMap g = g a := fun a => by simp
  have e3 : ∀ a b c, [a, b, c].flatMap g = g a ++ (g b ++ g c) := fun a b c => by simp
  cases k with
  | list => cases hr
  | bag =>
    rw [List.mem_singleton.mp hr]
    show isort _ = isort _
    rw [e2, e2]
    exact isort_congr List.perm_append_comm
  | set =>
    rcases List.mem_cons.mp hr with rfl | hr
    · show sd _ = sd _
      rw [e2, e2]
      exact sd_congr fun x => by rw [List.mem_append, List.mem_append, or_comm]
    · rw [List.mem_singleton.mp hr]
      show sd _ = sd _
      rw [e2, e1]
      exact sd_congr fun x => by rw [List.mem_append, or_self]
  | first =>
    rw [List.mem_singleton.mp hr]
    show hd1 _ = hd1 _
    rw [e2, e1, hd1_append (hg 0)]
  | last =>
    rw [List.mem_singleton.mp hr]
    show lt1 _ = lt1 _
    rw [e2, e1, lt1_append (hg 1)]
  | ends =>
    rcases List.mem_cons.mp hr with rfl | hr
    · show hd1 _ ++ lt1 _ = hd1 _ ++ lt1 _
      rw [e2, e1, hd1_append (hg 0), lt1_append (hg 0)]
    · rw [List.mem_singleton.mp hr]
      show hd1 _ ++ lt1 _ = hd1 _ ++ lt1 _
      rw [e3, e2, hd1_append (hg 0), hd1_append (hg 0), ← List.append_assoc, lt1_append (hg 2), lt1_append (hg 2)]
  | heads =>
    rcases List.mem_cons.mp hr with rfl | hr
    · show dd _ = dd _
      rw [e2, e1]
      exact dd_absorb fun x h => h
    · rw [List.mem_singleton.mp hr]
      show dd _ = dd _
      rw [e3, e2, ← List.append_assoc]
      exact dd_absorb fun x h => List.mem_append_left _ h
  | tails =>
    rcases List.mem_cons.mp hr with rfl | hr
    · show td _ = td _
      rw [e2, e1]
      unfold td
      rw [List.reverse_append, dd_absorb fun x h => h]
    · rw [List.mem_singleton.mp hr]
      show td _ = td _
      rw [e3, e2]
      unfold td
      rw [List.reverse_append, List.reverse_append, dd_absorb fun x h => List.mem_append_left _ h]

/-! ### the plain values of short words -/
theorem nodup_len : ∀ {l m : List Int}, l.Nodup → (∀ x ∈ l, x ∈ m) → l.length ≤ m.length
  | [], _, _, _ => Nat.zero_le _
  | a :: l, m, hl, h => by
    obtain ⟨h1, h2⟩ := List.nodup_cons.mp hl
    have ha := h a List.mem_cons_self
    have p : m.Perm (a :: m.erase a) := List.perm_cons_erase ha
    have z := nodup_len (l := l) (m := m.erase a) h2 fun x hx => by
      rcases List.mem_cons.mp (p.mem_iff.mp (h x (List.mem_cons_of_mem _ hx))) with e | e
      · exact absurd (e ▸ hx) h1
      · exact e
    have e := p.length_eq
    rw [List.length_cons] at e ⊢
    omega
def ext : Kd → Bool
  | .list => true
  | .bag => true
  | _ => false
/-- N holds, each once, the plain values of the words of 1 to z letters -/
structure Nrm (k : Kd) (L : List Int) (z : Nat) (N : List (List Int)) : Prop where
  nd : N.Nodup
  mem : ∀ p, p ∈ N ↔ ∃ w, w ≠ [] ∧ w.length ≤ z ∧ (∀ x ∈ w, x ∈ L) ∧ plain k w = p
  ne : L ≠ []
  z1 : 1 ≤ z
  z2 : k = .ends → 2 ≤ z
  zL : L.length ≤ z ∨ k = .list ∨ k = .bag ∨ k = .first ∨ k = .last ∨ k = .ends
def Over (L w : List Int) : Prop := w ≠ [] ∧ ∀ x ∈ w, x ∈ L
theorem Over.append {L u v : List Int} (hu : Over L u) (hv : Over L v) : Over L (u ++ v) := ⟨by simp [hu.1], fun x hx => (List.mem_append.mp hx).elim (hu.2 x) (hv.2 x)⟩
theorem Over.plain {L w : List Int} (k : Kd) (h : Over L w) : Over L (plain k w) := ⟨plain_ne k h.1, fun x hx => h.2 x (mem_plain k hx)⟩
section
variable {k : Kd} {L : List Int} {z : Nat} {N : List (List Int)}
theorem plain_length_ext (h : ext k = true) (w : List Int) : (plain k w).length = w.length := by
  cases k <;> first | rfl | exact isort_length w | cases h
theorem Nrm.found (R : Nrm k L z N) (h : ext k = false) {w : List Int} (hw : Over L w) : plain k w ∈ N := by
  refine (R.mem _).mpr ⟨plain k w, (hw.plain k).1, ?_, (hw.plain k).2, plain_plain k w⟩
  have short : ∀ {l : List Int}, l.Nodup → (∀ x ∈ l, x ∈ L) → L.length ≤ z → l.length ≤ z := fun h1 h2 h3 => Nat.le_trans (nodup_len h1 h2) h3
  have hm := (hw.plain k).2
  cases k with
  | list => cases h
  | bag => cases h
  | set => exact short ((isort_perm _).nodup_iff.mpr (nodup_dd w)) hm (by have := R.zL; simpa using this)
  | first => exact Nat.le_trans (by show (w.take 1).length ≤ 1; rw [List.length_take]; omega) R.z1
  | last => exact Nat.le_trans (by show (w.reverse.take 1).length ≤ 1; rw [List.length_take]; omega) R.z1
  | ends => exact Nat.le_trans (by show (w.take 1 ++ w.reverse.take 1).length ≤ 2; rw [List.length_append, List.length_take, List.length_take]; omega) (R.z2 rfl)
  | heads => exact short (nodup_dd w) hm (by have := R.zL; simpa using this)
  | tails => exact short ((List.reverse_perm _).nodup_iff.mpr (nodup_dd _)) hm (by have := R.zL; simpa using this)
theorem Nrm.found_ext (R : Nrm k L z N) (h : ext k = true) {w : List Int} (hw : Over L w) : plain k w ∈ N ↔ w.length ≤ z := by
  constructor
  · intro hm
    obtain ⟨u, _, hu, _, e⟩ := (R.mem _).mp hm
    rw [← plain_length_ext h w, ← e, plain_length_ext h]
    exact hu
  · intro hl
    exact (R.mem _).mpr ⟨w, hw.1, hl, hw.2, rfl⟩
/-- the place of a word's plain value, N.length if there is none -/
def idx (k : Kd) (N : List (List Int)) (w : List Int) : Nat := N.idxOf (plain k w)
def mN (k : Kd) (N : List (List Int)) (a b : Nat) : Nat := if a < N.length ∧ b < N.length then N.idxOf (plain k (N.getD a [] ++ N.getD b [])) else N.length
def tn (k : Kd) (N : List (List Int)) : Nat := if ext k = true then N.length + 1 else N.length
theorem idx_lt {w : List Int} (h : plain k w ∈ N) : idx k N w < N.length := List.idxOf_lt_length_iff.mpr h
theorem idx_out {w : List Int} (h : plain k w ∉ N) : idx k N w = N.length := List.idxOf_eq_length h
theorem get_idx {w : List Int} (h : plain k w ∈ N) : N.getD (idx k N w) [] = plain k w := by
  have hl := idx_lt h
  rw [List.getD_eq_getElem?_getD, List.getElem?_eq_getElem hl]
  exact List.getElem_idxOf hl
theorem idx_inj {u v : List Int} (hu : plain k u ∈ N) (hv : plain k v ∈ N) (e : idx k N u = idx k N v) : plain k u = plain k v := by rw [← get_idx hu, ← get_idx hv, e]
/-- merging in the table is writing one behind another -/
theorem Nrm.hom (R : Nrm k L z N) {u v : List Int} (hu : Over L u) (hv : Over L v) : mN k N (idx k N u) (idx k N v) = idx k N (u ++ v) := by
  unfold mN
  cases he : ext k with
  | false =>
    have h1 := R.found he hu
    have h2 := R.found he hv
    rw [if_pos ⟨idx_lt h1, idx_lt h2⟩, get_idx h1, get_idx h2]
    unfold idx
    rw [plain_l, plain_r]
  | true =>
    by_cases h1 : plain k u ∈ N
    · by_cases h2 : plain k v ∈ N
      · rw [if_pos ⟨idx_lt h1, idx_lt h2⟩, get_idx h1, get_idx h2]
        unfold idx
        rw [plain_l, plain_r]
      · rw [idx_out h2, if_neg (by omega)]
        refine (idx_out fun q => h2 ?_).symm
        have := (R.found_ext he (hu.append hv)).mp q
        rw [List.length_append] at this
        exact (R.found_ext he hv).mpr (by omega)
    · rw [idx_out h1, if_neg (by omega)]
      refine (idx_out fun q => h1 ?_).symm
      have := (R.found_ext he (hu.append hv)).mp q
      rw [List.length_append] at this
      exact (R.found_ext he hu).mpr (by omega)
theorem Nrm.over (R : Nrm k L z N) {p : List Int} (h : p ∈ N) : Over L p ∧ plain k p = p := by
  obtain ⟨w, h1, _, h3, rfl⟩ := (R.mem p).mp h
  exact ⟨Over.plain k ⟨h1, h3⟩, plain_plain k w⟩
/-- every element is the place of a word -/
theorem Nrm.rep (R : Nrm k L z N) {a : Nat} (h : a < tn k N) : ∃ u, Over L u ∧ idx k N u = a := by
  by_cases hl : a < N.length
  · have hm : N.getD a [] ∈ N := by
      rw [List.getD_eq_getElem?_getD, List.getElem?_eq_getElem hl]
      exact List.getElem_mem hl
    obtain ⟨h1, h2⟩ := R.over hm
    refine ⟨N.getD a [], h1, ?_⟩
    unfold idx
    rw [h2, List.getD_eq_getElem?_getD, List.getElem?_eq_getElem hl]
    exact List.Nodup.idxOf_getElem R.nd a hl
  · unfold tn at h
    cases he : ext k with
    | false =>
      rw [he, if_neg Bool.false_ne_true] at h
      exact absurd h hl
    | true =>
      rw [he, if_pos rfl] at h
      obtain ⟨x, r, hx⟩ := List.exists_cons_of_ne_nil R.ne
      have ho : Over L (List.replicate (z + 1) x) := ⟨by simp, fun y hy => by rw [(List.mem_replicate.mp hy).2, hx]; exact List.mem_cons_self⟩
      refine ⟨_, ho, ?_⟩
      rw [idx_out fun q => ?_]
      · omega
      · have := (R.found_ext he ho).mp q
        rw [List.length_replicate] at this
        omega
theorem Nrm.idx_tn (R : Nrm k L z N) {w : List Int} (h : Over L w) : idx k N w < tn k N := by
  unfold tn
  cases he : ext k with
  | false => rw [if_neg Bool.false_ne_true]; exact idx_lt (R.found he h)
  | true =>
    rw [if_pos rfl]
    by_cases q : plain k w ∈ N
    · exact Nat.lt_succ_of_lt (idx_lt q)
    · rw [idx_out q]
      exact Nat.lt_succ_self _
theorem Nrm.closed (R : Nrm k L z N) : Closed (mN k N) (tn k N) := ⟨fun a b ha hb => by
  obtain ⟨u, hu, rfl⟩ := R.rep ha
  obtain ⟨v, hv, rfl⟩ := R.rep hb
  rw [R.hom hu hv]
  exact R.idx_tn (hu.append hv)⟩
theorem Nrm.foldl (R : Nrm k L z N) : ∀ (us : List (List Int)) (u : List Int), Over L u → (∀ v ∈ us, Over L v) → (us.map (idx k N)).foldl (mN k N) (idx k N u) = idx k N (u ++ us.flatten)
  | [], u, _, _ => by simp
  | v :: us, u, hu, h => by
    rw [List.map_cons, List.foldl_cons, R.hom hu (h v List.mem_cons_self), Nrm.foldl R us (u ++ v) (hu.append (h v List.mem_cons_self)) fun w hw => h w (List.mem_cons_of_mem _ hw)]
    simp
theorem Nrm.foldm (R : Nrm k L z N) {us : List (List Int)} (hne : us ≠ []) (h : ∀ v ∈ us, Over L v) : foldm (mN k N) (us.map (idx k N)) = idx k N us.flatten := by
  cases us with
  | nil => exact absurd rfl hne
  | cons v us =>
    show (us.map (idx k N)).foldl (mN k N) (idx k N v) = _
    rw [R.foldl us v (h v List.mem_cons_self) fun w hw => h w (List.mem_cons_of_mem _ hw)]
    simp
theorem rl_ne {r : Rul} (h : r ∈ rl k) : r.1 ≠ [] ∧ r.2 ≠ [] ∧ (∀ d ∈ r.1, d < many r) ∧ ∀ d ∈ r.2, d < many r := by
  have all : ∀ k : Kd, ∀ r ∈ rl k, r.1 ≠ [] ∧ r.2 ≠ [] ∧ (∀ d ∈ r.1, d < many r) ∧ ∀ d ∈ r.2, d < many r := by
    intro k
    cases k <;> decide
  exact all k r h
theorem Nrm.good (R : Nrm k L z N) : Good k (mN k N) (tn k N) := by
  refine ⟨fun a b c ha hb hc => ?_, fun r hr ch hch => ?_⟩
  · obtain ⟨u, hu, rfl⟩ := R.rep ha
    obtain ⟨v, hv, rfl⟩ := R.rep hb
    obtain ⟨w, hw, rfl⟩ := R.rep hc
    rw [R.hom hu hv, R.hom (hu.append hv) hw, R.hom hv hw, R.hom hu (hv.append hw), List.append_assoc]
  · obtain ⟨h1, h2⟩ := mem_choices.mp hch
    obtain ⟨n1, n2, b1, b2⟩ := rl_ne hr
    -- a word for every element chosen
    obtain ⟨x, _, hx⟩ := List.exists_cons_of_ne_nil R.ne
    have hx : x ∈ L := by rw [hx]; exact List.mem_cons_self
    have pick : ∀ a, ∃ u, Over L u ∧ (a < tn k N → idx k N u = a) := fun a => by
      by_cases h : a < tn k N
      · obtain ⟨u, h3, h4⟩ := R.rep h
        exact ⟨u, h3, fun _ => h4⟩
      · exact ⟨[x], ⟨by simp, fun y hy => by rw [List.mem_singleton.mp hy]; exact hx⟩, fun z => absurd z h⟩
    let g : Nat → List Int := fun d => (pick (ch.getD d 0)).choose
    have hg : ∀ d, Over L (g d) := fun d => (pick (ch.getD d 0)).choose_spec.1
    have he : ∀ d, d < many r → idx k N (g d) = ch.getD d 0 := fun d hd => (pick (ch.getD d 0)).choose_spec.2 (by
      have hlt : d < ch.length := by rw [h1]; exact hd
      rw [List.getD_eq_getElem?_getD, List.getElem?_eq_getElem hlt]
      exact h2 _ (List.getElem_mem hlt))
    have side : ∀ l : List Nat, l ≠ [] → (∀ d ∈ l, d < many r) → K4.foldm (mN k N) (l.map fun d => ch.getD d 0) = idx k N (l.flatMap g) := fun l hl hb => by
      have e : (l.map fun d => ch.getD d 0) = (l.map g).map (idx k N) := by
        rw [List.map_map]
        exact List.map_congr_left fun d hd => (he d (hb d hd)).symm
      rw [e, R.foldm (by simp [hl]) fun v hv => by obtain ⟨d, _, rfl⟩ := List.mem_map.mp hv; exact hg d, List.flatMap_def]
    rw [side _ n1 b1, side _ n2 b2]
    unfold idx
    rw [wi k r hr g fun d => (hg d).1]
theorem flat1 : ∀ (w : List Int), (w.map fun x => [x]).flatten = w
  | [] => rfl
  | a :: w => by rw [List.map_cons, List.flatten_cons, flat1 w]; rfl
/-- a word of letters folds to the place of its plain value -/
theorem Nrm.word (R : Nrm k L z N) {w : List Int} (h : Over L w) : K4.foldm (mN k N) (w.map fun x => idx k N [x]) = idx k N w := by
  have e : (w.map fun x => idx k N [x]) = (w.map fun x => [x]).map (idx k N) := by rw [List.map_map]; rfl
  rw [e, R.foldm (by simp [h.1]) fun v hv => ?_]
  · rw [flat1]
  · obtain ⟨x, hx, rfl⟩ := List.mem_map.mp hv
    exact ⟨by simp, fun y hy => by rw [List.mem_singleton.mp hy]; exact h.2 x hx⟩
end

/-! ### rows -/
def mr (rows : List (List Nat)) (a b : Nat) : Nat := (rows.getD a []).getD b 0
structure Wf (rows : List (List Nat)) : Prop where
  pos : 0 < rows.length
  each : ∀ r ∈ rows, r.length = rows.length ∧ ∀ x ∈ r, x < rows.length
theorem Wf.closed {rows : List (List Nat)} (h : Wf rows) : Closed (mr rows) rows.length := ⟨fun a b ha hb => by
  unfold mr
  have e1 : rows.getD a [] = rows[a] := by rw [List.getD_eq_getElem?_getD, List.getElem?_eq_getElem ha]; rfl
  obtain ⟨h1, h2⟩ := h.each _ (List.getElem_mem ha)
  have hb' : b < rows[a].length := by rw [h1]; exact hb
  rw [e1, List.getD_eq_getElem?_getD, List.getElem?_eq_getElem hb']
  exact h2 _ (List.getElem_mem hb')⟩
def freeRow (k : Kd) (N : List (List Int)) (p : List Int) : List Nat := (N.map fun q => N.idxOf (plain k (p ++ q))) ++ if ext k = true then [N.length] else []
def freeRows (k : Kd) (N : List (List Int)) : List (List Nat) := N.map (freeRow k N) ++ if ext k = true then [List.replicate (N.length + 1) N.length] else []
theorem freeRows_length (k : Kd) (N : List (List Int)) : (freeRows k N).length = tn k N := by
  unfold freeRows tn
  rw [List.length_append, List.length_map]
  cases ext k <;> simp
theorem freeRow_length (k : Kd) (N : List (List Int)) (p : List Int) : (freeRow k N p).length = tn k N := by
  unfold freeRow tn
  rw [List.length_append, List.length_map]
  cases ext k <;> simp
theorem mr_free {k : Kd} {N : List (List Int)} {a b : Nat} (ha : a < tn k N) (hb : b < tn k N) : mr (freeRows k N) a b = mN k N a b := by
  unfold mr
  have cases_ : ∀ {c}, c < tn k N → c < N.length ∨ (c = N.length ∧ ext k = true) := fun {c} hc => by
    unfold tn at hc
    cases he : ext k with
    | false => rw [he, if_neg Bool.false_ne_true] at hc; exact .inl hc
    | true =>
      rw [he, if_pos rfl] at hc
      exact (Nat.lt_or_eq_of_le (Nat.le_of_lt_succ hc)).elim .inl fun e => .inr ⟨e, rfl⟩
  rcases cases_ ha with h1 | ⟨h1, he⟩
  · have e1 : (freeRows k N).getD a [] = freeRow k N N[a] := by
      unfold freeRows
      rw [List.getD_eq_getElem?_getD, List.getElem?_append_left (by simpa using h1), List.getElem?_map, List.getElem?_eq_getElem h1]
      rfl
    have ga : N.getD a [] = N[a] := by rw [List.getD_eq_getElem?_getD, List.getElem?_eq_getElem h1]; rfl
    rw [e1]
    unfold freeRow mN
    rcases cases_ hb with h2 | ⟨h2, he⟩
    · have gb : N.getD b [] = N[b] := by rw [List.getD_eq_getElem?_getD, List.getElem?_eq_getElem h2]; rfl
      rw [if_pos (show a < N.length ∧ b < N.length from ⟨h1, h2⟩), ga, gb, List.getD_eq_getElem?_getD, List.getElem?_append_left (by simpa using h2), List.getElem?_map, List.getElem?_eq_getElem h2]
      rfl
    · rw [if_neg (show ¬ (a < N.length ∧ b < N.length) by omega), he, if_pos rfl, h2, List.getD_eq_getElem?_getD, List.getElem?_append_right (by simp)]
      simp
  · have e1 : (freeRows k N).getD a [] = List.replicate (N.length + 1) N.length := by
      unfold freeRows
      rw [he, if_pos rfl, h1, List.getD_eq_getElem?_getD, List.getElem?_append_right (by simp)]
      simp
    have hb' : b < N.length + 1 := by
      unfold tn at hb
      rwa [he, if_pos rfl] at hb
    rw [e1]
    unfold mN
    rw [if_neg (show ¬ (a < N.length ∧ b < N.length) by omega), List.getD_eq_getElem?_getD, List.getElem?_replicate, if_pos hb']
    rfl
theorem Nrm.wf {k : Kd} {L : List Int} {z : Nat} {N : List (List Int)} (R : Nrm k L z N) : Wf (freeRows k N) := by
  obtain ⟨x, _, hx⟩ := List.exists_cons_of_ne_nil R.ne
  have ho : Over L [x] := ⟨by simp, fun y hy => by rw [List.mem_singleton.mp hy, hx]; exact List.mem_cons_self⟩
  refine ⟨?_, fun r hr => ?_⟩
  · rw [freeRows_length]
    exact Nat.lt_of_le_of_lt (Nat.zero_le _) (R.idx_tn ho)
  · rw [freeRows_length]
    obtain ⟨a, ha, rfl⟩ := List.mem_iff_getElem.mp hr
    have ha' : a < tn k N := by rw [← freeRows_length]; exact ha
    have hl : (freeRows k N)[a].length = tn k N := by
      rcases List.mem_append.mp (List.getElem_mem ha) with q | q
      · obtain ⟨p, _, e⟩ := List.mem_map.mp q
        rw [← e, freeRow_length]
      · cases he : ext k with
        | false => rw [he, if_neg Bool.false_ne_true] at q; cases q
        | true =>
          rw [he, if_pos rfl] at q
          rw [List.mem_singleton.mp q, List.length_replicate]
          unfold tn
          rw [he, if_pos rfl]
    refine ⟨hl, fun y hy => ?_⟩
    obtain ⟨b, hb, rfl⟩ := List.mem_iff_getElem.mp hy
    have hb' : b < tn k N := by rw [← hl]; exact hb
    have e := mr_free (k := k) (N := N) ha' hb'
    unfold mr at e
    rw [List.getD_eq_getElem?_getD, List.getD_eq_getElem?_getD, List.getElem?_eq_getElem ha] at e
    have e2 : (freeRows k N)[a][b] = mN k N a b := by
      rw [← e]
      show _ = ((freeRows k N)[a][b]?).getD 0
      rw [List.getElem?_eq_getElem hb]
      rfl
    rw [e2]
    exact R.closed.lt a b ha' hb'
theorem fold_congr {m m' : Nat → Nat → Nat} {n : Nat} (C : Closed m n) (h : ∀ a b, a < n → b < n → m' a b = m a b) : ∀ {v : List Nat} {a : Nat}, a < n → (∀ x ∈ v, x < n) → v.foldl m' a = v.foldl m a
  | [], _, _, _ => rfl
  | x :: v, a, ha, hv => by
    have hx := hv x List.mem_cons_self
    rw [List.foldl_cons, List.foldl_cons, h a x ha hx]
    exact fold_congr C h (C.lt a x ha hx) fun y hy => hv y (List.mem_cons_of_mem _ hy)
theorem foldm_congr {m m' : Nat → Nat → Nat} {n : Nat} (C : Closed m n) (h : ∀ a b, a < n → b < n → m' a b = m a b) {v : List Nat} (hv : ∀ x ∈ v, x < n) : foldm m' v = foldm m v := by
  cases v with
  | nil => rfl
  | cons a v => exact fold_congr C h (hv a List.mem_cons_self) fun y hy => hv y (List.mem_cons_of_mem _ hy)
theorem Good.congr {k : Kd} {m m' : Nat → Nat → Nat} {n : Nat} (C : Closed m n) (h : ∀ a b, a < n → b < n → m' a b = m a b) (G : Good k m n) : Good k m' n := by
  refine ⟨fun a b c ha hb hc => ?_, fun r hr ch hch => ?_⟩
  · rw [h a b ha hb, h _ c (C.lt a b ha hb) hc, h b c hb hc, h a _ ha (C.lt b c hb hc)]
    exact G.assoc a b c ha hb hc
  · obtain ⟨h1, h2⟩ := mem_choices.mp hch
    obtain ⟨_, _, b1, b2⟩ := rl_ne hr
    have lt : ∀ l : List Nat, (∀ d ∈ l, d < many r) → ∀ x ∈ l.map (fun d => ch.getD d 0), x < n := fun l hl x hx => by
      obtain ⟨d, hd, rfl⟩ := List.mem_map.mp hx
      have hlt : d < ch.length := by rw [h1]; exact hl d hd
      rw [List.getD_eq_getElem?_getD, List.getElem?_eq_getElem hlt]
      exact h2 _ (List.getElem_mem hlt)
    rw [foldm_congr C h (lt _ b1), foldm_congr C h (lt _ b2)]
    exact G.rules r hr ch hch
section
variable {k : Kd} {L : List Int} {z : Nat} {N : List (List Int)}
theorem Nrm.goodR (R : Nrm k L z N) : Good k (mr (freeRows k N)) (freeRows k N).length := by
  rw [freeRows_length]
  exact R.good.congr R.closed fun a b ha hb => mr_free ha hb
theorem Nrm.wordR (R : Nrm k L z N) {w : List Int} (h : Over L w) : K4.foldm (mr (freeRows k N)) (w.map fun x => idx k N [x]) = idx k N w := by
  rw [foldm_congr R.closed (fun a b ha hb => mr_free ha hb) fun y hy => ?_]
  · exact R.word h
  · obtain ⟨x, hx, rfl⟩ := List.mem_map.mp hy
    exact R.idx_tn ⟨by simp, fun y hy => by rw [List.mem_singleton.mp hy]; exact h.2 x hx⟩
end
end K4
/-! the texts, the frame relation, the facts -/
namespace K4
open PySem PySem.Spec PyProof.Rows L2 LamX

abbrev topS (i : Nat) : Stmt := PySem.Challenge.pw_movedstates_k04_whole_words.main.body.getD i (.Pass ⟨0, 0, 0, 0⟩)
abbrev dB (i : Nat) : List Stmt := defBody (topS i)
abbrev dS (i : Nat) : Scope := defScope (topS i)

/-! ### the frame -/
def plainO : HO → Bool
  | .tbl _ => false
  | .ext _ => false
  | _ => true
structure Fr (T : List (Addr × Str)) (S : Addr → Prop) (H H' : Hp) : Prop where
  ext : ∀ b o, H b = some o → ¬ S b → plainO o = true → H' b = some o
  tabs : Tabs T H → Tabs T H'
abbrev Nl : Addr → Prop := fun _ => False
abbrev On (st : Addr) : Addr → Prop := fun b => b = st
abbrev Ex (T : List (Addr × Str)) := Fr T Nl
section
variable {T : List (Addr × Str)} {S : Addr → Prop} {H H' H1 H2 : Hp}
theorem Tabs.upd' {p : Addr} {o : HO} (t : Tabs T H) (h : ∀ q, H p = some q → plainO q = true) : Tabs T (upd H p o) := by
  intro q hq
  obtain ⟨ps, h1, h2, h3⟩ := t q hq
  have n1 : q.1 ≠ p := fun z => by
    rw [z] at h1
    have := h _ h1
    cases this
  refine ⟨ps, by rw [upd_ne n1]; exact h1, h2, fun pos cv hc => ?_⟩
  obtain ⟨c, e1, e2⟩ := h3 pos cv hc
  have n2 : c ≠ p := fun z => by
    rw [z] at e2
    have := h _ e2
    cases this
  exact ⟨c, e1, by rw [upd_ne n2]; exact e2⟩
theorem Fr.refl : Fr T S H H := ⟨fun _ _ h _ _ => h, id⟩
theorem Fr.trans (a : Fr T S H H1) (b : Fr T S H1 H2) : Fr T S H H2 := ⟨fun c o h n p => b.ext c o (a.ext c o h n p) n p, fun t => b.tabs (a.tabs t)⟩
theorem Fr.free (e : Fr T S H H') {p : Addr} {o : HO} (n : H' p = none) (h : H p = some o) (q : plainO o = true) : S p := by
  by_cases s : S p
  · exact s
  · rw [e.ext p o h s q] at n
    cases n
theorem Fr.new {p : Addr} {o : HO} (e : Fr T S H H') (n : H' p = none) : Fr T S H (upd H' p o) :=
  ⟨fun b u h s q => by
    have z := e.ext b u h s q
    rw [upd_ne (ne_of_none z n)]
    exact z, fun t => Tabs.upd' (e.tabs t) fun q h => by rw [n] at h; cases h⟩
/-- a store to an object that is new since H -/
theorem Fr.put {p : Addr} {o u : HO} (e : Fr T S H H') (n : H p = none) (h : H' p = some u) (q : plainO u = true) : Fr T S H (upd H' p o) :=
  ⟨fun b v h' s q => by
    rw [upd_ne (fun z => by rw [z, n] at h'; cases h')]
    exact e.ext b v h' s q, fun t => Tabs.upd' (e.tabs t) fun v h' => by rw [h] at h'; cases h'; exact q⟩
/-- a store to one that may change -/
theorem Fr.putS {p : Addr} {o u : HO} (e : Fr T S H H') (n : S p) (h : H' p = some u) (q : plainO u = true) : Fr T S H (upd H' p o) :=
  ⟨fun b v h' s q => by
    rw [upd_ne (fun z => s (by rw [z]; exact n))]
    exact e.ext b v h' s q, fun t => Tabs.upd' (e.tabs t) fun v h' => by rw [h] at h'; cases h'; exact q⟩
theorem Fr.of (e : Fr T Nl H H') : Fr T S H H' := ⟨fun b o h _ q => e.ext b o h (fun z => z) q, e.tabs⟩
theorem Fr.ofN (e : ExtN H H') (t : Tabs T H') : Fr T S H H' := ⟨fun b o h _ q => e b o h fun ps z => (by rw [z] at q; cases q), fun _ => t⟩
theorem Fr.tup {a : Addr} {xs : List V} (e : Fr T Nl H H') (h : H a = some (.tup xs)) : H' a = some (.tup xs) := e.ext _ _ h id rfl
theorem Fr.lst {a : Addr} {xs : List V} (e : Fr T Nl H H') (h : H a = some (.lst xs)) : H' a = some (.lst xs) := e.ext _ _ h id rfl
theorem Fr.ins {a C dx : Addr} {fs} (e : Fr T Nl H H') (h : H a = some (.ins C dx fs)) : H' a = some (.ins C dx fs) := e.ext _ _ h id rfl
/-- what is new behind a step is new ahead of it -/
theorem Fr.non {p : Addr} (e : Fr T S H H') (s : ¬ S p) (n : H' p = none) (k : ∀ o, H p = some o → plainO o = true) : H p = none := by
  cases z : H p with
  | none => rfl
  | some o =>
    rw [e.ext p o z s (k o z)] at n
    cases n
end
theorem bI {b : Bool} {A B : Prop} (h1 : b = true → A) (h2 : b = false → B) : if b = true then A else B := by
  cases b with
  | true => rw [if_pos rfl]; exact h1 rfl
  | false => rw [if_neg (by decide)]; exact h2 rfl
theorem dI {p A B : Prop} [Decidable p] (h1 : p → A) (h2 : ¬ p → B) : if decide p = true then A else B := bI (fun h => h1 (of_decide_eq_true h)) (fun h => h2 (of_decide_eq_false h))
theorem nI {p A B : Prop} [Decidable p] (h1 : ¬ p → A) (h2 : p → B) : if (!decide p) = true then A else B := bI (fun h => h1 (by simpa using h)) (fun h => h2 (by simpa using h))
/-! ### data in the heap -/
abbrev iv (ns : List Int) : List V := ns.map V.int
abbrev nv (ns : List Nat) : List V := ns.map fun (n : Nat) => V.int (n : Int)
def Stm (H : Hp) (st : Addr) : Prop := ∃ ns : List Int, H st = some (.lst (iv ns))
def Wd (H : Hp) (v : V) (w : List Int) : Prop := ∃ a, v = .ref a ∧ H a = some (.tup (iv w))
theorem Wd.fr {T : List (Addr × Str)} {H H' : Hp} {v : V} {w : List Int} (e : Fr T Nl H H') (h : Wd H v w) : Wd H' v w := by
  obtain ⟨a, rfl, h⟩ := h
  exact ⟨a, rfl, e.tup h⟩
theorem Wd.frS {T : List (Addr × Str)} {H H' : Hp} {st : Addr} {v : V} {w : List Int} (e : Fr T (On st) H H') (s : Stm H st) (h : Wd H v w) : Wd H' v w := by
  obtain ⟨a, rfl, h⟩ := h
  refine ⟨a, rfl, e.ext _ _ h (fun z => ?_) rfl⟩
  obtain ⟨ns, s⟩ := s
  rw [show a = st from z, s] at h
  cases h
/-- the names of the defs by their place at the top -/
def nm : Nat → Option Str
  | 14 => some "kind_named" | 15 => some "plain_value" | 16 => some "alike" | 17 => some "rule_words" | 19 => some "check_rows" | 20 => some "tuples_of"
  | 23 => some "_law_stream" | 24 => some "_law_draw" | 25 => some "_law_wide" | 26 => some "_law_kind" | 27 => some "_law_value" | 28 => some "_law_word" | 29 => some "_law_plain" | 30 => some "_law_menu"
  | 31 => some "_law_rules" | 32 => some "_law_fold" | 33 => some "_law_choices" | 34 => some "_law_breaking" | 35 => some "_law_fault" | 36 => some "_law_merged" | 37 => some "_law_ruled" | 38 => some "_law_normals"
  | 39 => some "_law_free" | 40 => some "_law_alphabet" | 41 => some "_law_turned" | 42 => some "_law_free_word" | 43 => some "_law_partner" | 44 => some "_law_parted" | 45 => some "_law_sound" | 46 => some "law"
  | _ => none
abbrev FnP (K : PySem.W.Frag) (x : Str) (i : Nat) (f : Addr) (fd : FuncData) : Prop := FunD K x x (defArgs (topS i)) (defBody (topS i)) (defScope (topS i)) [] [] f fd
structure Fx (K : PySem.W.Frag) (mg : Str → Option Value) (fA : Nat → Addr) (fdA : Nat → FuncData) : Prop where
  len : mg "len" = none
  range : mg "range" = none
  abs : mg "abs" = none
  int : mg "int" = none
  enumerate : mg "enumerate" = none
  tuple : mg "tuple" = none
  sorted : mg "sorted" = none
  list : mg "list" = none
  max : mg "max" = none
  super : mg "super" = none
  d : ∀ i x, nm i = some x → mg x = some (.ref (fA i)) ∧ FnP K x i (fA i) (fdA i)

section
variable {T : List (Addr × Str)} {H H' : Hp} {K : PySem.W.Frag}
theorem Fr.seqL {a : Addr} {xs : List V} (e : Fr T Nl H H') (h : SqL K H a xs) : SqL K H' a xs := by
  rcases h with (h | ⟨o, h⟩) | h
  · exact .inl (.inl (e.lst h))
  · exact .inl (.inr ⟨o, e.ext _ _ h id rfl⟩)
  · exact .inr h
theorem Fr.seqT {a : Addr} {xs : List V} (e : Fr T Nl H H') (h : SqT K H a xs) : SqT K H' a xs := by
  rcases h with (h | ⟨o, h⟩) | h
  · exact .inl (.inl (e.tup h))
  · exact .inl (.inr ⟨o, e.ext _ _ h id rfl⟩)
  · exact .inr h
theorem inV_iv {x : Int} {l : List Int} : inV (.int x) (iv l) = decide (x ∈ l) := by
  induction l with
  | nil => rfl
  | cons y l ih =>
    have e : inV (.int x) (iv (y :: l)) = (eqV (.int y) (.int x) || inV (.int x) (iv l)) := rfl
    rw [e, ih]
    show ((y == x) || decide (x ∈ l)) = _
    by_cases h : x = y
    · subst h; simp
    · have h' : ¬ y = x := fun z => h z.symm
      simp [h, h']
theorem flat_iv (l : List Int) : (iv l).all flatV = true := by
  rw [List.all_eq_true]
  intro v hv
  obtain ⟨x, _, rfl⟩ := List.mem_map.mp hv
  rfl
theorem at_iv {l : List Int} {i : Nat} (h : i < l.length) : (iv l)[i]? = some (V.int (l.getD i 0)) := by
  rw [List.getElem?_map, List.getElem?_eq_getElem h, List.getD_eq_getElem?_getD, List.getElem?_eq_getElem h] <;> rfl
theorem atI_iv {l : List Int} {i : Nat} (h : i < l.length) : atI (iv l) ((i : Nat) : Int) = some (V.int (l.getD i 0)) := atI_nat (at_iv h)
theorem atI_lastI {r : List Int} {x : Int} : atI (iv (r ++ [x])) (-1) = some (V.int x) := by
  rw [iv, List.map_append]
  exact atI_last _ _
theorem snoc_of {l : List Int} (h : l ≠ []) : ∃ r x, l = r ++ [x] := ⟨_, _, (List.dropLast_concat_getLast h).symm⟩
theorem lt1_snoc {r : List Int} {x : Int} : lt1 (r ++ [x]) = [x] := by
  unfold lt1
  rw [List.reverse_append] <;> rfl
end
/-! the kinds' names -/
def kn : Kd → Str
  | .list => "list" | .bag => "bag" | .set => "set" | .first => "first" | .last => "last" | .ends => "ends" | .heads => "heads" | .tails => "tails"
theorem kn_inj : ∀ {c d : Kd}, kn c = kn d → c = d := by
  intro c d
  cases c <;> cases d <;> first | (intro _; rfl) | (intro h; exact absurd h (by decide +kernel))
theorem kI (c d : Kd) {A B : Prop} (h1 : c = d → A) (h2 : c ≠ d → B) : if decide (V.str (kn c) = V.str (kn d)) = true then A else B :=
  dI (fun h => h1 (kn_inj (V.str.inj h))) fun h => h2 fun z => h (by rw [z])
end K4
namespace K4
open PySem PySem.Spec PyProof.Rows L2 LamX
section
variable {P : Program} {w : World} {K : PySem.W.Frag} {mg : Str → Option Value} {base : Heap} {fA : Nat → Addr} {fdA : Nat → FuncData} {T : List (Addr × Str)}
theorem sc24 : FnScope ["_law_stream_here", "_law_many"] ["_law_stream_here", "_law_many"] (dS 24) := ⟨rfl, rfl, rfl, by decide +kernel, rfl, by decide +kernel, by decide +kernel⟩
def spDraw (T : List (Addr × Str)) : Sp := fun vs H Q _ => ∃ (st : Addr) (m : Nat), vs = [.ref st, .int m] ∧ Stm H st ∧ 0 < m ∧ ∀ H' (k : Nat), Fr T (On st) H H' → Stm H' st → k < m → Q (.int k) H'
theorem fmod_nat {i : Int} {m : Nat} (h : 0 < m) : ∃ k : Nat, i.fmod m = (k : Int) ∧ k < m := by
  have h1 := Int.fmod_nonneg_of_pos i (show (0 : Int) < m by omega)
  have h2 := Int.fmod_lt_of_pos i (show (0 : Int) < m by omega)
  exact ⟨(i.fmod m).toNat, by omega, by omega⟩
theorem ok_draw (Y : Fx K mg fA fdA) : FnOk P w K mg base CX0 1 (fA 24) (fdA 24) ["_law_stream_here", "_law_many"] (spDraw T) := by
  refine (Y.d 24 _ rfl).2.ok sc24 (fun vs H Q E h => by obtain ⟨_, _, rfl, _⟩ := h; rfl) (fun cdv A outer s H vs Q E hr h => ?_)
  refine ⟨_, PSs.nox (pss_cons (ps_if (pt_cmpR op_eq (pe_callB call_len_seq (by rfl) Y.len boot_len (pa_cons (pv 0) pa_nil)) pe_int (nomark _)) (pss_one (ps_ret pe_int)) pss_nil)
      (pss_one (ps_ret (pe_op op_modN (pe_callTy call_int1 (by rfl) Y.int (by decide +kernel) (pa_cons (pe_bm0 PySem.F.plainAttrs_list PySem.F.slot_list_pop PySem.F.type_list_pop mt_pop (pv 0)) pa_nil)) (pv 1))))), ?_⟩
  obtain ⟨st, m, rfl, ⟨ns, hs⟩, hm, hQ⟩ := h
  refine ⟨_, rfl, st, _, rfl, .inl (SqL.of hs), rfl, _, rfl, dI (fun e => ?_) fun e => ?_⟩
  · exact hQ _ 0 Fr.refl ⟨ns, hs⟩ hm
  · have e : ¬ ns.length = 0 := fun z => e (by rw [List.length_map, z] <;> rfl)
    obtain ⟨y, hy⟩ : ∃ y, (iv ns)[(iv ns).length - 1]? = some y := ⟨_, List.getElem?_eq_getElem (by simp; omega)⟩
    have hy' := hy
    rw [List.getElem?_map] at hy'
    obtain ⟨z, _, rfl⟩ := Option.map_eq_some_iff.mp hy'
    refine ⟨_, rfl, .inl ⟨rfl, _, SqL.of hs⟩, st, _, _, rfl, rfl, hs, hy, .inl ⟨_, rfl, _, rfl, _, _, rfl, rfl, by omega, ?_⟩⟩
    obtain ⟨k, ek, hk⟩ := fmod_nat (i := z) hm
    show Q (.int (z.fmod m)) _
    rw [ek]
    exact hQ _ k (Fr.refl.putS rfl hs rfl) ⟨ns.dropLast, by rw [upd_same, iv, iv, List.map_dropLast]⟩ hk
theorem b24 (Y : Fx K mg fA fdA) : Binds K (fdA 24) ["_law_stream_here", "_law_many"] [] := (Y.d 24 _ rfl).2.bindsN fun _ _ _ _ _ _ us hl => match us, hl with | [_, _], _ => rfl

theorem sc25 : FnScope ["_law_stream_here", "_law_size", "_law_k"] ["_law_stream_here"] (dS 25) := ⟨rfl, rfl, rfl, by decide +kernel, rfl, by decide +kernel, by decide +kernel⟩
/-- a def of the stream alone that gives a whole number -/
def spWide (T : List (Addr × Str)) : Sp := fun vs H Q _ => ∃ (st : Addr), vs = [.ref st] ∧ Stm H st ∧ ∀ H' (k : Int), Fr T (On st) H H' → Stm H' st → Q (.int k) H'
theorem b25 (Y : Fx K mg fA fdA) : Binds K (fdA 25) ["_law_stream_here"] [] := (Y.d 25 _ rfl).2.bindsN fun _ _ _ _ _ _ us hl => match us, hl with | [_], _ => rfl
theorem ok_wide (Y : Fx K mg fA fdA) : FnOk P w K mg base CX0 2 (fA 25) (fdA 25) ["_law_stream_here"] (spWide T) := by
  refine (Y.d 25 _ rfl).2.ok sc25 (fun vs H Q E h => by obtain ⟨_, rfl, _⟩ := h; rfl) (fun cdv A outer s H vs Q E hr h => ?_)
  refine ⟨_, PSs.nox (pss_cons (ps_set (i := 1) sc25.nd rfl (.inl rfl) pe_int)
    (pss_cons (ps_for PassesOwn.never rfl (pi_range1 (by rfl) Y.range (pa_cons pe_int pa_nil)) (pg_name (i := 2) sc25.nd rfl (.inl rfl))
      (pss_one (ps_set (i := 1) sc25.nd rfl (.inl rfl) (pe_op op_add (pe_op op_mul (pv 1) pe_int) (pe_call (ok_draw (T := T) Y) hr rfl (Y.d 24 _ rfl).1 (Y.d 24 _ rfl).2.kp (b24 Y) .nil pass0 (pa_cons (pv 0) (pa_cons pe_int pa_nil)))))))
    (pss_cons (ps_if (pt_cmpR op_eq (pe_call (ok_draw (T := T) Y) hr rfl (Y.d 24 _ rfl).1 (Y.d 24 _ rfl).2.kp (b24 Y) .nil pass0 (pa_cons (pv 0) (pa_cons pe_int pa_nil))) pe_int (nomark _)) (pss_one (ps_ret (pe_un un_neg (pv 1)))) pss_nil)
    (pss_one (ps_ret (pv 1)))))), ?_⟩
  obtain ⟨st, rfl, hs, hQ⟩ := h
  refine ⟨11, rfl, by decide, by decide, for_range (n := 11) (fun i σ H' => ∃ (n : Int) (u : Option V), σ = [some (.ref st), some (.int n), u] ∧ Fr T (On st) H H' ∧ Stm H' st) ⟨0, _, rfl, Fr.refl, hs⟩ ?_ ?_⟩
  · rintro i σ H1 hi ⟨n, u, rfl, e, s1⟩
    refine ⟨_, rfl, _, _, rfl, rfl, .inr ⟨by decide, by decide⟩, _, rfl, st, 100, rfl, s1, by decide, fun H2 k e2 s2 _ => ?_⟩
    exact ⟨_, _, rfl, rfl, _, _, rfl, e.trans e2, s2⟩
  · rintro σ H1 ⟨n, u, rfl, e, s1⟩
    refine ⟨_, rfl, st, 2, rfl, s1, by decide, fun H2 k e2 s2 _ => ⟨rfl, _, rfl, dI (fun _ => ?_) fun _ => ?_⟩⟩
    · exact ⟨_, rfl, _, rfl, hQ _ _ (e.trans e2) s2⟩
    · exact ⟨_, rfl, hQ _ _ (e.trans e2) s2⟩

/-! kind -/
def kindsL : List Kd := [.list, .bag, .set, .first, .last, .ends, .heads, .tails]
theorem sc26 : FnScope ["_law_stream_here"] ["_law_stream_here"] (dS 26) := ⟨rfl, rfl, rfl, by decide +kernel, rfl, by decide +kernel, by decide +kernel⟩
theorem b26 (Y : Fx K mg fA fdA) : Binds K (fdA 26) ["_law_stream_here"] [] := (Y.d 26 _ rfl).2.bindsN fun _ _ _ _ _ _ us hl => match us, hl with | [_], _ => rfl
def spKind (T : List (Addr × Str)) : Sp := fun vs H Q _ => ∃ (st : Addr), vs = [.ref st] ∧ Stm H st ∧ ∀ H' (k : Kd), Fr T (On st) H H' → Stm H' st → Q (.str (kn k)) H'
theorem Stm.ne {st p : Addr} (h : Stm H st) (n : H p = none) : p ≠ st := by
  obtain ⟨ns, h⟩ := h
  exact fun z => by rw [z, h] at n; cases n
theorem Stm.new {st p : Addr} {o : HO} (h : Stm H st) (n : H p = none) : Stm (upd H p o) st := by
  obtain ⟨ns, q⟩ := h
  exact ⟨ns, by rw [upd_ne (fun z => by rw [← z, q] at n; cases n)]; exact q⟩
theorem ok_kind (Y : Fx K mg fA fdA) : FnOk P w K mg base CX0 2 (fA 26) (fdA 26) ["_law_stream_here"] (spKind T) := by
  refine (Y.d 26 _ rfl).2.ok sc26 (fun vs H Q E h => by obtain ⟨_, rfl, _⟩ := h; rfl) (fun cdv A outer s H vs Q E hr h => ?_)
  refine ⟨_, PSs.nox (pss_one (ps_ret (pe_ix ix_tup (pe_tup (pa_cons pe_str (pa_cons pe_str (pa_cons pe_str (pa_cons pe_str (pa_cons pe_str (pa_cons pe_str (pa_cons pe_str (pa_cons pe_str pa_nil)))))))))
    (pe_call (ok_draw (T := T) Y) hr rfl (Y.d 24 _ rfl).1 (Y.d 24 _ rfl).2.kp (b24 Y) .nil pass0 (pa_cons (pv 0) (pa_cons pe_int pa_nil))) (fun _ _ => rfl)))), ?_⟩
  obtain ⟨st, rfl, hs, hQ⟩ := h
  refine ⟨by show 8 ≤ sizeLine; decide, fun t nt => ⟨_, rfl, st, 8, rfl, hs.new nt, by decide, fun H2 k e2 s2 hk => ?_⟩⟩
  have ht : H2 t = some (.tup (kindsL.map fun k => V.str (kn k))) := e2.ext _ _ upd_same (hs.ne nt) rfl
  have hk' : k < kindsL.length := hk
  refine ⟨t, _, _, .str (kn kindsL[k]), rfl, rfl, SqT.of ht, atI_nat (by rw [List.getElem?_map, List.getElem?_eq_getElem hk'] <;> rfl), hQ _ _ ((Fr.refl.new nt).trans e2) s2⟩

/-! value -/
theorem sc27 : FnScope ["_law_stream_here", "_law_style"] ["_law_stream_here", "_law_style"] (dS 27) := ⟨rfl, rfl, rfl, by decide +kernel, rfl, by decide +kernel, by decide +kernel⟩
theorem b27 (Y : Fx K mg fA fdA) : Binds K (fdA 27) ["_law_stream_here", "_law_style"] [] := (Y.d 27 _ rfl).2.bindsN fun _ _ _ _ _ _ us hl => match us, hl with | [_, _], _ => rfl
def spValue (T : List (Addr × Str)) : Sp := fun vs H Q _ => ∃ (st : Addr) (m : Int), vs = [.ref st, .int m] ∧ Stm H st ∧ ∀ H' (k : Int), Fr T (On st) H H' → Stm H' st → Q (.int k) H'
theorem ok_value (Y : Fx K mg fA fdA) : FnOk P w K mg base CX0 3 (fA 27) (fdA 27) ["_law_stream_here", "_law_style"] (spValue T) := by
  refine (Y.d 27 _ rfl).2.ok sc27 (fun vs H Q E h => by obtain ⟨_, _, rfl, _⟩ := h; rfl) (fun cdv A outer s H vs Q E hr h => ?_)
  have hr1 := hr.mono (j := 1) (by decide)
  refine ⟨_, PSs.nox (pss_cons (ps_if (pt_cmpR op_lt (pv 1) pe_int (nomark _)) (pss_one (ps_ret (pe_call (ok_draw (T := T) Y) hr1 rfl (Y.d 24 _ rfl).1 (Y.d 24 _ rfl).2.kp (b24 Y) .nil pass0 (pa_cons (pv 0) (pa_cons pe_int pa_nil))))) pss_nil)
    (pss_cons (ps_if (pt_cmpR op_eq (pv 1) pe_int (nomark _)) (pss_one (ps_ret (pe_call (ok_draw (T := T) Y) hr1 rfl (Y.d 24 _ rfl).1 (Y.d 24 _ rfl).2.kp (b24 Y) .nil pass0 (pa_cons (pv 0) (pa_cons pe_int pa_nil))))) pss_nil)
    (pss_cons (ps_if (pt_cmpR op_eq (pv 1) pe_int (nomark _)) (pss_one (ps_ret (pe_op op_sub (pe_call (ok_draw (T := T) Y) hr1 rfl (Y.d 24 _ rfl).1 (Y.d 24 _ rfl).2.kp (b24 Y) .nil pass0 (pa_cons (pv 0) (pa_cons pe_int pa_nil)))
      (pe_call (ok_draw (T := T) Y) hr1 rfl (Y.d 24 _ rfl).1 (Y.d 24 _ rfl).2.kp (b24 Y) .nil pass0 (pa_cons (pv 0) (pa_cons pe_int pa_nil)))))) pss_nil)
    (pss_cons (ps_if (pt_cmpR op_eq (pv 1) pe_int (nomark _)) (pss_one (ps_ret (pe_op op_mul (pe_op op_sub (pe_call (ok_draw (T := T) Y) hr1 rfl (Y.d 24 _ rfl).1 (Y.d 24 _ rfl).2.kp (b24 Y) .nil pass0 (pa_cons (pv 0) (pa_cons pe_int pa_nil)))
      (pe_call (ok_draw (T := T) Y) hr1 rfl (Y.d 24 _ rfl).1 (Y.d 24 _ rfl).2.kp (b24 Y) .nil pass0 (pa_cons (pv 0) (pa_cons pe_int pa_nil)))) pe_int))) pss_nil)
    (pss_one (ps_ret (pe_call (ok_wide (T := T) Y) hr rfl (Y.d 25 _ rfl).1 (Y.d 25 _ rfl).2.kp (b25 Y) .nil pass0 (pa_cons (pv 0) pa_nil)))))))), ?_⟩
  obtain ⟨st, m, rfl, hs, hQ⟩ := h
  refine ⟨_, rfl, _, _, rfl, rfl, _, rfl, dI (fun _ => ?_) fun _ => ?_⟩
  · exact ⟨_, rfl, st, 3, rfl, hs, by decide, fun H2 k e2 s2 _ => hQ _ _ e2 s2⟩
  refine ⟨_, rfl, rfl, _, rfl, dI (fun _ => ?_) fun _ => ?_⟩
  · exact ⟨_, rfl, st, 6, rfl, hs, by decide, fun H2 k e2 s2 _ => hQ _ _ e2 s2⟩
  refine ⟨_, rfl, rfl, _, rfl, dI (fun _ => ?_) fun _ => ?_⟩
  · exact ⟨_, rfl, st, 100, rfl, hs, by decide, fun H2 k e2 s2 _ => ⟨_, rfl, st, 100, rfl, s2, by decide, fun H3 k3 e3 s3 _ => ⟨_, _, rfl, rfl, hQ _ _ (e2.trans e3) s3⟩⟩⟩
  refine ⟨_, rfl, rfl, _, rfl, dI (fun _ => ?_) fun _ => ?_⟩
  · exact ⟨_, rfl, st, 3, rfl, hs, by decide, fun H2 k e2 s2 hk => ⟨_, rfl, st, 2, rfl, s2, by decide, fun H3 k3 e3 s3 hk3 => ⟨_, _, rfl, rfl, _, _, rfl, rfl, .inl ⟨by omega, by omega⟩, hQ _ _ (e2.trans e3) s3⟩⟩⟩
  exact ⟨_, rfl, st, rfl, hs, fun H2 k e2 s2 => hQ _ _ e2 s2⟩

/-! word -/
theorem sc28 : FnScope ["_law_stream_here", "_law_size", "_law_style", "_law_k"] ["_law_stream_here", "_law_size", "_law_style"] (dS 28) := ⟨rfl, rfl, rfl, by decide +kernel, rfl, by decide +kernel, by decide +kernel⟩
theorem b28 (Y : Fx K mg fA fdA) : Binds K (fdA 28) ["_law_stream_here", "_law_size", "_law_style"] [] := (Y.d 28 _ rfl).2.bindsN fun _ _ _ _ _ _ us hl => match us, hl with | [_, _, _], _ => rfl
def spWord (T : List (Addr × Str)) : Sp := fun vs H Q _ => ∃ (st : Addr) (n : Nat) (m : Int), vs = [.ref st, .int n, .int m] ∧ Stm H st ∧ n ≤ 1000 ∧ ∀ H' (v : V) (u : List Int), Fr T (On st) H H' → Stm H' st → u.length = n → Wd H' v u → Q v H'
theorem ok_word (Y : Fx K mg fA fdA) : FnOk P w K mg base CX0 4 (fA 28) (fdA 28) ["_law_stream_here", "_law_size", "_law_style"] (spWord T) := by
  refine (Y.d 28 _ rfl).2.ok sc28 (fun vs H Q E h => by obtain ⟨_, _, _, rfl, _⟩ := h; rfl) (fun cdv A outer s H vs Q E hr h => ?_)
  refine ⟨_, PSs.nox (pss_one (ps_ret (pe_callTy call_tuple_of (by rfl) Y.tuple (by decide +kernel) (pa_cons (pe_lc (own := [("_law_k", 3)]) (g := gName 3) (tt := tYes) rfl sc28.nd (pi_range1 (by rfl) Y.range (pa_cons (pv 1) pa_nil)) (blkOk_by (own := [("_law_k", 3)]) (N := ["_law_stream_here", "_law_size", "_law_style", "_law_k"]) (sc := dS 28) (by decide +kernel))
      (fun _ _ _ _ _ => pg_name (i := 3) sc28.nd rfl (.inl rfl)) (fun _ _ _ _ _ => pts_nil) (fun _ _ _ _ _ => pe_call (ok_value (T := T) Y) hr rfl (Y.d 27 _ rfl).1 (Y.d 27 _ rfl).2.kp (b27 Y) .nil pass0 (pa_cons (pv 0) (pa_cons (pv 2) pa_nil)))) pa_nil)))), ?_⟩
  obtain ⟨st, n, m, rfl, hs, hn, hQ⟩ := h
  refine ⟨_, rfl, n, rfl, by omega, by omega, fun D nD => lc_range (lo := 0) (n := n) (fun i H' => ∃ acc : List Int, acc.length = i ∧ H' D = some (.lst (iv acc)) ∧ Fr T (On st) H H' ∧ Stm H' st) ⟨[], rfl, upd_same, Fr.refl.new nD, hs.new nD⟩ ?_ ?_⟩
  · rintro i H1 hi ⟨acc, la, hD, e, s1⟩
    refine ⟨rfl, _, rfl, _, rfl, st, m, rfl, s1, fun H2 k e2 s2 => ?_⟩
    have hD2 := e2.ext _ _ hD (hs.ne nD) rfl
    refine ⟨iv acc, hD2, by rw [List.length_map, la]; exact Nat.lt_of_lt_of_le hi (Nat.le_trans hn (by decide)), acc ++ [k], by rw [List.length_append, la] <;> rfl, by rw [upd_same, iv, iv, List.map_append] <;> rfl, (e.trans e2).put nD hD2 rfl, ?_⟩
    obtain ⟨ns, s2⟩ := s2
    exact ⟨ns, by rw [upd_ne (fun z => hs.ne nD z.symm)]; exact s2⟩
  · rintro H1 ⟨acc, la, hD, e, s1⟩
    refine ⟨D, _, rfl, .inl ⟨SqL.of hD, fun l nl => hQ _ _ acc (e.new nl) (s1.new nl) la ⟨l, rfl, upd_same⟩⟩⟩
end
end K4
namespace K4
open PySem PySem.Spec PyProof.Rows L2 LamX
section
variable {P : Program} {w : World} {K : PySem.W.Frag} {mg : Str → Option Value} {base : Heap} {fA : Nat → Addr} {fdA : Nat → FuncData} {T : List (Addr × Str)}
/-! the stream -/
abbrev N23 : List Str := ["_law_script", "_law_pairs", "_law_at", "_law_cell", "_law_rest", "_law_k"]
theorem sc23 : FnScope N23 ["_law_script"] (dS 23) := ⟨rfl, rfl, rfl, by decide +kernel, rfl, by decide +kernel, by decide +kernel⟩
theorem b23 (Y : Fx K mg fA fdA) : Binds K (fdA 23) ["_law_script"] [] := (Y.d 23 _ rfl).2.bindsN fun _ _ _ _ _ _ us hl => match us, hl with | [_], _ => rfl
def spStream (K : PySem.W.Frag) (T : List (Addr × Str)) : Sp := fun vs H Q _ => ∃ (a : Addr) (ns : List Int), vs = [.ref a] ∧ SqL K H a (iv ns) ∧ ns.length ≤ 63 ∧ ∀ H' (st : Addr), Fr T Nl H H' → Stm H' st → Q (.ref st) H'
theorem ok_stream (Y : Fx K mg fA fdA) : FnOk P w K mg base CX0 1 (fA 23) (fdA 23) ["_law_script"] (spStream K T) := by
  refine (Y.d 23 _ rfl).2.ok sc23 (fun vs H Q E h => by obtain ⟨_, _, rfl, _⟩ := h; rfl) (fun cdv A outer s H vs Q E hr h => ?_)
  refine ⟨_, PSs.nox (pss_cons (ps_set (i := 1) sc23.nd rfl (.inl rfl) (pe_lst pa_nil))
    (pss_cons (ps_for PassesOwn.never rfl (pi_enum (by rfl) Y.enumerate (pa_cons (pe_slice sl_list (pv 0) po_none (po_some pe_int)) pa_nil)) (pg_tup rfl (pgs_cons (pg_name (i := 2) sc23.nd rfl (.inl rfl)) (pgs_cons (pg_name (i := 3) sc23.nd rfl (.inl rfl)) pgs_nil)))
      (pss_cons (ps_set (i := 4) sc23.nd rfl (.inl rfl) (pe_callB call_abs (by rfl) Y.abs (by decide +kernel) (pa_cons (pv 3) pa_nil)))
      (pss_cons (ps_if (pt_cmpR op_lt (pv 4) pe_int (nomark _))
          (pss_cons (ps_set (i := 4) sc23.nd rfl (.inl rfl) (pe_op op_modN (pe_callTy call_int1 (by rfl) Y.int (by decide +kernel) (pa_cons (pe_op op_mul (pv 4) (pe_op op_add (pe_op op_add pe_int (pe_op op_mul pe_int (pv 2)))
            (pe_callTy call_int1 (by rfl) Y.int (by decide +kernel) (pa_cons (pe_cmpR op_lt (pv 3) pe_int (nomark _)) pa_nil)))) pa_nil)) pe_int))
          (pss_one (ps_set (i := 4) sc23.nd rfl (.inl rfl) (pe_op op_modN (pe_callTy call_int1 (by rfl) Y.int (by decide +kernel) (pa_cons (pe_op op_mul (pv 4) (pe_op op_add (pv 4) pe_int)) pa_nil)) pe_int)))) pss_nil)
      (pss_one (ps_for PassesOwn.never rfl (pi_range1 (by rfl) Y.range (pa_cons pe_int pa_nil)) (pg_name (i := 5) sc23.nd rfl (.inl rfl))
        (pss_cons (ps_expr (pe_bm PySem.F.plainAttrs_list PySem.F.slot_list_append PySem.F.type_list_append mt_append (pv 1) (pa_cons (pe_op op_modN (pe_callTy call_int1 (by rfl) Y.int (by decide +kernel) (pa_cons (pv 4) pa_nil)) pe_int) pa_nil)))
        (pss_cons (ps_set (i := 4) sc23.nd rfl (.inl rfl) (pe_op op_fdiv (pv 4) pe_int))
        (pss_one (ps_if (pt_cmpR op_eq (pv 4) pe_int (nomark _)) (pss_one ps_break) pss_nil)))))))))
    (pss_cons (ps_expr (pe_bm0 PySem.F.plainAttrs_list PySem.F.slot_list_reverse PySem.F.type_list_reverse mt_reverse (pv 1)))
    (pss_one (ps_ret (pv 1)))))), ?_⟩
  obtain ⟨a, ns, rfl, hs, hl, hQ⟩ := h
  refine ⟨Nat.zero_le _, fun l nl => ⟨_, rfl, 63, rfl, a, iv ns, rfl, (Fr.refl (T := T)).new nl |>.seqL hs, fun p np => ?_⟩⟩
  have npl : p ≠ l := fun z => by rw [z, upd_same] at np; cases np
  have nlp : l ≠ p := fun z => npl z.symm
  generalize hm : ((ns.drop (HT.sIx (iv ns).length 0 none)).take (HT.sIx (iv ns).length (iv ns).length (some 63) - HT.sIx (iv ns).length 0 none)) = ms
  have e1 : cutV (iv ns) none (some 63) = iv ms := by rw [← hm]; unfold cutV; rw [iv, iv, List.map_take, List.map_drop]
  have l1 : ms.length ≤ 63 := by
    have := cutV_length (iv ns) none (some 63)
    rw [e1, List.length_map, List.length_map] at this
    omega
  rw [e1]
  refine ⟨p, _, rfl, SqL.of upd_same, for_it walk_enum (fun i σ H' => ∃ (u1 u2 u3 u4 : Option V) (acc : List Int), σ = [some (.ref a), some (.ref l), u1, u2, u3, u4] ∧ acc.length ≤ 60 * i ∧ H' l = some (.lst (iv acc)) ∧ H' p = some (.lst (iv ms)) ∧ Fr T Nl H H')
    ⟨_, _, _, _, [], rfl, Nat.zero_le _, by rw [upd_ne nlp, upd_same] <;> rfl, upd_same, (Fr.refl.new nl).new np⟩ (fun i σ H' _ h => SqL.of h.choose_spec.choose_spec.choose_spec.choose_spec.choose_spec.2.2.2.1) ?_ ?_⟩
  · rintro i x σ H1 H2 hi ⟨u1, u2, u3, u4, acc, rfl, la, h1, h2, e⟩ ⟨t, y, z, rfl, nt, rfl, hy, hz⟩
    cases hy
    replace hz : (iv ms)[i]? = some z := hz
    rw [List.getElem?_map] at hz
    obtain ⟨c, _, rfl⟩ := Option.map_eq_some_iff.mp hz
    have ntl : l ≠ t := fun q => by rw [q, nt] at h1; cases h1
    have ntp : p ≠ t := fun q => by rw [q, nt] at h2; cases h2
    refine ⟨t, _, rfl, SqT.of upd_same, rfl, _, _, rfl, _, _, rfl, rfl, _, rfl, c, rfl, _, rfl, _, _, rfl, rfl, _, rfl, ?_⟩
    have ih : i < 63 := by rw [List.length_map] at hi; omega
    have h1' : (upd H1 t (.tup [V.int (i : Nat), V.int c])) l = some (.lst (iv acc)) := by rw [upd_ne ntl]; exact h1
    have h2' : (upd H1 t (.tup [V.int (i : Nat), V.int c])) p = some (.lst (iv ms)) := by rw [upd_ne ntp]; exact h2
    have e' : Fr T Nl H (upd H1 t (.tup [V.int (i : Nat), V.int c])) := e.new nt
    generalize upd H1 t (.tup [V.int (i : Nat), V.int c]) = H2 at h1' h2' e'
    have nlH : H l = none := nl
    have hge : 0 ≤ (if c < 0 then -c else c) := by split <;> omega
    have b3 : ∀ z : Int, -(2 ^ 64) < z.fmod 1000000000000000003 ∧ z.fmod 1000000000000000003 < 2 ^ 64 := fun z => by
      have a1 := Int.fmod_nonneg_of_pos z (b := 1000000000000000003) (by decide)
      have a2 := Int.fmod_lt_of_pos z (b := 1000000000000000003) (by decide)
      exact ⟨by omega, by omega⟩
    have b1 : (if c < 0 then -c else c) < 1000000000000000000 → -(2 ^ 64) < (if c < 0 then -c else c) ∧ (if c < 0 then -c else c) < 2 ^ 64 := fun h => ⟨by omega, by omega⟩
    refine dI (fun hlt => ⟨_, rfl, _, rfl, _, _, rfl, rfl, .inl ⟨by decide, by decide⟩, _, _, rfl, rfl, _, rfl, _, _, rfl, rfl, .inr ⟨_, rfl, _, _, rfl, rfl, _, _, rfl, rfl, .inl (b1 hlt), .inl ⟨_, rfl, _, _, rfl, rfl, (show (1000000000000000003 : Int) ≠ 0 by decide),
      _, rfl, _, rfl, _, _, rfl, rfl, _, _, rfl, rfl, .inl (b3 _), .inl ⟨_, rfl, _, _, rfl, rfl, (show (1000000000000000009 : Int) ≠ 0 by decide), ?_⟩⟩⟩⟩) fun _ => ?_
    all_goals
      refine ⟨60, rfl, by decide, by decide, for_range (n := 60) (fun k σ H' => ∃ (rest : Int) (u4 : Option V) (acc : List Int), σ = [some (.ref a), some (.ref l), some (.int (i : Nat)), some (.int c), some (.int rest), u4] ∧ acc.length ≤ 60 * i + k ∧ H' l = some (.lst (iv acc)) ∧ H' p = some (.lst (iv ms)) ∧ Fr T Nl H H')
        ⟨_, _, acc, rfl, la, h1', h2', e'⟩ ?_ ?_⟩
      · rintro k σ H3 hk ⟨rest, u4, acc, rfl, la, h1, h2, e⟩
        have el : iv acc ++ [V.int (rest.fmod 100)] = iv (acc ++ [rest.fmod 100]) := by rw [iv, iv, List.map_append] <;> rfl
        have la' : (acc ++ [rest.fmod 100]).length ≤ 60 * i + (k + 1) := by rw [List.length_append, List.length_singleton]; omega
        have h1n : (upd H3 l (.lst (iv acc ++ [V.int (rest.fmod 100)]))) l = some (.lst (iv (acc ++ [rest.fmod 100]))) := by rw [upd_same, el]
        have h2n : (upd H3 l (.lst (iv acc ++ [V.int (rest.fmod 100)]))) p = some (.lst (iv ms)) := by rw [upd_ne npl]; exact h2
        have en : Fr T Nl H (upd H3 l (.lst (iv acc ++ [V.int (rest.fmod 100)]))) := e.put nlH h1 rfl
        refine ⟨_, rfl, .inl ⟨rfl, _, SqL.of h1⟩, _, rfl, .inl ⟨_, rfl, _, _, rfl, rfl, (show (100 : Int) ≠ 0 by decide), l, _, _, rfl, rfl, h1, by rw [List.length_map]; exact Nat.lt_of_le_of_lt la (Nat.lt_of_lt_of_le (show 60 * i + k < 4000 by omega) (by decide)), ?_⟩⟩
        refine ⟨_, rfl, _, _, rfl, rfl, ⟨by decide, by decide⟩, _, rfl, rfl, _, rfl, dI (fun _ => ?_) fun _ => ?_⟩
        · exact ⟨_, _, _, _, acc ++ [rest.fmod 100], rfl, by omega, h1n, h2n, en⟩
        · exact ⟨_, _, acc ++ [rest.fmod 100], rfl, la', h1n, h2n, en⟩
      · rintro σ H3 ⟨rest, u4, acc, rfl, la, h1, h2, e⟩
        exact ⟨_, _, _, _, acc, rfl, by omega, h1, h2, e⟩
  · rintro σ H1 ⟨u1, u2, u3, u4, acc, rfl, la, h1, h2, e⟩
    refine ⟨_, rfl, .inl ⟨rfl, _, SqL.of h1⟩, l, _, rfl, rfl, h1, _, rfl, hQ _ l (e.put nl h1 rfl) ⟨acc.reverse, by rw [upd_same, iv, iv, List.map_reverse]⟩⟩
end
end K4
namespace K4
open PySem PySem.Spec PyProof.Rows L2 LamX
section
variable {P : Program} {w : World} {K : PySem.W.Frag} {mg : Str → Option Value} {base : Heap} {fA : Nat → Addr} {fdA : Nat → FuncData} {T : List (Addr × Str)}
abbrev N29 : List Str := ["_law_kind_here", "_law_word_here", "_law_kept", "_law_turned_here", "_law_k", "_law_value_here"]
abbrev P29 : List Str := ["_law_kind_here", "_law_word_here"]
theorem sc29 : FnScope N29 P29 (dS 29) := ⟨rfl, rfl, rfl, by decide +kernel, rfl, by decide +kernel, by decide +kernel⟩
theorem b29 (Y : Fx K mg fA fdA) : Binds K (fdA 29) P29 [] := (Y.d 29 _ rfl).2.bindsN fun _ _ _ _ _ _ us hl => match us, hl with | [_, _], _ => rfl
/- slots: 0:_law_kind_here 1:_law_word_here 2:_law_kept 3:_law_turned_here 4:_law_k 5:_law_value_here -/

def spPlain (T : List (Addr × Str)) : Sp := fun vs H Q _ => ∃ (c : Kd) (v : V) (u : List Int), vs = [.str (kn c), v] ∧ Wd H v u ∧ u.length ≤ 60 ∧ ∀ H' (v' : V), Fr T Nl H H' → Wd H' v' (plain c u) → Q v' H'
theorem take_succ' {l : List Int} {i : Nat} (h : i < l.length) : l.take (i + 1) = l.take i ++ [l.getD i 0] := by
  rw [List.take_add_one, List.getElem?_eq_getElem h, List.getD_eq_getElem?_getD, List.getElem?_eq_getElem h] <;> rfl
theorem dd_len (l : List Int) : (dd l).length ≤ l.length := nodup_len (nodup_dd l) fun x h => mem_dd.mp h
theorem ok_plain (Y : Fx K mg fA fdA) : FnOk P w K mg base CX0 1 (fA 29) (fdA 29) P29 (spPlain T) := by
  refine (Y.d 29 _ rfl).2.ok sc29 (fun vs H Q E h => by obtain ⟨_, _, _, rfl, _⟩ := h; rfl) (fun cdv A outer s H vs Q E hr h => ?_)
  refine ⟨_, PSs.nox (pss_cons (ps_if (pt_cmpR op_eq (pv 0) pe_str (nomark _)) (pss_one (ps_ret (pe_callTy call_tupleT (by rfl) Y.tuple (by decide +kernel) (pa_cons (pv 1) pa_nil)))) pss_nil)
    (pss_cons (ps_if (pt_cmpR op_eq (pv 0) pe_str (nomark _)) (pss_one (ps_ret (pe_callTy call_tuple_of (by rfl) Y.tuple (by decide +kernel) (pa_cons (pe_callB cr_sortTup (by rfl) Y.sorted (by decide +kernel) (pa_cons (pv 1) pa_nil)) pa_nil)))) pss_nil)
    (pss_cons (ps_if (pt_cmpR op_eq (pe_callB call_len_seq (by rfl) Y.len boot_len (pa_cons (pv 1) pa_nil)) pe_int (nomark _)) (pss_one (ps_ret (pe_tup pa_nil))) pss_nil)
    (pss_cons (ps_if (pt_cmpR op_eq (pv 0) pe_str (nomark _)) (pss_one (ps_ret (pe_tup (pa_cons (pe_ix ix_tup (pv 1) pe_int (fun _ _ => rfl)) pa_nil)))) pss_nil)
    (pss_cons (ps_if (pt_cmpR op_eq (pv 0) pe_str (nomark _)) (pss_one (ps_ret (pe_tup (pa_cons (pe_ix ix_tup (pv 1) (pe_un un_neg pe_int) (fun _ _ => rfl)) pa_nil)))) pss_nil)
    (pss_cons (ps_if (pt_cmpR op_eq (pv 0) pe_str (nomark _)) (pss_one (ps_ret (pe_tup (pa_cons (pe_ix ix_tup (pv 1) pe_int (fun _ _ => rfl)) (pa_cons (pe_ix ix_tup (pv 1) (pe_un un_neg pe_int) (fun _ _ => rfl)) pa_nil))))) pss_nil)
    (pss_cons (ps_set (i := 2) sc29.nd rfl (by first | exact .inl rfl | exact .inr rfl) (pe_lst pa_nil))
    (pss_cons (ps_set (i := 3) sc29.nd rfl (by first | exact .inl rfl | exact .inr rfl) (pe_cmpR op_eq (pv 0) pe_str (nomark _)))
    (pss_cons (ps_for PassesOwn.never rfl (pi_range1 (by rfl) Y.range (pa_cons (pe_callB call_len_seq (by rfl) Y.len boot_len (pa_cons (pv 1) pa_nil)) pa_nil)) (pg_name (i := 4) sc29.nd rfl (by first | exact .inl rfl | exact .inr rfl)) (pss_cons (ps_set (i := 5) sc29.nd rfl (by first | exact .inl rfl | exact .inr rfl) (pe_ix ix_tup (pv 1) (pv 4) (fun _ _ => rfl)))
    (pss_cons (ps_if (pt_val (pv 3)) (pss_one (ps_set (i := 5) sc29.nd rfl (by first | exact .inl rfl | exact .inr rfl) (pe_ix ix_tup (pv 1) (pe_op op_sub (pe_op op_sub (pe_callB call_len_seq (by rfl) Y.len boot_len (pa_cons (pv 1) pa_nil)) pe_int) (pv 4)) (fun _ _ => rfl)))) pss_nil)
    (pss_one (ps_if (pt_cmpR op_notIn_seq (pv 5) (pv 2) (by rfl)) (pss_one (ps_expr (pe_bm PySem.F.plainAttrs_list PySem.F.slot_list_append PySem.F.type_list_append mt_append (pv 2) (pa_cons (pv 5) pa_nil)))) pss_nil)))))
    (pss_cons (ps_if (pt_val (pv 3)) (pss_one (ps_expr (pe_bm0 PySem.F.plainAttrs_list PySem.F.slot_list_reverse PySem.F.type_list_reverse mt_reverse (pv 2)))) pss_nil)
    (pss_cons (ps_if (pt_cmpR op_eq (pv 0) pe_str (nomark _)) (pss_one (ps_ret (pe_callTy call_tuple_of (by rfl) Y.tuple (by decide +kernel) (pa_cons (pe_callB cr_sorted (by rfl) Y.sorted (by decide +kernel) (pa_cons (pv 2) pa_nil)) pa_nil)))) pss_nil)
    (pss_one (ps_ret (pe_callTy call_tuple_of (by rfl) Y.tuple (by decide +kernel) (pa_cons (pv 2) pa_nil))))))))))))))), ?_⟩
  obtain ⟨c, v, u, rfl, ⟨a, rfl, ha⟩, hl, hQ⟩ := h
  refine ⟨_, rfl, rfl, _, rfl, kI c .list (fun e => ?_) fun n1 => ?_⟩
  · subst e
    exact ⟨_, rfl, a, _, rfl, SqT.of ha, hQ _ _ Fr.refl ⟨a, rfl, ha⟩⟩
  refine ⟨_, rfl, rfl, _, rfl, kI c .bag (fun e => ?_) fun n2 => ?_⟩
  · subst e
    refine ⟨_, rfl, a, u, rfl, SqT.of ha, by omega, fun ns' p pp ps np => ⟨p, _, rfl, .inl ⟨SqL.of upd_same, fun l nl => hQ _ _ ((Fr.refl.new np).new nl) ⟨l, rfl, ?_⟩⟩⟩⟩
    rw [upd_same, isort_eq pp ps] <;> rfl
  refine ⟨_, rfl, a, _, rfl, .inr (SqT.of ha), rfl, _, rfl, dI (fun e => ?_) fun n0 => ?_⟩
  · have e : u = [] := by
      have z : ((iv u).length : Int) = 0 := V.int.inj e
      rw [List.length_map] at z
      exact List.eq_nil_of_length_eq_zero (by omega)
    subst e
    refine ⟨Nat.zero_le _, fun p np => hQ _ _ (Fr.refl.new np) ⟨p, rfl, ?_⟩⟩
    rw [upd_same]
    cases c <;> first | rfl | exact absurd rfl n1 | exact absurd rfl n2 | (rw [show plain .set [] = [] by decide +kernel]; rfl)
  have hne : u ≠ [] := fun z => by subst z; exact n0 rfl
  have hpos : 0 < u.length := List.length_pos_iff.mpr hne
  obtain ⟨r, x, er⟩ := snoc_of hne
  have hlast : atI (iv u) (-1) = some (V.int x) := by rw [er]; exact atI_lastI
  have elt : lt1 u = [x] := by rw [er]; exact lt1_snoc
  have ehd : hd1 u = [u.getD 0 0] := by
    cases u with
    | nil => exact absurd rfl hne
    | cons y u => rfl
  refine ⟨_, rfl, rfl, _, rfl, kI c .first (fun e => ?_) fun n3 => ?_⟩
  · subst e
    refine ⟨_, rfl, a, _, _, _, rfl, rfl, SqT.of ha, atI_iv hpos, by show 1 ≤ sizeLine; decide, fun p np => hQ _ _ (Fr.refl.new np) ⟨p, rfl, ?_⟩⟩
    rw [upd_same, show plain .first u = [u.getD 0 0] from ehd] <;> rfl
  refine ⟨_, rfl, rfl, _, rfl, kI c .last (fun e => ?_) fun n4 => ?_⟩
  · subst e
    refine ⟨_, rfl, _, rfl, a, _, _, _, rfl, rfl, SqT.of ha, hlast, by show 1 ≤ sizeLine; decide, fun p np => hQ _ _ (Fr.refl.new np) ⟨p, rfl, ?_⟩⟩
    rw [upd_same, show plain .last u = [x] from elt] <;> rfl
  refine ⟨_, rfl, rfl, _, rfl, kI c .ends (fun e => ?_) fun n5 => ?_⟩
  · subst e
    refine ⟨_, rfl, a, _, _, _, rfl, rfl, SqT.of ha, atI_iv hpos, _, rfl, _, rfl, a, _, _, _, rfl, rfl, SqT.of ha, hlast, by show 2 ≤ sizeLine; decide, fun p np => hQ _ _ (Fr.refl.new np) ⟨p, rfl, ?_⟩⟩
    rw [upd_same, show plain .ends u = [u.getD 0 0, x] from by show hd1 u ++ lt1 u = _; rw [ehd, elt]; rfl] <;> rfl
  generalize etl : decide (V.str (kn c) = V.str ("tails" : Str)) = tl
  obtain ⟨ww, hw⟩ : ∃ ww : List Int, ww = if tl then u.reverse else u := ⟨_, rfl⟩
  have lw : ww.length = u.length := by rw [hw]; split <;> simp
  refine ⟨Nat.zero_le _, fun kp nk => ⟨_, rfl, rfl, ?_⟩⟩
  have nak : a ≠ kp := ne_of_none ha nk
  have ha1 : upd H kp (.lst []) a = some (.tup (iv u)) := by rw [upd_ne nak]; exact ha
  have lu : (iv u).length = u.length := List.length_map ..
  refine ⟨_, rfl, a, _, rfl, .inr (SqT.of ha1), _, rfl, by rw [lu]; omega, by rw [lu]; omega, for_range (n := (iv u).length) (fun k σ H' => ∃ (u1 u2 : Option V), σ = [some (.str (kn c)), some (.ref a), some (.ref kp), some (.bl tl), u1, u2] ∧ Fr T Nl H H' ∧ H' kp = some (.lst (iv (dd (ww.take k)))))
    ⟨_, _, by rw [← etl] <;> rfl, Fr.refl.new nk, upd_same⟩ ?_ ?_⟩
  · rintro k σ H1 hk ⟨u1, u2, rfl, e, h1⟩
    rw [lu] at hk
    have ha1 : H1 a = some (.tup (iv u)) := e.tup ha
    have e0 : ((0 : Int) + (k : Int)) = (k : Int) := by omega
    rw [e0]
    refine ⟨_, rfl, _, rfl, a, _, _, _, rfl, rfl, SqT.of ha1, atI_iv hk, _, rfl, _, rfl, bI (fun ht => ⟨_, rfl, _, rfl, a, _, rfl, .inr (SqT.of ha1), _, _, rfl, rfl, _, rfl, _, _, rfl, rfl, a, _, _, .int (ww.getD k 0), rfl, rfl, SqT.of ha1, ?_, ?_⟩) fun hf => ?_⟩
    · subst ht
      have q : k < u.reverse.length := by simpa using hk
      have q1 : (u.length - 1 - k) < u.length := by omega
      have q2 : ((((iv u).length : Nat) : Int) - 1 - (k : Int)) = ((u.length - 1 - k : Nat) : Int) := by rw [lu]; omega
      rw [q2]
      have q3 : ww.getD k 0 = u.getD (u.length - 1 - k) 0 := by
        rw [hw, if_pos rfl, List.getD_eq_getElem?_getD, List.getD_eq_getElem?_getD, List.getElem?_reverse hk]
      rw [q3]
      exact atI_iv q1
    rotate_left
    · subst hf
      have q3 : u.getD k 0 = ww.getD k 0 := by rw [hw, if_neg (by decide)]
      rw [q3]
      refine ⟨_, rfl, _, rfl, kp, _, rfl, .inl (SqL.of h1), rfl, flat_iv _, _, rfl, bI (fun hn => ?_) fun hn => ?_⟩
      · rw [if_pos rfl, inV_iv] at hn
        have hn' : ww.getD k 0 ∉ dd (ww.take k) := by simpa using hn
        have hn2 : ww.getD k 0 ∉ ww.take k := fun z => hn' (mem_dd.mpr z)
        refine ⟨_, rfl, .inl ⟨rfl, _, SqL.of h1⟩, _, rfl, kp, _, _, rfl, rfl, h1, ?_, _, _, rfl, e.put nk h1 rfl, ?_⟩
        · rw [List.length_map]
          refine Nat.lt_of_le_of_lt (dd_len _) (Nat.lt_of_lt_of_le (show (ww.take k).length < 100 from ?_) (by decide))
          rw [List.length_take]; omega
        · rw [upd_same, take_succ' (by omega), dd_snoc_out hn2, iv, iv, List.map_append] <;> rfl
      · rw [if_pos rfl, inV_iv] at hn
        have hn' : ww.getD k 0 ∈ dd (ww.take k) := by simpa using hn
        refine ⟨_, _, rfl, e, ?_⟩
        rw [h1, take_succ' (by omega), dd_snoc_in (mem_dd.mp hn')]
    refine ⟨_, rfl, _, rfl, kp, _, rfl, .inl (SqL.of h1), rfl, flat_iv _, _, rfl, bI (fun hn => ?_) fun hn => ?_⟩
    · rw [if_pos rfl, inV_iv] at hn
      have hn' : ww.getD k 0 ∉ dd (ww.take k) := by simpa using hn
      have hn2 : ww.getD k 0 ∉ ww.take k := fun z => hn' (mem_dd.mpr z)
      refine ⟨_, rfl, .inl ⟨rfl, _, SqL.of h1⟩, _, rfl, kp, _, _, rfl, rfl, h1, ?_, _, _, rfl, e.put nk h1 rfl, ?_⟩
      · rw [List.length_map]
        refine Nat.lt_of_le_of_lt (dd_len _) (Nat.lt_of_lt_of_le (show (ww.take k).length < 100 from ?_) (by decide))
        rw [List.length_take]; omega
      · rw [upd_same, take_succ' (by omega), dd_snoc_out hn2, iv, iv, List.map_append] <;> rfl
    · rw [if_pos rfl, inV_iv] at hn
      have hn' : ww.getD k 0 ∈ dd (ww.take k) := by simpa using hn
      refine ⟨_, _, rfl, e, ?_⟩
      rw [h1, take_succ' (by omega), dd_snoc_in (mem_dd.mp hn')]
  · rintro σ H1 ⟨u1, u2, rfl, e, h1⟩
    rw [lu, ← lw, List.take_length] at h1
    refine ⟨_, rfl, _, rfl, bI (fun ht => ⟨_, rfl, .inl ⟨rfl, _, SqL.of h1⟩, kp, _, rfl, rfl, h1, ?_⟩) fun hf => ?_⟩
    · subst ht
      rw [if_pos rfl] at hw
      have ec : c = .tails := kn_inj (V.str.inj (of_decide_eq_true etl))
      subst ec
      refine ⟨_, rfl, rfl, _, rfl, kI .tails .set (fun z => by cases z) fun _ => ?_⟩
      refine ⟨_, rfl, kp, _, rfl, .inl ⟨SqL.of upd_same, fun l nl => hQ _ _ ((e.put nk h1 rfl).new nl) ⟨l, rfl, ?_⟩⟩⟩
      rw [upd_same, hw] <;> (show some (HO.tup (iv (dd u.reverse)).reverse) = some (HO.tup (iv (dd u.reverse).reverse))) <;> rw [iv, iv, List.map_reverse]
    · subst hf
      rw [if_neg (by decide)] at hw
      subst hw
      have n6 : c ≠ .tails := fun z => by subst z; exact absurd etl (by decide +kernel)
      refine ⟨_, rfl, rfl, _, rfl, kI c .set (fun z => ?_) fun n7 => ?_⟩
      · subst z
        have := dd_len ww
        refine ⟨_, rfl, kp, _, rfl, SqL.of h1, by omega, fun ns' p pp ps np => ⟨p, _, rfl, .inl ⟨SqL.of upd_same, fun l nl => hQ _ _ ((e.new np).new nl) ⟨l, rfl, ?_⟩⟩⟩⟩
        rw [upd_same, isort_eq pp ps] <;> rfl
      · have ec : c = .heads := by cases c <;> first | rfl | contradiction
        subst ec
        exact ⟨_, rfl, kp, _, rfl, .inl ⟨SqL.of h1, fun l nl => hQ _ _ (e.new nl) ⟨l, rfl, upd_same⟩⟩⟩
end
end K4
namespace K4
open PySem PySem.Spec PyProof.Rows L2 LamX
abbrev rLenK (K : PySem.W.Frag) : List V → Hp → VK → Prop := fun xs H Q => ∃ p ys, xs = [.ref p] ∧ (SqL K H p ys ∨ SqT K H p ys) ∧ Q (.int ys.length) H
abbrev rListK (K : PySem.W.Frag) : List V → Hp → VK → Prop := fun xs H Q => ∃ p ys, xs = [.ref p] ∧ (SqL K H p ys ∨ SqT K H p ys) ∧ ∀ l, H l = none → Q (.ref l) (upd H l (.lst ys))
theorem Room.u65 {k : Nat} {A : Around} (r : Room k A) : A.units + 65 < cLine := by have := r.un; omega
/-! ### words as data -/
def wD (l : List Int) : PyData := .tuple (l.map .int)
theorem iD_lay : ∀ l : List Int, PyData.canLayAll0 (l.map .int) = true
  | [] => by simp [PyData.canLayAll0]
  | x :: l => by simp [PyData.canLayAll0, PyData.canLay0, iD_lay l]
theorem iD_depth : ∀ l : List Int, PyData.depthAll (l.map .int) ≤ 1
  | [] => by simp [PyData.depthAll]
  | x :: l => by
    have h := iD_depth l
    simp only [List.map_cons, PyData.depthAll, PyData.depth]
    omega
theorem wD_depth (l : List Int) : (wD l).depth ≤ 2 := by
  have h := iD_depth l
  simp only [wD, PyData.depth]
  omega
theorem wD_lay (l : List Int) : (wD l).canLay0 = true := by simp only [wD, PyData.canLay0]; exact iD_lay l
theorem wD_shaped (l : List Int) : SeqAt.shaped (wD l) = true := by
  have h := wD_depth l
  show ((wD l).canLay0 && decide ((wD l).depth ≤ 64)) = true
  rw [Bool.and_eq_true]
  exact ⟨wD_lay l, decide_eq_true (by omega)⟩
theorem wDs_lay : ∀ ls : List (List Int), PyData.canLayAll0 (ls.map wD) = true
  | [] => by simp [PyData.canLayAll0]
  | x :: l => by simp [PyData.canLayAll0, wD_lay x, wDs_lay l]
theorem wDs_depth : ∀ ls : List (List Int), PyData.depthAll (ls.map wD) ≤ 2
  | [] => by simp [PyData.depthAll]
  | x :: l => by
    have h1 := wDs_depth l
    have h2 := wD_depth x
    simp only [List.map_cons, PyData.depthAll]
    omega
theorem wDs_shaped (ls : List (List Int)) : SeqAt.shaped (.list (ls.map wD)) = true := by
  have h := wDs_depth ls
  have h2 : PyData.depth (.list (ls.map wD)) ≤ 64 := by
    simp only [PyData.depth]
    omega
  show (PyData.canLay0 (.list (ls.map wD)) && decide (PyData.depth (.list (ls.map wD)) ≤ 64)) = true
  rw [Bool.and_eq_true]
  exact ⟨by simp only [PyData.canLay0]; exact wDs_lay ls, decide_eq_true h2⟩
theorem iD_eqv : ∀ a b : List Int, PyData.eqvAll (a.map .int) (b.map .int) = decide (a = b)
  | [], [] => by simp [PyData.eqvAll]
  | [], _ :: _ => by simp [PyData.eqvAll]
  | _ :: _, [] => by simp [PyData.eqvAll]
  | x :: a, y :: b => by
    simp only [List.map_cons, PyData.eqvAll, PyData.eqv, iD_eqv a b]
    by_cases h : x = y
    · subst h; by_cases h2 : a = b <;> simp [h2]
    · simp [h]
theorem wD_eqv (a b : List Int) : PyData.eqv (wD a) (wD b) = decide (a = b) := by
  simp only [wD, PyData.eqv, iD_eqv]
section
variable {T : List (Addr × Str)} {H H' : Hp} {K : PySem.W.Frag} {Q : VK}
theorem dp_ints : ∀ l : List Int, DpAll K H (iv l) (l.map .int)
  | [] => .nil
  | x :: l => .cons (.int x) (dp_ints l)
theorem Wd.dp {v : V} {u : List Int} (h : Wd H v u) : Dp K H v (wD u) := by
  obtain ⟨a, rfl, h⟩ := h
  exact .tup (SqT.of h) (dp_ints u)
theorem eqW {x y : V} {u v : List Int} (h1 : Wd H x u) (h2 : Wd H y v) (h : Q (.bl (decide (u = v))) H) : rEqD K x y H Q := ⟨_, _, h1.dp, h2.dp, wD_shaped u, wD_shaped v, by rw [wD_eqv]; exact h⟩
theorem neW {x y : V} {u v : List Int} (h1 : Wd H x u) (h2 : Wd H y v) (h : Q (.bl (!decide (u = v))) H) : rNeD K x y H Q := ⟨_, _, h1.dp, h2.dp, wD_shaped u, wD_shaped v, by rw [wD_eqv]; exact h⟩
/-! ### lists of objects -/
def Each {β : Type} (g : β → HO) (H : Hp) (vs : List V) (xs : List β) : Prop := vs.length = xs.length ∧ ∀ (i : Nat) (x : β), xs[i]? = some x → ∃ b : Addr, vs[i]? = some (V.ref b) ∧ H b = some (g x)
def Lof {β : Type} (g : β → HO) (H : Hp) (v : V) (xs : List β) : Prop := ∃ (a : Addr) (vs : List V), v = V.ref a ∧ H a = some (.lst vs) ∧ Each g H vs xs
abbrev tI (l : List Int) : HO := .tup (iv l)
abbrev tN (l : List Nat) : HO := .tup (nv l)
abbrev lN (l : List Nat) : HO := .lst (nv l)
variable {β : Type} {g : β → HO} {vs : List V} {xs : List β}
theorem Each.nil : Each g H [] [] := ⟨rfl, fun i x h => by simp at h⟩
theorem Each.fr (hg : ∀ x, plainO (g x) = true) (e : Fr T Nl H H') (h : Each g H vs xs) : Each g H' vs xs := ⟨h.1, fun i x q => by
  obtain ⟨b, h1, h2⟩ := h.2 i x q
  exact ⟨b, h1, e.ext _ _ h2 id (hg x)⟩⟩
theorem Lof.fr {v : V} (hg : ∀ x, plainO (g x) = true) (e : Fr T Nl H H') (h : Lof g H v xs) : Lof g H' v xs := by
  obtain ⟨a, vs, rfl, h1, h2⟩ := h
  exact ⟨a, vs, rfl, e.lst h1, h2.fr hg e⟩
theorem Each.snoc {b : Addr} {x : β} (h : Each g H vs xs) (hb : H b = some (g x)) : Each g H (vs ++ [.ref b]) (xs ++ [x]) := by
  refine ⟨by rw [List.length_append, List.length_append, h.1] <;> rfl, fun i y q => ?_⟩
  by_cases hi : i < xs.length
  · rw [List.getElem?_append_left hi] at q
    obtain ⟨c, h1, h2⟩ := h.2 i y q
    exact ⟨c, by rw [List.getElem?_append_left (by rw [h.1]; exact hi)]; exact h1, h2⟩
  · have hl : i < (xs ++ [x]).length := (List.getElem?_eq_some_iff.mp q).1
    have e : i = xs.length := by rw [List.length_append, List.length_singleton] at hl; omega
    subst e
    rw [List.getElem?_append_right (Nat.le_refl _)] at q
    simp at q
    subst q
    exact ⟨b, by rw [← h.1, List.getElem?_append_right (Nat.le_refl _)]; simp, hb⟩
/-- a store elsewhere -/
theorem Each.put {p : Addr} {o u : HO} (h : Each g H vs xs) (hp : H p = some u) (hn : ∀ x, g x ≠ u) : Each g (upd H p o) vs xs := ⟨h.1, fun i x q => by
  obtain ⟨b, h1, h2⟩ := h.2 i x q
  exact ⟨b, h1, by rw [upd_ne (fun z => hn x (by rw [z, hp] at h2; exact (Option.some.inj h2).symm))]; exact h2⟩⟩
theorem Each.putT {γ : Type} {f : γ → List V} {ys : List γ} {p : Addr} {zs : List V} {o : HO} (h : Each (fun x => HO.tup (f x)) H vs ys) (hp : H p = some (.lst zs)) : Each (fun x => HO.tup (f x)) (upd H p o) vs ys := h.put hp fun x z => by cases z
theorem Each.get {i : Nat} (h : Each g H vs xs) (hi : i < xs.length) : ∃ b : Addr, vs[i]? = some (V.ref b) ∧ H b = some (g xs[i]) := h.2 i _ (List.getElem?_eq_getElem hi)
theorem Each.at_ {i : Nat} {v : V} (h : Each g H vs xs) (hv : vs[i]? = some v) : ∃ (b : Addr) (x : β), v = V.ref b ∧ xs[i]? = some x ∧ H b = some (g x) := by
  have hi : i < vs.length := (List.getElem?_eq_some_iff.mp hv).1
  rw [h.1] at hi
  obtain ⟨b, h1, h2⟩ := h.get hi
  rw [hv] at h1
  exact ⟨b, _, Option.some.inj h1, List.getElem?_eq_getElem hi, h2⟩
theorem Each.append {ws : List V} {ys : List β} (h : Each g H vs xs) (k : Each g H ws ys) : Each g H (vs ++ ws) (xs ++ ys) := by
  refine ⟨by rw [List.length_append, List.length_append, h.1, k.1], fun i y q => ?_⟩
  by_cases hi : i < xs.length
  · rw [List.getElem?_append_left hi] at q
    obtain ⟨c, h1, h2⟩ := h.2 i y q
    exact ⟨c, by rw [List.getElem?_append_left (by rw [h.1]; exact hi)]; exact h1, h2⟩
  · rw [List.getElem?_append_right (by omega)] at q
    obtain ⟨c, h1, h2⟩ := k.2 _ y q
    exact ⟨c, by rw [List.getElem?_append_right (by rw [h.1]; omega), h.1]; exact h1, h2⟩
theorem Each.drop (n : Nat) (h : Each g H vs xs) : Each g H (vs.drop n) (xs.drop n) := ⟨by rw [List.length_drop, List.length_drop, h.1], fun i x q => by
  rw [List.getElem?_drop] at q ⊢
  exact h.2 _ x q⟩
theorem Each.take (n : Nat) (h : Each g H vs xs) : Each g H (vs.take n) (xs.take n) := ⟨by rw [List.length_take, List.length_take, h.1], fun i x q => by
  rw [List.getElem?_take] at q ⊢
  split at q
  · rw [if_pos (by assumption)]; exact h.2 _ x q
  · cases q⟩
theorem dpAll_of {d : β → PyData} (hd : ∀ b x, H b = some (g x) → Dp K H (.ref b) (d x)) : ∀ {vs : List V} {xs : List β}, Each g H vs xs → DpAll K H vs (xs.map d)
  | [], [], _ => .nil
  | [], _ :: _, h => by have := h.1; simp at this
  | _ :: _, [], h => by have := h.1; simp at this
  | v :: vs, x :: xs, h => by
    obtain ⟨b, h1, h2⟩ := h.2 0 x rfl
    cases h1
    refine .cons (hd _ _ h2) (dpAll_of hd (vs := vs) (xs := xs) ⟨by have := h.1; simpa using this, fun i y q => ?_⟩)
    exact h.2 (i + 1) y q
theorem notInW {x y : V} {u : List Int} {us : List (List Int)} (h1 : Wd H x u) (h2 : Lof tI H y us) (h : Q (.bl (!decide (u ∈ us))) H) : rNotInD K x y H Q := by
  obtain ⟨a, vs, rfl, ha, he⟩ := h2
  refine ⟨wD u, us.map wD, h1.dp, .lst (SqL.of ha) (dpAll_of (fun b x hb => .tup (SqT.of hb) (dp_ints x)) he), wD_shaped u, wDs_shaped us, ?_⟩
  have e : ((us.map wD).any fun z => PyData.eqv z (wD u)) = decide (u ∈ us) := by
    rw [List.any_map]
    clear h he
    induction us with
    | nil => rfl
    | cons z us ih =>
      rw [List.any_cons, ih]
      show (PyData.eqv (wD z) (wD u) || _) = _
      rw [wD_eqv]
      by_cases q : z = u
      · subst q; simp
      · have q' : ¬ u = z := fun y => q y.symm
        simp [q, q']
  rw [e]
  exact h
/-! ### tuples: +, slices -/
theorem catT {a b : Addr} {xs ys : List V} (ha : H a = some (.tup xs)) (hb : H b = some (.tup ys)) (hl : xs.length + ys.length ≤ 1000) (h : ∀ H' q, Fr T Nl H H' → H' q = some (.tup (xs ++ ys)) → Q (.ref q) H') : rCatA K (.ref a) (.ref b) H Q := by
  refine ⟨a, b, xs, ys, rfl, rfl, SqT.of ha, SqT.of hb, Nat.le_trans hl (by decide), fun e => ?_, fun _ e => ?_, fun _ _ p np => ?_⟩
  · subst e
    exact h H b Fr.refl hb
  · subst e
    exact h H a Fr.refl (by rw [List.append_nil]; exact ha)
  · exact h _ p (Fr.refl.new np) upd_same
theorem slT {a : Addr} {xs : List V} {lo hi : Option Int} (ha : H a = some (.tup xs)) (h : ∀ H' q, Fr T Nl H H' → H' q = some (.tup (cutV xs lo hi)) → Q (.ref q) H') : rSlA K (.ref a) lo hi H Q := by
  refine ⟨a, xs, rfl, SqT.of ha, fun e => ?_, fun _ p np => h _ p (Fr.refl.new np) upd_same⟩
  refine h H a Fr.refl ?_
  rw [ha]
  unfold cutV
  rw [e.1, e.2, List.drop_zero, Nat.sub_zero, List.take_length]
theorem cut_from (xs : List V) (k : Nat) : cutV xs (some (k : Int)) none = xs.drop k := by
  unfold cutV
  rw [HT.sIx_nat, HT.sIx_none]
  by_cases h : k ≤ xs.length
  · rw [Nat.min_eq_left h, List.take_of_length_le (by rw [List.length_drop]; omega)]
  · rw [Nat.min_eq_right (by omega), List.drop_length, List.drop_of_length_le (by omega), List.take_nil]
theorem cut_to (xs : List V) (k : Nat) : cutV xs none (some (k : Int)) = xs.take k := by
  unfold cutV
  rw [HT.sIx_nat, HT.sIx_none, List.drop_zero, Nat.sub_zero]
  by_cases h : k ≤ xs.length
  · rw [Nat.min_eq_left h]
  · rw [Nat.min_eq_right (by omega), List.take_of_length_le (Nat.le_refl _), List.take_of_length_le (by omega)]
theorem iv_append (a b : List Int) : iv (a ++ b) = iv a ++ iv b := List.map_append
theorem nv_append (a b : List Nat) : nv (a ++ b) = nv a ++ nv b := List.map_append
theorem catW {x y : V} {u v : List Int} (hx : Wd H x u) (hy : Wd H y v) (hl : u.length + v.length ≤ 1000) (h : ∀ H' z, Fr T Nl H H' → Wd H' z (u ++ v) → Q z H') : rCatA K x y H Q := by
  obtain ⟨a, rfl, ha⟩ := hx
  obtain ⟨b, rfl, hb⟩ := hy
  exact catT ha hb (by simpa using hl) fun H' q e hq => h H' _ e ⟨q, rfl, by rw [hq, iv_append]⟩
end
end K4
/-! own rules, part 6: tuples whose object is known (to have no dict of its own): what t.index(k) leans on -/
namespace K4
open PySem PySem.Spec PyProof.Rows L2 LamX
def LtAt (H : Hp) (a : Addr) (L : List Int) : Prop := ∃ o : Obj, o.dict = none ∧ H a = some (.frz o (tI L))
theorem LtAt.seq {K : PySem.W.Frag} {H : Hp} {a : Addr} {L : List Int} (h : LtAt H a L) : SqT K H a (iv L) := by
  obtain ⟨o, _, h⟩ := h
  exact .inl (.inr ⟨o, h⟩)
theorem LtAt.fr {T : List (Addr × Str)} {H H' : Hp} {a : Addr} {L : List Int} (e : Fr T Nl H H') (h : LtAt H a L) : LtAt H' a L := by
  obtain ⟨o, h1, h2⟩ := h
  exact ⟨o, h1, e.ext _ _ h2 id rfl⟩
theorem LtAt.frS {T : List (Addr × Str)} {H H' : Hp} {a st : Addr} {L : List Int} (e : Fr T (On st) H H') (s : Stm H st) (h : LtAt H a L) : LtAt H' a L := by
  obtain ⟨o, h1, h2⟩ := h
  obtain ⟨ns, s⟩ := s
  refine ⟨o, h1, e.ext _ _ h2 (fun z => ?_) rfl⟩
  rw [show a = st from z, s] at h2
  cases h2
theorem sqT_frS {T : List (Addr × Str)} {K : PySem.W.Frag} {H H' : Hp} {a st : Addr} {xs : List V} (e : Fr T (On st) H H') (s : Stm H st) (h : SqT K H a xs) : SqT K H' a xs := by
  obtain ⟨ns, s⟩ := s
  rcases h with (h | ⟨o, h⟩) | h
  · refine .inl (.inl (e.ext _ _ h (fun z => ?_) rfl))
    rw [show a = st from z, s] at h
    cases h
  · refine .inl (.inr ⟨o, e.ext _ _ h (fun z => ?_) rfl⟩)
    rw [show a = st from z, s] at h
    cases h
  · exact .inr h
section
variable {X : Cx} {e o : Expr} {es : List Expr} {te to : TE} {t : TA} {pos apos cpos : Pos}
/-- a written tuple, its object known -/
def tTupF (t : TA) : TE := fun σ H Q => t σ H fun xs H1 => xs.length ≤ sizeLine ∧ ∀ (p : Addr) (o : Obj), o.dict = none → H1 p = none → Q (.ref p) (upd H1 p (.frz o (.tup xs)))
theorem pe_tupF {x1} (h : PA X es t) : PE X (.Tuple es x1 pos) (tTupF t) := by
  refine ⟨fun pins s σ H Q I hq => wpAny_Tuple_spliced (thn (h.run pos pins s σ H _ I hq) ?_)⟩
  rintro us s1 ⟨xs, H1, I1, r, z, q⟩
  refine ⟨by rw [← r.length]; exact z, ?_⟩
  have hf := I1.hok.fresh (Nat.le_refl s1.heap.objs.size)
  have at_ : (s1.heap.push { cls := .type "tuple", data := .seq us.toArray }).get? s1.heap.objs.size = some { cls := .type "tuple", data := .seq us.toArray } := Heap.get?_push_size _ rfl
  exact ⟨.ref s1.heap.objs.size, _, I1.laid (t' := s1.toks) (o := .frz { cls := .type "tuple", data := .seq us.toArray } (.tup xs)) (fun b u e => Heap.get?_push_of_some _ e) (Nat.le_refl _) ⟨at_, z, us, r, ⟨_, at_, rfl, _, rfl⟩⟩, rfl, q _ _ rfl hf⟩
/-- a part of a tuple, its object known -/
def rSlF (K : PySem.W.Frag) : V → Option Int → Option Int → Hp → VK → Prop := fun x lo hi H Q => ∃ a xs, x = .ref a ∧ SqT K H a xs ∧ ¬ (HT.sIx xs.length 0 lo = 0 ∧ HT.sIx xs.length xs.length hi = xs.length) ∧
  ∀ (p : Addr) (o : Obj), o.dict = none → H p = none → Q (.ref p) (upd H p (.frz o (.tup (cutV xs lo hi))))
theorem sl_tupF : SlR X (rSlF X.K) := by
  intro pins s σ H x v vl vu lo hi sl Q I rx hs pl pu h
  obtain ⟨a, xs, rfl, hx, hw, q⟩ := h
  cases rx
  obtain ⟨its, r, ht, hz⟩ := I.tuple hx
  have hlen : its.toArray.size = xs.length := List.size_toArray .. |>.trans r.length.symm
  have nf := I.hok.fresh (Nat.le_refl s.heap.objs.size)
  refine ⟨"tuple", _, PyProof.Rows.slot_tuple_getitem.lookup, ht.typeIs, HT.getItem_tuple_cut ht hs pl pu (by rw [hlen]; exact hw) ?_ (by rw [hlen]; exact hz)⟩
  rw [hlen]
  refine ⟨.ref s.heap.objs.size, _, I.laid (t' := s.toks) (o := .frz _ (.tup (cutV xs lo hi))) (fun b ob q => Heap.get?_push_of_some _ q) (Nat.le_refl _) ⟨Heap.get?_push_size _ rfl, Nat.le_trans (cutV_length xs lo hi) hz, _, (r.drop (HT.sIx xs.length 0 lo)).take (HT.sIx xs.length xs.length hi - HT.sIx xs.length 0 lo), IsTup.new _ _⟩, rfl, q _ _ rfl nf⟩
/-- letters.index(k), k among them -/
def tTIdx (to te : TE) : TE := fun σ H Q => to σ H fun x H1 => ∃ (a : Addr) (L : List Int), x = .ref a ∧ LtAt H1 a L ∧ te σ H1 fun y H2 => ∃ k : Int, [y] = [V.int k] ∧ LtAt H2 a L ∧ k ∈ L ∧ Q (.int (L.idxOf k : Nat)) H2
theorem pe_tIdx (ho : PE X o to) (he : PE X e te) (hbase : attributeBase o ("index" : Str) X.env (eval o X.env) = eval o X.env := by rfl)
    (hfew : ((backTo cpos (starEach [e] X.env)).all (fun x => !x.1) && (backToKw cpos (keywordEach [] X.env)).all (fun x => x.1.isSome) && decide (([e] : List Expr).length + ([] : List Keyword).length + (if ([] : List Keyword).isEmpty then 0 else 1) < 30)) = true := by rfl)
    (hline : (apos.endLine == cpos.line) = true := by rfl) (hs : starEach [e] X.env = [(false, eval e X.env)] := by rfl) (hs0 : starEach [e] X.env = (false, eval e X.env) :: starEach [] X.env := by rfl) : PE X (.Call (.Attribute o ("index" : Str) apos) [e] [] cpos) (tTIdx to te) := by
  refine ⟨fun pins s σ H Q I h => wpAny_Call_method_late hbase hfew hline rfl (thn (ho.run pins s σ H _ I h) ?_)⟩
  rintro v s1 ⟨x, H1, I1, r1, a, L, rfl, ⟨ob, hdct, hob⟩, q1⟩
  cases r1
  obtain ⟨hget, _, _, _, htup⟩ := I1.hok a _ hob
  refine ⟨"tuple", "tuple.index", PySem.F.plainAttrs_tuple, PySem.F.slot_tuple_index, PySem.F.type_tuple_index, htup.typeIs, fun b z => by cases z; exact ⟨ob, hget, hdct⟩, ?_⟩
  have hA := (pa_cons he pa_nil hs0).run cpos pins s1 σ H1 (fun xs H2 => ∃ k : Int, xs = [.int k] ∧ LtAt H2 a L ∧ k ∈ L ∧ Q (.int (L.idxOf k : Nat)) H2) I1 q1
  rw [hs] at hA ⊢
  refine Calls.callWith_builtin rfl (Calls.evalArgs_plain (thn hA ?_))
  rintro us s2 ⟨xs, H2, I2, r2, k, rfl, ⟨ob2, _, hob2⟩, hk, q2⟩
  obtain ⟨its, rv, ht, _⟩ := I2.tuple (show SqT X.K H2 a (iv L) from .inl (.inr ⟨ob2, hob2⟩))
  obtain ⟨tk, rfl⟩ : ∃ tk, us = [.int k tk] := by
    cases r2 with
    | cons r rr =>
      cases rr
      obtain ⟨tk, rfl⟩ := r
      exact ⟨tk, rfl⟩
  exact PySem.SeqAt.tuple_index_ints (show s2.heap.IsTuple a its.toArray from ht) rv.ints hk ⟨.int (L.idxOf k : Nat), H2, I2.tok _, ⟨_, rfl⟩, q2⟩
end
end K4
namespace K4
open PySem PySem.Spec PyProof.Rows L2 LamX
/-! ### displays of rows -/
def dInts : List Nat → TA
  | [] => tNil
  | n :: ns => tCons (tC (.int (n : Nat))) (dInts ns)
def dRow (ns : List Nat) : TE := tLst (dInts ns)
def dRowsA : List (List Nat) → TA
  | [] => tNil
  | r :: rs => tCons (dRow r) (dRowsA rs)
def dRows (rs : List (List Nat)) : TE := tLst (dRowsA rs)
theorem dInts_ok : ∀ {ns : List Nat} {σ : L2.St} {H : Hp} {Q : List V → Hp → Prop}, Q (nv ns) H → dInts ns σ H Q
  | [], _, _, _, h => h
  | _ :: ns, _, _, Q, h => dInts_ok (ns := ns) (Q := fun vs H => Q (_ :: vs) H) h
theorem Each.cons {β : Type} {g : β → HO} {H : Hp} {vs : List V} {xs : List β} {b : Addr} {x : β} (h : Each g H vs xs) (hb : H b = some (g x)) : Each g H (.ref b :: vs) (x :: xs) := by
  refine ⟨by rw [List.length_cons, List.length_cons, h.1], fun i y q => ?_⟩
  cases i with
  | zero =>
    cases q
    exact ⟨b, rfl, hb⟩
  | succ i => exact h.2 i y q
theorem dRowsA_ok {T : List (Addr × Str)} : ∀ {rs : List (List Nat)} {σ : L2.St} {H : Hp} {Q : List V → Hp → Prop}, (∀ r ∈ rs, r.length ≤ 1000) → (∀ H' vs, Fr T Nl H H' → Each lN H' vs rs → Q vs H') → dRowsA rs σ H Q
  | [], _, _, _, _, h => h _ _ Fr.refl Each.nil
  | r :: rs, _, _, _, hl, h => by
    refine dInts_ok ⟨?_, fun p np => dRowsA_ok (rs := rs) (fun q hq => hl q (List.mem_cons_of_mem _ hq)) fun H' vs e k => h _ _ ((Fr.refl.new np).trans e) (k.cons (e.lst upd_same))⟩
    rw [List.length_map]
    exact Nat.le_trans (hl r List.mem_cons_self) (by decide)
theorem dRows_ok {T : List (Addr × Str)} (rs : List (List Nat)) {σ : L2.St} {H : Hp} {Q : VK} (hl : rs.length ≤ 1000 ∧ ∀ r ∈ rs, r.length ≤ 1000) (h : ∀ H' v, Fr T Nl H H' → Lof lN H' v rs → Q v H') : dRows rs σ H Q := by
  refine dRowsA_ok (T := T) hl.2 fun H' vs e k => ⟨?_, fun p np => h _ _ (e.new np) ⟨p, vs, rfl, upd_same, k.fr (fun _ => rfl) (Fr.refl.new (T := T) np)⟩⟩
  rw [k.1]
  exact Nat.le_trans hl.1 (by decide)
theorem seqRows {T : List (Addr × Str)} (rs : List (List Nat)) {i : Nat} {u : L2.TS} {D : Ends} {σ : L2.St} {H : Hp} (hl : rs.length ≤ 1000 ∧ ∀ r ∈ rs, r.length ≤ 1000) (h : ∀ H' v, Fr T Nl H H' → Lof lN H' v rs → u D (σ.set i (some v)) H') : tSeq (tAsg (dRows rs) (gName i)) u D σ H := dRows_ok (T := T) rs hl h
theorem consRows {T : List (Addr × Str)} (rs : List (List Nat)) {u : TA} {σ : L2.St} {H : Hp} {Q : List V → Hp → Prop} (hl : rs.length ≤ 1000 ∧ ∀ r ∈ rs, r.length ≤ 1000) (h : ∀ H' v, Fr T Nl H H' → Lof lN H' v rs → u σ H' fun vs H2 => Q (v :: vs) H2) : tCons (dRows rs) u σ H Q := dRows_ok (T := T) rs hl h
theorem seqTup {t : TA} {i : Nat} {u : L2.TS} {D : Ends} {σ : L2.St} {H : Hp} (h : t σ H fun xs H1 => xs.length ≤ sizeLine ∧ ∀ p, H1 p = none → u D (σ.set i (some (.ref p))) (upd H1 p (.tup xs))) : tSeq (tAsg (tTup t) (gName i)) u D σ H := h
def menuT : List (List (List Nat)) := [[[0]], [[0, 1], [1, 1]], [[0, 0], [1, 1]], [[0, 1], [0, 1]], [[0, 0], [0, 0]], [[0, 1, 0, 1], [0, 1, 0, 1], [2, 3, 2, 3], [2, 3, 2, 3]], [[0, 1, 2], [1, 1, 1], [2, 2, 2]], [[0, 1, 2], [1, 1, 2], [2, 1, 2]], [[0, 1, 2], [1, 2, 0], [2, 0, 1]], [[0, 0, 0], [0, 1, 0], [0, 0, 2]]]
def dtx (ds : List Nat) : Str := ⟨(ds.map fun d => 49 + d).toArray⟩
def rt (r : Rul) : Str := ⟨(r.1.map (fun d => 49 + d) ++ 61 :: r.2.map fun d => 49 + d).toArray⟩
section
variable {P : Program} {w : World} {K : PySem.W.Frag} {mg : Str → Option Value} {base : Heap} {fA : Nat → Addr} {fdA : Nat → FuncData} {T : List (Addr × Str)}
/-! menu -/
abbrev N30 : List Str := ["_law_pick", "_law_band", "_law_front", "_law_rear", "_law_total", "_law_meet", "_law_small"]
abbrev P30 : List Str := ["_law_pick"]
theorem sc30 : FnScope N30 P30 (dS 30) := ⟨rfl, rfl, rfl, by decide +kernel, rfl, by decide +kernel, by decide +kernel⟩
theorem b30 (Y : Fx K mg fA fdA) : Binds K (fdA 30) P30 [] := (Y.d 30 _ rfl).2.bindsN fun _ _ _ _ _ _ us hl => match us, hl with | [_], _ => rfl
/- slots: 0:_law_pick 1:_law_band 2:_law_front 3:_law_rear 4:_law_total 5:_law_meet 6:_law_small -/

def spMenu (T : List (Addr × Str)) : Sp := fun vs H Q _ => ∃ i : Nat, vs = [.int i] ∧ i < 10 ∧ ∀ H' v, Fr T Nl H H' → Lof lN H' v (menuT.getD i []) → Q v H'
theorem ok_menu (Y : Fx K mg fA fdA) : FnOk P w K mg base CX0 1 (fA 30) (fdA 30) P30 (spMenu T) := by
  refine (Y.d 30 _ rfl).2.ok sc30 (fun vs H Q E h => by obtain ⟨_, rfl, _⟩ := h; rfl) (fun cdv A outer s H vs Q E hr h => ?_)
  refine ⟨_, PSs.nox (pss_cons (ps_set (i := 1) sc30.nd rfl (by first | exact .inl rfl | exact .inr rfl) (pe_lst (pa_cons (pe_lst (pa_cons pe_int (pa_cons pe_int (pa_cons pe_int (pa_cons pe_int pa_nil))))) (pa_cons (pe_lst (pa_cons pe_int (pa_cons pe_int (pa_cons pe_int (pa_cons pe_int pa_nil))))) (pa_cons (pe_lst (pa_cons pe_int (pa_cons pe_int (pa_cons pe_int (pa_cons pe_int pa_nil))))) (pa_cons (pe_lst (pa_cons pe_int (pa_cons pe_int (pa_cons pe_int (pa_cons pe_int pa_nil))))) pa_nil))))))
    (pss_cons (ps_set (i := 2) sc30.nd rfl (by first | exact .inl rfl | exact .inr rfl) (pe_lst (pa_cons (pe_lst (pa_cons pe_int (pa_cons pe_int (pa_cons pe_int pa_nil)))) (pa_cons (pe_lst (pa_cons pe_int (pa_cons pe_int (pa_cons pe_int pa_nil)))) (pa_cons (pe_lst (pa_cons pe_int (pa_cons pe_int (pa_cons pe_int pa_nil)))) pa_nil)))))
    (pss_cons (ps_set (i := 3) sc30.nd rfl (by first | exact .inl rfl | exact .inr rfl) (pe_lst (pa_cons (pe_lst (pa_cons pe_int (pa_cons pe_int (pa_cons pe_int pa_nil)))) (pa_cons (pe_lst (pa_cons pe_int (pa_cons pe_int (pa_cons pe_int pa_nil)))) (pa_cons (pe_lst (pa_cons pe_int (pa_cons pe_int (pa_cons pe_int pa_nil)))) pa_nil)))))
    (pss_cons (ps_set (i := 4) sc30.nd rfl (by first | exact .inl rfl | exact .inr rfl) (pe_lst (pa_cons (pe_lst (pa_cons pe_int (pa_cons pe_int (pa_cons pe_int pa_nil)))) (pa_cons (pe_lst (pa_cons pe_int (pa_cons pe_int (pa_cons pe_int pa_nil)))) (pa_cons (pe_lst (pa_cons pe_int (pa_cons pe_int (pa_cons pe_int pa_nil)))) pa_nil)))))
    (pss_cons (ps_set (i := 5) sc30.nd rfl (by first | exact .inl rfl | exact .inr rfl) (pe_lst (pa_cons (pe_lst (pa_cons pe_int (pa_cons pe_int (pa_cons pe_int pa_nil)))) (pa_cons (pe_lst (pa_cons pe_int (pa_cons pe_int (pa_cons pe_int pa_nil)))) (pa_cons (pe_lst (pa_cons pe_int (pa_cons pe_int (pa_cons pe_int pa_nil)))) pa_nil)))))
    (pss_cons (ps_set (i := 6) sc30.nd rfl (by first | exact .inl rfl | exact .inr rfl) (pe_tup (pa_cons (pe_lst (pa_cons (pe_lst (pa_cons pe_int pa_nil)) pa_nil)) (pa_cons (pe_lst (pa_cons (pe_lst (pa_cons pe_int (pa_cons pe_int pa_nil))) (pa_cons (pe_lst (pa_cons pe_int (pa_cons pe_int pa_nil))) pa_nil))) (pa_cons (pe_lst (pa_cons (pe_lst (pa_cons pe_int (pa_cons pe_int pa_nil))) (pa_cons (pe_lst (pa_cons pe_int (pa_cons pe_int pa_nil))) pa_nil))) (pa_cons (pe_lst (pa_cons (pe_lst (pa_cons pe_int (pa_cons pe_int pa_nil))) (pa_cons (pe_lst (pa_cons pe_int (pa_cons pe_int pa_nil))) pa_nil))) (pa_cons (pe_lst (pa_cons (pe_lst (pa_cons pe_int (pa_cons pe_int pa_nil))) (pa_cons (pe_lst (pa_cons pe_int (pa_cons pe_int pa_nil))) pa_nil))) pa_nil)))))))
    (pss_one (ps_ret (pe_ix ix_tup (pe_op op_catA (pv 6) (pe_tup (pa_cons (pv 1) (pa_cons (pv 2) (pa_cons (pv 3) (pa_cons (pv 4) (pa_cons (pv 5) pa_nil))))))) (pv 0) (fun _ _ => rfl)))))))))), ?_⟩
  obtain ⟨i, rfl, hi, hQ⟩ := h
  have pl : ∀ x : List Nat, plainO (lN x) = true := fun _ => rfl
  refine seqRows (T := T) (menuT.getD 5 []) (by decide) fun H1 v1 e1 w1 => ?_
  refine seqRows (T := T) (menuT.getD 6 []) (by decide) fun H2 v2 e2 w2 => ?_
  refine seqRows (T := T) (menuT.getD 7 []) (by decide) fun H3 v3 e3 w3 => ?_
  refine seqRows (T := T) (menuT.getD 8 []) (by decide) fun H4 v4 e4 w4 => ?_
  refine seqRows (T := T) (menuT.getD 9 []) (by decide) fun H5 v5 e5 w5 => ?_
  refine seqTup ?_
  refine consRows (T := T) (menuT.getD 0 []) (by decide) fun H6 u1 f1 x1 => ?_
  refine consRows (T := T) (menuT.getD 1 []) (by decide) fun H7 u2 f2 x2 => ?_
  refine consRows (T := T) (menuT.getD 2 []) (by decide) fun H8 u3 f3 x3 => ?_
  refine consRows (T := T) (menuT.getD 3 []) (by decide) fun H9 u4 f4 x4 => ?_
  refine consRows (T := T) (menuT.getD 4 []) (by decide) fun HA u5 f5 x5 => ?_
  refine ⟨by show 5 ≤ sizeLine; decide, fun p np => ⟨_, rfl, _, rfl, _, rfl, _, rfl, _, rfl, _, rfl, by show 5 ≤ sizeLine; decide, fun q nq => ?_⟩⟩
  have npq : p ≠ q := fun z => by rw [z, upd_same] at nq; cases nq
  have g5 : Fr T Nl HA (upd (upd HA p (.tup [u1, u2, u3, u4, u5])) q (.tup [v1, v2, v3, v4, v5])) := (Fr.refl.new np).new nq
  refine catT (T := T) (xs := [u1, u2, u3, u4, u5]) (ys := [v1, v2, v3, v4, v5]) (by rw [upd_ne npq]; exact upd_same) upd_same (by show 5 + 5 ≤ 1000; decide) fun HB t eB hB => ?_
  have k5 := g5.trans eB
  have k4 := f5.trans k5
  have k3 := f4.trans k4
  have k2 := f3.trans k3
  have k1 := f2.trans k2
  have k0 := f1.trans k1
  have j5 := k0
  have j4 := e5.trans k0
  have j3 := e4.trans j4
  have j2 := e3.trans j3
  have j1 := e2.trans j2
  have all := e1.trans j1
  have hc : i = 0 ∨ i = 1 ∨ i = 2 ∨ i = 3 ∨ i = 4 ∨ i = 5 ∨ i = 6 ∨ i = 7 ∨ i = 8 ∨ i = 9 := by omega
  have fin : ∀ v, ([u1, u2, u3, u4, u5] ++ [v1, v2, v3, v4, v5])[i]? = some v → Lof lN HB v (menuT.getD i []) → tOp (rIxT K) (fun _ _ Q => Q (.ref t) HB) (tVar 0) (L2.start N30 [V.int ↑i]) HB Q := fun v h1 h2 => ⟨_, rfl, t, _, _, v, rfl, rfl, SqT.of hB, atI_nat h1, hQ _ v all h2⟩
  have fin2 : tOp (rIxT K) (fun _ _ Q => Q (.ref t) HB) (tVar 0) (L2.start N30 [V.int ↑i]) HB Q := by
    rcases hc with rfl | rfl | rfl | rfl | rfl | rfl | rfl | rfl | rfl | rfl
    · exact fin _ rfl (x1.fr pl k1)
    · exact fin _ rfl (x2.fr pl k2)
    · exact fin _ rfl (x3.fr pl k3)
    · exact fin _ rfl (x4.fr pl k4)
    · exact fin _ rfl (x5.fr pl k5)
    · exact fin _ rfl (w1.fr pl j1)
    · exact fin _ rfl (w2.fr pl j2)
    · exact fin _ rfl (w3.fr pl j3)
    · exact fin _ rfl (w4.fr pl j4)
    · exact fin _ rfl (w5.fr pl j5)
  exact fin2
end
end K4
namespace K4
open PySem PySem.Spec PyProof.Rows L2 LamX
section
variable {P : Program} {w : World} {K : PySem.W.Frag} {mg : Str → Option Value} {base : Heap} {fA : Nat → Addr} {fdA : Nat → FuncData} {T : List (Addr × Str)}
/-! rules -/
abbrev N31 : List Str := ["_law_kind_here"]
abbrev P31 : List Str := ["_law_kind_here"]
theorem sc31 : FnScope N31 P31 (dS 31) := ⟨rfl, rfl, rfl, by decide +kernel, rfl, by decide +kernel, by decide +kernel⟩
theorem b31 (Y : Fx K mg fA fdA) : Binds K (fdA 31) P31 [] := (Y.d 31 _ rfl).2.bindsN fun _ _ _ _ _ _ us hl => match us, hl with | [_], _ => rfl
/- slots: 0:_law_kind_here -/

def spRules (T : List (Addr × Str)) : Sp := fun vs H Q _ => ∃ c : Kd, vs = [.str (kn c)] ∧ ∀ H' p, Fr T Nl H H' → H' p = some (.tup ((rl c).map fun r => V.str (rt r))) → Q (.ref p) H'
theorem ok_rules (Y : Fx K mg fA fdA) : FnOk P w K mg base CX0 1 (fA 31) (fdA 31) P31 (spRules T) := by
  refine (Y.d 31 _ rfl).2.ok sc31 (fun vs H Q E h => by obtain ⟨_, rfl, _⟩ := h; rfl) (fun cdv A outer s H vs Q E hr h => ?_)
  refine ⟨_, PSs.nox (pss_cons (ps_if (pt_cmpR op_eq (pv 0) pe_str (nomark _)) (pss_one (ps_ret (pe_tup (pa_cons pe_str pa_nil)))) pss_nil)
    (pss_cons (ps_if (pt_cmpR op_eq (pv 0) pe_str (nomark _)) (pss_one (ps_ret (pe_tup (pa_cons pe_str (pa_cons pe_str pa_nil))))) pss_nil)
    (pss_cons (ps_if (pt_cmpR op_eq (pv 0) pe_str (nomark _)) (pss_one (ps_ret (pe_tup (pa_cons pe_str pa_nil)))) pss_nil)
    (pss_cons (ps_if (pt_cmpR op_eq (pv 0) pe_str (nomark _)) (pss_one (ps_ret (pe_tup (pa_cons pe_str pa_nil)))) pss_nil)
    (pss_cons (ps_if (pt_cmpR op_eq (pv 0) pe_str (nomark _)) (pss_one (ps_ret (pe_tup (pa_cons pe_str (pa_cons pe_str pa_nil))))) pss_nil)
    (pss_cons (ps_if (pt_cmpR op_eq (pv 0) pe_str (nomark _)) (pss_one (ps_ret (pe_tup (pa_cons pe_str (pa_cons pe_str pa_nil))))) pss_nil)
    (pss_cons (ps_if (pt_cmpR op_eq (pv 0) pe_str (nomark _)) (pss_one (ps_ret (pe_tup (pa_cons pe_str (pa_cons pe_str pa_nil))))) pss_nil)
    (pss_one (ps_ret (pe_tup pa_nil)))))))))), ?_⟩
  obtain ⟨c, rfl, hQ⟩ := h
  have e1 : rt ([0, 1], [1, 0]) = ("12=21" : Str) := by decide +kernel
  have e2 : rt ([0, 0], [0]) = ("11=1" : Str) := by decide +kernel
  have e3 : rt ([0, 1], [0]) = ("12=1" : Str) := by decide +kernel
  have e4 : rt ([0, 1], [1]) = ("12=2" : Str) := by decide +kernel
  have e5 : rt ([0, 1, 2], [0, 2]) = ("123=13" : Str) := by decide +kernel
  have e6 : rt ([0, 1, 0], [0, 1]) = ("121=12" : Str) := by decide +kernel
  have e7 : rt ([0, 1, 0], [1, 0]) = ("121=21" : Str) := by decide +kernel
  have one : ∀ p, H p = none → ∀ x, rt x = ("12=21" : Str) ∨ True → True := fun _ _ _ _ => trivial
  refine ⟨_, rfl, rfl, _, rfl, kI c .bag (fun e => ?_) fun n1 => ?_⟩
  · subst e
    exact ⟨by show 1 ≤ sizeLine; decide, fun p np => hQ _ p (Fr.refl.new np) (by rw [upd_same]; simp only [rl, List.map_cons, List.map_nil, e1])⟩
  refine ⟨_, rfl, rfl, _, rfl, kI c .set (fun e => ?_) fun n2 => ?_⟩
  · subst e
    exact ⟨by show 2 ≤ sizeLine; decide, fun p np => hQ _ p (Fr.refl.new np) (by rw [upd_same]; simp only [rl, List.map_cons, List.map_nil, e1, e2])⟩
  refine ⟨_, rfl, rfl, _, rfl, kI c .first (fun e => ?_) fun n3 => ?_⟩
  · subst e
    exact ⟨by show 1 ≤ sizeLine; decide, fun p np => hQ _ p (Fr.refl.new np) (by rw [upd_same]; simp only [rl, List.map_cons, List.map_nil, e3])⟩
  refine ⟨_, rfl, rfl, _, rfl, kI c .last (fun e => ?_) fun n4 => ?_⟩
  · subst e
    exact ⟨by show 1 ≤ sizeLine; decide, fun p np => hQ _ p (Fr.refl.new np) (by rw [upd_same]; simp only [rl, List.map_cons, List.map_nil, e4])⟩
  refine ⟨_, rfl, rfl, _, rfl, kI c .ends (fun e => ?_) fun n5 => ?_⟩
  · subst e
    exact ⟨by show 2 ≤ sizeLine; decide, fun p np => hQ _ p (Fr.refl.new np) (by rw [upd_same]; simp only [rl, List.map_cons, List.map_nil, e2, e5])⟩
  refine ⟨_, rfl, rfl, _, rfl, kI c .heads (fun e => ?_) fun n6 => ?_⟩
  · subst e
    exact ⟨by show 2 ≤ sizeLine; decide, fun p np => hQ _ p (Fr.refl.new np) (by rw [upd_same]; simp only [rl, List.map_cons, List.map_nil, e2, e6])⟩
  refine ⟨_, rfl, rfl, _, rfl, kI c .tails (fun e => ?_) fun n7 => ?_⟩
  · subst e
    exact ⟨by show 2 ≤ sizeLine; decide, fun p np => hQ _ p (Fr.refl.new np) (by rw [upd_same]; simp only [rl, List.map_cons, List.map_nil, e2, e7])⟩
  have ec : c = .list := by cases c <;> first | rfl | contradiction
  subst ec
  exact ⟨Nat.zero_le _, fun p np => hQ _ p (Fr.refl.new np) (by rw [upd_same] <;> rfl)⟩
/-! fold -/
theorem at_nv {l : List Nat} {i : Nat} (h : i < l.length) : (nv l)[i]? = some (V.int (l.getD i 0 : Nat)) := by
  rw [List.getElem?_map, List.getElem?_eq_getElem h, List.getD_eq_getElem?_getD, List.getElem?_eq_getElem h] <;> rfl
theorem atI_nv {l : List Nat} {i : Nat} (h : i < l.length) : atI (nv l) ((i : Nat) : Int) = some (V.int (l.getD i 0 : Nat)) := atI_nat (at_nv h)
theorem Wf.row {rows : List (List Nat)} (h : Wf rows) {a : Nat} {r : List Nat} (ha : rows[a]? = some r) : r.length = rows.length ∧ ∀ b, mr rows a b = r.getD b 0 := by
  refine ⟨(h.each _ (List.mem_of_getElem? ha)).1, fun b => ?_⟩
  unfold mr
  rw [List.getD_eq_getElem?_getD (l := rows), ha] <;> rfl
theorem ix_row {H : Hp} {v : V} {rows : List (List Nat)} {a : Nat} {Q : VK} (h : Lof lN H v rows) (ha : a < rows.length) (q : ∀ c r, rows[a]? = some r → H c = some (lN r) → Q (.ref c) H) : rIxL K v (.int (a : Nat)) H Q := by
  obtain ⟨p, vs, rfl, hp, he⟩ := h
  obtain ⟨c, h1, h2⟩ := he.get ha
  exact ⟨p, _, _, _, rfl, rfl, SqL.of hp, atI_nat h1, q c _ (List.getElem?_eq_getElem ha) h2⟩
theorem ix_cell {H : Hp} {c : Addr} {r : List Nat} {b : Nat} {Q : VK} (h : H c = some (lN r)) (hb : b < r.length) (q : Q (.int (r.getD b 0 : Nat)) H) : rIxL K (.ref c) (.int (b : Nat)) H Q := ⟨c, _, _, _, rfl, rfl, SqL.of h, atI_nv hb, q⟩
abbrev N32 : List Str := ["_law_rows", "_law_word_here", "_law_merged_here", "_law_mark"]
abbrev P32 : List Str := ["_law_rows", "_law_word_here"]
theorem sc32 : FnScope N32 P32 (dS 32) := ⟨rfl, rfl, rfl, by decide +kernel, rfl, by decide +kernel, by decide +kernel⟩
theorem b32 (Y : Fx K mg fA fdA) : Binds K (fdA 32) P32 [] := (Y.d 32 _ rfl).2.bindsN fun _ _ _ _ _ _ us hl => match us, hl with | [_, _], _ => rfl
/- slots: 0:_law_rows 1:_law_word_here 2:_law_merged_here 3:_law_mark -/

def spFold (T : List (Addr × Str)) : Sp := fun vs H Q _ => ∃ (v : V) (a : Addr) (rows : List (List Nat)) (ws : List Nat), vs = [v, .ref a] ∧ Lof lN H v rows ∧ H a = some (lN ws) ∧ Wf rows ∧ ws ≠ [] ∧ (∀ x ∈ ws, x < rows.length) ∧ ∀ H', Fr T Nl H H' → Q (.int (foldm (mr rows) ws : Nat)) H'
theorem take_succN {l : List Nat} {i : Nat} (h : i < l.length) : l.take (i + 1) = l.take i ++ [l.getD i 0] := by
  rw [List.take_add_one, List.getElem?_eq_getElem h, List.getD_eq_getElem?_getD, List.getElem?_eq_getElem h] <;> rfl
theorem foldl_take_succ (m : Nat → Nat → Nat) {r : List Nat} {i x : Nat} (h : i < r.length) : (r.take (i + 1)).foldl m x = m ((r.take i).foldl m x) (r.getD i 0) := by
  rw [take_succN h, List.foldl_append] <;> rfl
theorem ok_fold (Y : Fx K mg fA fdA) : FnOk P w K mg base CX0 1 (fA 32) (fdA 32) P32 (spFold T) := by
  refine (Y.d 32 _ rfl).2.ok sc32 (fun vs H Q E h => by obtain ⟨_, _, _, _, rfl, _⟩ := h; rfl) (fun cdv A outer s H vs Q E hr h => ?_)
  refine ⟨_, PSs.nox (pss_cons (ps_set (i := 2) sc32.nd rfl (by first | exact .inl rfl | exact .inr rfl) (pe_ix ix_list (pv 1) pe_int (fun _ _ => rfl)))
    (pss_cons (ps_for PassesOwn.never rfl (pi_list (pe_slice sl_list (pv 1) (po_some pe_int) po_none)) (pg_name (i := 3) sc32.nd rfl (by first | exact .inl rfl | exact .inr rfl)) (pss_one (ps_set (i := 2) sc32.nd rfl (by first | exact .inl rfl | exact .inr rfl) (pe_ix ix_list (pe_ix ix_list (pv 0) (pv 2) (fun _ _ => rfl)) (pv 3) (fun _ _ => rfl)))))
    (pss_one (ps_ret (pv 2))))), ?_⟩
  obtain ⟨v, a, rows, ws, rfl, hv, ha, W, hne, hlt, hQ⟩ := h
  obtain ⟨x, r, rfl⟩ := List.exists_cons_of_ne_nil hne
  have hx : x < rows.length := hlt x List.mem_cons_self
  have hr' : ∀ y ∈ r, y < rows.length := fun y hy => hlt y (List.mem_cons_of_mem _ hy)
  refine ⟨_, rfl, a, _, _, _, rfl, rfl, SqL.of ha, atI_nv (l := x :: r) (i := 0) (Nat.succ_pos _), _, rfl, 1, rfl, a, _, rfl, SqL.of ha, fun p np => ?_⟩
  have ec : cutV (nv (x :: r)) (some 1) none = nv r := cut_from (nv (x :: r)) 1
  rw [ec]
  refine ⟨p, rfl, ⟨_, SqL.of upd_same⟩, for_list (xs := nv r) (fun i σ H' => ∃ u, σ = [some v, some (.ref a), some (.int ((r.take i).foldl (mr rows) x : Nat)), u] ∧ H' p = some (lN r) ∧ Fr T Nl H H') ⟨_, rfl, upd_same, Fr.refl.new np⟩ (fun i σ H' _ ⟨_, _, h, _⟩ => SqL.of h) ?_ ?_⟩
  · rintro i y σ H1 hy ⟨u, rfl, h1, e⟩
    have hi : i < r.length := by have := (List.getElem?_eq_some_iff.mp hy).1; simpa using this
    rw [at_nv hi] at hy
    cases hy
    have hyr : r.getD i 0 < rows.length := hr' _ (by rw [List.getD_eq_getElem?_getD, List.getElem?_eq_getElem hi]; exact List.getElem_mem hi)
    have hm : (r.take i).foldl (mr rows) x < rows.length := foldl_lt W.closed hx fun z hz => hr' z (List.mem_of_mem_take hz)
    refine ⟨_, rfl, _, rfl, ix_row (hv.fr (fun _ => rfl) e) hm fun c q hq hc => ⟨_, rfl, ix_cell hc (by rw [(W.row hq).1]; exact hyr) ?_⟩⟩
    rw [← (W.row hq).2, ← foldl_take_succ (mr rows) hi]
    exact ⟨_, rfl, h1, e⟩
  · rintro σ H1 ⟨u, rfl, h1, e⟩
    have z := hQ _ e
    rw [List.length_map, List.take_length]
    exact ⟨_, rfl, z⟩
/-! choices -/
abbrev tail (r : List Nat) (j : Nat) : List (List Nat) := (List.range j).map fun x => r ++ [x]
theorem tail_succ (r : List Nat) (j : Nat) : tail r (j + 1) = tail r j ++ [r ++ [j]] := by
  unfold tail
  rw [List.range_succ, List.map_append] <;> rfl
theorem flat_len (n : Nat) : ∀ l : List (List Nat), (l.flatMap fun r => tail r n).length = l.length * n
  | [] => by simp
  | r :: l => by
    rw [List.flatMap_cons, List.length_append, flat_len n l, List.length_cons, Nat.succ_mul, Nat.add_comm]
    congr 1
    rw [List.length_map, List.length_range]
theorem choices_len (n : Nat) : ∀ c, (choices n c).length = n ^ c
  | 0 => rfl
  | c + 1 => by
    show ((choices n c).flatMap fun r => tail r n).length = _
    rw [flat_len, choices_len n c, Nat.pow_succ]
theorem size_big : 10000001 < sizeLine := by decide
abbrev N33 : List Str := ["_law_size", "_law_count", "_law_rows", "_law_k", "_law_longer", "_law_row", "_law_mark"]
abbrev P33 : List Str := ["_law_size", "_law_count"]
theorem sc33 : FnScope N33 P33 (dS 33) := ⟨rfl, rfl, rfl, by decide +kernel, rfl, by decide +kernel, by decide +kernel⟩
theorem b33 (Y : Fx K mg fA fdA) : Binds K (fdA 33) P33 [] := (Y.d 33 _ rfl).2.bindsN fun _ _ _ _ _ _ us hl => match us, hl with | [_, _], _ => rfl
/- slots: 0:_law_size 1:_law_count 2:_law_rows 3:_law_k 4:_law_longer 5:_law_row 6:_law_mark -/

def spChoices (T : List (Addr × Str)) : Sp := fun vs H Q _ => ∃ (n c : Nat), vs = [.int n, .int c] ∧ c ≤ 4 ∧ n ^ c ≤ 10000000 ∧ n ≤ 1000 ∧ ∀ H' v, Fr T Nl H H' → Lof tN H' v (choices n c) → Q v H'
theorem ok_choices (Y : Fx K mg fA fdA) : FnOk P w K mg base CX0 1 (fA 33) (fdA 33) P33 (spChoices T) := by
  refine (Y.d 33 _ rfl).2.ok sc33 (fun vs H Q E h => by obtain ⟨_, _, rfl, _⟩ := h; rfl) (fun cdv A outer s H vs Q E hr h => ?_)
  refine ⟨_, PSs.nox (pss_cons (ps_set (i := 2) sc33.nd rfl (by first | exact .inl rfl | exact .inr rfl) (pe_lst (pa_cons (pe_tup pa_nil) pa_nil)))
    (pss_cons (ps_for PassesOwn.never rfl (pi_range1 (by rfl) Y.range (pa_cons (pv 1) pa_nil)) (pg_name (i := 3) sc33.nd rfl (by first | exact .inl rfl | exact .inr rfl)) (pss_cons (ps_set (i := 4) sc33.nd rfl (by first | exact .inl rfl | exact .inr rfl) (pe_lst pa_nil))
    (pss_cons (ps_for PassesOwn.never rfl (pi_list (pv 2)) (pg_name (i := 5) sc33.nd rfl (by first | exact .inl rfl | exact .inr rfl)) (pss_one (ps_for PassesOwn.never rfl (pi_range1 (by rfl) Y.range (pa_cons (pv 0) pa_nil)) (pg_name (i := 6) sc33.nd rfl (by first | exact .inl rfl | exact .inr rfl)) (pss_one (ps_expr (pe_bm PySem.F.plainAttrs_list PySem.F.slot_list_append PySem.F.type_list_append mt_append (pv 4) (pa_cons (pe_op op_catA (pv 5) (pe_tup (pa_cons (pv 6) pa_nil))) pa_nil)))))))
    (pss_one (ps_set (i := 2) sc33.nd rfl (by first | exact .inl rfl | exact .inr rfl) (pe_callTy call_list_of (by rfl) Y.list (by decide +kernel) (pa_cons (pv 4) pa_nil)))))))
    (pss_one (ps_ret (pv 2))))), ?_⟩
  obtain ⟨n, c, rfl, hc, hl, hn, hQ⟩ := h
  refine ⟨Nat.zero_le _, fun p0 n0 => ⟨by show 1 ≤ sizeLine; decide, fun p np => ⟨_, rfl, _, rfl, by omega, by omega, ?_⟩⟩⟩
  have n0p : p0 ≠ p := fun z => by rw [← z, upd_same] at np; cases np
  refine for_range (n := c) (fun k σ H' => ∃ (u1 u2 u3 u4 : Option V) (v : V), σ = [some (.int n), some (.int c), some v, u1, u2, u3, u4] ∧ Lof tN H' v (choices n k) ∧ Fr T Nl H H')
    ⟨_, _, _, _, _, rfl, ⟨p, _, rfl, upd_same, Each.nil.cons (by rw [upd_ne n0p]; exact upd_same)⟩, (Fr.refl.new n0).new np⟩ ?_ ?_
  · rintro k σ H1 hk ⟨u1, u2, u3, u4, v, rfl, ⟨b, vs, rfl, hb, he⟩, e⟩
    refine ⟨Nat.zero_le _, fun l nl => ⟨_, rfl, b, rfl, ⟨vs, SqL.of (by rw [upd_ne (ne_of_none hb nl)]; exact hb)⟩, ?_⟩⟩
    have hbl : b ≠ l := ne_of_none hb nl
    refine for_list (xs := vs) (fun i σ H' => ∃ (u1 u3 u4 : Option V) (ws : List V), σ = [some (.int n), some (.int c), some (.ref b), u1, some (.ref l), u3, u4] ∧ H' b = some (.lst vs) ∧ H' l = some (.lst ws) ∧ Each tN H' vs (choices n k) ∧ Each tN H' ws (((choices n k).take i).flatMap fun r => tail r n) ∧ Fr T Nl H1 H')
      ⟨_, _, _, [], rfl, by rw [upd_ne hbl]; exact hb, upd_same, he.fr (fun _ => rfl) (Fr.refl.new (T := T) nl), Each.nil, Fr.refl.new nl⟩ (fun i σ H' _ ⟨_, _, _, _, _, h, _⟩ => SqL.of h) ?_ ?_
    · rintro i x σ H2 hx ⟨u1, u3, u4, ws, rfl, h1, h2, h3, h4, e2⟩
      obtain ⟨q, r, rfl, hr, hq⟩ := h3.at_ hx
      have hrl : r.length = k := (mem_choices.mp (List.mem_of_getElem? hr)).1
      refine ⟨_, rfl, _, rfl, by omega, by omega, for_range (n := n) (fun j σ H' => ∃ (u1 u4 : Option V) (ws' : List V), σ = [some (.int n), some (.int c), some (.ref b), u1, some (.ref l), some (.ref q), u4] ∧ H' b = some (.lst vs) ∧ H' q = some (tN r) ∧ H' l = some (.lst ws') ∧ Each tN H' vs (choices n k) ∧ Each tN H' ws' ((((choices n k).take i).flatMap fun r => tail r n) ++ tail r j) ∧ Fr T Nl H1 H')
        ⟨_, _, ws, rfl, h1, hq, h2, h3, by rw [show tail r 0 = [] from rfl, List.append_nil]; exact h4, e2⟩ ?_ ?_⟩
      · rintro j σ H3 hj ⟨u1, u4, ws', rfl, g1, gq, g2, g3, g4, e3⟩
        have e0 : ((0 : Int) + (j : Int)) = (j : Int) := by omega
        rw [e0]
        refine ⟨_, rfl, .inl ⟨rfl, _, SqL.of g2⟩, _, rfl, _, rfl, by show 1 ≤ sizeLine; decide, fun t nt => catT (T := T) (xs := nv r) (ys := nv [j]) (by rw [upd_ne (ne_of_none gq nt)]; exact gq) upd_same (by rw [List.length_map, hrl]; show k + 1 ≤ 1000; omega) fun H4 z e4 hz => ?_⟩
        have e34 : Fr T Nl H3 H4 := (Fr.refl.new nt).trans e4
        have k2 := e34.lst g2
        refine ⟨l, _, _, rfl, rfl, k2, ?_, _, _, ws' ++ [.ref z], rfl, ?_, ?_, upd_same, ?_, ?_, (e3.trans e34).put nl k2 rfl⟩
        · have hn1 : n ^ (k + 1) ≤ n ^ c := Nat.pow_le_pow_right (by omega) hk
          have hi : i < (choices n k).length := by have := (List.getElem?_eq_some_iff.mp hr).1; exact this
          have q1 := g4.1
          rw [List.length_append, flat_len, List.length_take, Nat.min_eq_left (by omega), List.length_map, List.length_range] at q1
          have q2 : i * n + j < (i + 1) * n := by rw [Nat.succ_mul]; omega
          have q3 : (i + 1) * n ≤ n ^ (k + 1) := by rw [Nat.pow_succ, ← choices_len]; exact Nat.mul_le_mul_right n hi
          have := size_big
          omega
        · rw [upd_ne hbl]; exact e34.lst g1
        · rw [upd_ne (fun z => by rw [z, g2] at gq; cases gq)]; exact e34.tup gq
        · exact (g3.fr (fun _ => rfl) e34).putT k2
        · rw [tail_succ, ← List.append_assoc]
          refine ((g4.fr (fun _ => rfl) e34).putT k2).snoc ?_
          rw [upd_ne (fun y => by rw [y, k2] at hz; cases hz), hz]
          show some (HO.tup (nv r ++ nv [j])) = some (HO.tup (nv (r ++ [j])))
          rw [nv_append]
      · rintro σ H3 ⟨u1, u4, ws', rfl, g1, gq, g2, g3, g4, e3⟩
        refine ⟨_, _, _, ws', rfl, g1, g2, g3, ?_, e3⟩
        rw [List.take_add_one, hr, List.flatMap_append]
        show Each tN H3 ws' (_ ++ List.flatMap _ [r])
        rw [List.flatMap_cons, List.flatMap_nil, List.append_nil]
        exact g4
    · rintro σ H2 ⟨u1, u3, u4, ws, rfl, h1, h2, h3, h4, e2⟩
      refine ⟨_, rfl, l, _, rfl, .inl (SqL.of h2), fun p np => ?_⟩
      refine ⟨_, _, _, _, _, rfl, ⟨p, ws, rfl, upd_same, ?_⟩, ((e.trans (Fr.of e2)).new np)⟩
      rw [he.1, List.take_length] at h4
      exact h4.fr (fun _ => rfl) (Fr.refl.new (T := T) np)
  · rintro σ H1 ⟨u1, u2, u3, u4, v, rfl, hv, e⟩
    exact ⟨_, rfl, hQ _ _ e hv⟩
end
end K4
namespace K4
open PySem PySem.Spec PyProof.Rows L2 LamX
theorem nv_iv (l : List Nat) : nv l = iv (l.map fun (n : Nat) => (n : Int)) := by
  rw [iv, List.map_map] <;> rfl
theorem rule_split {c : Kd} {r : Rul} (h : r ∈ rl c) : Txt.split (rt r) ("=" : Str) = [dtx r.1, dtx r.2] ∧ (rt r).length ≤ 20 ∧ r.1.length ≤ 9 ∧ r.2.length ≤ 9 ∧ (∀ d ∈ r.1, d < 9) ∧ (∀ d ∈ r.2, d < 9) ∧ many r ≤ 4 := by
  have key : ∀ q ∈ [(([0, 1], [1, 0]) : Rul), ([0, 0], [0]), ([0, 1], [0]), ([0, 1], [1]), ([0, 1, 2], [0, 2]), ([0, 1, 0], [0, 1]), ([0, 1, 0], [1, 0])], Txt.split (rt q) ("=" : Str) = [dtx q.1, dtx q.2] ∧ (rt q).length ≤ 20 ∧ q.1.length ≤ 9 ∧ q.2.length ≤ 9 ∧ (∀ d ∈ q.1, d < 9) ∧ (∀ d ∈ q.2, d < 9) ∧ many q ≤ 4 := by decide +kernel
  apply key
  cases c <;> simp only [rl, List.mem_cons, List.not_mem_nil, or_false] at h ⊢ <;> first | exact h.elim | (rcases h with rfl | rfl <;> simp) | (subst h; simp)
theorem digit_text {d : Nat} (h : d < 9) : intText? ⟨#[49 + d]⟩ = some ((d : Int) + 1) := by
  have key : ∀ d ∈ List.range 9, intText? ⟨#[49 + d]⟩ = some ((d : Int) + 1) := by decide +kernel
  exact key d (List.mem_range.mpr h)
theorem dtx_size (l : List Nat) : (dtx l).cps.size = l.length := by
  unfold dtx
  rw [List.size_toArray, List.length_map]
theorem dtx_at {l : List Nat} {i c : Nat} (h : (dtx l).cps[i]? = some c) : i < l.length ∧ c = 49 + l.getD i 0 := by
  have h' : (l.map fun d => 49 + d)[i]? = some c := by
    rw [← h]
    unfold dtx
    simp
  rw [List.getElem?_map] at h'
  obtain ⟨d, h1, h2⟩ := Option.map_eq_some_iff.mp h'
  have := (List.getElem?_eq_some_iff.mp h1).1
  exact ⟨this, by rw [List.getD_eq_getElem?_getD, h1]; exact h2.symm⟩
theorem max_many {r : Rul} (hne : r.1 ≠ []) {m : Int} (h1 : m ∈ r.1.map fun (n : Nat) => (n : Int)) (h2 : ∀ y ∈ r.1.map fun (n : Nat) => (n : Int), y ≤ m) : 1 + m = ((many r : Nat) : Int) := by
  have gen : ∀ (l : List Nat) (a : Nat), ((∀ y ∈ l, y ≤ l.foldl max a) ∧ a ≤ l.foldl max a) ∧ (l.foldl max a = a ∨ l.foldl max a ∈ l) := by
    intro l
    induction l with
    | nil => intro a; exact ⟨⟨fun y h => (nomatch h), Nat.le_refl _⟩, Or.inl rfl⟩
    | cons x l ih =>
      intro a
      obtain ⟨⟨i1, i2⟩, i3⟩ := ih (max a x)
      refine ⟨⟨fun y hy => ?_, ?_⟩, ?_⟩
      · rcases List.mem_cons.mp hy with rfl | hy
        · exact Nat.le_trans (Nat.le_max_right a y) i2
        · exact i1 y hy
      · exact Nat.le_trans (Nat.le_max_left a x) i2
      · rcases i3 with e | e
        · rw [List.foldl_cons, e]
          by_cases q : a ≤ x
          · rw [Nat.max_eq_right q]; exact Or.inr List.mem_cons_self
          · rw [Nat.max_eq_left (by omega)]; exact Or.inl rfl
        · exact Or.inr (List.mem_cons_of_mem _ e)
  obtain ⟨⟨g1, g2⟩, g3⟩ := gen r.1 0
  obtain ⟨n, hn, rfl⟩ := List.mem_map.mp h1
  have a1 := g1 n hn
  have a2 : r.1.foldl max 0 ≤ n := by
    rcases g3 with e | e
    · omega
    · have := h2 _ (List.mem_map.mpr ⟨_, e, rfl⟩)
      omega
  unfold many
  omega
theorem getD_mem {l : List Nat} {i : Nat} (h : i < l.length) : l.getD i 0 ∈ l := by
  rw [List.getD_eq_getElem?_getD, List.getElem?_eq_getElem h]
  exact List.getElem_mem h
theorem nv_snoc {l : List Nat} {i : Nat} (h : i < l.length) {z : Int} (e : z = ((l.getD i 0 : Nat) : Int)) : nv (l.take i) ++ [V.int z] = nv (l.take (i + 1)) := by
  rw [take_succN h, nv_append, e] <;> rfl
theorem take_len9 {l : List Nat} {i : Nat} (h : l.length ≤ 1000) : (nv (l.take i)).length < sizeLine := by
  rw [List.length_map, List.length_take]
  have := size_big
  omega
section
variable {P : Program} {w : World} {K : PySem.W.Frag} {mg : Str → Option Value} {base : Heap} {fA : Nat → Addr} {fdA : Nat → FuncData} {T : List (Addr × Str)}
abbrev N34 : List Str := ["_law_rule", "_law_rows", "_law_left", "_law_right", "_law_ones", "_law_letter", "_law_others", "_law_chosen", "_law_one", "_law_digit", "_law_other"]
abbrev P34 : List Str := ["_law_rule", "_law_rows"]
theorem sc34 : FnScope N34 P34 (dS 34) := ⟨rfl, rfl, rfl, by decide +kernel, rfl, by decide +kernel, by decide +kernel⟩
theorem b34 (Y : Fx K mg fA fdA) : Binds K (fdA 34) P34 [] := (Y.d 34 _ rfl).2.bindsN fun _ _ _ _ _ _ us hl => match us, hl with | [_, _], _ => rfl
/- slots: 0:_law_rule 1:_law_rows 2:_law_left 3:_law_right 4:_law_ones 5:_law_letter 6:_law_others 7:_law_chosen 8:_law_one 9:_law_digit 10:_law_other -/

def spBreaking (T : List (Addr × Str)) : Sp := fun vs H Q _ => ∃ (c : Kd) (r : Rul) (v : V) (rows : List (List Nat)), vs = [.str (rt r), v] ∧ r ∈ rl c ∧ Lof lN H v rows ∧ Wf rows ∧ rows.length ≤ 50 ∧ ∀ H' x, Fr T Nl H H' → (x = .non ↔ Keeps (mr rows) rows.length r) → Q x H'
theorem ok_breaking (Y : Fx K mg fA fdA) : FnOk P w K mg base CX0 2 (fA 34) (fdA 34) P34 (spBreaking T) := by
  refine (Y.d 34 _ rfl).2.ok sc34 (fun vs H Q E h => by obtain ⟨_, _, _, _, rfl, _⟩ := h; rfl) (fun cdv A outer s H vs Q E hr h => ?_)
  refine ⟨_, PSs.nox (pss_cons (ps_asg (pe_split (pv 0) pe_str) (pg_unl rfl (pgs_cons (pg_name (i := 2) sc34.nd rfl (by first | exact .inl rfl | exact .inr rfl)) (pgs_cons (pg_name (i := 3) sc34.nd rfl (by first | exact .inl rfl | exact .inr rfl)) pgs_nil))))
    (pss_cons (ps_setLc (own := [("_law_letter", 5)]) (g := gName 5) (tt := tYes) (i := 4) rfl sc34.nd rfl rfl (sw_true rfl rfl rfl (by decide +kernel)) (pi_str (pv 2)) (blkOk_by (own := [("_law_letter", 5)]) (N := N34) (sc := (dS 34)) (by decide +kernel)) (fun _ _ _ _ _ => (pg_name (i := 5) sc34.nd rfl (by first | exact .inl rfl | exact .inr rfl))) (fun _ _ _ _ _ => pts_nil) (fun _ _ _ _ _ => (pe_op op_sub (pe_callTy call_int_str (by rfl) Y.int (by decide +kernel) (pa_cons (pv 5) pa_nil)) pe_int)))
    (pss_cons (ps_setLc (own := [("_law_letter", 5)]) (g := gName 5) (tt := tYes) (i := 6) rfl sc34.nd rfl rfl (sw_true rfl rfl rfl (by decide +kernel)) (pi_str (pv 3)) (blkOk_by (own := [("_law_letter", 5)]) (N := N34) (sc := (dS 34)) (by decide +kernel)) (fun _ _ _ _ _ => (pg_name (i := 5) sc34.nd rfl (by first | exact .inl rfl | exact .inr rfl))) (fun _ _ _ _ _ => pts_nil) (fun _ _ _ _ _ => (pe_op op_sub (pe_callTy call_int_str (by rfl) Y.int (by decide +kernel) (pa_cons (pv 5) pa_nil)) pe_int)))
    (pss_cons (ps_for PassesOwn.never rfl (pi_list (pe_call (ok_choices (T := T) Y) (hr.mono (by decide)) rfl (Y.d 33 _ rfl).1 (Y.d 33 _ rfl).2.kp (b33 Y) .nil pass0 (pa_cons (pe_callB call_len_seq (by rfl) Y.len boot_len (pa_cons (pv 1) pa_nil)) (pa_cons (pe_op op_add pe_int (pe_callB (cr_max rfl) (by rfl) Y.max (by decide +kernel) (pa_cons (pv 4) pa_nil))) pa_nil)))) (pg_name (i := 7) sc34.nd rfl (by first | exact .inl rfl | exact .inr rfl)) (pss_cons (ps_set (i := 8) sc34.nd rfl (by first | exact .inl rfl | exact .inr rfl) (pe_call (ok_fold (T := T) Y) (hr.mono (by decide)) rfl (Y.d 32 _ rfl).1 (Y.d 32 _ rfl).2.kp (b32 Y) .nil pass0 (pa_cons (pv 1) (pa_cons (pe_lc (own := [("_law_digit", 9)]) (g := gName 9) (tt := tYes) rfl sc34.nd (pi_list (pv 4)) (blkOk_by (own := [("_law_digit", 9)]) (N := N34) (sc := (dS 34)) (by decide +kernel)) (fun _ _ _ _ _ => (pg_name (i := 9) sc34.nd rfl (by first | exact .inl rfl | exact .inr rfl))) (fun _ _ _ _ _ => pts_nil) (fun _ _ _ _ _ => (pe_ix (r := rIxT K) ix_tup (pv 7) (pv 9) (fun _ _ => rfl)))) pa_nil))))
    (pss_cons (ps_set (i := 10) sc34.nd rfl (by first | exact .inl rfl | exact .inr rfl) (pe_call (ok_fold (T := T) Y) (hr.mono (by decide)) rfl (Y.d 32 _ rfl).1 (Y.d 32 _ rfl).2.kp (b32 Y) .nil pass0 (pa_cons (pv 1) (pa_cons (pe_lc (own := [("_law_digit", 9)]) (g := gName 9) (tt := tYes) rfl sc34.nd (pi_list (pv 6)) (blkOk_by (own := [("_law_digit", 9)]) (N := N34) (sc := (dS 34)) (by decide +kernel)) (fun _ _ _ _ _ => (pg_name (i := 9) sc34.nd rfl (by first | exact .inl rfl | exact .inr rfl))) (fun _ _ _ _ _ => pts_nil) (fun _ _ _ _ _ => (pe_ix (r := rIxT K) ix_tup (pv 7) (pv 9) (fun _ _ => rfl)))) pa_nil))))
    (pss_one (ps_if (pt_cmpR op_ne (pv 8) (pv 10) (nomark _)) (pss_one (ps_ret (pv 7))) pss_nil)))))
    (pss_one (ps_ret pe_non)))))), ?_⟩
  obtain ⟨c, r, v, rows, rfl, hrl, hv, W, hn, hQ⟩ := h
  obtain ⟨hsp, hlen, hl1, hl2, hd1, hd2, hm⟩ := rule_split hrl
  obtain ⟨hne1, hne2, hlt1, hlt2⟩ := rl_ne hrl
  refine ⟨_, rfl, ⟨_, rfl⟩, _, _, rfl, rfl, by decide, Nat.le_trans (Nat.add_le_add_right hlen 2) (by decide), fun p np => ?_⟩
  rw [hsp]
  refine ⟨p, _, rfl, SqL.of upd_same, rfl, _, _, rfl, _, _, rfl, rfl, ?_⟩
  have eA : Fr T Nl H (upd H p (.lst (List.map V.str [dtx r.1, dtx r.2]))) := Fr.refl.new np
  generalize upd H p (.lst (List.map V.str [dtx r.1, dtx r.2])) = HA at eA
  refine ⟨_, rfl, _, rfl, fun D1 nD1 => lc_it walk_str (fun i H' => H' D1 = some (lN (r.1.take i)) ∧ Fr T Nl HA H') ⟨by rw [upd_same] <;> rfl, Fr.refl.new nD1⟩ (fun _ _ _ _ => trivial) ?_ ?_⟩
  · rintro i x Ha Hb hi ⟨hD, e⟩ ⟨rfl, c, hc, rfl⟩
    obtain ⟨hi', rfl⟩ := dtx_at hc
    exact ⟨rfl, _, rfl, _, _, rfl, digit_text (hd1 _ (getD_mem hi')), by show 1 ≤ 640; decide, _, _, rfl, rfl, _, hD, take_len9 (by omega), by rw [upd_same, nv_snoc hi' (by omega)], e.put nD1 hD rfl⟩
  rw [dtx_size]
  rintro HB ⟨hD1, eB⟩
  rw [List.take_length] at hD1
  refine ⟨_, rfl, _, rfl, fun D2 nD2 => lc_it walk_str (fun i H' => H' D2 = some (lN (r.2.take i)) ∧ Fr T Nl HB H') ⟨by rw [upd_same] <;> rfl, Fr.refl.new nD2⟩ (fun _ _ _ _ => trivial) ?_ ?_⟩
  · rintro i x Ha Hb hi ⟨hD, e⟩ ⟨rfl, c, hc, rfl⟩
    obtain ⟨hi', rfl⟩ := dtx_at hc
    exact ⟨rfl, _, rfl, _, _, rfl, digit_text (hd2 _ (getD_mem hi')), by show 1 ≤ 640; decide, _, _, rfl, rfl, _, hD, take_len9 (by omega), by rw [upd_same, nv_snoc hi' (by omega)], e.put nD2 hD rfl⟩
  rw [dtx_size]
  rintro HC ⟨hD2, eC⟩
  rw [List.take_length] at hD2
  replace hD1 := eC.lst hD1
  have e0 := (eA.trans eB).trans eC
  have hvC := hv.fr (fun _ => rfl) e0
  obtain ⟨ra, rvs, rfl, hra, hre⟩ := hv
  have hraC := e0.lst hra
  refine ⟨_, rfl, ra, _, rfl, .inl (SqL.of hraC), _, rfl, D1, (r.1.map fun (n : Nat) => (n : Int)), rfl, (by have z : HC D1 = some (.lst (nv r.1)) := hD1; rw [nv_iv] at z; exact SqL.of z), (by rw [List.length_map]; exact List.length_pos_iff.mpr hne1), fun m hm1 hm2 => ⟨_, _, rfl, rfl, ?_⟩⟩
  refine ⟨rows.length, many r, (by show [V.int ((rvs.length : Nat) : Int), V.int (1 + m)] = _; rw [max_many hne1 hm1 hm2, hre.1]), by omega, Nat.le_trans (Nat.pow_le_pow_left hn _) (Nat.le_trans (Nat.pow_le_pow_right (by decide) hm) (by decide)), by omega, fun HD cv eD hcv => ?_⟩
  obtain ⟨ca, cvs, rfl, hca, hce⟩ := hcv
  have e1 := e0.trans eD
  have hD1' := eD.lst hD1
  have hD2' := eD.lst hD2
  refine ⟨ca, rfl, ⟨_, SqL.of hca⟩, for_list (xs := cvs) (fun i σ H' => ∃ (u5 u7 u8 u9 u10 : Option V), σ = [some (.str (rt r)), some (.ref ra), some (.str (dtx r.1)), some (.str (dtx r.2)), some (.ref D1), u5, some (.ref D2), u7, u8, u9, u10] ∧ Fr T Nl HD H' ∧
    ∀ j ch, j < i → (choices rows.length (many r))[j]? = some ch → foldm (mr rows) (r.1.map fun d => ch.getD d 0) = foldm (mr rows) (r.2.map fun d => ch.getD d 0)) ⟨_, _, _, _, _, rfl, Fr.refl, fun j ch h _ => absurd h (Nat.not_lt_zero _)⟩ (fun i σ H' _ ⟨_, _, _, _, _, _, e, _⟩ => SqL.of (e.lst hca)) ?_ ?_⟩
  · rintro i x σ H1 hx ⟨u5, u7, u8, u9, u10, rfl, e, ok⟩
    obtain ⟨q, ch, rfl, hch, hq⟩ := hce.at_ hx
    have hq0 := hq
    obtain ⟨hcl, hcn⟩ := mem_choices.mp (List.mem_of_getElem? hch)
    refine ⟨_, rfl, _, rfl, D1, rfl, ⟨_, SqL.of (e.lst hD1')⟩, fun L1 nL1 => lc_list (K := K) (xs := nv r.1) (fun i H' => H' L1 = some (lN ((r.1.map fun d => ch.getD d 0).take i)) ∧ Fr T Nl H1 H') ⟨by rw [upd_same] <;> rfl, Fr.refl.new nL1⟩ (fun i H' _ ⟨_, ez⟩ => SqL.of ((e.trans ez).lst hD1')) ?_ ?_⟩
    · rintro k y Ha hy ⟨hL, ea⟩
      have hk : k < r.1.length := by have := (List.getElem?_eq_some_iff.mp hy).1; simpa using this
      rw [at_nv hk] at hy
      cases hy
      have hd : r.1.getD k 0 < ch.length := by rw [hcl]; exact hlt1 _ (getD_mem hk)
      refine ⟨rfl, _, rfl, _, rfl, q, _, _, _, rfl, rfl, SqT.of ((e.trans ea).tup hq0), atI_nv hd, _, hL, take_len9 (by rw [List.length_map]; omega), ?_, ea.put nL1 hL rfl⟩
      rw [upd_same, nv_snoc (by rw [List.length_map]; exact hk)]
      rw [List.getD_eq_getElem?_getD (l := r.1.map _), List.getElem?_map, List.getElem?_eq_getElem hk, List.getD_eq_getElem?_getD (l := r.1), List.getElem?_eq_getElem hk] <;> rfl
    rintro H2 ⟨hL1, e2⟩
    have cL1 : H2 L1 = some (lN (r.1.map fun d => ch.getD d 0)) := by
      rw [hL1, List.length_map, List.take_of_length_le (by rw [List.length_map]; exact Nat.le_refl _)]
    have wL1 : ∀ x ∈ (r.1.map fun d => ch.getD d 0), x < rows.length := fun x hx => by
      obtain ⟨d, hd, rfl⟩ := List.mem_map.mp hx
      exact hcn _ (getD_mem (by rw [hcl]; exact hlt1 d hd))
    refine ⟨.ref ra, L1, rows, _, rfl, hvC.fr (fun _ => rfl) (eD.trans (e.trans e2)), cL1, W, by simp [hne1], wL1, fun H3 e3 => ?_⟩
    have e13 := (e.trans e2).trans e3
    refine ⟨_, rfl, _, rfl, D2, rfl, ⟨_, SqL.of (e13.lst hD2')⟩, fun L2 nL2 => lc_list (K := K) (xs := nv r.2) (fun i H' => H' L2 = some (lN ((r.2.map fun d => ch.getD d 0).take i)) ∧ Fr T Nl H3 H') ⟨by rw [upd_same] <;> rfl, Fr.refl.new nL2⟩ (fun i H' _ ⟨_, ez⟩ => SqL.of ((e13.trans ez).lst hD2')) ?_ ?_⟩
    · rintro k y Ha hy ⟨hL, ea⟩
      have hk : k < r.2.length := by have := (List.getElem?_eq_some_iff.mp hy).1; simpa using this
      rw [at_nv hk] at hy
      cases hy
      have hd : r.2.getD k 0 < ch.length := by rw [hcl]; exact hlt2 _ (getD_mem hk)
      refine ⟨rfl, _, rfl, _, rfl, q, _, _, _, rfl, rfl, SqT.of ((e13.trans ea).tup hq0), atI_nv hd, _, hL, take_len9 (by rw [List.length_map]; omega), ?_, ea.put nL2 hL rfl⟩
      rw [upd_same, nv_snoc (by rw [List.length_map]; exact hk)]
      rw [List.getD_eq_getElem?_getD (l := r.2.map _), List.getElem?_map, List.getElem?_eq_getElem hk, List.getD_eq_getElem?_getD (l := r.2), List.getElem?_eq_getElem hk] <;> rfl
    rintro H4 ⟨hL2, e4⟩
    have cL2 : H4 L2 = some (lN (r.2.map fun d => ch.getD d 0)) := by
      rw [hL2, List.length_map, List.take_of_length_le (by rw [List.length_map]; exact Nat.le_refl _)]
    have wL2 : ∀ x ∈ (r.2.map fun d => ch.getD d 0), x < rows.length := fun x hx => by
      obtain ⟨d, hd, rfl⟩ := List.mem_map.mp hx
      exact hcn _ (getD_mem (by rw [hcl]; exact hlt2 d hd))
    refine ⟨.ref ra, L2, rows, _, rfl, hvC.fr (fun _ => rfl) (eD.trans (e13.trans e4)), cL2, W, by simp [hne2], wL2, fun H5 e5 => ?_⟩
    have e15 := (e13.trans e4).trans e5
    refine ⟨_, rfl, _, rfl, rfl, _, rfl, nI (fun hbad => ?_) fun heq => ?_⟩
    · refine ⟨_, rfl, hQ _ _ (e1.trans e15) ⟨fun z => (by cases z), fun kp => absurd ?_ hbad⟩⟩
      rw [kp ch (List.mem_of_getElem? hch)]
    · refine ⟨_, _, _, _, _, rfl, e15, fun j c' hj hc' => ?_⟩
      by_cases hji : j < i
      · exact ok j c' hji hc'
      · have : j = i := by omega
        subst this
        rw [hch] at hc'
        cases hc'
        have z := V.int.inj heq
        omega
  · rintro σ H1 ⟨u5, u7, u8, u9, u10, rfl, e, ok⟩
    refine hQ _ _ (e1.trans e) ⟨fun _ => fun ch hch => ?_, fun _ => rfl⟩
    obtain ⟨j, hj, ej⟩ := List.getElem_of_mem hch
    exact ok j ch (by rw [hce.1]; exact hj) (by rw [List.getElem?_eq_getElem hj, ej])
end
end K4
namespace K4
open PySem PySem.Spec PyProof.Rows L2 LamX
section
variable {P : Program} {w : World} {K : PySem.W.Frag} {mg : Str → Option Value} {base : Heap} {fA : Nat → Addr} {fdA : Nat → FuncData} {T : List (Addr × Str)}
theorem ix_cellW {H : Hp} {c : Addr} {rows : List (List Nat)} {r : List Nat} {a b : Nat} {Q : VK} (W : Wf rows) (hr : rows[a]? = some r) (h : H c = some (lN r)) (hb : b < rows.length) (q : Q (.int (mr rows a b : Nat)) H) : rIxL K (.ref c) (.int (b : Nat)) H Q :=
  ix_cell h (by rw [(W.row hr).1]; exact hb) (by rw [← (W.row hr).2]; exact q)
abbrev N35 : List Str := ["_law_kind_here", "_law_rows", "_law_size", "_law_a", "_law_b", "_law_both", "_law_c", "_law_rule", "_law_chosen"]
abbrev P35 : List Str := ["_law_kind_here", "_law_rows"]
theorem sc35 : FnScope N35 P35 (dS 35) := ⟨rfl, rfl, rfl, by decide +kernel, rfl, by decide +kernel, by decide +kernel⟩
theorem b35 (Y : Fx K mg fA fdA) : Binds K (fdA 35) P35 [] := (Y.d 35 _ rfl).2.bindsN fun _ _ _ _ _ _ us hl => match us, hl with | [_, _], _ => rfl
/- slots: 0:_law_kind_here 1:_law_rows 2:_law_size 3:_law_a 4:_law_b 5:_law_both 6:_law_c 7:_law_rule 8:_law_chosen -/

def spFault (T : List (Addr × Str)) : Sp := fun vs H Q _ => ∃ (c : Kd) (v : V) (rows : List (List Nat)), vs = [.str (kn c), v] ∧ Lof lN H v rows ∧ Wf rows ∧ rows.length ≤ 50 ∧ ∀ H' x, Fr T Nl H H' → (x = .non ↔ Good c (mr rows) rows.length) → Q x H'
theorem ok_fault (Y : Fx K mg fA fdA) : FnOk P w K mg base CX0 3 (fA 35) (fdA 35) P35 (spFault T) := by
  refine (Y.d 35 _ rfl).2.ok sc35 (fun vs H Q E h => by obtain ⟨_, _, _, rfl, _⟩ := h; rfl) (fun cdv A outer s H vs Q E hr h => ?_)
  refine ⟨_, PSs.nox (pss_cons (ps_set (i := 2) sc35.nd rfl (by first | exact .inl rfl | exact .inr rfl) (pe_callB call_len_seq (by rfl) Y.len boot_len (pa_cons (pv 1) pa_nil)))
    (pss_cons (ps_for PassesOwn.never rfl (pi_range1 (by rfl) Y.range (pa_cons (pv 2) pa_nil)) (pg_name (i := 3) sc35.nd rfl (by first | exact .inl rfl | exact .inr rfl)) (pss_one (ps_for PassesOwn.never rfl (pi_range1 (by rfl) Y.range (pa_cons (pv 2) pa_nil)) (pg_name (i := 4) sc35.nd rfl (by first | exact .inl rfl | exact .inr rfl)) (pss_cons (ps_set (i := 5) sc35.nd rfl (by first | exact .inl rfl | exact .inr rfl) (pe_ix ix_list (pv 1) (pe_ix ix_list (pe_ix ix_list (pv 1) (pv 3) (fun _ _ => rfl)) (pv 4) (fun _ _ => rfl)) (fun _ _ => rfl)))
    (pss_one (ps_for PassesOwn.never rfl (pi_range1 (by rfl) Y.range (pa_cons (pv 2) pa_nil)) (pg_name (i := 6) sc35.nd rfl (by first | exact .inl rfl | exact .inr rfl)) (pss_one (ps_if (pt_cmpR op_ne (pe_ix ix_list (pv 5) (pv 6) (fun _ _ => rfl)) (pe_ix ix_list (pe_ix ix_list (pv 1) (pv 3) (fun _ _ => rfl)) (pe_ix ix_list (pe_ix ix_list (pv 1) (pv 4) (fun _ _ => rfl)) (pv 6) (fun _ _ => rfl)) (fun _ _ => rfl)) (nomark _)) (pss_one (ps_ret (pe_tup (pa_cons pe_str (pa_cons (pe_tup (pa_cons (pv 3) (pa_cons (pv 4) (pa_cons (pv 6) pa_nil)))) pa_nil))))) pss_nil))))))))
    (pss_cons (ps_for PassesOwn.never rfl (pi_tup (pe_call (ok_rules (T := T) Y) (hr.mono (by decide)) rfl (Y.d 31 _ rfl).1 (Y.d 31 _ rfl).2.kp (b31 Y) .nil pass0 (pa_cons (pv 0) pa_nil))) (pg_name (i := 7) sc35.nd rfl (by first | exact .inl rfl | exact .inr rfl)) (pss_cons (ps_set (i := 8) sc35.nd rfl (by first | exact .inl rfl | exact .inr rfl) (pe_call (ok_breaking (T := T) Y) (hr.mono (by decide)) rfl (Y.d 34 _ rfl).1 (Y.d 34 _ rfl).2.kp (b34 Y) .nil pass0 (pa_cons (pv 7) (pa_cons (pv 1) pa_nil))))
    (pss_one (ps_if (pt_cmpR op_notN (pv 8) pe_non (nomark _)) (pss_one (ps_ret (pe_tup (pa_cons (pv 7) (pa_cons (pv 8) pa_nil))))) pss_nil))))
    (pss_one (ps_ret pe_non))))), ?_⟩
  obtain ⟨c, v, rows, rfl, hv, W, hn, hQ⟩ := h
  have hv0 := hv
  obtain ⟨ra, rvs, rfl, hra, hre⟩ := hv
  have hlr : rvs.length = rows.length := hre.1
  let AS : Nat → Nat → Nat → Prop := fun a b c => mr rows (mr rows a b) c = mr rows a (mr rows b c)
  have C := W.closed
  have z0 : ∀ i : Nat, ((0 : Int) + (i : Int)) = (i : Int) := fun i => by omega
  refine ⟨_, rfl, ra, _, rfl, .inl (SqL.of hra), _, rfl, _, rfl, by rw [hlr]; omega, by rw [hlr]; omega, for_range (n := rvs.length) (fun i σ H' => ∃ (u3 u4 u5 u6 u7 u8 : Option V), σ = [some (.str (kn c)), some (.ref ra), some (.int (rvs.length : Nat)), u3, u4, u5, u6, u7, u8] ∧ H' = H ∧
    ∀ a, a < i → ∀ b, b < rows.length → ∀ c, c < rows.length → AS a b c) ⟨_, _, _, _, _, _, rfl, rfl, fun a h => absurd h (Nat.not_lt_zero _)⟩ ?_ ?_⟩
  · rintro a σ H1 ha ⟨u3, u4, u5, u6, u7, u8, rfl, rfl, ok⟩
    rw [z0]
    rw [hlr] at ha
    refine ⟨_, rfl, _, rfl, by rw [hlr]; omega, by rw [hlr]; omega, for_range (n := rvs.length) (fun i σ H' => ∃ (u4 u5 u6 u7 u8 : Option V), σ = [some (.str (kn c)), some (.ref ra), some (.int (rvs.length : Nat)), some (.int (a : Nat)), u4, u5, u6, u7, u8] ∧ H' = H1 ∧
      ∀ b, b < i → ∀ c, c < rows.length → AS a b c) ⟨_, _, _, _, _, rfl, rfl, fun a h => absurd h (Nat.not_lt_zero _)⟩ ?_ ?_⟩
    · rintro b σ H2 hb ⟨u4, u5, u6, u7, u8, rfl, rfl, ok2⟩
      rw [z0]
      rw [hlr] at hb
      have hab := C.lt a b ha hb
      refine ⟨_, rfl, _, rfl, _, rfl, ix_row hv0 ha fun c1 r1 hr1 hc1 => ⟨_, rfl, ix_cellW W hr1 hc1 hb (ix_row hv0 hab fun c2 r2 hr2 hc2 => ?_)⟩⟩
      refine ⟨_, rfl, _, rfl, by rw [hlr]; omega, by rw [hlr]; omega, for_range (n := rvs.length) (fun i σ H' => ∃ (u6 u7 u8 : Option V), σ = [some (.str (kn c)), some (.ref ra), some (.int (rvs.length : Nat)), some (.int (a : Nat)), some (.int (b : Nat)), some (.ref c2), u6, u7, u8] ∧ H' = H2 ∧
        ∀ c, c < i → AS a b c) ⟨_, _, _, rfl, rfl, fun a h => absurd h (Nat.not_lt_zero _)⟩ ?_ ?_⟩
      · rintro d σ H3 hd ⟨u6, u7, u8, rfl, rfl, ok3⟩
        rw [z0]
        rw [hlr] at hd
        refine ⟨_, rfl, _, rfl, ix_cellW W hr2 hc2 hd ⟨_, rfl, _, rfl, ix_row hv0 ha fun c3 r3 hr3 hc3 => ⟨_, rfl, _, rfl, ix_row hv0 hb fun c4 r4 hr4 hc4 => ⟨_, rfl, ix_cellW W hr4 hc4 hd (ix_cellW W hr3 hc3 (C.lt b d hb hd) ⟨rfl, _, rfl, nI (fun hbad => ?_) fun heq => ?_⟩)⟩⟩⟩⟩
        · refine ⟨_, rfl, _, rfl, _, rfl, by show 3 ≤ sizeLine; decide, fun p np => ⟨by show 2 ≤ sizeLine; decide, fun q nq => hQ _ _ ((Fr.refl.new np).new nq) ⟨fun z => (by cases z), fun G => absurd ?_ hbad⟩⟩⟩
          rw [G.assoc a b d ha hb hd]
        · refine ⟨_, _, _, rfl, rfl, fun c' hc' => ?_⟩
          by_cases h : c' < d
          · exact ok3 c' h
          · have : c' = d := by omega
            subst this
            have z := V.int.inj heq
            show mr rows _ _ = mr rows _ _
            omega
      · rintro σ H3 ⟨u6, u7, u8, rfl, rfl, ok3⟩
        refine ⟨_, _, _, _, _, rfl, rfl, fun b' hb' => ?_⟩
        by_cases h : b' < b
        · exact ok2 b' h
        · have : b' = b := by omega
          subst this
          rw [hlr] at ok3
          exact ok3
    · rintro σ H2 ⟨u4, u5, u6, u7, u8, rfl, rfl, ok2⟩
      refine ⟨_, _, _, _, _, _, rfl, rfl, fun a' ha' => ?_⟩
      by_cases h : a' < a
      · exact ok a' h
      · have : a' = a := by omega
        subst this
        rw [hlr] at ok2
        exact ok2
  · rintro σ H1 ⟨u3, u4, u5, u6, u7, u8, rfl, rfl, ok⟩
    rw [hlr] at ok
    have asc : Assoc (mr rows) rows.length := fun a b c ha hb hc => ok a ha b hb c hc
    refine ⟨_, rfl, c, rfl, fun H2 p e2 hp => ⟨p, rfl, ⟨_, SqT.of hp⟩, for_tup (xs := (rl c).map fun r => V.str (rt r)) (fun i σ H' => ∃ (u3 u4 u5 u6 u7 u8 : Option V), σ = [some (.str (kn c)), some (.ref ra), some (.int (rvs.length : Nat)), u3, u4, u5, u6, u7, u8] ∧ Fr T Nl H2 H' ∧
      ∀ j r, j < i → (rl c)[j]? = some r → Keeps (mr rows) rows.length r) ⟨_, _, _, _, _, _, rfl, Fr.refl, fun j r h => absurd h (Nat.not_lt_zero _)⟩ (fun i σ H' _ ⟨_, _, _, _, _, _, _, ez, _⟩ => SqT.of (ez.tup hp)) ?_ ?_⟩⟩
    · rintro i x σ H3 hx ⟨u3, u4, u5, u6, u7, u8, rfl, e3, ok2⟩
      rw [List.getElem?_map] at hx
      obtain ⟨r, hr, rfl⟩ := Option.map_eq_some_iff.mp hx
      refine ⟨_, rfl, _, rfl, c, r, .ref ra, rows, rfl, List.mem_of_getElem? hr, hv0.fr (fun _ => rfl) (e2.trans e3), W, hn, fun H4 x e4 hxx => ?_⟩
      refine ⟨_, rfl, rfl, _, rfl, nI (fun hbad => ?_) fun heq => ?_⟩
      · refine ⟨_, rfl, _, rfl, by show 2 ≤ sizeLine; decide, fun q nq => hQ _ _ (((e2.trans e3).trans e4).new nq) ⟨fun z => (by cases z), fun G => absurd (hxx.mpr (G.rules r (List.mem_of_getElem? hr))) hbad⟩⟩
      · refine ⟨_, _, _, _, _, _, rfl, e3.trans e4, fun j r' hj hr' => ?_⟩
        by_cases h : j < i
        · exact ok2 j r' h hr'
        · have : j = i := by omega
          subst this
          rw [hr] at hr'
          cases hr'
          exact hxx.mp heq
    · rintro σ H3 ⟨u3, u4, u5, u6, u7, u8, rfl, e3, ok2⟩
      refine hQ _ _ (e2.trans e3) ⟨fun _ => ⟨asc, fun r hr => ?_⟩, fun _ => rfl⟩
      obtain ⟨j, hj, ej⟩ := List.getElem_of_mem hr
      exact ok2 j r (by rw [List.length_map]; exact hj) (by rw [List.getElem?_eq_getElem hj, ej])
end
end K4
namespace K4
open PySem PySem.Spec PyProof.Rows L2 LamX
/-! words of letters -/
abbrev exts (L : List Int) (r : List Int) : List (List Int) := L.map fun x => r ++ [x]
def wds (L : List Int) : Nat → List (List Int)
  | 0 => [[]]
  | k + 1 => (wds L k).flatMap fun r => exts L r
theorem mem_wds {L : List Int} : ∀ {k : Nat} {w : List Int}, w ∈ wds L k ↔ w.length = k ∧ ∀ x ∈ w, x ∈ L
  | 0, w => by
    rw [wds, List.mem_singleton]
    constructor
    · rintro rfl
      exact ⟨rfl, fun x h => by cases h⟩
    · rintro ⟨h, _⟩
      exact List.eq_nil_of_length_eq_zero h
  | k + 1, w => by
    rw [wds, List.mem_flatMap]
    constructor
    · rintro ⟨r, hr, hw⟩
      obtain ⟨x, hx, rfl⟩ := List.mem_map.mp hw
      obtain ⟨h1, h2⟩ := mem_wds.mp hr
      refine ⟨by rw [List.length_append, h1] <;> rfl, fun y hy => ?_⟩
      rcases List.mem_append.mp hy with hy | hy
      · exact h2 y hy
      · rw [List.mem_singleton.mp hy]; exact hx
    · rintro ⟨h1, h2⟩
      have hne : w ≠ [] := fun z => by rw [z] at h1; cases h1
      obtain ⟨r, x, rfl⟩ := snoc_of hne
      rw [List.length_append, List.length_singleton] at h1
      exact ⟨r, mem_wds.mpr ⟨by omega, fun y hy => h2 y (List.mem_append_left _ hy)⟩, List.mem_map.mpr ⟨x, h2 x (List.mem_append_right _ List.mem_cons_self), rfl⟩⟩
theorem exts_len (L : List Int) : ∀ l : List (List Int), (l.flatMap fun r => exts L r).length = l.length * L.length
  | [] => by simp
  | r :: l => by
    rw [List.flatMap_cons, List.length_append, exts_len L l, List.length_cons, Nat.succ_mul, Nat.add_comm]
    congr 1
    rw [List.length_map]
theorem wds_len (L : List Int) : ∀ k, (wds L k).length = L.length ^ k
  | 0 => rfl
  | k + 1 => by
    show ((wds L k).flatMap fun r => exts L r).length = _
    rw [exts_len, wds_len L k, Nat.pow_succ]
theorem exts_take (L r : List Int) {j : Nat} (h : j < L.length) : (exts L r).take (j + 1) = (exts L r).take j ++ [r ++ [L.getD j 0]] := by
  rw [List.take_add_one, List.getElem?_map, List.getElem?_eq_getElem h, List.getD_eq_getElem?_getD, List.getElem?_eq_getElem h] <;> rfl
def cnt (n : Nat) : Nat → Nat
  | 0 => 0
  | k + 1 => cnt n k + n ^ (k + 1)
theorem cnt_le {n z : Nat} (hn : n ≤ 3) (hz : z ≤ 3) : cnt n z ≤ 39 := by
  have key : ∀ n ∈ List.range 4, ∀ z ∈ List.range 4, cnt n z ≤ 39 := by decide +kernel
  exact key n (List.mem_range.mpr (by omega)) z (List.mem_range.mpr (by omega))
section
variable {P : Program} {w : World} {K : PySem.W.Frag} {mg : Str → Option Value} {base : Heap} {fA : Nat → Addr} {fdA : Nat → FuncData} {T : List (Addr × Str)}
abbrev N38 : List Str := ["_law_kind_here", "_law_letters", "_law_size", "_law_found", "_law_rows", "_law_k", "_law_longer", "_law_row", "_law_letter", "_law_normal"]
abbrev P38 : List Str := ["_law_kind_here", "_law_letters", "_law_size"]
theorem sc38 : FnScope N38 P38 (dS 38) := ⟨rfl, rfl, rfl, by decide +kernel, rfl, by decide +kernel, by decide +kernel⟩
theorem b38 (Y : Fx K mg fA fdA) : Binds K (fdA 38) P38 [] := (Y.d 38 _ rfl).2.bindsN fun _ _ _ _ _ _ us hl => match us, hl with | [_, _, _], _ => rfl
/- slots: 0:_law_kind_here 1:_law_letters 2:_law_size 3:_law_found 4:_law_rows 5:_law_k 6:_law_longer 7:_law_row 8:_law_letter 9:_law_normal -/

def spNormals (K : PySem.W.Frag) (T : List (Addr × Str)) : Sp := fun vs H Q _ => ∃ (c : Kd) (a : Addr) (L : List Int) (z : Nat), vs = [.str (kn c), .ref a, .int z] ∧ SqT K H a (iv L) ∧ L ≠ [] ∧ L.length ≤ 3 ∧ 1 ≤ z ∧ z ≤ 3 ∧
  ∀ H' v N, Fr T Nl H H' → Lof tI H' v N → N.Nodup → (∀ p, p ∈ N ↔ ∃ w, w ≠ [] ∧ w.length ≤ z ∧ (∀ x ∈ w, x ∈ L) ∧ plain c w = p) → N.length ≤ 39 → Q v H'
theorem ok_normals (Y : Fx K mg fA fdA) : FnOk P w K mg base CX0 2 (fA 38) (fdA 38) P38 (spNormals K T) := by
  refine (Y.d 38 _ rfl).2.ok sc38 (fun vs H Q E h => by obtain ⟨_, _, _, _, rfl, _⟩ := h; rfl) (fun cdv A outer s H vs Q E hr h => ?_)
  refine ⟨_, PSs.nox (pss_cons (ps_set (i := 3) sc38.nd rfl (by first | exact .inl rfl | exact .inr rfl) (pe_lst pa_nil))
    (pss_cons (ps_set (i := 4) sc38.nd rfl (by first | exact .inl rfl | exact .inr rfl) (pe_lst (pa_cons (pe_tup pa_nil) pa_nil)))
    (pss_cons (ps_for PassesOwn.never rfl (pi_range1 (by rfl) Y.range (pa_cons (pv 2) pa_nil)) (pg_name (i := 5) sc38.nd rfl (by first | exact .inl rfl | exact .inr rfl)) (pss_cons (ps_set (i := 6) sc38.nd rfl (by first | exact .inl rfl | exact .inr rfl) (pe_lst pa_nil))
    (pss_cons (ps_for PassesOwn.never rfl (pi_list (pv 4)) (pg_name (i := 7) sc38.nd rfl (by first | exact .inl rfl | exact .inr rfl)) (pss_one (ps_for PassesOwn.never rfl (pi_tup (pv 1)) (pg_name (i := 8) sc38.nd rfl (by first | exact .inl rfl | exact .inr rfl)) (pss_one (ps_expr (pe_bm PySem.F.plainAttrs_list PySem.F.slot_list_append PySem.F.type_list_append mt_append (pv 6) (pa_cons (pe_op op_catA (pv 7) (pe_tup (pa_cons (pv 8) pa_nil))) pa_nil)))))))
    (pss_cons (ps_set (i := 4) sc38.nd rfl (by first | exact .inl rfl | exact .inr rfl) (pe_callTy call_list_of (by rfl) Y.list (by decide +kernel) (pa_cons (pv 6) pa_nil)))
    (pss_one (ps_for PassesOwn.never rfl (pi_list (pv 4)) (pg_name (i := 7) sc38.nd rfl (by first | exact .inl rfl | exact .inr rfl)) (pss_cons (ps_set (i := 9) sc38.nd rfl (by first | exact .inl rfl | exact .inr rfl) (pe_call (ok_plain (T := T) Y) (hr.mono (by decide)) rfl (Y.d 29 _ rfl).1 (Y.d 29 _ rfl).2.kp (b29 Y) .nil pass0 (pa_cons (pv 0) (pa_cons (pv 7) pa_nil))))
    (pss_one (ps_if (pt_cmpR (op_notInD (Room.u65 hr)) (pv 9) (pv 3) (by rfl)) (pss_one (ps_expr (pe_bm PySem.F.plainAttrs_list PySem.F.slot_list_append PySem.F.type_list_append mt_append (pv 3) (pa_cons (pv 9) pa_nil)))) pss_nil)))))))))
    (pss_one (ps_ret (pv 3)))))), ?_⟩
  obtain ⟨c, a, L, z, rfl, ha, hL0, hL3, hz1, hz3, hQ⟩ := h
  have z0 : ∀ i : Nat, ((0 : Int) + (i : Int)) = (i : Int) := fun i => by omega
  refine ⟨Nat.zero_le _, fun fd nf => ⟨Nat.zero_le _, fun p0 n0 => ⟨by show 1 ≤ sizeLine; decide, fun p np => ⟨_, rfl, _, rfl, by omega, by omega, ?_⟩⟩⟩⟩
  have n0p : p0 ≠ p := fun z => by rw [← z, upd_same] at np; cases np
  have nfp : fd ≠ p := fun z => by
    by_cases q : fd = p0
    · exact n0p (q.symm.trans z)
    · rw [← z, upd_ne q, upd_same] at np; cases np
  have nf0 : fd ≠ p0 := fun z => by rw [← z, upd_same] at n0; cases n0
  refine for_range (n := z) (fun k σ H' => ∃ (u5 u6 u7 u8 u9 : Option V) (v : V) (fs : List V) (N : List (List Int)), σ = [some (.str (kn c)), some (.ref a), some (.int z), some (.ref fd), some v, u5, u6, u7, u8, u9] ∧ Lof tI H' v (wds L k) ∧ Fr T Nl H H' ∧ H' fd = some (.lst fs) ∧ Each tI H' fs N ∧
    N.Nodup ∧ (∀ p, p ∈ N ↔ ∃ w, w ≠ [] ∧ w.length ≤ k ∧ (∀ x ∈ w, x ∈ L) ∧ plain c w = p) ∧ N.length ≤ cnt L.length k)
    ⟨_, _, _, _, _, _, [], [], rfl, ⟨p, _, rfl, upd_same, Each.nil.cons (by rw [upd_ne n0p]; exact upd_same)⟩, ((Fr.refl.new nf).new n0).new np, by rw [upd_ne nfp, upd_ne nf0, upd_same] <;> rfl, Each.nil, List.nodup_nil, fun p => ⟨fun h => (nomatch h), fun ⟨w, h1, h2, _⟩ => absurd (List.eq_nil_of_length_eq_zero (Nat.le_zero.mp h2)) h1⟩, Nat.zero_le _⟩ ?_ ?_
  · rintro k σ H1 hk ⟨u5, u6, u7, u8, u9, v, fs, N, rfl, ⟨b, vs, rfl, hb, he⟩, e, hfd, hN, nd, mem, len⟩
    refine ⟨Nat.zero_le _, fun l nl => ⟨_, rfl, b, rfl, ⟨vs, SqL.of (by rw [upd_ne (ne_of_none hb nl)]; exact hb)⟩, ?_⟩⟩
    have hbl : b ≠ l := ne_of_none hb nl
    have hfl : fd ≠ l := ne_of_none hfd nl
    have ha1 := e.seqT ha
    refine for_list (xs := vs) (fun i σ H' => ∃ (u5 u7 u8 u9 : Option V) (ws : List V), σ = [some (.str (kn c)), some (.ref a), some (.int z), some (.ref fd), some (.ref b), u5, some (.ref l), u7, u8, u9] ∧ H' b = some (.lst vs) ∧ H' l = some (.lst ws) ∧ Each tI H' vs (wds L k) ∧ Each tI H' ws (((wds L k).take i).flatMap fun r => exts L r) ∧ Fr T Nl H1 H')
      ⟨_, _, _, _, [], rfl, by rw [upd_ne hbl]; exact hb, upd_same, he.fr (fun _ => rfl) (Fr.refl.new (T := T) nl), Each.nil, Fr.refl.new nl⟩ (fun i σ H' _ ⟨_, _, _, _, _, _, h, _⟩ => SqL.of h) ?_ ?_
    · rintro i x σ H2 hx ⟨u5, u7, u8, u9, ws, rfl, h1, h2, h3, h4, e2⟩
      obtain ⟨q, r, rfl, hr, hq⟩ := h3.at_ hx
      have hrl : r.length = k := (mem_wds.mp (List.mem_of_getElem? hr)).1
      refine ⟨_, rfl, a, rfl, ⟨_, e2.seqT ha1⟩, for_tup (xs := iv L) (fun j σ H' => ∃ (u5 u8 u9 : Option V) (ws' : List V), σ = [some (.str (kn c)), some (.ref a), some (.int z), some (.ref fd), some (.ref b), u5, some (.ref l), some (.ref q), u8, u9] ∧ H' b = some (.lst vs) ∧ H' q = some (tI r) ∧ H' l = some (.lst ws') ∧ Each tI H' vs (wds L k) ∧ Each tI H' ws' ((((wds L k).take i).flatMap fun r => exts L r) ++ (exts L r).take j) ∧ Fr T Nl H1 H')
        ⟨_, _, _, ws, rfl, h1, hq, h2, h3, by rw [List.take_zero, List.append_nil]; exact h4, e2⟩ (fun i σ H' _ ⟨_, _, _, _, _, _, _, _, _, _, ez⟩ => ez.seqT ha1) ?_ ?_⟩
      · rintro j y σ H3 hy ⟨u5, u8, u9, ws', rfl, g1, gq, g2, g3, g4, e3⟩
        have hj : j < L.length := by have := (List.getElem?_eq_some_iff.mp hy).1; simpa using this
        rw [at_iv hj] at hy
        cases hy
        refine ⟨_, rfl, .inl ⟨rfl, _, SqL.of g2⟩, _, rfl, _, rfl, by show 1 ≤ sizeLine; decide, fun t nt => catT (T := T) (xs := iv r) (ys := iv [L.getD j 0]) (by rw [upd_ne (ne_of_none gq nt)]; exact gq) upd_same (by rw [List.length_map, hrl]; show k + 1 ≤ 1000; omega) fun H4 y e4 hy => ?_⟩
        have e34 : Fr T Nl H3 H4 := (Fr.refl.new nt).trans e4
        have k2 := e34.lst g2
        refine ⟨l, _, _, rfl, rfl, k2, ?_, _, _, _, ws' ++ [.ref y], rfl, ?_, ?_, upd_same, ?_, ?_, (e3.trans e34).put nl k2 rfl⟩
        · have q1 := g4.1
          have hi : i < (wds L k).length := (List.getElem?_eq_some_iff.mp hr).1
          rw [List.length_append, exts_len, List.length_take, List.length_take, List.length_map, wds_len] at q1
          have q2 : L.length ^ k ≤ 3 ^ k := Nat.pow_le_pow_left hL3 k
          have q3 : 3 ^ k ≤ 3 ^ 3 := Nat.pow_le_pow_right (by decide) (by omega)
          have q4 : min i (L.length ^ k) * L.length ≤ 27 * 3 := Nat.mul_le_mul (by omega) hL3
          have := size_big
          omega
        · rw [upd_ne hbl]; exact e34.lst g1
        · rw [upd_ne (fun z => by rw [z, g2] at gq; cases gq)]; exact e34.tup gq
        · exact (g3.fr (fun _ => rfl) e34).putT k2
        · rw [exts_take L r hj, ← List.append_assoc]
          refine ((g4.fr (fun _ => rfl) e34).putT k2).snoc ?_
          rw [upd_ne (fun q => by rw [q, k2] at hy; cases hy), hy]
          show some (HO.tup (iv r ++ iv [L.getD j 0])) = some (HO.tup (iv (r ++ [L.getD j 0])))
          rw [iv_append]
      · rintro σ H3 ⟨u5, u8, u9, ws', rfl, g1, gq, g2, g3, g4, e3⟩
        refine ⟨_, _, _, _, ws', rfl, g1, g2, g3, ?_, e3⟩
        rw [List.take_add_one, hr, List.flatMap_append]
        show Each tI H3 ws' (_ ++ List.flatMap _ [r])
        rw [List.flatMap_cons, List.flatMap_nil, List.append_nil]
        rw [List.take_of_length_le (l := exts L r) (by simp)] at g4
        exact g4
    · rintro σ H2 ⟨u5, u7, u8, u9, ws, rfl, h1, h2, h3, h4, e2⟩
      rw [he.1, List.take_length] at h4
      refine ⟨_, rfl, l, _, rfl, .inl (SqL.of h2), fun p np => ?_⟩
      have e12 : Fr T Nl H1 (upd H2 p (.lst ws)) := e2.new np
      have h5 : Each tI (upd H2 p (.lst ws)) ws (wds L (k + 1)) := h4.fr (fun _ => rfl) (Fr.refl.new (T := T) np)
      have hfp : (upd H2 p (.lst ws)) p = some (.lst ws) := upd_same
      have hN2 := hN.fr (fun _ => rfl) e12
      have hfd2 := e12.lst hfd
      generalize upd H2 p (.lst ws) = H3 at e12 h5 hfp hN2 hfd2
      have npf : p ≠ fd := fun z => by rw [z, e2.lst hfd] at np; cases np
      refine ⟨_, rfl, p, rfl, ⟨_, SqL.of hfp⟩, for_list (xs := ws) (fun i σ H' => ∃ (u5 u6 u7 u8 u9 : Option V) (fs : List V) (M : List (List Int)), σ = [some (.str (kn c)), some (.ref a), some (.int z), some (.ref fd), some (.ref p), u5, u6, u7, u8, u9] ∧ H' p = some (.lst ws) ∧ Each tI H' ws (wds L (k + 1)) ∧ Fr T Nl H H' ∧ H' fd = some (.lst fs) ∧ Each tI H' fs M ∧
        M.Nodup ∧ (∀ p, p ∈ M ↔ p ∈ N ∨ ∃ w ∈ (wds L (k + 1)).take i, plain c w = p) ∧ M.length ≤ N.length + i)
        ⟨_, _, _, _, _, fs, N, rfl, hfp, h5, e.trans e12, hfd2, hN2, nd, fun p => by simp, Nat.le_refl _⟩ (fun i σ H' _ ⟨_, _, _, _, _, _, _, _, h, _⟩ => SqL.of h) ?_ ?_⟩
      · rintro i x σ H4 hx ⟨u5, u6, u7, u8, u9, fs, M, rfl, g1, g2, e4, g3, g4, nd4, mem4, len4⟩
        obtain ⟨q, r, rfl, hr, hq⟩ := g2.at_ hx
        have hrl := (mem_wds.mp (List.mem_of_getElem? hr)).1
        refine ⟨_, rfl, _, rfl, c, .ref q, r, rfl, ⟨q, rfl, hq⟩, by omega, fun H5 v' e5 hv' => ?_⟩
        have k1 := e5.lst g1
        have k2 := g2.fr (fun _ => rfl) e5
        have k3 := e5.lst g3
        have k4 := g4.fr (fun _ => rfl) e5
        have memS : ∀ p, (∃ w ∈ (wds L (k + 1)).take (i + 1), plain c w = p) ↔ (∃ w ∈ (wds L (k + 1)).take i, plain c w = p) ∨ plain c r = p := fun p => by
          rw [List.take_add_one, hr]
          constructor
          · rintro ⟨w, hw, rfl⟩
            rcases List.mem_append.mp hw with hw | hw
            · exact .inl ⟨w, hw, rfl⟩
            · have : w = r := by simpa using hw
              subst this
              exact .inr rfl
          · rintro (⟨w, hw, rfl⟩ | rfl)
            · exact ⟨w, List.mem_append_left _ hw, rfl⟩
            · exact ⟨r, List.mem_append_right _ (by simp), rfl⟩
        refine ⟨_, rfl, _, rfl, notInW (u := plain c r) (us := M) hv' ⟨fd, fs, rfl, k3, k4⟩ ⟨_, rfl, nI (fun hout => ?_) fun hin => ?_⟩⟩
        · obtain ⟨nq, rfl, hnq⟩ := hv'
          refine ⟨_, rfl, .inl ⟨rfl, _, SqL.of k3⟩, _, rfl, fd, _, _, rfl, rfl, k3, ?_, _, _, _, _, _, fs ++ [.ref nq], M ++ [plain c r], rfl, ?_, k2.putT k3, (e4.trans e5).put nf k3 rfl, upd_same, ?_, ?_, ?_, ?_⟩
          · have q1 := k4.1
            have q2 := cnt_le hL3 (show k ≤ 3 by omega)
            have q3 : i < (wds L (k + 1)).length := (List.getElem?_eq_some_iff.mp hr).1
            rw [wds_len] at q3
            have q4 : L.length ^ (k + 1) ≤ 3 ^ (k + 1) := Nat.pow_le_pow_left hL3 _
            have q5 : 3 ^ (k + 1) ≤ 3 ^ 3 := Nat.pow_le_pow_right (by decide) (by omega)
            have := size_big
            omega
          · rw [upd_ne npf]; exact k1
          · refine (k4.putT k3).snoc ?_
            rw [upd_ne (fun z => by rw [z, k3] at hnq; cases hnq)]
            exact hnq
          · rw [List.nodup_append]
            refine ⟨nd4, by simp, fun y hy z hz q => hout ?_⟩
            rw [List.mem_singleton.mp hz] at q
            rw [← q]; exact hy
          · intro p
            rw [List.mem_append, List.mem_singleton, mem4, memS]
            constructor
            · rintro ((h | h) | rfl)
              · exact .inl h
              · exact .inr (.inl h)
              · exact .inr (.inr rfl)
            · rintro (h | h | rfl)
              · exact .inl (.inl h)
              · exact .inl (.inr h)
              · exact .inr rfl
          · rw [List.length_append, List.length_singleton]; omega
        · refine ⟨_, _, _, _, _, fs, M, rfl, k1, k2, e4.trans e5, k3, k4, nd4, fun p => ?_, by omega⟩
          rw [memS, mem4]
          constructor
          · rintro (h | h)
            · exact .inl h
            · exact .inr (.inl h)
          · rintro (h | h | rfl)
            · exact .inl h
            · exact .inr h
            · exact (mem4 _).mp hin
      · rintro σ H4 ⟨u5, u6, u7, u8, u9, fs, M, rfl, g1, g2, e4, g3, g4, nd4, mem4, len4⟩
        rw [g2.1] at mem4 len4
        rw [List.take_length] at mem4
        refine ⟨_, _, _, _, _, _, fs, M, rfl, ⟨p, ws, rfl, g1, g2⟩, e4, g3, g4, nd4, fun p => ?_, ?_⟩
        · rw [mem4, mem]
          constructor
          · rintro (⟨w, h1, h2, h3, h4⟩ | ⟨w, h1, h2⟩)
            · exact ⟨w, h1, by omega, h3, h4⟩
            · obtain ⟨h3, h4⟩ := mem_wds.mp h1
              exact ⟨w, fun z => (by rw [z] at h3; cases h3), (by omega), h4, h2⟩
          · rintro ⟨w, h1, h2, h3, h4⟩
            by_cases hk : w.length ≤ k
            · exact .inl ⟨w, h1, hk, h3, h4⟩
            · exact .inr ⟨w, mem_wds.mpr ⟨by omega, h3⟩, h4⟩
        · rw [wds_len] at len4
          show M.length ≤ cnt L.length k + L.length ^ (k + 1)
          omega
  · rintro σ H1 ⟨u5, u6, u7, u8, u9, v, fs, N, rfl, hv, e, hfd, hN, nd, mem, len⟩
    exact ⟨_, rfl, hQ _ _ N e ⟨fd, fs, rfl, hfd, hN⟩ nd mem (Nat.le_trans len (cnt_le hL3 hz3))⟩
end
end K4
namespace K4
open PySem PySem.Spec PyProof.Rows L2 LamX
section
variable {P : Program} {w : World} {K : PySem.W.Frag} {mg : Str → Option Value} {base : Heap} {fA : Nat → Addr} {fdA : Nat → FuncData} {T : List (Addr × Str)} {H H' : Hp}
theorem Stm.fr {st : Addr} (e : Fr T Nl H H') (h : Stm H st) : Stm H' st := by
  obtain ⟨ns, h⟩ := h
  exact ⟨ns, e.lst h⟩
theorem Lof.frS {st : Addr} {v : V} {N : List (List Int)} (e : Fr T (On st) H H') (s : Stm H st) (hN : N ≠ []) (h : Lof tI H v N) : Lof tI H' v N := by
  obtain ⟨ns, s⟩ := s
  obtain ⟨a, vs, rfl, h1, h2⟩ := h
  refine ⟨a, vs, rfl, e.ext _ _ h1 (fun z => ?_) rfl, h2.1, fun i x q => ?_⟩
  · obtain ⟨x, hx⟩ : ∃ x, N[0]? = some x := by
      cases N with
      | nil => exact absurd rfl hN
      | cons x N => exact ⟨x, rfl⟩
    obtain ⟨b, h3, _⟩ := h2.2 0 x hx
    rw [show a = st from z, s] at h1
    have h1' : iv ns = vs := HO.lst.inj (Option.some.inj h1)
    rw [← h1', List.getElem?_map] at h3
    obtain ⟨y, _, hy⟩ := Option.map_eq_some_iff.mp h3
    cases hy
  · obtain ⟨b, h3, h4⟩ := h2.2 i x q
    refine ⟨b, h3, e.ext _ _ h4 (fun z => ?_) rfl⟩
    rw [show b = st from z, s] at h4
    cases h4
theorem frS_tup {st a : Addr} {xs : List V} (e : Fr T (On st) H H') (s : Stm H st) (h : H a = some (.tup xs)) : H' a = some (.tup xs) := by
  obtain ⟨ns, s⟩ := s
  refine e.ext _ _ h (fun z => ?_) rfl
  rw [show a = st from z, s] at h
  cases h
theorem extB (c : Kd) : inV (V.str (kn c)) [V.str (kn .list), V.str (kn .bag)] = ext c := by
  cases c <;> decide +kernel
theorem consTup {t u : TA} {σ : L2.St} {H : Hp} {Q : List V → Hp → Prop} (L : List Int) (ht : ∀ R : List V → Hp → Prop, R (iv L) H → t σ H R) (hl : L.length ≤ 1000) (h : ∀ H' a, Fr T Nl H H' → LtAt H' a L → u σ H' fun vs H2 => Q (.ref a :: vs) H2) : tCons (tTupF t) u σ H Q := by
  refine ht _ ⟨?_, fun p o ho np => h _ p (Fr.refl.new np) ⟨o, ho, upd_same⟩⟩
  rw [List.length_map]
  have := size_big
  omega
/-! alphabet -/
def alph : List (List Int) := [[0, 1, 2], [7, -4, 30], [2, 1, 0], [100000000000000000000, -5, 0]]
abbrev N40 : List Str := ["_law_stream_here", "_law_kind_here", "_law_menu_here", "_law_letters"]
abbrev P40 : List Str := ["_law_stream_here", "_law_kind_here"]
theorem sc40 : FnScope N40 P40 (dS 40) := ⟨rfl, rfl, rfl, by decide +kernel, rfl, by decide +kernel, by decide +kernel⟩
theorem b40 (Y : Fx K mg fA fdA) : Binds K (fdA 40) P40 [] := (Y.d 40 _ rfl).2.bindsN fun _ _ _ _ _ _ us hl => match us, hl with | [_, _], _ => rfl
/- slots: 0:_law_stream_here 1:_law_kind_here 2:_law_menu_here 3:_law_letters -/

def spAlph (T : List (Addr × Str)) : Sp := fun vs H Q _ => ∃ (st : Addr) (c : Kd), vs = [.ref st, .str (kn c)] ∧ Stm H st ∧ ∀ H' a (L : List Int), Fr T (On st) H H' → Stm H' st → LtAt H' a L → L.Nodup → (L.length = 2 ∨ (L.length = 3 ∧ ext c = false)) → Q (.ref a) H'
theorem ok_alphabet (Y : Fx K mg fA fdA) : FnOk P w K mg base CX0 2 (fA 40) (fdA 40) P40 (spAlph T) := by
  refine (Y.d 40 _ rfl).2.ok sc40 (fun vs H Q E h => by obtain ⟨_, _, rfl, _⟩ := h; rfl) (fun cdv A outer s H vs Q E hr h => ?_)
  refine ⟨_, PSs.nox (pss_cons (ps_set (i := 2) sc40.nd rfl (by first | exact .inl rfl | exact .inr rfl) (pe_tup (pa_cons (pe_tupF (pa_cons pe_int (pa_cons pe_int (pa_cons pe_int pa_nil)))) (pa_cons (pe_tupF (pa_cons pe_int (pa_cons (pe_un un_neg pe_int) (pa_cons pe_int pa_nil)))) (pa_cons (pe_tupF (pa_cons pe_int (pa_cons pe_int (pa_cons pe_int pa_nil)))) (pa_cons (pe_tupF (pa_cons pe_int (pa_cons (pe_un un_neg pe_int) (pa_cons pe_int pa_nil)))) pa_nil))))))
    (pss_cons (ps_set (i := 3) sc40.nd rfl (by first | exact .inl rfl | exact .inr rfl) (pe_ix ix_tup (pv 2) (pe_call (ok_draw (T := T) Y) (hr.mono (by decide)) rfl (Y.d 24 _ rfl).1 (Y.d 24 _ rfl).2.kp (b24 Y) .nil pass0 (pa_cons (pv 0) (pa_cons pe_int pa_nil))) (fun _ _ => rfl)))
    (pss_cons (ps_if (PW.pt (pw_or (pt_cmpR op_eq (pe_call (ok_draw (T := T) Y) (hr.mono (by decide)) rfl (Y.d 24 _ rfl).1 (Y.d 24 _ rfl).2.kp (b24 Y) .nil pass0 (pa_cons (pv 0) (pa_cons pe_int pa_nil))) pe_int (nomark _)) (pw_or1 (pt_cmpR op_in_seq (pv 1) (pe_tup (pa_cons pe_str (pa_cons pe_str pa_nil))) (by rfl))))) (pss_one (ps_ret (pe_slice sl_tupF (pv 3) po_none (po_some pe_int)))) pss_nil)
    (pss_one (ps_ret (pv 3)))))), ?_⟩
  obtain ⟨st, c, rfl, hs, hQ⟩ := h
  refine seqTup ?_
  refine consTup (T := T) [0, 1, 2] (fun R r => r) (by decide) fun H0 a0 e0 g0 => ?_
  refine consTup (T := T) [7, -4, 30] (fun R r => ⟨_, rfl, r⟩) (by decide) fun H1 a1 e1 g1 => ?_
  refine consTup (T := T) [2, 1, 0] (fun R r => r) (by decide) fun H2 a2 e2 g2 => ?_
  refine consTup (T := T) [100000000000000000000, -5, 0] (fun R r => ⟨_, rfl, r⟩) (by decide) fun H3 a3 e3 g3 => ?_
  refine ⟨by show 4 ≤ sizeLine; decide, fun m nm => ?_⟩
  have eM : Fr T Nl H3 (upd H3 m (.tup [V.ref a0, V.ref a1, V.ref a2, V.ref a3])) := Fr.refl.new nm
  have all := (((e0.trans e1).trans e2).trans e3).trans eM
  have q0 := g0.fr (((e1.trans e2).trans e3).trans eM)
  have q1 := g1.fr ((e2.trans e3).trans eM)
  have q2 := g2.fr (e3.trans eM)
  have q3 := g3.fr eM
  have hm : upd H3 m (.tup [V.ref a0, V.ref a1, V.ref a2, V.ref a3]) m = some (.tup [V.ref a0, V.ref a1, V.ref a2, V.ref a3]) := upd_same
  have sM := hs.fr all
  refine ⟨_, rfl, _, rfl, st, 4, rfl, sM, by decide, fun H4 k e4 s4 hk => ?_⟩
  obtain ⟨b, L, hb, hL, hnd, hl3⟩ : ∃ (b : Addr) (L : List Int), ([V.ref a0, V.ref a1, V.ref a2, V.ref a3] : List V)[k]? = some (V.ref b) ∧ LtAt H4 b L ∧ L.Nodup ∧ L.length = 3 := by
    have hk' : k = 0 ∨ k = 1 ∨ k = 2 ∨ k = 3 := by omega
    rcases hk' with rfl | rfl | rfl | rfl
    · exact ⟨a0, _, rfl, q0.frS e4 sM, by decide, rfl⟩
    · exact ⟨a1, _, rfl, q1.frS e4 sM, by decide, rfl⟩
    · exact ⟨a2, _, rfl, q2.frS e4 sM, by decide, rfl⟩
    · exact ⟨a3, _, rfl, q3.frS e4 sM, by decide, rfl⟩
  have e04 : Fr T (On st) H H4 := (Fr.of all).trans e4
  refine ⟨m, _, _, _, rfl, rfl, SqT.of (frS_tup e4 sM hm), atI_nat hb, ?_⟩
  have two : ∀ {H5 : Hp} (Q' : VK), Stm H5 st → Fr T (On st) H H5 → LtAt H5 b L → (∀ H' a L, Fr T (On st) H H' → Stm H' st → LtAt H' a L → L.Nodup → (L.length = 2 ∨ (L.length = 3 ∧ ext c = false)) → Q' (.ref a) H') → rSlF K (.ref b) none (some 2) H5 Q' := fun Q' s5 e5 h5 hq => ⟨b, _, rfl, h5.seq, (fun z => by rw [List.length_map, hl3] at z; exact absurd z.2 (by decide)), fun q o ho nq => by
    rw [show cutV (iv L) none (some 2) = iv (L.take 2) from by rw [show (some (2 : Int)) = some ((2 : Nat) : Int) from rfl, cut_to, iv, iv, List.map_take]]
    exact hq _ q (L.take 2) (e5.trans (Fr.refl.new nq)) (s5.new nq) ⟨o, ho, upd_same⟩ (hnd.sublist (List.take_sublist _ _)) (.inl (by rw [List.length_take, hl3] <;> rfl))⟩
  refine ⟨_, rfl, st, 2, rfl, s4, by decide, fun H5 j e5 s5 _ => ?_⟩
  have hb5 := hL.frS e5 s4
  refine ⟨rfl, _, rfl, dI (fun _ => ?_) fun _ => ?_⟩
  · refine iteT ?_
    exact ⟨_, rfl, 2, rfl, two _ s5 (e04.trans e5) hb5 hQ⟩
  · refine ⟨_, rfl, by show 2 ≤ sizeLine; decide, fun p np => ⟨p, _, rfl, .inr (SqT.of upd_same), rfl, rfl, _, rfl, bI (fun hx => ?_) fun hx => ?_⟩⟩
    · exact ⟨_, rfl, 2, rfl, two _ (s5.new np) ((e04.trans e5).new np) (hb5.fr (Fr.refl.new (T := T) np)) hQ⟩
    · rw [if_neg (by decide)] at hx
      replace hx : inV (V.str (kn c)) [V.str (kn .list), V.str (kn .bag)] = false := hx
      rw [extB] at hx
      exact ⟨_, rfl, hQ _ b L ((e04.trans e5).new np) (s5.new np) (hb5.fr (Fr.refl.new (T := T) np)) hnd (.inr ⟨hl3, hx⟩)⟩
/-! turned -/
abbrev N41 : List Str := ["_law_stream_here", "_law_normals_here", "_law_turn", "_law_k"]
abbrev P41 : List Str := ["_law_stream_here", "_law_normals_here"]
theorem sc41 : FnScope N41 P41 (dS 41) := ⟨rfl, rfl, rfl, by decide +kernel, rfl, by decide +kernel, by decide +kernel⟩
theorem b41 (Y : Fx K mg fA fdA) : Binds K (fdA 41) P41 [] := (Y.d 41 _ rfl).2.bindsN fun _ _ _ _ _ _ us hl => match us, hl with | [_, _], _ => rfl
/- slots: 0:_law_stream_here 1:_law_normals_here 2:_law_turn 3:_law_k -/

def spTurned (T : List (Addr × Str)) : Sp := fun vs H Q _ => ∃ (st : Addr) (v : V) (N : List (List Int)), vs = [.ref st, v] ∧ Stm H st ∧ Lof tI H v N ∧ N ≠ [] ∧ N.length ≤ 1000 ∧ ∀ H' v' N', Fr T (On st) H H' → Stm H' st → Lof tI H' v' N' → N'.Perm N → Q v' H'
theorem ok_turned (Y : Fx K mg fA fdA) : FnOk P w K mg base CX0 2 (fA 41) (fdA 41) P41 (spTurned T) := by
  refine (Y.d 41 _ rfl).2.ok sc41 (fun vs H Q E h => by obtain ⟨_, _, _, rfl, _⟩ := h; rfl) (fun cdv A outer s H vs Q E hr h => ?_)
  refine ⟨_, PSs.nox (pss_cons (ps_set (i := 2) sc41.nd rfl (by first | exact .inl rfl | exact .inr rfl) (pe_call (ok_draw (T := T) Y) (hr.mono (by decide)) rfl (Y.d 24 _ rfl).1 (Y.d 24 _ rfl).2.kp (b24 Y) .nil pass0 (pa_cons (pv 0) (pa_cons pe_int pa_nil))))
    (pss_cons (ps_for PassesOwn.never rfl (pi_range1 (by rfl) Y.range (pa_cons (pv 2) pa_nil)) (pg_name (i := 3) sc41.nd rfl (by first | exact .inl rfl | exact .inr rfl)) (pss_one (ps_set (i := 1) sc41.nd rfl (by first | exact .inl rfl | exact .inr rfl) (pe_op op_cat (pe_slice sl_list (pv 1) (po_some pe_int) po_none) (pe_slice sl_list (pv 1) po_none (po_some pe_int))))))
    (pss_one (ps_ret (pv 1))))), ?_⟩
  obtain ⟨st, v, N, rfl, hs, hv, hN, hl, hQ⟩ := h
  refine ⟨_, rfl, st, 16, rfl, hs, by decide, fun H1 t e1 s1 ht => ?_⟩
  refine ⟨_, rfl, (t : Nat), rfl, by omega, by omega, for_range (n := t) (fun k σ H' => ∃ (u : Option V) (v : V) (N' : List (List Int)), σ = [some (.ref st), some v, some (.int (t : Nat)), u] ∧ Fr T Nl H1 H' ∧ Lof tI H' v N' ∧ N'.Perm N) ⟨_, _, N, rfl, Fr.refl, hv.frS e1 hs hN, List.Perm.refl _⟩ ?_ ?_⟩
  · rintro k σ H2 hk ⟨u, v, N', rfl, e, ⟨a, vs, rfl, ha, he⟩, pm⟩
    have hl' : N'.length ≤ 1000 := by rw [pm.length_eq]; exact hl
    have ec1 : cutV vs (some 1) none = vs.drop 1 := cut_from vs 1
    have ec2 : cutV vs none (some 1) = vs.take 1 := cut_to vs 1
    refine ⟨_, rfl, 1, rfl, a, _, rfl, SqL.of ha, fun p np => ⟨_, rfl, 1, rfl, a, _, rfl, SqL.of (by rw [upd_ne (ne_of_none ha np)]; exact ha), fun q nq => ?_⟩⟩
    have npq : p ≠ q := fun z => by rw [z, upd_same] at nq; cases nq
    refine ⟨p, q, _, _, rfl, rfl, by rw [upd_ne npq]; exact upd_same, upd_same, ?_, fun r nr => ?_⟩
    · rw [ec1, ec2, List.length_drop, List.length_take, he.1]
      have := size_big
      omega
    · have e2 : Fr T Nl H2 (upd (upd (upd H2 p (.lst (cutV vs (some 1) none))) q (.lst (cutV vs none (some 1)))) r (.lst (cutV vs (some 1) none ++ cutV vs none (some 1)))) := ((Fr.refl.new np).new nq).new nr
      refine ⟨_, _, N'.drop 1 ++ N'.take 1, rfl, e.trans e2, ⟨r, _, rfl, upd_same, ?_⟩, ?_⟩
      · rw [ec1, ec2] at *
        exact ((he.fr (fun _ => rfl) e2).drop 1).append ((he.fr (fun _ => rfl) e2).take 1)
      · exact (List.perm_append_comm.trans (by rw [List.take_append_drop])).trans pm
  · rintro σ H2 ⟨u, v, N', rfl, e, hv', pm⟩
    exact ⟨_, rfl, hQ _ _ N' (e1.trans (Fr.of e)) (s1.fr e) hv' pm⟩
/-! a word of letters -/
abbrev N42 : List Str := ["_law_stream_here", "_law_letters", "_law_size", "_law_k"]
abbrev P42 : List Str := ["_law_stream_here", "_law_letters"]
theorem sc42 : FnScope N42 P42 (dS 42) := ⟨rfl, rfl, rfl, by decide +kernel, rfl, by decide +kernel, by decide +kernel⟩
theorem b42 (Y : Fx K mg fA fdA) : Binds K (fdA 42) P42 [] := (Y.d 42 _ rfl).2.bindsN fun _ _ _ _ _ _ us hl => match us, hl with | [_, _], _ => rfl
/- slots: 0:_law_stream_here 1:_law_letters 2:_law_size 3:_law_k -/

def spFree (K : PySem.W.Frag) (T : List (Addr × Str)) : Sp := fun vs H Q _ => ∃ (st a : Addr) (L : List Int), vs = [.ref st, .ref a] ∧ Stm H st ∧ SqT K H a (iv L) ∧ L ≠ [] ∧ ∀ H' v u, Fr T (On st) H H' → Stm H' st → Wd H' v u → Over L u → u.length ≤ 6 → Q v H'
theorem ok_free_word (Y : Fx K mg fA fdA) : FnOk P w K mg base CX0 2 (fA 42) (fdA 42) P42 (spFree K T) := by
  refine (Y.d 42 _ rfl).2.ok sc42 (fun vs H Q E h => by obtain ⟨_, _, _, rfl, _⟩ := h; rfl) (fun cdv A outer s H vs Q E hr h => ?_)
  refine ⟨_, PSs.nox (pss_cons (ps_set (i := 2) sc42.nd rfl (by first | exact .inl rfl | exact .inr rfl) (pe_op op_add pe_int (pe_call (ok_draw (T := T) Y) (hr.mono (by decide)) rfl (Y.d 24 _ rfl).1 (Y.d 24 _ rfl).2.kp (b24 Y) .nil pass0 (pa_cons (pv 0) (pa_cons pe_int pa_nil)))))
    (pss_one (ps_ret (pe_callTy call_tuple_of (by rfl) Y.tuple (by decide +kernel) (pa_cons (pe_lc (own := [("_law_k", 3)]) (g := gName 3) (tt := tYes) rfl sc42.nd (pi_range1 (by rfl) Y.range (pa_cons (pv 2) pa_nil)) (blkOk_by (own := [("_law_k", 3)]) (N := N42) (sc := (dS 42)) (by decide +kernel)) (fun _ _ _ _ _ => (pg_name (i := 3) sc42.nd rfl (by first | exact .inl rfl | exact .inr rfl))) (fun _ _ _ _ _ => pts_nil) (fun _ _ _ _ _ => (pe_ix (r := rIxT K) ix_tup (pv 1) (pe_call (ok_draw (T := T) Y) (hr.mono (by decide)) rfl (Y.d 24 _ rfl).1 (Y.d 24 _ rfl).2.kp (b24 Y) .nil pass0 (pa_cons (pv 0) (pa_cons (pe_callB (r := rLenK K) call_len_seq (by rfl) Y.len boot_len (pa_cons (pv 1) pa_nil)) pa_nil))) (fun _ _ => rfl)))) pa_nil))))), ?_⟩
  obtain ⟨st, a, L, rfl, hs, ha, hL, hQ⟩ := h
  have hpos : 0 < L.length := List.length_pos_iff.mpr hL
  refine ⟨_, rfl, st, 6, rfl, hs, by decide, fun H1 k e1 s1 hk => ⟨_, _, rfl, rfl, ?_⟩⟩
  have ha1 := sqT_frS e1 hs ha
  have ek : (1 : Int) + (k : Int) = ((k + 1 : Nat) : Int) := by omega
  refine ⟨_, rfl, ((k + 1 : Nat) : Int), by rw [← ek] <;> rfl, by omega, by omega, fun D nD => lc_range (lo := 0) (n := k + 1) (fun i H' => ∃ acc : List Int, acc.length = i ∧ (∀ x ∈ acc, x ∈ L) ∧ H' D = some (.lst (iv acc)) ∧ Fr T (On st) H1 H' ∧ Stm H' st) ⟨[], rfl, fun x h => (nomatch h), upd_same, Fr.refl.new nD, s1.new nD⟩ ?_ ?_⟩
  · rintro i H2 hi ⟨acc, la, hacc, hD, e, s2⟩
    have ha2 := sqT_frS e s1 ha1
    refine ⟨rfl, _, rfl, _, rfl, _, rfl, a, _, rfl, .inr ha2, st, L.length, by rw [iv, List.length_map] <;> rfl, s2, hpos, fun H3 j e3 s3 hj => ?_⟩
    have hD3 := e3.ext _ _ hD (s1.ne nD) rfl
    refine ⟨a, _, _, _, rfl, rfl, sqT_frS e3 s2 ha2, atI_iv hj, iv acc, hD3, by rw [List.length_map, la]; have := size_big; omega, acc ++ [L.getD j 0], by rw [List.length_append, la] <;> rfl, fun x hx => ?_, by rw [upd_same, iv, iv, List.map_append] <;> rfl, (e.trans e3).put nD hD3 rfl, ?_⟩
    · rcases List.mem_append.mp hx with hx | hx
      · exact hacc x hx
      · rw [List.mem_singleton.mp hx, List.getD_eq_getElem?_getD, List.getElem?_eq_getElem hj]
        exact List.getElem_mem hj
    · obtain ⟨ns, s3⟩ := s3
      exact ⟨ns, by rw [upd_ne (fun z => s1.ne nD z.symm)]; exact s3⟩
  · rintro H2 ⟨acc, la, hacc, hD, e, s2⟩
    exact ⟨D, _, rfl, .inl ⟨SqL.of hD, fun l nl => hQ _ _ acc ((e1.trans e).new nl) (s2.new nl) ⟨l, rfl, upd_same⟩ ⟨fun z => (by rw [z] at la; cases la), hacc⟩ (by omega)⟩⟩
/-! partner -/
abbrev N43 : List Str := ["_law_stream_here", "_law_kind_here", "_law_word_here", "_law_letters", "_law_shape"]
abbrev P43 : List Str := ["_law_stream_here", "_law_kind_here", "_law_word_here", "_law_letters"]
theorem sc43 : FnScope N43 P43 (dS 43) := ⟨rfl, rfl, rfl, by decide +kernel, rfl, by decide +kernel, by decide +kernel⟩
theorem b43 (Y : Fx K mg fA fdA) : Binds K (fdA 43) P43 [] := (Y.d 43 _ rfl).2.bindsN fun _ _ _ _ _ _ us hl => match us, hl with | [_, _, _, _], _ => rfl
/- slots: 0:_law_stream_here 1:_law_kind_here 2:_law_word_here 3:_law_letters 4:_law_shape -/

def spPartner (K : PySem.W.Frag) (T : List (Addr × Str)) : Sp := fun vs H Q _ => ∃ (st a : Addr) (c : Kd) (v : V) (u L : List Int), vs = [.ref st, .str (kn c), v, .ref a] ∧ Stm H st ∧ Wd H v u ∧ SqT K H a (iv L) ∧ L ≠ [] ∧ Over L u ∧ u.length ≤ 6 ∧ ∀ H' v' u', Fr T (On st) H H' → Stm H' st → Wd H' v' u' → Over L u' → u'.length ≤ 7 → Q v' H'
theorem plain_len (c : Kd) (u : List Int) : (plain c u).length ≤ u.length + 1 := by
  cases c
  · exact Nat.le_succ _
  · show (isort u).length ≤ _; rw [isort_length]; omega
  · show (isort (dd u)).length ≤ _; rw [isort_length]; have := dd_len u; omega
  · show (u.take 1).length ≤ _; rw [List.length_take]; omega
  · show (u.reverse.take 1).length ≤ _; rw [List.length_take]; omega
  · show (u.take 1 ++ u.reverse.take 1).length ≤ _
    cases u with
    | nil => decide
    | cons x u => rw [List.length_append, List.length_take, List.length_take]; simp <;> omega
  · have := dd_len u; show (dd u).length ≤ _; omega
  · show (dd u.reverse).reverse.length ≤ _; rw [List.length_reverse]; have := dd_len u.reverse; rw [List.length_reverse] at this; omega
theorem ok_partner (Y : Fx K mg fA fdA) : FnOk P w K mg base CX0 3 (fA 43) (fdA 43) P43 (spPartner K T) := by
  refine (Y.d 43 _ rfl).2.ok sc43 (fun vs H Q E h => by obtain ⟨_, _, _, _, _, _, rfl, _⟩ := h; rfl) (fun cdv A outer s H vs Q E hr h => ?_)
  refine ⟨_, PSs.nox (pss_cons (ps_set (i := 4) sc43.nd rfl (by first | exact .inl rfl | exact .inr rfl) (pe_call (ok_draw (T := T) Y) (hr.mono (by decide)) rfl (Y.d 24 _ rfl).1 (Y.d 24 _ rfl).2.kp (b24 Y) .nil pass0 (pa_cons (pv 0) (pa_cons pe_int pa_nil))))
    (pss_cons (ps_if (pt_cmpR op_eq (pv 4) pe_int (nomark _)) (pss_one (ps_ret (pe_sub tail_backT (pv 2)))) pss_nil)
    (pss_cons (ps_if (pt_cmpR op_eq (pv 4) pe_int (nomark _)) (pss_one (ps_ret (pe_call (ok_plain (T := T) Y) (hr.mono (by decide)) rfl (Y.d 29 _ rfl).1 (Y.d 29 _ rfl).2.kp (b29 Y) .nil pass0 (pa_cons (pv 1) (pa_cons (pv 2) pa_nil))))) pss_nil)
    (pss_cons (ps_if (pt_cmpR op_eq (pv 4) pe_int (nomark _)) (pss_one (ps_ret (pe_op op_catA (pv 2) (pe_slice sl_tupA (pv 2) po_none (po_some pe_int))))) pss_nil)
    (pss_one (ps_ret (pe_call (ok_free_word (T := T) Y) (hr.mono (by decide)) rfl (Y.d 42 _ rfl).1 (Y.d 42 _ rfl).2.kp (b42 Y) .nil pass0 (pa_cons (pv 0) (pa_cons (pv 3) pa_nil))))))))), ?_⟩
  obtain ⟨st, a, c, v, u, L, rfl, hs, ⟨b, rfl, hb⟩, ha, hL, ho, hl, hQ⟩ := h
  refine ⟨_, rfl, st, 4, rfl, hs, by decide, fun H1 k e1 s1 hk => ?_⟩
  have hb1 := frS_tup e1 hs hb
  have ha1 := sqT_frS e1 hs ha
  refine ⟨_, rfl, rfl, _, rfl, dI (fun _ => ?_) fun _ => ?_⟩
  · refine ⟨_, rfl, b, _, rfl, SqT.of hb1, fun p np => hQ _ _ u.reverse (e1.new np) (s1.new np) ⟨p, rfl, by rw [upd_same, iv, iv, List.map_reverse]⟩ ⟨fun z => ho.1 (List.reverse_eq_nil_iff.mp z), fun x hx => ho.2 x (List.mem_reverse.mp hx)⟩ (by rw [List.length_reverse]; omega)⟩
  refine ⟨_, rfl, rfl, _, rfl, dI (fun _ => ?_) fun _ => ?_⟩
  · exact ⟨_, rfl, _, rfl, c, _, u, rfl, ⟨b, rfl, hb1⟩, by omega, fun H2 v' e2 hv' => hQ _ _ (plain c u) (e1.trans (Fr.of e2)) (s1.fr e2) hv' (ho.plain c) (by have := plain_len c u; omega)⟩
  refine ⟨_, rfl, rfl, _, rfl, dI (fun _ => ?_) fun _ => ?_⟩
  · refine ⟨_, rfl, _, rfl, 1, rfl, slT (T := T) hb1 fun H2 q e2 hq => ?_⟩
    rw [show cutV (iv u) none (some 1) = iv (u.take 1) from by rw [show (some (1 : Int)) = some ((1 : Nat) : Int) from rfl, cut_to, iv, iv, List.map_take]] at hq
    refine catT (T := T) (xs := iv u) (ys := iv (u.take 1)) (e2.tup hb1) hq (by rw [List.length_map, List.length_map, List.length_take]; omega) fun H3 z e3 hz => ?_
    have e13 := e2.trans e3
    refine hQ _ _ (u ++ u.take 1) (e1.trans (Fr.of e13)) (s1.fr e13) ⟨z, rfl, by rw [hz, iv_append]⟩ ⟨by simp [ho.1], fun x hx => ?_⟩ (by rw [List.length_append, List.length_take]; omega)
    rcases List.mem_append.mp hx with hx | hx
    · exact ho.2 x hx
    · exact ho.2 x (List.mem_of_mem_take hx)
  exact ⟨_, rfl, _, rfl, st, a, L, rfl, s1, ha1, hL, fun H2 v' u' e2 s2 hw ho' hl' => hQ _ _ u' (e1.trans e2) s2 hw ho' (by omega)⟩
end
end K4
namespace K4
open PySem PySem.Spec PyProof.Rows L2 LamX
/-- the turns of a comprehension's clause, whatever its body -/
theorem lcw {J : It} {n : Nat} {G : Hp → Prop} {Y : Nat → Hp → V → Hp → Prop} (w : Walk J n G Y) {B : V → Hp → (Hp → Prop) → Prop} {Qd : Hp → Prop} {H0 : Hp} (Pv : Nat → Hp → Prop) (h0 : Pv 0 H0) (hG : ∀ i H, i ≤ n → Pv i H → G H)
    (hs : ∀ i x H H', i < n → Pv i H → Y i H x H' → B x H' (Pv (i + 1))) (hd : ∀ H, Pv n H → Qd H) :
    ∃ W : Nat → Nat → Hp → Prop, (∃ m, W 0 m H0) ∧ ∀ i m H, W i m H → (J.stop i H ∧ Qd H) ∨ (J.go i H ∧ ∃ Nx : Hp → Prop, (∀ H', Nx H' → ∃ m', m' < m ∧ W (i + 1) m' H') ∧ ∀ x H', J.yld i H x H' → B x H' Nx) := by
  refine ⟨fun i m H => m = n - i ∧ i ≤ n ∧ Pv i H, ⟨n, by simp, Nat.zero_le _, h0⟩, ?_⟩
  rintro i m H ⟨rfl, hi, p⟩
  have q := hG i H hi p
  by_cases hlt : i < n
  · exact .inr ⟨w.goes i H hlt q, Pv (i + 1), fun H' p' => ⟨n - (i + 1), by omega, rfl, hlt, p'⟩, fun x H' y => hs i x H H' hlt p (w.yields i H x H' hlt q y)⟩
  · have e : i = n := by omega
    subst e
    exact .inl ⟨w.stops H q, hd H p⟩
section
variable {P : Program} {w : World} {K : PySem.W.Frag} {mg : Str → Option Value} {base : Heap} {fA : Nat → Addr} {fdA : Nat → FuncData} {T : List (Addr × Str)} {H H' : Hp}
/-! rule_words -/
abbrev N17 : List Str := ["rule", "left", "right", "letter"]
abbrev P17 : List Str := ["rule"]
theorem sc17 : FnScope N17 P17 (dS 17) := ⟨rfl, rfl, rfl, by decide +kernel, rfl, by decide +kernel, by decide +kernel⟩
theorem b17 (Y : Fx K mg fA fdA) : Binds K (fdA 17) P17 [] := (Y.d 17 _ rfl).2.bindsN fun _ _ _ _ _ _ us hl => match us, hl with | [_], _ => rfl
/- slots: 0:rule 1:left 2:right 3:letter -/

def spRW (T : List (Addr × Str)) : Sp := fun vs H Q _ => ∃ (c : Kd) (r : Rul), vs = [.str (rt r)] ∧ r ∈ rl c ∧ ∀ H' p a b, Fr T Nl H H' → H' p = some (.tup [.ref a, .ref b]) → H' a = some (tN (r.1.map (· + 1))) → H' b = some (tN (r.2.map (· + 1))) → Q (.ref p) H'
theorem ok_rule_words (Y : Fx K mg fA fdA) : FnOk P w K mg base CX0 1 (fA 17) (fdA 17) P17 (spRW T) := by
  refine (Y.d 17 _ rfl).2.ok sc17 (fun vs H Q E h => by obtain ⟨_, _, rfl, _⟩ := h; rfl) (fun cdv A outer s H vs Q E hr h => ?_)
  refine ⟨_, PSs.nox (pss_cons (ps_asg (pe_split (pv 0) pe_str) (pg_unl rfl (pgs_cons (pg_name (i := 1) sc17.nd rfl (by first | exact .inl rfl | exact .inr rfl)) (pgs_cons (pg_name (i := 2) sc17.nd rfl (by first | exact .inl rfl | exact .inr rfl)) pgs_nil))))
    (pss_one (ps_ret (pe_tup (pa_cons (pe_callTy call_tuple_of (by rfl) Y.tuple (by decide +kernel) (pa_cons (pe_lc (own := [("letter", 3)]) (g := gName 3) (tt := tYes) rfl sc17.nd (pi_str (pv 1)) (blkOk_by (own := [("letter", 3)]) (N := N17) (sc := (dS 17)) (by decide +kernel)) (fun _ _ _ _ _ => (pg_name (i := 3) sc17.nd rfl (by first | exact .inl rfl | exact .inr rfl))) (fun _ _ _ _ _ => pts_nil) (fun _ _ _ _ _ => (pe_callTy call_int_str (by rfl) Y.int (by decide +kernel) (pa_cons (pv 3) pa_nil)))) pa_nil)) (pa_cons (pe_callTy call_tuple_of (by rfl) Y.tuple (by decide +kernel) (pa_cons (pe_lc (own := [("letter", 3)]) (g := gName 3) (tt := tYes) rfl sc17.nd (pi_str (pv 2)) (blkOk_by (own := [("letter", 3)]) (N := N17) (sc := (dS 17)) (by decide +kernel)) (fun _ _ _ _ _ => (pg_name (i := 3) sc17.nd rfl (by first | exact .inl rfl | exact .inr rfl))) (fun _ _ _ _ _ => pts_nil) (fun _ _ _ _ _ => (pe_callTy call_int_str (by rfl) Y.int (by decide +kernel) (pa_cons (pv 3) pa_nil)))) pa_nil)) pa_nil)))))), ?_⟩
  obtain ⟨c, r, rfl, hrl, hQ⟩ := h
  obtain ⟨hsp, hlen, hl1, hl2, hd1, hd2, hm⟩ := rule_split hrl
  refine ⟨_, rfl, ⟨_, rfl⟩, _, _, rfl, rfl, by decide, Nat.le_trans (Nat.add_le_add_right hlen 2) (by decide), fun p np => ?_⟩
  rw [hsp]
  refine ⟨p, _, rfl, SqL.of upd_same, rfl, _, _, rfl, _, _, rfl, rfl, ?_⟩
  have eA : Fr T Nl H (upd H p (.lst (List.map V.str [dtx r.1, dtx r.2]))) := Fr.refl.new np
  generalize upd H p (.lst (List.map V.str [dtx r.1, dtx r.2])) = HA at eA
  refine ⟨_, rfl, _, rfl, fun D1 nD1 => lc_it walk_str (fun i H' => H' D1 = some (lN ((r.1.map (· + 1)).take i)) ∧ Fr T Nl HA H') ⟨by rw [upd_same] <;> rfl, Fr.refl.new nD1⟩ (fun _ _ _ _ => trivial) ?_ ?_⟩
  · rintro i x Ha Hb hi ⟨hD, e⟩ ⟨rfl, c, hc, rfl⟩
    obtain ⟨hi', rfl⟩ := dtx_at hc
    have hi2 : i < (r.1.map (· + 1)).length := by rw [List.length_map]; exact hi'
    refine ⟨rfl, _, rfl, _, _, rfl, digit_text (hd1 _ (getD_mem hi')), by show 1 ≤ 640; decide, _, hD, take_len9 (by rw [List.length_map]; omega), ?_, e.put nD1 hD rfl⟩
    rw [upd_same, nv_snoc hi2]
    rw [List.getD_eq_getElem?_getD (l := r.1.map _), List.getElem?_map, List.getElem?_eq_getElem hi', List.getD_eq_getElem?_getD (l := r.1), List.getElem?_eq_getElem hi'] <;> rfl
  rw [dtx_size]
  rintro HB ⟨hD1, eB⟩
  rw [List.take_of_length_le (by rw [List.length_map]; exact Nat.le_refl _)] at hD1
  refine ⟨D1, _, rfl, .inl ⟨SqL.of hD1, fun t1 n1 => ?_⟩⟩
  have eC : Fr T Nl HB (upd HB t1 (.tup (nv (r.1.map (· + 1))))) := Fr.refl.new n1
  have ht1 : (upd HB t1 (.tup (nv (r.1.map (· + 1))))) t1 = some (tN (r.1.map (· + 1))) := upd_same
  generalize upd HB t1 (.tup (nv (r.1.map (· + 1)))) = HC at eC ht1
  refine ⟨_, rfl, _, rfl, fun D2 nD2 => lc_it walk_str (fun i H' => H' D2 = some (lN ((r.2.map (· + 1)).take i)) ∧ Fr T Nl HC H') ⟨by rw [upd_same] <;> rfl, Fr.refl.new nD2⟩ (fun _ _ _ _ => trivial) ?_ ?_⟩
  · rintro i x Ha Hb hi ⟨hD, e⟩ ⟨rfl, c, hc, rfl⟩
    obtain ⟨hi', rfl⟩ := dtx_at hc
    have hi2 : i < (r.2.map (· + 1)).length := by rw [List.length_map]; exact hi'
    refine ⟨rfl, _, rfl, _, _, rfl, digit_text (hd2 _ (getD_mem hi')), by show 1 ≤ 640; decide, _, hD, take_len9 (by rw [List.length_map]; omega), ?_, e.put nD2 hD rfl⟩
    rw [upd_same, nv_snoc hi2]
    rw [List.getD_eq_getElem?_getD (l := r.2.map _), List.getElem?_map, List.getElem?_eq_getElem hi', List.getD_eq_getElem?_getD (l := r.2), List.getElem?_eq_getElem hi'] <;> rfl
  rw [dtx_size]
  rintro HD ⟨hD2, eD⟩
  rw [List.take_of_length_le (by rw [List.length_map]; exact Nat.le_refl _)] at hD2
  refine ⟨D2, _, rfl, .inl ⟨SqL.of hD2, fun t2 n2 => ⟨by show 2 ≤ sizeLine; decide, fun q nq => ?_⟩⟩⟩
  have eE : Fr T Nl HD (upd (upd HD t2 (.tup (nv (r.2.map (· + 1))))) q (.tup [V.ref t1, V.ref t2])) := (Fr.refl.new n2).new nq
  have eF : Fr T Nl (upd HD t2 (.tup (nv (r.2.map (· + 1))))) (upd (upd HD t2 (.tup (nv (r.2.map (· + 1))))) q (.tup [V.ref t1, V.ref t2])) := Fr.refl.new nq
  exact hQ _ q t1 t2 ((((eA.trans eB).trans eC).trans eD).trans eE) upd_same ((eD.trans eE).tup ht1) (eF.tup upd_same)
/-! check_rows -/
abbrev N19 : List Str := ["rows", "size", "index", "element"]
abbrev P19 : List Str := ["rows"]
theorem sc19 : FnScope N19 P19 (dS 19) := ⟨rfl, rfl, rfl, by decide +kernel, rfl, by decide +kernel, by decide +kernel⟩
theorem b19 (Y : Fx K mg fA fdA) : Binds K (fdA 19) P19 [] := (Y.d 19 _ rfl).2.bindsN fun _ _ _ _ _ _ us hl => match us, hl with | [_], _ => rfl
/- slots: 0:rows 1:size 2:index 3:element -/

def spCheck (T : List (Addr × Str)) : Sp := fun vs H Q _ => ∃ (v : V) (rows : List (List Nat)), vs = [v] ∧ Lof lN H v rows ∧ Wf rows ∧ rows.length ≤ 50 ∧ Q .non H
theorem ok_check_rows (Y : Fx K mg fA fdA) : FnOk P w K mg base CX0 1 (fA 19) (fdA 19) P19 (spCheck T) := by
  refine (Y.d 19 _ rfl).2.ok sc19 (fun vs H Q E h => by obtain ⟨_, _, rfl, _⟩ := h; rfl) (fun cdv A outer s H vs Q E hr h => ?_)
  refine ⟨_, PSs.nox (pss_cons (ps_set (i := 1) sc19.nd rfl (by first | exact .inl rfl | exact .inr rfl) (pe_callB call_len_seq (by rfl) Y.len boot_len (pa_cons (pv 0) pa_nil)))
    (pss_cons (ps_if (pt_cmpR op_eq (pv 1) pe_int (nomark _)) (pss_one (ps_never)) pss_nil)
    (pss_one (ps_for PassesOwn.never rfl (pi_range1 (by rfl) Y.range (pa_cons (pv 1) pa_nil)) (pg_name (i := 2) sc19.nd rfl (by first | exact .inl rfl | exact .inr rfl)) (pss_cons (ps_if (pt_cmpR op_ne (pe_callB call_len_seq (by rfl) Y.len boot_len (pa_cons (pe_ix ix_list (pv 0) (pv 2) (fun _ _ => rfl)) pa_nil)) (pv 1) (nomark _)) (pss_one (ps_never)) pss_nil)
    (pss_one (ps_for PassesOwn.never rfl (pi_list (pe_ix ix_list (pv 0) (pv 2) (fun _ _ => rfl))) (pg_name (i := 3) sc19.nd rfl (by first | exact .inl rfl | exact .inr rfl)) (pss_one (ps_if (PW.pt (pw_or (pt_cmpR op_lt (pv 3) pe_int (nomark _)) (pw_or1 (pt_cmpR op_ge (pv 3) (pv 1) (nomark _))))) (pss_one (ps_never)) pss_nil))))))))), ?_⟩
  obtain ⟨v, rows, rfl, hv, W, hn, hQ⟩ := h
  have hv0 := hv
  obtain ⟨ra, rvs, rfl, hra, hre⟩ := hv
  have hlr : rvs.length = rows.length := hre.1
  have z0 : ∀ i : Nat, ((0 : Int) + (i : Int)) = (i : Int) := fun i => by omega
  refine ⟨_, rfl, ra, _, rfl, .inl (SqL.of hra), _, rfl, rfl, _, rfl, dI (fun e => ?_) fun _ => ?_⟩
  · have z := V.int.inj e
    have := W.pos
    omega
  refine ⟨_, rfl, _, rfl, by rw [hlr]; omega, by rw [hlr]; omega, for_range (n := rvs.length) (fun i σ H' => ∃ (u2 u3 : Option V), σ = [some (.ref ra), some (.int (rvs.length : Nat)), u2, u3] ∧ H' = H) ⟨_, _, rfl, rfl⟩ ?_ ?_⟩
  · rintro i σ H1 hi ⟨u2, u3, rfl, rfl⟩
    rw [z0]
    rw [hlr] at hi
    refine ⟨_, rfl, _, rfl, ix_row hv0 hi fun b r hr hb => ?_⟩
    have hrow := W.each r (List.mem_of_getElem? hr)
    refine ⟨b, _, rfl, .inl (SqL.of hb), _, rfl, rfl, _, rfl, nI (fun hbad => ?_) fun _ => ?_⟩
    · exact absurd (by rw [List.length_map, hrow.1, hlr]) hbad
    refine ⟨_, rfl, _, rfl, ix_row hv0 hi fun b2 r2 hr2 hb2 => ?_⟩
    have er : r2 = r := by rw [hr] at hr2; exact (Option.some.inj hr2).symm
    subst er
    refine ⟨b2, rfl, ⟨_, SqL.of hb2⟩, for_list (xs := nv r2) (fun j σ H' => ∃ (u3 : Option V), σ = [some (.ref ra), some (.int (rvs.length : Nat)), some (.int (i : Nat)), u3] ∧ H' = H1) ⟨_, rfl, rfl⟩ (fun i σ H' _ ⟨_, _, e⟩ => by rw [e]; exact SqL.of hb2) ?_ ?_⟩
    · rintro j x σ H2 hx ⟨u3, rfl, rfl⟩
      have hj : j < r2.length := by have := (List.getElem?_eq_some_iff.mp hx).1; simpa using this
      rw [at_nv hj] at hx
      cases hx
      have hlt := hrow.2 _ (getD_mem hj)
      refine ⟨_, rfl, _, _, rfl, rfl, _, rfl, dI (fun z => by omega) fun _ => ?_⟩
      refine ⟨_, rfl, _, rfl, _, _, rfl, rfl, _, rfl, dI (fun z => ?_) fun _ => ?_⟩
      · rw [hlr] at z
        omega
      · exact ⟨_, rfl, rfl⟩
    · rintro σ H2 ⟨u3, rfl, rfl⟩
      exact ⟨_, _, rfl, rfl⟩
  · rintro σ H1 ⟨u2, u3, rfl, rfl⟩
    exact hQ
/-! tuples_of -/
abbrev N20 : List Str := ["size", "length", "rows", "_", "row", "element"]
abbrev P20 : List Str := ["size", "length"]
theorem sc20 : FnScope N20 P20 (dS 20) := ⟨rfl, rfl, rfl, by decide +kernel, rfl, by decide +kernel, by decide +kernel⟩
theorem b20 (Y : Fx K mg fA fdA) : Binds K (fdA 20) P20 [] := (Y.d 20 _ rfl).2.bindsN fun _ _ _ _ _ _ us hl => match us, hl with | [_, _], _ => rfl
/- slots: 0:size 1:length 2:rows 3:_ 4:row 5:element -/

theorem ok_tuples_of (Y : Fx K mg fA fdA) : FnOk P w K mg base CX0 1 (fA 20) (fdA 20) P20 (spChoices T) := by
  refine (Y.d 20 _ rfl).2.ok sc20 (fun vs H Q E h => by obtain ⟨_, _, rfl, _⟩ := h; rfl) (fun cdv A outer s H vs Q E hr h => ?_)
  refine ⟨_, PSs.nox (pss_cons (ps_set (i := 2) sc20.nd rfl (by first | exact .inl rfl | exact .inr rfl) (pe_lst (pa_cons (pe_tup pa_nil) pa_nil)))
    (pss_cons (ps_for PassesOwn.never rfl (pi_range1 (by rfl) Y.range (pa_cons (pv 1) pa_nil)) (pg_name (i := 3) sc20.nd rfl (by first | exact .inl rfl | exact .inr rfl)) (pss_one (ps_setLc2 (own := [("row", 4), ("element", 5)]) (vs1 := [5]) (tt := tYes) (tt1 := tYes) (i := 2) rfl sc20.nd rfl rfl (sw_true rfl rfl rfl (by decide +kernel)) (pi_list (pv 2)) (blkOk_by (own := [("row", 4), ("element", 5)]) (N := N20) (sc := (dS 20)) (by decide +kernel)) (by decide) (fun _ _ _ _ _ => (pg_name (i := 4) sc20.nd rfl (by first | exact .inl rfl | exact .inr rfl))) (fun _ _ _ _ _ => pts_nil) (fun _ _ _ _ _ => (pi_range1 (by rfl) Y.range (pa_cons (pv 0) pa_nil))) (fun _ _ _ _ _ => (pg_name (i := 5) sc20.nd rfl (by first | exact .inl rfl | exact .inr rfl))) (fun _ _ _ _ _ => pts_nil) (fun _ _ _ _ _ => (pe_op (r := rCatA K) op_catA (pv 4) (pe_tup (pa_cons (pv 5) pa_nil)))))))
    (pss_one (ps_ret (pv 2))))), ?_⟩
  obtain ⟨n, c, rfl, hc, hl, hn, hQ⟩ := h
  have z0 : ∀ i : Nat, ((0 : Int) + (i : Int)) = (i : Int) := fun i => by omega
  refine ⟨Nat.zero_le _, fun p0 n0 => ⟨by show 1 ≤ sizeLine; decide, fun p np => ⟨_, rfl, _, rfl, by omega, by omega, ?_⟩⟩⟩
  have n0p : p0 ≠ p := fun z => by rw [← z, upd_same] at np; cases np
  refine for_range (n := c) (fun k σ H' => ∃ (u1 u2 u3 : Option V) (v : V), σ = [some (.int n), some (.int c), some v, u1, u2, u3] ∧ Lof tN H' v (choices n k) ∧ Fr T Nl H H')
    ⟨_, _, _, _, rfl, ⟨p, _, rfl, upd_same, Each.nil.cons (by rw [upd_ne n0p]; exact upd_same)⟩, (Fr.refl.new n0).new np⟩ ?_ ?_
  · rintro k σ H1 hk ⟨u1, u2, u3, v, rfl, ⟨b, vs, rfl, hb, he⟩, e⟩
    refine ⟨_, rfl, b, rfl, ⟨vs, SqL.of hb⟩, fun D nD => ?_⟩
    have hbl : b ≠ D := ne_of_none hb nD
    refine lcw (walk_list (K := K) (a := b) (xs := vs)) (fun i H' => ∃ ws : List V, H' b = some (.lst vs) ∧ H' D = some (.lst ws) ∧ Each tN H' vs (choices n k) ∧ Each tN H' ws (((choices n k).take i).flatMap fun r => tail r n) ∧ Fr T Nl H1 H')
      ⟨[], by rw [upd_ne hbl]; exact hb, upd_same, he.fr (fun _ => rfl) (Fr.refl.new (T := T) nD), Each.nil, Fr.refl.new nD⟩ (fun i H' _ ⟨_, h, _⟩ => SqL.of h) ?_ ?_
    · rintro i x _ H2 hi ⟨ws, h1, h2, h3, h4, e2⟩ ⟨rfl, hx⟩
      obtain ⟨q, r, rfl, hr, hq⟩ := h3.at_ hx
      have hrl : r.length = k := (mem_choices.mp (List.mem_of_getElem? hr)).1
      refine ⟨rfl, _, rfl, n, rfl, by omega, by omega, ?_⟩
      refine lcw (walk_range (lo := 0) (n := n)) (fun j H' => ∃ ws' : List V, H' b = some (.lst vs) ∧ H' q = some (tN r) ∧ H' D = some (.lst ws') ∧ Each tN H' vs (choices n k) ∧ Each tN H' ws' ((((choices n k).take i).flatMap fun r => tail r n) ++ tail r j) ∧ Fr T Nl H1 H')
        ⟨ws, h1, hq, h2, h3, by rw [show tail r 0 = [] from rfl, List.append_nil]; exact h4, e2⟩ (fun _ _ _ _ => trivial) ?_ ?_
      · rintro j y _ H3 hj ⟨ws', g1, gq, g2, g3, g4, e3⟩ ⟨rfl, rfl⟩
        refine ⟨rfl, _, rfl, _, rfl, by show 1 ≤ sizeLine; decide, fun t nt => catT (T := T) (xs := nv r) (ys := nv [j]) (by rw [upd_ne (ne_of_none gq nt)]; exact gq) (by rw [upd_same]; show some (HO.tup [V.int ((0 : Int) + (j : Int))]) = _; rw [z0] <;> rfl) (by rw [List.length_map, hrl]; show k + 1 ≤ 1000; omega) fun H4 z e4 hz => ?_⟩
        have e34 : Fr T Nl H3 H4 := (Fr.refl.new nt).trans e4
        have k2 := e34.lst g2
        refine ⟨_, k2, ?_, ws' ++ [.ref z], ?_, ?_, upd_same, ?_, ?_, (e3.trans e34).put nD k2 rfl⟩
        · have hn1 : n ^ (k + 1) ≤ n ^ c := Nat.pow_le_pow_right (by omega) hk
          have hi : i < (choices n k).length := (List.getElem?_eq_some_iff.mp hr).1
          have q1 := g4.1
          rw [List.length_append, flat_len, List.length_take, Nat.min_eq_left (by omega), List.length_map, List.length_range] at q1
          have q2 : i * n + j < (i + 1) * n := by rw [Nat.succ_mul]; omega
          have q3 : (i + 1) * n ≤ n ^ (k + 1) := by rw [Nat.pow_succ, ← choices_len]; exact Nat.mul_le_mul_right n hi
          have := size_big
          omega
        · rw [upd_ne hbl]; exact e34.lst g1
        · rw [upd_ne (fun z => by rw [z, g2] at gq; cases gq)]; exact e34.tup gq
        · exact (g3.fr (fun _ => rfl) e34).putT k2
        · rw [tail_succ, ← List.append_assoc]
          refine ((g4.fr (fun _ => rfl) e34).putT k2).snoc ?_
          rw [upd_ne (fun y => by rw [y, k2] at hz; cases hz), hz]
          show some (HO.tup (nv r ++ nv [j])) = some (HO.tup (nv (r ++ [j])))
          rw [nv_append]
      · rintro H3 ⟨ws', g1, gq, g2, g3, g4, e3⟩
        refine ⟨ws', g1, g2, g3, ?_, e3⟩
        rw [List.take_add_one, hr, List.flatMap_append]
        show Each tN H3 ws' (_ ++ List.flatMap _ [r])
        rw [List.flatMap_cons, List.flatMap_nil, List.append_nil]
        exact g4
    · rintro H2 ⟨ws, h1, h2, h3, h4, e2⟩
      rw [he.1, List.take_length] at h4
      exact ⟨_, _, _, _, rfl, ⟨D, ws, rfl, h2, h4⟩, e.trans e2⟩
  · rintro σ H1 ⟨u1, u2, u3, v, rfl, hv, e⟩
    exact ⟨_, rfl, hQ _ _ e hv⟩
end
end K4
namespace K4
open PySem PySem.Spec PyProof.Rows L2 LamX
abbrev mS (j : Nat) : Stmt := inClass (topS 21) j
def tq : Nat → Option (Str × Str)
  | 0 => some ("__init__", "Table.__init__") | 1 => some ("size", "Table.size") | 4 => some ("fold", "Table.fold") | 5 => some ("ungrouped", "Table.ungrouped") | 6 => some ("breaking", "Table.breaking") | 7 => some ("fault", "Table.fault")
  | _ => none
structure Tx (K : PySem.W.Frag) (mg : Str → Option Value) (CT : Addr) (gA : Nat → Addr) (gdA : Nat → FuncData) : Prop where
  mgT : mg "Table" = some (.ref CT)
  mkT : Mk K CT (gA 0)
  kp : PySem.W.keepIn K (.ref CT) = true
  cl : Cls K CT
  nR : NoAttr K CT "_rows"
  m : ∀ j x q, tq j = some (x, q) → 2 ≤ j → Meth K CT x (gA j)
  d : ∀ j x q, tq j = some (x, q) → FunD K x q (defArgs (mS j)) (defBody (mS j)) (defScope (mS j)) [] [] (gA j) (gdA j)
  p : ∃ pp, PropOf K CT "size" pp (gA 1)
def TabAt (CT : Addr) (H : Hp) (v : V) (rows : List (List Nat)) : Prop := ∃ (p dx : Addr) (rv : V), v = .ref p ∧ H p = some (.ins CT dx [("_rows", rv)]) ∧ Lof lN H rv rows
theorem flN {m : Str} {rv : V} (h : (m == ("_rows" : Str)) = false) : ([(("_rows" : Str), rv)] : List (Str × V)).lookup m = none := by
  rw [List.lookup_cons, h] <;> rfl
theorem flR {rv : V} : ([(("_rows" : Str), rv)] : List (Str × V)).lookup ("_rows" : Str) = some rv := by
  rw [List.lookup_cons]
  simp
theorem Each.putL {H : Hp} {ws : List V} {xs : List (List Nat)} {D : Addr} {o : HO} (h : Each lN H ws xs) (hD : H D = some (.lst ws)) (hne : ∀ x ∈ xs, x ≠ []) : Each lN (upd H D o) ws xs := ⟨h.1, fun i x q => by
  obtain ⟨b, h1, h2⟩ := h.2 i x q
  refine ⟨b, h1, ?_⟩
  rw [upd_ne (fun z => ?_)]
  · exact h2
  rw [z, hD] at h2
  have e : ws = nv x := HO.lst.inj (Option.some.inj h2)
  have hx := hne x (List.mem_of_getElem? q)
  have hv : V.ref b ∈ ws := List.mem_of_getElem? h1
  rw [e] at hv
  obtain ⟨n, _, hn⟩ := List.mem_map.mp hv
  cases hn⟩
theorem noPart_ {σ : L2.St} {H : Hp} {F : Option Int → Hp → Prop} (h : F none H) : tNoPart σ H F := h
section
variable {P : Program} {w : World} {K : PySem.W.Frag} {mg : Str → Option Value} {base : Heap} {fA : Nat → Addr} {fdA : Nat → FuncData} {T : List (Addr × Str)} {H H' : Hp} {CT : Addr} {gA : Nat → Addr} {gdA : Nat → FuncData}
theorem TabAt.fr {v : V} {rows : List (List Nat)} (e : Fr T Nl H H') (h : TabAt CT H v rows) : TabAt CT H' v rows := by
  obtain ⟨p, dx, rv, rfl, h1, h2⟩ := h
  exact ⟨p, dx, rv, rfl, e.ins h1, h2.fr (fun _ => rfl) e⟩
theorem bT0 (Z : Tx K mg CT gA gdA) : Binds K (gdA 0) ["self", "rows"] [] := (Z.d 0 _ _ rfl).bindsN fun _ _ _ _ _ _ us hl => match us, hl with | [_, _], _ => rfl
theorem bT1 (Z : Tx K mg CT gA gdA) : Binds K (gdA 1) ["self"] [] := (Z.d 1 _ _ rfl).bindsN fun _ _ _ _ _ _ us hl => match us, hl with | [_], _ => rfl
theorem bT4 (Z : Tx K mg CT gA gdA) : Binds K (gdA 4) ["self", "word"] [] := (Z.d 4 _ _ rfl).bindsN fun _ _ _ _ _ _ us hl => match us, hl with | [_, _], _ => rfl
theorem bT5 (Z : Tx K mg CT gA gdA) : Binds K (gdA 5) ["self"] [] := (Z.d 5 _ _ rfl).bindsN fun _ _ _ _ _ _ us hl => match us, hl with | [_], _ => rfl
theorem bT6 (Z : Tx K mg CT gA gdA) : Binds K (gdA 6) ["self", "rule"] [] := (Z.d 6 _ _ rfl).bindsN fun _ _ _ _ _ _ us hl => match us, hl with | [_, _], _ => rfl
theorem bT7 (Z : Tx K mg CT gA gdA) : Binds K (gdA 7) ["self", "kind"] [] := (Z.d 7 _ _ rfl).bindsN fun _ _ _ _ _ _ us hl => match us, hl with | [_, _], _ => rfl
/-! __init__ -/
abbrev N210 : List Str := ["self", "rows", "row"]
abbrev P210 : List Str := ["self", "rows"]

theorem sc210 : FnScope N210 P210 (defScope (mS 0)) := ⟨rfl, rfl, rfl, by decide +kernel, rfl, by decide +kernel, by decide +kernel⟩
def spTInit (T : List (Addr × Str)) (CT : Addr) : Sp := fun vs H Q _ => ∃ (p dx : Addr) (v : V) (rows : List (List Nat)), vs = [.ref p, v] ∧ H p = some (.ins CT dx []) ∧ Lof lN H v rows ∧ Wf rows ∧ rows.length ≤ 50 ∧ ∀ H', Fr T (On p) H H' → TabAt CT H' (.ref p) rows → Q .non H'
theorem ok_tinit (Y : Fx K mg fA fdA) (Z : Tx K mg CT gA gdA) : FnOk P w K mg base CX0 2 (gA 0) (gdA 0) P210 (spTInit T CT) := by
  refine (Z.d 0 _ _ rfl).ok sc210 (fun vs H Q E h => by obtain ⟨_, _, _, _, rfl, _⟩ := h; rfl) (fun cdv A outer s H vs Q E hr h => ?_)
  refine ⟨_, PSs.nox (pss_cons (ps_expr (pe_call (ok_check_rows (T := T) Y) (hr.mono (by decide)) rfl (Y.d 19 _ rfl).1 (Y.d 19 _ rfl).2.kp (b19 Y) .nil pass0 (pa_cons (pv 1) pa_nil)))
    (pss_one (ps_fld (pv 0) (pe_lc (own := [("row", 2)]) (g := gName 2) (tt := tYes) rfl sc210.nd (pi_list (pv 1)) (blkOk_by (own := [("row", 2)]) (N := N210) (sc := (defScope (mS 0))) (by decide +kernel)) (fun _ _ _ _ _ => (pg_name (i := 2) sc210.nd rfl (by first | exact .inl rfl | exact .inr rfl))) (fun _ _ _ _ _ => pts_nil) (fun _ _ _ _ _ => (pe_callTy (r := rListK K) call_list_of (by rfl) Y.list (by decide +kernel) (pa_cons (pv 2) pa_nil)))) rfl))), ?_⟩
  obtain ⟨p, dx, v, rows, rfl, hp, hv, W, hn, hQ⟩ := h
  refine ⟨_, rfl, v, rows, rfl, hv, W, hn, ?_⟩
  obtain ⟨ra, rvs, rfl, hra, hre⟩ := hv
  refine ⟨_, rfl, ra, rfl, ⟨_, SqL.of hra⟩, fun D nD => lc_list (K := K) (xs := rvs) (fun i H' => ∃ ws, H' D = some (.lst ws) ∧ Each lN H' ws (rows.take i) ∧ Fr T Nl H H') ⟨[], upd_same, Each.nil, Fr.refl.new nD⟩ (fun i H' _ ⟨_, _, _, e⟩ => SqL.of (e.lst hra)) ?_ ?_⟩
  · rintro i x H1 hx ⟨ws, hD, he, e⟩
    obtain ⟨b, r, rfl, hr, hb⟩ := hre.at_ hx
    have hi : i < rows.length := (List.getElem?_eq_some_iff.mp hr).1
    refine ⟨rfl, _, rfl, b, _, rfl, .inl (SqL.of (e.lst hb)), fun l nl => ?_⟩
    have hDl : D ≠ l := ne_of_none hD nl
    have hD2 : upd H1 l (.lst (nv r)) D = some (.lst ws) := by rw [upd_ne hDl]; exact hD
    refine ⟨ws, hD2, ?_, ws ++ [.ref l], upd_same, ?_, (e.new nl).put nD hD2 rfl⟩
    · rw [he.1, List.length_take]
      have := size_big
      omega
    · rw [List.take_add_one, hr]
      refine Each.snoc (((he.fr (fun _ => rfl) (Fr.refl.new (T := T) nl)).putL hD2 fun x hx q => ?_)) ?_
      · have := (W.each x (List.mem_of_mem_take hx)).1
        rw [q] at this
        have := W.pos
        simp at *
        omega
      · rw [upd_ne hDl.symm, upd_same]
  · rintro H1 ⟨ws, hD, he, e⟩
    rw [hre.1, List.take_length] at he
    have hp1 := e.ins hp
    refine ⟨_, rfl, p, CT, dx, [], rfl, hp1, Z.cl, Z.nR, by show 0 < 1000; decide, hQ _ ((Fr.of e).putS rfl hp1 rfl) ⟨p, dx, .ref D, rfl, upd_same, D, ws, rfl, ?_, he.put hp1 fun x z => by cases z⟩⟩
    rw [upd_ne (fun z => by rw [z, hp1] at hD; cases hD)]
    exact hD
/-! size -/
abbrev N211 : List Str := ["self"]
abbrev P211 : List Str := ["self"]

theorem sc211 : FnScope N211 P211 (defScope (mS 1)) := ⟨rfl, rfl, rfl, by decide +kernel, rfl, by decide +kernel, by decide +kernel⟩
def spTSize (T : List (Addr × Str)) (CT : Addr) : Sp := fun vs H Q _ => ∃ (v : V) (rows : List (List Nat)), vs = [v] ∧ TabAt CT H v rows ∧ Q (.int (rows.length : Nat)) H
theorem ok_tsize (Y : Fx K mg fA fdA) (Z : Tx K mg CT gA gdA) : FnOk P w K mg base CX0 1 (gA 1) (gdA 1) P211 (spTSize T CT) := by
  refine (Z.d 1 _ _ rfl).ok sc211 (fun vs H Q E h => by obtain ⟨_, _, rfl, _⟩ := h; rfl) (fun cdv A outer s H vs Q E hr h => ?_)
  refine ⟨_, PSs.nox (pss_one (ps_ret (pe_callB call_len_seq (by rfl) Y.len boot_len (pa_cons (pe_fld (pv 0) rfl) pa_nil)))), ?_⟩
  obtain ⟨v, rows, rfl, ⟨p, dx, rv, rfl, hp, a, vs, rfl, ha, he⟩, hQ⟩ := h
  refine ⟨_, rfl, p, CT, dx, _, _, rfl, hp, Z.cl, Z.nR, flR, a, _, rfl, .inl (SqL.of ha), ?_⟩
  rw [← he.1] at hQ
  exact hQ
/-! fold -/
abbrev N2140 : List Str := ["self", "word", "merged", "element"]
abbrev P2140 : List Str := ["self", "word"]

theorem sc2140 : FnScope N2140 P2140 (defScope (mS 4)) := ⟨rfl, rfl, rfl, by decide +kernel, rfl, by decide +kernel, by decide +kernel⟩
theorem sc2141 : FnScope N2140 P2140 (defScope (mS 4)) := sc2140
def spTFold (T : List (Addr × Str)) (CT : Addr) : Sp := fun vs H Q _ => ∃ (v : V) (a : Addr) (rows : List (List Nat)) (ws : List Nat), vs = [v, .ref a] ∧ TabAt CT H v rows ∧ (H a = some (lN ws) ∨ H a = some (tN ws)) ∧ Wf rows ∧ ws ≠ [] ∧ (∀ x ∈ ws, x < rows.length) ∧ ∀ H', Fr T Nl H H' → Q (.int (foldm (mr rows) ws : Nat)) H'
theorem ok_tfold (Y : Fx K mg fA fdA) (Z : Tx K mg CT gA gdA) : FnOk P w K mg base CX0 1 (gA 4) (gdA 4) P2140 (spTFold T CT) := by
  refine (Z.d 4 _ _ rfl).ok sc2140 (fun vs H Q E h => by obtain ⟨_, _, _, _, rfl, _⟩ := h; rfl) (fun cdv A outer s H vs Q E hr h => ?_)
  obtain ⟨v, a, rows, ws, rfl, hv, ha, W, hne, hlt, hQ⟩ := h
  obtain ⟨x, r, rfl⟩ := List.exists_cons_of_ne_nil hne
  have hx : x < rows.length := hlt x List.mem_cons_self
  have hr' : ∀ y ∈ r, y < rows.length := fun y hy => hlt y (List.mem_cons_of_mem _ hy)
  have ec : cutV (nv (x :: r)) (some 1) none = nv r := cut_from (nv (x :: r)) 1
  have hl0 : ¬ V.int ((nv (x :: r)).length : Nat) = V.int 0 := fun z => by
    have z := V.int.inj z
    rw [List.length_map, List.length_cons] at z
    omega
  rcases ha with ha | ha
  · refine ⟨_, PSs.nox (pss_cons (ps_if (pt_cmpR op_eq (pe_callB call_len_seq (by rfl) Y.len boot_len (pa_cons (pv 1) pa_nil)) pe_int (nomark _)) (pss_one (ps_never)) pss_nil)
    (pss_cons (ps_set (i := 2) sc2140.nd rfl (by first | exact .inl rfl | exact .inr rfl) (pe_ix ix_list (pv 1) pe_int (fun _ _ => rfl)))
    (pss_cons (ps_for PassesOwn.never rfl (pi_list (pe_slice sl_list (pv 1) (po_some pe_int) po_none)) (pg_name (i := 3) sc2140.nd rfl (by first | exact .inl rfl | exact .inr rfl)) (pss_one (ps_set (i := 2) sc2140.nd rfl (by first | exact .inl rfl | exact .inr rfl) (pe_ix ix_list (pe_ix ix_list (pe_fld (pv 0) rfl) (pv 2) (fun _ _ => rfl)) (pv 3) (fun _ _ => rfl)))))
    (pss_one (ps_ret (pv 2)))))), ?_⟩
    refine ⟨_, rfl, a, _, rfl, .inl (SqL.of ha), rfl, _, rfl, dI (fun e => hl0 e) fun _ => ?_⟩
    refine ⟨_, rfl, a, _, _, _, rfl, rfl, SqL.of ha, atI_nv (l := x :: r) (i := 0) (Nat.succ_pos _), _, rfl, 1, rfl, a, _, rfl, SqL.of ha, fun p np => ?_⟩
    rw [ec]
    refine ⟨p, rfl, ⟨_, SqL.of upd_same⟩, for_list (xs := nv r) (fun i σ H' => ∃ u, σ = [some v, some (.ref a), some (.int ((r.take i).foldl (mr rows) x : Nat)), u] ∧ H' p = some (lN r) ∧ Fr T Nl H H') ⟨_, rfl, upd_same, Fr.refl.new np⟩ (fun i σ H' _ ⟨_, _, h, _⟩ => SqL.of h) ?_ ?_⟩
    · rintro i y σ H1 hy ⟨u, rfl, h1, e⟩
      have hi : i < r.length := by have := (List.getElem?_eq_some_iff.mp hy).1; simpa using this
      rw [at_nv hi] at hy
      cases hy
      have hyr : r.getD i 0 < rows.length := hr' _ (getD_mem hi)
      have hm : (r.take i).foldl (mr rows) x < rows.length := foldl_lt W.closed hx fun z hz => hr' z (List.mem_of_mem_take hz)
      obtain ⟨tp, dx, rv, rfl, htp, hrv⟩ := hv.fr e
      refine ⟨_, rfl, tp, CT, dx, _, _, rfl, htp, Z.cl, Z.nR, flR, _, rfl, ix_row hrv hm fun c r hr hc => ⟨_, rfl, ix_cellW W hr hc hyr ?_⟩⟩
      rw [← foldl_take_succ (mr rows) hi]
      exact ⟨_, rfl, h1, e⟩
    · rintro σ H1 ⟨u, rfl, h1, e⟩
      have z := hQ _ e
      rw [List.length_map, List.take_length]
      exact ⟨_, rfl, z⟩
  · refine ⟨_, PSs.nox (pss_cons (ps_if (pt_cmpR op_eq (pe_callB call_len_seq (by rfl) Y.len boot_len (pa_cons (pv 1) pa_nil)) pe_int (nomark _)) (pss_one (ps_never)) pss_nil)
    (pss_cons (ps_set (i := 2) sc2141.nd rfl (by first | exact .inl rfl | exact .inr rfl) (pe_ix ix_tup (pv 1) pe_int (fun _ _ => rfl)))
    (pss_cons (ps_for PassesOwn.never rfl (pi_tup (pe_slice sl_tupA (pv 1) (po_some pe_int) po_none)) (pg_name (i := 3) sc2141.nd rfl (by first | exact .inl rfl | exact .inr rfl)) (pss_one (ps_set (i := 2) sc2141.nd rfl (by first | exact .inl rfl | exact .inr rfl) (pe_ix ix_list (pe_ix ix_list (pe_fld (pv 0) rfl) (pv 2) (fun _ _ => rfl)) (pv 3) (fun _ _ => rfl)))))
    (pss_one (ps_ret (pv 2)))))), ?_⟩
    refine ⟨_, rfl, a, _, rfl, .inr (SqT.of ha), rfl, _, rfl, dI (fun e => hl0 e) fun _ => ?_⟩
    refine ⟨_, rfl, a, _, _, _, rfl, rfl, SqT.of ha, atI_nv (l := x :: r) (i := 0) (Nat.succ_pos _), _, rfl, 1, rfl, ?_⟩
    refine noPart_ (slT (T := T) ha fun H0 p e0 hp => ?_)
    rw [ec] at hp
    refine ⟨p, rfl, ⟨_, SqT.of hp⟩, for_tup (xs := nv r) (fun i σ H' => ∃ u, σ = [some v, some (.ref a), some (.int ((r.take i).foldl (mr rows) x : Nat)), u] ∧ H' p = some (tN r) ∧ Fr T Nl H H') ⟨_, rfl, hp, e0⟩ (fun i σ H' _ ⟨_, _, h, _⟩ => SqT.of h) ?_ ?_⟩
    · rintro i y σ H1 hy ⟨u, rfl, h1, e⟩
      have hi : i < r.length := by have := (List.getElem?_eq_some_iff.mp hy).1; simpa using this
      rw [at_nv hi] at hy
      cases hy
      have hyr : r.getD i 0 < rows.length := hr' _ (getD_mem hi)
      have hm : (r.take i).foldl (mr rows) x < rows.length := foldl_lt W.closed hx fun z hz => hr' z (List.mem_of_mem_take hz)
      obtain ⟨tp, dx, rv, rfl, htp, hrv⟩ := hv.fr e
      refine ⟨_, rfl, tp, CT, dx, _, _, rfl, htp, Z.cl, Z.nR, flR, _, rfl, ix_row hrv hm fun c r hr hc => ⟨_, rfl, ix_cellW W hr hc hyr ?_⟩⟩
      rw [← foldl_take_succ (mr rows) hi]
      exact ⟨_, rfl, h1, e⟩
    · rintro σ H1 ⟨u, rfl, h1, e⟩
      have z := hQ _ e
      rw [List.length_map, List.take_length]
      exact ⟨_, rfl, z⟩
end
end K4
namespace K4
open PySem PySem.Spec PyProof.Rows L2 LamX
section
variable {P : Program} {w : World} {K : PySem.W.Frag} {mg : Str → Option Value} {base : Heap} {fA : Nat → Addr} {fdA : Nat → FuncData} {T : List (Addr × Str)} {H H' : Hp} {CT : Addr} {gA : Nat → Addr} {gdA : Nat → FuncData}
abbrev N215 : List Str := ["self", "three", "one", "two", "end"]
abbrev P215 : List Str := ["self"]

theorem sc215 : FnScope N215 P215 (defScope (mS 5)) := ⟨rfl, rfl, rfl, by decide +kernel, rfl, by decide +kernel, by decide +kernel⟩
def spTUn (T : List (Addr × Str)) (CT : Addr) : Sp := fun vs H Q _ => ∃ (v : V) (rows : List (List Nat)), vs = [v] ∧ TabAt CT H v rows ∧ Wf rows ∧ rows.length ≤ 50 ∧ Assoc (mr rows) rows.length ∧ ∀ H', Fr T Nl H H' → Q .non H'
theorem pow_small {n c : Nat} (hn : n ≤ 50) (hc : c ≤ 4) : n ^ c ≤ 10000000 := Nat.le_trans (Nat.pow_le_pow_left hn _) (Nat.le_trans (Nat.pow_le_pow_right (by decide) hc) (by decide))
theorem ok_tungrouped (Y : Fx K mg fA fdA) (Z : Tx K mg CT gA gdA) : FnOk P w K mg base CX0 3 (gA 5) (gdA 5) P215 (spTUn T CT) := by
  obtain ⟨pp, hpp⟩ := Z.p
  refine (Z.d 5 _ _ rfl).ok sc215 (fun vs H Q E h => by obtain ⟨_, _, rfl, _⟩ := h; rfl) (fun cdv A outer s H vs Q E hr h => ?_)
  refine ⟨_, PSs.nox (pss_cons (ps_for PassesOwn.never rfl (pi_list (pe_call (ok_tuples_of (T := T) Y) (hr.mono (by decide)) rfl (Y.d 20 _ rfl).1 (Y.d 20 _ rfl).2.kp (b20 Y) .nil pass0 (pa_cons (pe_prop (pv 0) Z.cl hpp (ok_tsize (T := T) Y Z) (hr.mono (by decide)) (bT1 Z) .nil pass0 rfl) (pa_cons pe_int pa_nil)))) (pg_name (i := 1) sc215.nd rfl (by first | exact .inl rfl | exact .inr rfl)) (pss_cons (ps_asg (pv 1) (pg_tup rfl (pgs_cons (pg_name (i := 2) sc215.nd rfl (by first | exact .inl rfl | exact .inr rfl)) (pgs_cons (pg_name (i := 3) sc215.nd rfl (by first | exact .inl rfl | exact .inr rfl)) (pgs_cons (pg_name (i := 4) sc215.nd rfl (by first | exact .inl rfl | exact .inr rfl)) pgs_nil)))))
    (pss_one (ps_if (pt_cmpR op_ne (pe_meth (pv 0) Z.cl (Z.m 4 _ _ rfl (by decide)) (ok_tfold (T := T) Y Z) (hr.mono (by decide)) (bT4 Z) .nil pass0 (pa_cons (pv 1) pa_nil)) (pe_ix ix_list (pe_ix ix_list (pe_fld (pv 0) rfl) (pv 2) (fun _ _ => rfl)) (pe_ix ix_list (pe_ix ix_list (pe_fld (pv 0) rfl) (pv 3) (fun _ _ => rfl)) (pv 4) (fun _ _ => rfl)) (fun _ _ => rfl)) (nomark _)) (pss_one (ps_ret (pv 1))) pss_nil))))
    (pss_one (ps_ret pe_non))), ?_⟩
  obtain ⟨v, rows, rfl, hv, W, hn, hA, hQ⟩ := h
  have C := W.closed
  obtain ⟨tp, dx, rv, rfl, htp, hrv⟩ := id hv
  refine ⟨_, rfl, tp, dx, _, rfl, htp, _, rows, rfl, hv, rows.length, 3, rfl, by decide, pow_small hn (by decide), by omega, fun H1 cv e1 hcv => ?_⟩
  obtain ⟨ca, cvs, rfl, hca, hce⟩ := hcv
  refine ⟨ca, rfl, ⟨_, SqL.of hca⟩, for_list (xs := cvs) (fun i σ H' => ∃ (u1 u2 u3 u4 : Option V), σ = [some (.ref tp), u1, u2, u3, u4] ∧ Fr T Nl H1 H') ⟨_, _, _, _, rfl, Fr.refl⟩ (fun i σ H' _ ⟨_, _, _, _, _, e⟩ => SqL.of (e.lst hca)) ?_ ?_⟩
  · rintro i x σ H2 hx ⟨u1, u2, u3, u4, rfl, e⟩
    obtain ⟨q, ch, rfl, hch, hq⟩ := hce.at_ hx
    replace hq := e.tup hq
    obtain ⟨hcl, hcn⟩ := mem_choices.mp (List.mem_of_getElem? hch)
    have hex : ∃ a b d, ch = [a, b, d] := by
      match ch, hcl with
      | [a, b, d], _ => exact ⟨a, b, d, rfl⟩
    obtain ⟨a, b, d, rfl⟩ := hex
    have ha : a < rows.length := hcn a (by simp)
    have hb : b < rows.length := hcn b (by simp)
    have hd : d < rows.length := hcn d (by simp)
    have hv2 := hv.fr (e1.trans e)
    refine ⟨_, rfl, q, _, rfl, SqT.of hq, rfl, _, _, rfl, _, _, rfl, _, _, rfl, rfl, ?_⟩
    refine ⟨_, rfl, tp, dx, _, rfl, (e1.trans e).ins htp, flN (by decide +kernel), _, rfl, .ref tp, q, rows, [a, b, d], rfl, hv2, .inr hq, W, by simp, hcn, fun H3 e3 => ?_⟩
    have hv3 := hv2.fr e3
    have hrv3 := hrv.fr (fun _ => rfl) ((e1.trans e).trans e3)
    have htp3 := ((e1.trans e).trans e3).ins htp
    refine ⟨_, rfl, tp, CT, dx, _, _, rfl, htp3, Z.cl, Z.nR, flR, _, rfl, ix_row hrv3 ha fun c1 r1 hr1 hc1 => ?_⟩
    refine ⟨_, rfl, tp, CT, dx, _, _, rfl, htp3, Z.cl, Z.nR, flR, _, rfl, ix_row hrv3 hb fun c2 r2 hr2 hc2 => ⟨_, rfl, ix_cellW W hr2 hc2 hd (ix_cellW W hr1 hc1 (C.lt b d hb hd) ⟨rfl, _, rfl, nI (fun hbad => ?_) fun _ => ?_⟩)⟩⟩
    · refine absurd ?_ hbad
      show V.int ((mr rows (mr rows a b) d : Nat) : Int) = _
      rw [hA a b d ha hb hd]
    · exact ⟨_, _, _, _, rfl, e.trans e3⟩
  · rintro σ H2 ⟨u1, u2, u3, u4, rfl, e⟩
    exact hQ _ (e1.trans e)
abbrev N216 : List Str := ["self", "rule", "left", "right", "chosen", "one", "letter", "other"]
abbrev P216 : List Str := ["self", "rule"]

theorem sc216 : FnScope N216 P216 (defScope (mS 6)) := ⟨rfl, rfl, rfl, by decide +kernel, rfl, by decide +kernel, by decide +kernel⟩
def spTBr (T : List (Addr × Str)) (CT : Addr) : Sp := fun vs H Q _ => ∃ (c : Kd) (r : Rul) (v : V) (rows : List (List Nat)), vs = [v, .str (rt r)] ∧ r ∈ rl c ∧ TabAt CT H v rows ∧ Wf rows ∧ rows.length ≤ 50 ∧ Keeps (mr rows) rows.length r ∧ ∀ H', Fr T Nl H H' → Q .non H'
theorem rule_max {c : Kd} {r : Rul} (h : r ∈ rl c) : ∃ n ns, (r.1.map (· + 1) ++ r.2.map (· + 1)).map (fun (d : Nat) => (d : Int)) = n :: ns ∧ PySem.W.maxOf n ns = ((many r : Nat) : Int) := by
  have key : ∀ q ∈ [(([0, 1], [1, 0]) : Rul), ([0, 0], [0]), ([0, 1], [0]), ([0, 1], [1]), ([0, 1, 2], [0, 2]), ([0, 1, 0], [0, 1]), ([0, 1, 0], [1, 0])], (match (q.1.map (· + 1) ++ q.2.map (· + 1)).map (fun (d : Nat) => (d : Int)) with
    | n :: ns => decide (PySem.W.maxOf n ns = ((many q : Nat) : Int))
    | [] => false) = true := by decide +kernel
  have hk := key r (by cases c <;> simp only [rl, List.mem_cons, List.not_mem_nil, or_false] at h ⊢ <;> first | exact h.elim | (rcases h with rfl | rfl <;> simp) | (subst h; simp))
  cases e : (r.1.map (· + 1) ++ r.2.map (· + 1)).map (fun (d : Nat) => (d : Int)) with
  | nil => rw [e] at hk; cases hk
  | cons n ns =>
    rw [e] at hk
    exact ⟨n, ns, rfl, of_decide_eq_true hk⟩
theorem ok_tbreaking (Y : Fx K mg fA fdA) (Z : Tx K mg CT gA gdA) : FnOk P w K mg base CX0 3 (gA 6) (gdA 6) P216 (spTBr T CT) := by
  obtain ⟨pp, hpp⟩ := Z.p
  refine (Z.d 6 _ _ rfl).ok sc216 (fun vs H Q E h => by obtain ⟨_, _, _, _, rfl, _⟩ := h; rfl) (fun cdv A outer s H vs Q E hr h => ?_)
  refine ⟨_, PSs.nox (pss_cons (ps_asg (pe_call (ok_rule_words (T := T) Y) (hr.mono (by decide)) rfl (Y.d 17 _ rfl).1 (Y.d 17 _ rfl).2.kp (b17 Y) .nil pass0 (pa_cons (pv 1) pa_nil)) (pg_tup rfl (pgs_cons (pg_name (i := 2) sc216.nd rfl (by first | exact .inl rfl | exact .inr rfl)) (pgs_cons (pg_name (i := 3) sc216.nd rfl (by first | exact .inl rfl | exact .inr rfl)) pgs_nil))))
    (pss_cons (ps_for PassesOwn.never rfl (pi_list (pe_call (ok_tuples_of (T := T) Y) (hr.mono (by decide)) rfl (Y.d 20 _ rfl).1 (Y.d 20 _ rfl).2.kp (b20 Y) .nil pass0 (pa_cons (pe_prop (pv 0) Z.cl hpp (ok_tsize (T := T) Y Z) (hr.mono (by decide)) (bT1 Z) .nil pass0 rfl) (pa_cons (pe_callB (cr_maxTup rfl hr.units) (by rfl) Y.max (by decide +kernel) (pa_cons (pe_op op_catA (pv 2) (pv 3)) pa_nil)) pa_nil)))) (pg_name (i := 4) sc216.nd rfl (by first | exact .inl rfl | exact .inr rfl)) (pss_cons (ps_setLc (own := [("letter", 6)]) (g := gName 6) (tt := tYes) (i := 5) rfl sc216.nd rfl rfl (sw_true rfl rfl rfl (by decide +kernel)) (pi_tup (pv 2)) (blkOk_by (own := [("letter", 6)]) (N := N216) (sc := (defScope (mS 6))) (by decide +kernel)) (fun _ _ _ _ _ => (pg_name (i := 6) sc216.nd rfl (by first | exact .inl rfl | exact .inr rfl))) (fun _ _ _ _ _ => pts_nil) (fun _ _ _ _ _ => (pe_ix (r := rIxT K) ix_tup (pv 4) (pe_op op_sub (pv 6) pe_int) (fun _ _ => rfl))))
    (pss_cons (ps_setLc (own := [("letter", 6)]) (g := gName 6) (tt := tYes) (i := 7) rfl sc216.nd rfl rfl (sw_true rfl rfl rfl (by decide +kernel)) (pi_tup (pv 3)) (blkOk_by (own := [("letter", 6)]) (N := N216) (sc := (defScope (mS 6))) (by decide +kernel)) (fun _ _ _ _ _ => (pg_name (i := 6) sc216.nd rfl (by first | exact .inl rfl | exact .inr rfl))) (fun _ _ _ _ _ => pts_nil) (fun _ _ _ _ _ => (pe_ix (r := rIxT K) ix_tup (pv 4) (pe_op op_sub (pv 6) pe_int) (fun _ _ => rfl))))
    (pss_one (ps_if (pt_cmpR op_ne (pe_meth (pv 0) Z.cl (Z.m 4 _ _ rfl (by decide)) (ok_tfold (T := T) Y Z) (hr.mono (by decide)) (bT4 Z) .nil pass0 (pa_cons (pv 5) pa_nil)) (pe_meth (pv 0) Z.cl (Z.m 4 _ _ rfl (by decide)) (ok_tfold (T := T) Y Z) (hr.mono (by decide)) (bT4 Z) .nil pass0 (pa_cons (pv 7) pa_nil)) (nomark _)) (pss_one (ps_ret (pv 4))) pss_nil)))))
    (pss_one (ps_ret pe_non)))), ?_⟩
  obtain ⟨c, r, v, rows, rfl, hrl, hv, W, hn, hK, hQ⟩ := h
  obtain ⟨hsp, hlen, hl1, hl2, hd1, hd2, hm⟩ := rule_split hrl
  obtain ⟨hne1, hne2, hlt1, hlt2⟩ := rl_ne hrl
  obtain ⟨tp, dx, rv, rfl, htp, hrv⟩ := id hv
  refine ⟨_, rfl, c, r, rfl, hrl, fun H1 p a b e1 hp ha hb => ?_⟩
  refine ⟨p, _, rfl, SqT.of hp, rfl, _, _, rfl, _, _, rfl, rfl, ?_⟩
  refine ⟨_, rfl, tp, dx, _, rfl, e1.ins htp, _, rows, rfl, hv.fr e1, _, rfl, _, rfl, catT (T := T) ha hb (by rw [List.length_map, List.length_map, List.length_map, List.length_map]; omega) fun H2 q e2 hq => ?_⟩
  obtain ⟨n, ns, en, emx⟩ := rule_max hrl
  have hq' : H2 q = some (.tup ((n :: ns).map V.int)) := by
    rw [hq, ← nv_append, nv_iv, en]
  refine ⟨q, n, ns, rfl, SqT.of hq', ?_⟩
  have e02 := e1.trans e2
  refine ⟨rows.length, many r, by show [V.int _, V.int _] = _; rw [emx], by omega, pow_small hn (by omega), by omega, fun H3 cv e3 hcv => ?_⟩
  obtain ⟨ca, cvs, rfl, hca, hce⟩ := hcv
  have e03 := e02.trans e3
  have ha3 := (e2.trans e3).tup ha
  have hb3 := (e2.trans e3).tup hb
  refine ⟨ca, rfl, ⟨_, SqL.of hca⟩, for_list (xs := cvs) (fun i σ H' => ∃ (u4 u5 u6 u7 : Option V), σ = [some (.ref tp), some (.str (rt r)), some (.ref a), some (.ref b), u4, u5, u6, u7] ∧ Fr T Nl H3 H') ⟨_, _, _, _, rfl, Fr.refl⟩ (fun i σ H' _ ⟨_, _, _, _, _, e⟩ => SqL.of (e.lst hca)) ?_ ?_⟩
  · rintro i x σ H4 hx ⟨u4, u5, u6, u7, rfl, e⟩
    obtain ⟨q, ch, rfl, hch, hq⟩ := hce.at_ hx
    obtain ⟨hcl, hcn⟩ := mem_choices.mp (List.mem_of_getElem? hch)
    have hq4 := e.tup hq
    have ha4 := e.tup ha3
    have hb4 := e.tup hb3
    refine ⟨_, rfl, a, rfl, ⟨_, SqT.of ((Fr.refl (T := T) (S := Nl) (H := H4)).tup ha4)⟩, fun L1 nL1 => lc_tup (K := K) (xs := nv (r.1.map (· + 1))) (fun i H' => H' L1 = some (lN ((r.1.map fun d => ch.getD d 0).take i)) ∧ Fr T Nl H4 H') ⟨by rw [upd_same] <;> rfl, Fr.refl.new nL1⟩ (fun i H' _ ⟨_, ez⟩ => SqT.of (((Fr.refl (T := T) (S := Nl) (H := H4)).trans ez).tup ha4)) ?_ ?_⟩
    · rintro k y Ha hy ⟨hL, ea⟩
      have hk' : k < (r.1.map (· + 1)).length := by have := (List.getElem?_eq_some_iff.mp hy).1; simpa using this
      have hk : k < r.1.length := by rw [List.length_map] at hk'; exact hk'
      rw [at_nv hk'] at hy
      cases hy
      have hd : r.1.getD k 0 < ch.length := by rw [hcl]; exact hlt1 _ (getD_mem hk)
      have ed : (((r.1.map (· + 1)).getD k 0 : Nat) : Int) - 1 = ((r.1.getD k 0 : Nat) : Int) := by
        rw [List.getD_eq_getElem?_getD (l := r.1.map _), List.getElem?_map, List.getElem?_eq_getElem hk, List.getD_eq_getElem?_getD (l := r.1), List.getElem?_eq_getElem hk]
        show ((r.1[k] + 1 : Nat) : Int) - 1 = (r.1[k] : Nat)
        omega
      refine ⟨rfl, _, rfl, _, rfl, _, _, rfl, rfl, q, _, _, .int (ch.getD (r.1.getD k 0) 0 : Nat), rfl, rfl, SqT.of (((Fr.refl (T := T) (S := Nl) (H := H4)).trans ea).tup hq4), by rw [ed]; exact atI_nv hd, _, hL, take_len9 (by rw [List.length_map]; omega), ?_, ea.put nL1 hL rfl⟩
      rw [upd_same, nv_snoc (by rw [List.length_map]; exact hk)]
      rw [List.getD_eq_getElem?_getD (l := r.1.map _), List.getElem?_map, List.getElem?_eq_getElem hk, List.getD_eq_getElem?_getD (l := r.1), List.getElem?_eq_getElem hk] <;> rfl
    rintro H5 ⟨hL1, e5⟩
    have cL1 : H5 L1 = some (lN (r.1.map fun d => ch.getD d 0)) := by
      rw [hL1, List.length_map, List.length_map, List.take_of_length_le (by rw [List.length_map]; exact Nat.le_refl _)]
    have wL1 : ∀ x ∈ (r.1.map fun d => ch.getD d 0), x < rows.length := fun x hx => by
      obtain ⟨d, hd, rfl⟩ := List.mem_map.mp hx
      exact hcn _ (getD_mem (by rw [hcl]; exact hlt1 d hd))
    refine ⟨_, rfl, b, rfl, ⟨_, SqT.of ((e5).tup hb4)⟩, fun L2 nL2 => lc_tup (K := K) (xs := nv (r.2.map (· + 1))) (fun i H' => H' L2 = some (lN ((r.2.map fun d => ch.getD d 0).take i)) ∧ Fr T Nl H5 H') ⟨by rw [upd_same] <;> rfl, Fr.refl.new nL2⟩ (fun i H' _ ⟨_, ez⟩ => SqT.of (((e5).trans ez).tup hb4)) ?_ ?_⟩
    · rintro k y Ha hy ⟨hL, ea⟩
      have hk' : k < (r.2.map (· + 1)).length := by have := (List.getElem?_eq_some_iff.mp hy).1; simpa using this
      have hk : k < r.2.length := by rw [List.length_map] at hk'; exact hk'
      rw [at_nv hk'] at hy
      cases hy
      have hd : r.2.getD k 0 < ch.length := by rw [hcl]; exact hlt2 _ (getD_mem hk)
      have ed : (((r.2.map (· + 1)).getD k 0 : Nat) : Int) - 1 = ((r.2.getD k 0 : Nat) : Int) := by
        rw [List.getD_eq_getElem?_getD (l := r.2.map _), List.getElem?_map, List.getElem?_eq_getElem hk, List.getD_eq_getElem?_getD (l := r.2), List.getElem?_eq_getElem hk]
        show ((r.2[k] + 1 : Nat) : Int) - 1 = (r.2[k] : Nat)
        omega
      refine ⟨rfl, _, rfl, _, rfl, _, _, rfl, rfl, q, _, _, .int (ch.getD (r.2.getD k 0) 0 : Nat), rfl, rfl, SqT.of (((e5).trans ea).tup hq4), by rw [ed]; exact atI_nv hd, _, hL, take_len9 (by rw [List.length_map]; omega), ?_, ea.put nL2 hL rfl⟩
      rw [upd_same, nv_snoc (by rw [List.length_map]; exact hk)]
      rw [List.getD_eq_getElem?_getD (l := r.2.map _), List.getElem?_map, List.getElem?_eq_getElem hk, List.getD_eq_getElem?_getD (l := r.2), List.getElem?_eq_getElem hk] <;> rfl
    rintro H6 ⟨hL2, e6⟩
    have cL2 : H6 L2 = some (lN (r.2.map fun d => ch.getD d 0)) := by
      rw [hL2, List.length_map, List.length_map, List.take_of_length_le (by rw [List.length_map]; exact Nat.le_refl _)]
    have wL2 : ∀ x ∈ (r.2.map fun d => ch.getD d 0), x < rows.length := fun x hx => by
      obtain ⟨d, hd, rfl⟩ := List.mem_map.mp hx
      exact hcn _ (getD_mem (by rw [hcl]; exact hlt2 d hd))
    have e06 := ((e03.trans e).trans e5).trans e6
    refine ⟨_, rfl, tp, dx, _, rfl, e06.ins htp, flN (by decide +kernel), _, rfl, .ref tp, L1, rows, _, rfl, hv.fr e06, .inl (e6.lst cL1), W, by simp [hne1], wL1, fun H7 e7 => ?_⟩
    have e07 := e06.trans e7
    refine ⟨_, rfl, tp, dx, _, rfl, e07.ins htp, flN (by decide +kernel), _, rfl, .ref tp, L2, rows, _, rfl, hv.fr e07, .inl (e7.lst cL2), W, by simp [hne2], wL2, fun H8 e8 => ?_⟩
    refine ⟨rfl, _, rfl, nI (fun hbad => ?_) fun _ => ?_⟩
    · exact absurd (by rw [hK ch (List.mem_of_getElem? hch)]) hbad
    · exact ⟨_, _, _, _, rfl, (((e.trans e5).trans e6).trans e7).trans e8⟩
  · rintro σ H2 ⟨u4, u5, u6, u7, rfl, e⟩
    exact hQ _ (e03.trans e)
end
end K4
namespace K4
open PySem PySem.Spec PyProof.Rows L2 LamX
theorem QSs.nox {X : Cx} {c : Code} {st : List Stmt} {t : L2.TS} (h : QSs X.nox c st t) : QSs X c st t := ⟨fun pins s σ H D I hw =>
  ks_wpAt_mono (h.run pins s σ H D (I.wish _) hw) (fun f s' q => by
    cases f with
    | next => obtain ⟨σ', H', J, q⟩ := q; exact ⟨σ', H', J.wish _, q⟩
    | brk => obtain ⟨σ', H', J, q⟩ := q; exact ⟨σ', H', J.wish _, q⟩
    | cont => obtain ⟨σ', H', J, q⟩ := q; exact ⟨σ', H', J.wish _, q⟩
    | ret v => obtain ⟨x, σ', H', J, r, q⟩ := q; exact ⟨x, σ', H', J.wish _, r, q⟩) fun _ _ z => z.elim⟩
/-! ### the kinds at the top -/
def ci : Kd → Nat
  | .list => 6 | .bag => 7 | .set => 8 | .heads => 9 | .first => 10 | .tails => 11 | .last => 12 | .ends => 13
def cn : Kd → Str
  | .list => "Kind" | .bag => "BagKind" | .set => "SetKind" | .heads => "HeadsKind" | .first => "FirstKind" | .tails => "TailsKind" | .last => "LastKind" | .ends => "EndsKind"
def qn : Kd → Str
  | .list => "Kind.keep" | .bag => "BagKind.keep" | .set => "SetKind.keep" | .heads => "HeadsKind.keep" | .first => "FirstKind.keep" | .tails => "TailsKind.keep" | .last => "LastKind.keep" | .ends => "EndsKind.keep"
def bs : Kd → Kd
  | .set => .bag | .first => .heads | .last => .tails | _ => .list
def chain : Kd → List Kd
  | .list => [] | .bag => [.bag] | .set => [.set, .bag] | .heads => [.heads] | .first => [.first, .heads] | .tails => [.tails] | .last => [.last, .tails] | .ends => [.ends]
abbrev kS (c : Kd) : Stmt := inClass (topS (ci c)) 6
abbrev plS : Stmt := inClass (topS 6) 7
structure KA where
  cA : Kd → Addr
  kA : Kd → Addr
  kc : Kd → Addr
  kd : Kd → Addr
  plA : Addr
  plD : FuncData
  kD : Kd → FuncData
abbrev TT (Pt : Addr) : List (Addr × Str) := [(Pt, "BagKind.keep.<locals>.<lambda>")]
structure Kx (P : Program) (K : PySem.W.Frag) (mg : Str → Option Value) (base : Heap) (Pt : Addr) (a : KA) : Prop where
  cl : ∀ c, Cls K (a.cA c)
  mk0 : ∀ c, Mk0 K (a.cA c)
  g : ∀ c, mg (cn c) = some (.ref (a.cA c))
  mPl : ∀ c, Meth K (a.cA c) "plain" a.plA
  mKe : ∀ c, Meth K (a.cA c) "keep" (a.kA c)
  dPl : FunD K "plain" "Kind.plain" (defArgs plS) (defBody plS) (defScope plS) [] [] a.plA a.plD
  dK : FunD K "keep" "Kind.keep" (defArgs (kS .list)) (defBody (kS .list)) (defScope (kS .list)) [] [] (a.kA .list) (a.kD .list)
  dS : ∀ c, c ≠ .list → ∃ (oc : Value) (od : Option Addr) (kV doc pm : Value) (an : Option Addr) (ct : Value) (osl : Array (Option Value)), a.kD c = PySem.W.ksFn "keep" (qn c) (defArgs (kS c)) (defBody (kS c)) (defScope (kS c)) .none kV doc pm an (.ref (a.kd c)) ct (a.kc c) ∧ K.lookup (a.kA c) = some ⟨oc, od, .func (a.kD c), osl⟩
  cd : ∀ c, c ≠ .list → PySem.W.codeIn K (.ref (a.kd c)) (qn c) = true
  sat : ∀ c, c ≠ .list → SupAt P K (a.kA c) (a.kd c) (a.kc c) (a.cA c)
  sto : ∀ c d, d ∈ chain c → SupTo K (a.cA c) (a.cA d) "keep" (a.kA (bs d))
  rules : ∀ c, ∃ (ra : Addr) (u : Value), Con K (a.cA c) "RULES" (.ref ra) u ∧ ∀ H, SqT K H ra ((rl c).map fun r => V.str (rt r))
  tab : TabB base mg (a.kd .bag) Pt
section
variable {P : Program} {w : World} {K : PySem.W.Frag} {mg : Str → Option Value} {base : Heap} {fA : Nat → Addr} {fdA : Nat → FuncData} {Pt : Addr} {T : List (Addr × Str)} {H H' : Hp} {a : KA}
theorem bK (Z : Kx P K mg base Pt a) (c : Kd) : Binds K (a.kD c) ["self", "word"] [] := by
  by_cases h : c = .list
  · subst h
    exact Z.dK.bindsN fun _ _ _ _ _ _ us hl => match us, hl with | [_, _], _ => rfl
  · obtain ⟨oc, od, kV, doc, pm, an, ct, osl, e, _⟩ := Z.dS c h
    rw [e]
    refine .all fun us hl => ?_
    cases c <;> first | exact absurd rfl h | (match us, hl with | [_, _], _ => rfl)
def Nw (H : Hp) (l : Addr) : Prop := ∀ o, H l = some o → plainO o = false
theorem Fr.nw' {l : Addr} (e : Fr T Nl H H') (h : Nw H' l) : Nw H l := fun o q => by
  cases z : plainO o with
  | false => rfl
  | true =>
    have := h o (e.ext _ _ q id z)
    rw [z] at this
    cases this
theorem Fr.nw {l : Addr} (e : Fr T Nl H H') (n : H' l = none) : Nw H l := e.nw' fun o q => by rw [n] at q; cases q
theorem Nw.ne {l k : Addr} {o : HO} (h : Nw H l) (q : H k = some o) (p : plainO o = true) : k ≠ l := fun z => by
  rw [z] at q
  rw [h o q] at p
  cases p
theorem nv_reverse (l : List Nat) : nv l.reverse = (nv l).reverse := List.map_reverse
/-- where the kept places of a word stand -/
def Kept (k : Kd) (w : List Int) (is : List Nat) : Prop := (∀ i ∈ is, i < w.length) ∧ is.map (fun i => w.getD i 0) = plain k w
def spKeep (T : List (Addr × Str)) (a : KA) (k : Kd) : Sp := fun vs H Q _ => ∃ (p dx wa : Addr) (c : Kd) (w : List Int), vs = [.ref p, .ref wa] ∧ (c = k ∨ k = .list ∨ k ∈ chain c) ∧ H p = some (.ins (a.cA c) dx []) ∧ H wa = some (tI w) ∧ w.length ≤ 60 ∧ Tabs T H ∧
  ∀ H' l is, Fr T Nl H H' → Nw H l → H' l = some (lN is) → Kept k w is → Q (.ref l) H'
theorem range_kept (w : List Int) : Kept .list w (List.range w.length) := by
  refine ⟨fun i h => List.mem_range.mp h, ?_⟩
  show _ = w
  apply List.ext_getElem
  · simp
  · intro i h1 h2
    simp [List.getD_eq_getElem?_getD, List.getElem?_eq_getElem h2]
theorem scKL : FnScope ["self", "word"] ["self", "word"] (defScope (kS .list)) := ⟨rfl, rfl, rfl, by decide +kernel, rfl, by decide +kernel, by decide +kernel⟩
theorem ok_keepL (Y : Fx K mg fA fdA) (Z : Kx P K mg base Pt a) : FnOk P w K mg base CX0 1 (a.kA .list) (a.kD .list) ["self", "word"] (spKeep T a .list) := by
  refine Z.dK.ok scKL (fun vs H Q E h => by obtain ⟨_, _, _, _, _, rfl, _⟩ := h; rfl) (fun cdv A outer s H vs Q E hr h => ?_)
  refine ⟨_, PSs.nox (pss_one (ps_ret (pe_listRg rfl (by rfl) Y.list (prg_1 (by rfl) Y.range (pe_callB call_len_seq (by rfl) Y.len boot_len (pa_cons (pv 1) pa_nil)))))), ?_⟩
  obtain ⟨p, dx, wa, c, w, rfl, _, hp, hw, hl, ht, hQ⟩ := h
  have lw : (iv w).length = w.length := List.length_map ..
  refine ⟨_, rfl, wa, _, rfl, .inr (SqT.of hw), _, rfl, ?_, fun q nq => hQ _ q (List.range w.length) (Fr.refl.new nq) (Fr.refl (T := T).nw nq) ?_ (range_kept w)⟩
  · exact RgOk.of_le (by omega) (by rw [lw]; omega) (by omega) (by omega)
  · rw [upd_same, lw]
    show some (HO.lst (rgV 0 (w.length : Nat))) = some (HO.lst (nv (List.range w.length)))
    unfold rgV
    congr 2
    show List.map _ (List.range ((w.length : Int) - 0).toNat) = List.map _ (List.range w.length)
    rw [show ((w.length : Int) - 0).toNat = w.length by omega]
    exact List.map_congr_left fun i _ => by rw [show (0 : Int) + (i : Int) = (i : Int) by omega]

/-! ### the methods that close over __class__ -/
theorem keep_of (Z : Kx P K mg base Pt a) {k : Nat} {c : Kd} (hc : c ≠ .list) {N : List Str} {sp : Sp} (S : SScope N ["self", "word"] ["__class__"] (defScope (kS c))) (len : ∀ vs H Q E, sp vs H Q E → vs.length = 2)
    (hbody : ∀ (A : Around) (outer : List Env) (s : Shared) (H : Hp) (vs : List V) (Q : VK) (E : XK), Room k (A.deeper (envS (qn c) (defScope (kS c)) s.heap.objs.size (a.kA c) (.ref (a.kd c)) (clo (a.kc c)))) → sp vs H Q E →
      ∃ t, QSs (scx CX0 P w K mg base N (qn c) (defScope (kS c)) (a.kA c) (.ref (a.kd c)) (clo (a.kc c)) A outer s H E).nox (.func (defBody (kS c)) (envS (qn c) (defScope (kS c)) s.heap.objs.size (a.kA c) (.ref (a.kd c)) (clo (a.kc c)))) (defBody (kS c)) t ∧ t { nx := fun _ H' => Q .non H', rt := Q } (L2.start N vs) H) :
    FnOk P w K mg base CX0 (k + 1) (a.kA c) (a.kD c) ["self", "word"] sp := by
  obtain ⟨oc, od, kV, doc, pm, an, ct, osl, e, lk⟩ := Z.dS c hc
  obtain ⟨occ, odc, oll, lc⟩ := (Z.sat c hc).cell
  rw [e] at lk ⊢
  refine fn_ofS lk (Z.cd c hc) S lc len fun A outer s H vs Q E hr hsp => ?_
  obtain ⟨t, h, q⟩ := hbody A outer s H vs Q E hr hsp
  exact ⟨t, h.nox, q⟩
theorem in_chain {c k : Kd} (hk : k ≠ .list) (h : c = k ∨ k = .list ∨ k ∈ chain c) : k ∈ chain c := by
  rcases h with rfl | h | h
  · cases c <;> first | exact absurd rfl hk | decide
  · exact absurd h hk
  · exact h
theorem up_chain {c k : Kd} (h : k ∈ chain c) : c = bs k ∨ bs k = .list ∨ bs k ∈ chain c := by
  revert h
  cases c <;> cases k <;> decide
abbrev NS : List Str := ["self", "word", "kept", "index"]
theorem scFirst : SScope ["self", "word"] ["self", "word"] ["__class__"] (defScope (kS .first)) := ⟨rfl, rfl, rfl, by decide +kernel, rfl, by decide +kernel, by decide +kernel, by decide +kernel, by decide +kernel⟩
theorem scLast : SScope ["self", "word"] ["self", "word"] ["__class__"] (defScope (kS .last)) := ⟨rfl, rfl, rfl, by decide +kernel, rfl, by decide +kernel, by decide +kernel, by decide +kernel, by decide +kernel⟩
theorem scBag : SScope ["self", "word"] ["self", "word"] ["__class__"] (defScope (kS .bag)) := ⟨rfl, rfl, rfl, by decide +kernel, rfl, by decide +kernel, by decide +kernel, by decide +kernel, by decide +kernel⟩
theorem scEnds : SScope ["self", "word", "whole"] ["self", "word"] ["__class__"] (defScope (kS .ends)) := ⟨rfl, rfl, rfl, by decide +kernel, rfl, by decide +kernel, by decide +kernel, by decide +kernel, by decide +kernel⟩
theorem scSet : SScope ["self", "word", "kept", "index"] ["self", "word"] ["__class__"] (defScope (kS .set)) := ⟨rfl, rfl, rfl, by decide +kernel, rfl, by decide +kernel, by decide +kernel, by decide +kernel, by decide +kernel⟩
theorem scHeads : SScope ["self", "word", "kept", "seen", "index"] ["self", "word"] ["__class__"] (defScope (kS .heads)) := ⟨rfl, rfl, rfl, by decide +kernel, rfl, by decide +kernel, by decide +kernel, by decide +kernel, by decide +kernel⟩
theorem scTails : SScope ["self", "word", "kept", "seen", "index"] ["self", "word"] ["__class__"] (defScope (kS .tails)) := ⟨rfl, rfl, rfl, by decide +kernel, rfl, by decide +kernel, by decide +kernel, by decide +kernel, by decide +kernel⟩
theorem spK_len {T : List (Addr × Str)} {k : Kd} (vs : List V) (H : Hp) (Q : VK) (E : XK) (h : spKeep T a k vs H Q E) : vs.length = 2 := by
  obtain ⟨_, _, _, _, _, rfl, _⟩ := h
  rfl
end
end K4
namespace K4
open PySem PySem.Spec PyProof.Rows L2 LamX
theorem nv_take (l : List Nat) (k : Nat) : nv (l.take k) = (nv l).take k := List.map_take
theorem nv_drop (l : List Nat) (k : Nat) : nv (l.drop k) = (nv l).drop k := List.map_drop
theorem cut_last (xs : List V) : cutV xs (some (-1)) none = xs.drop (xs.length - 1) := by
  unfold cutV
  rw [HT.sIx_none]
  have e : HT.sIx xs.length 0 (some (-1)) = xs.length - 1 := by
    show (if (-1 : Int) < 0 then ((-1 : Int) + (xs.length : Int)).toNat else min (-1 : Int).toNat xs.length) = xs.length - 1
    rw [if_pos (by decide)]
    omega
  rw [e, List.take_of_length_le (by rw [List.length_drop]; omega)]
theorem drop_last (w : List Int) : w.drop (w.length - 1) = lt1 w := by
  by_cases h : w = []
  · subst h; rfl
  · obtain ⟨r, x, rfl⟩ := snoc_of h
    rw [lt1_snoc, List.length_append, List.length_singleton, Nat.add_sub_cancel, List.drop_left]
theorem hd1_dd (v : List Int) : hd1 (dd v) = hd1 v := by
  cases v <;> rfl
theorem lt1_td (w : List Int) : lt1 (td w) = lt1 w := by
  show ((dd w.reverse).reverse).reverse.take 1 = w.reverse.take 1
  rw [List.reverse_reverse]
  exact hd1_dd _
section
variable {P : Program} {w : World} {K : PySem.W.Frag} {mg : Str → Option Value} {base : Heap} {fA : Nat → Addr} {fdA : Nat → FuncData} {Pt : Addr} {H H' : Hp} {a : KA}
/-! ends -/
theorem ok_keepEnds (Y : Fx K mg fA fdA) (Z : Kx P K mg base Pt a) : FnOk P w K mg base CX0 2 (a.kA .ends) (a.kD .ends) ["self", "word"] (spKeep (TT Pt) a .ends) := by
  have hk : Kd.ends ≠ .list := by decide
  refine keep_of Z hk scEnds spK_len fun A outer s H vs Q E hr h => ?_
  obtain ⟨p, dx, wa, c, w, rfl, hc, hp, hw, hl, ht, hQ⟩ := h
  have hch := in_chain hk hc
  have hup := up_chain hch
  refine ⟨_, qss_cons (qs_set (i := 2) scEnds.nd rfl (.inl rfl) (qe_super (hfu := rfl) (hco := rfl) (hcl := rfl) (hS := rfl) (hself := rfl) (hks := rfl) (hkc := rfl) (hms := Y.super) (hat := by decide +kernel) (T := Z.sat .ends hk) (U := Z.sto c .ends hch) (F := ok_keepL (T := TT Pt) Y Z) (hr := hr.mono (by decide)) (hb := bK Z .list) (hx := pass0) (ha := pa_cons (pv 1) pa_nil)))
    (qss_one (QS.of (ps_ret (pe_op op_cat (pe_slice sl_list (pv 2) po_none (po_some pe_int)) (pe_slice sl_list (pv 2) (po_some (pe_un un_neg pe_int)) po_none))))), ?_⟩
  refine ⟨p, dx, [], rfl, hp, _, rfl, p, dx, wa, c, w, rfl, hup, hp, hw, hl, ht, fun H1 l is e1 nwl hl1 hkp => ?_⟩
  have c1 : cutV (nv is) none (some 1) = nv (is.take 1) := by rw [show (some (1 : Int)) = some ((1 : Nat) : Int) from rfl, cut_to, nv_take]
  have c2 : cutV (nv is) (some (-1)) none = nv (is.drop (is.length - 1)) := by rw [cut_last, List.length_map, nv_drop]
  have hli : is.length = w.length := by have := congrArg List.length hkp.2; simpa [plain] using this
  have hv : is.map (fun i => w.getD i 0) = w := hkp.2
  refine ⟨_, rfl, 1, rfl, l, _, rfl, SqL.of hl1, fun q1 n1 => ⟨_, rfl, _, rfl, _, rfl, l, _, rfl, SqL.of (by rw [upd_ne (ne_of_none hl1 n1)]; exact hl1), fun q2 n2 => ?_⟩⟩
  have n12 : q1 ≠ q2 := fun z => by rw [z, upd_same] at n2; cases n2
  refine ⟨q1, q2, _, _, rfl, rfl, by rw [upd_ne n12, upd_same], upd_same, ?_, fun r nr => hQ _ r (is.take 1 ++ is.drop (is.length - 1)) (((e1.new n1).new n2).new nr) (((e1.new n1).new n2).nw nr) ?_ ⟨?_, ?_⟩⟩
  · show (cutV (nv is) none (some 1)).length + (cutV (nv is) (some (-1)) none).length ≤ sizeLine
    rw [c1, c2, List.length_map, List.length_map, List.length_take, List.length_drop]
    have := size_big
    omega
  · rw [upd_same]
    show some (HO.lst (cutV (nv is) none (some 1) ++ cutV (nv is) (some (-1)) none)) = _
    rw [c1, c2, ← nv_append]
  · intro i hi
    rcases List.mem_append.mp hi with hi | hi
    · exact hkp.1 i (List.mem_of_mem_take hi)
    · exact hkp.1 i (List.mem_of_mem_drop hi)
  · rw [List.map_append, List.map_take, List.map_drop, hv, hli, drop_last] <;> rfl
/-! heads -/
theorem ok_keepHeads (Y : Fx K mg fA fdA) (Z : Kx P K mg base Pt a) : FnOk P w K mg base CX0 2 (a.kA .heads) (a.kD .heads) ["self", "word"] (spKeep (TT Pt) a .heads) := by
  have hk : Kd.heads ≠ .list := by decide
  refine keep_of Z hk scHeads spK_len fun A outer s H vs Q E hr h => ?_
  obtain ⟨p, dx, wa, c, w, rfl, hc, hp, hw, hl, ht, hQ⟩ := h
  have hch := in_chain hk hc
  have hup := up_chain hch
  refine ⟨_, qss_cons (QS.of (ps_set (i := 2) scHeads.nd rfl (.inl rfl) (pe_lst pa_nil)))
    (qss_cons (QS.of (ps_set (i := 3) scHeads.nd rfl (.inl rfl) pe_dnewK))
    (qss_cons (qs_forL PassesOwn.never rfl (qe_super (hfu := rfl) (hco := rfl) (hcl := rfl) (hS := rfl) (hself := rfl) (hks := rfl) (hkc := rfl) (hms := Y.super) (hat := by decide +kernel) (T := Z.sat .heads hk) (U := Z.sto c .heads hch) (F := ok_keepL (T := TT Pt) Y Z) (hr := hr.mono (by decide)) (hb := bK Z .list) (hx := pass0) (ha := pa_cons (pv 1) pa_nil)) (pg_name (i := 4) scHeads.nd rfl (.inl rfl))
      (pss_one (ps_if (pt_cmp (pc_dnotin (hu_of hr) (pe_ix ix_tup (pv 1) (pv 4) (fun _ _ => rfl)) (pv 3)))
        (pss_cons (ps_dput (hu_of hr) (pv 3) (pe_ix ix_tup (pv 1) (pv 4) (fun _ _ => rfl)) pe_bl rfl)
        (pss_one (ps_expr (pe_bm PySem.F.plainAttrs_list PySem.F.slot_list_append PySem.F.type_list_append mt_append (pv 2) (pa_cons (pv 4) pa_nil))))) pss_nil)))
    (qss_one (QS.of (ps_ret (pv 2)))))), ?_⟩
  refine ⟨Nat.zero_le _, fun kp nk => fun sn nsn => ?_⟩
  have e0 : Fr (TT Pt) Nl H (upd (upd H kp (.lst [])) sn (.dK [])) := (Fr.refl.new nk).new nsn
  have nks : kp ≠ sn := fun z => by rw [← z, upd_same] at nsn; cases nsn
  have nsH : H sn = none := by
    rw [upd_ne nks.symm] at nsn
    exact nsn
  have h2 : upd (upd H kp (.lst [])) sn (.dK []) kp = some (.lst []) := by rw [upd_ne nks, upd_same]
  have h3 : upd (upd H kp (.lst [])) sn (.dK []) sn = some (.dK []) := upd_same
  generalize upd (upd H kp (.lst [])) sn (.dK []) = H0 at e0 h2 h3
  refine ⟨p, dx, [], rfl, e0.ins hp, _, rfl, p, dx, wa, c, w, rfl, hup, e0.ins hp, e0.tup hw, hl, e0.tabs ht, fun H1 l is e1 nwl hl1 hkp => ?_⟩
  have hv : is.map (fun i => w.getD i 0) = w := hkp.2
  have hlt := hkp.1
  have e01 := e0.trans e1
  have h2' := e1.lst h2
  have h3' := e1.ext _ _ h3 id rfl
  have nkl : kp ≠ l := nwl.ne h2 rfl
  refine ⟨l, nv is, fun i σ H' => ∃ (u4 : Option V) (js : List Nat) (kvs : List (Key × V)), σ = [some (.ref p), some (.ref wa), some (.ref kp), some (.ref sn), u4] ∧ H' l = some (lN is) ∧ H' kp = some (lN js) ∧ H' sn = some (.dK kvs) ∧ Fr (TT Pt) Nl H H' ∧ (∀ j ∈ js, j < w.length) ∧ js.length ≤ i ∧
    js.map (fun j => w.getD j 0) = dd ((w).take i) ∧ kvs.length ≤ i ∧ (∀ x : Int, (valV kvs (Sum.inl x)).isSome = decide (x ∈ (w).take i)),
    rfl, ⟨_, [], [], rfl, hl1, h2', h3', e01, fun j h => (nomatch h), Nat.le_refl _, rfl, Nat.le_refl _, fun x => by simp [valV_nil]⟩, fun i σ H' ⟨_, _, _, _, h, _⟩ => SqL.of h, ?_, ?_⟩
  · rintro i y σ H2 hy ⟨u4, js, kvs, rfl, g1, g2, g3, e2, gj, gl, gm, gk, gv⟩
    have hi : i < is.length := by have := (List.getElem?_eq_some_iff.mp hy).1; simpa using this
    rw [at_nv hi] at hy
    cases hy
    have hiw := hlt _ (getD_mem hi)
    have hw2 := e2.tup hw
    have hle : is.length = w.length := by have := congrArg List.length hv; simpa using this
    have hval : w.getD (is.getD i 0) 0 = (w).getD i 0 := by
      have z : (is.map (fun i => w.getD i 0)).getD i 0 = (w).getD i 0 := by rw [hv]
      rw [← z, List.getD_eq_getElem?_getD (l := is.map _), List.getElem?_map, List.getElem?_eq_getElem hi, List.getD_eq_getElem?_getD (l := is), List.getElem?_eq_getElem hi] <;> rfl
    have hsz := size_big
    have hi2 : i < (w).length := by rw [← hv, List.length_map]; exact hi
    refine ⟨_, rfl, _, rfl, wa, _, _, _, rfl, rfl, SqT.of hw2, atI_iv hiw, _, rfl, sn, _, rfl, DGet.k (k := Sum.inl (w.getD (is.getD i 0) 0)) g3, _, rfl, bI (fun hout => ?_) fun hin => ?_⟩
    · rw [gv] at hout
      have hout' : w.getD (is.getD i 0) 0 ∉ (w).take i := by simpa using hout
      have g2d : upd H2 sn (.dK (putK kvs (Sum.inl (w.getD (is.getD i 0) 0)) (.bl true))) kp = some (lN js) := by
        rw [upd_ne (fun z => by rw [z, g3] at g2; cases g2)]
        exact g2
      refine ⟨_, rfl, _, rfl, _, rfl, wa, _, _, _, rfl, rfl, SqT.of hw2, atI_iv hiw, sn, _, rfl, DPut.k (k := Sum.inl (w.getD (is.getD i 0) 0)) g3 (by omega), ?_⟩
      refine ⟨_, rfl, .inl ⟨rfl, _, SqL.of g2d⟩, _, rfl, kp, _, _, rfl, rfl, g2d, by rw [List.length_map]; omega, ?_⟩
      refine ⟨_, js ++ [is.getD i 0], putK kvs (Sum.inl (w.getD (is.getD i 0) 0)) (.bl true), rfl, ?_, ?_, ?_, ((e2.put nsH g3 rfl).put nk g2d rfl), ?_, ?_, ?_, ?_, ?_⟩
      · rw [upd_ne nkl.symm, upd_ne (fun z => by rw [z, g3] at g1; cases g1)]
        exact g1
      · rw [upd_same]; show some (HO.lst (nv js ++ nv [is.getD i 0])) = some (HO.lst (nv (js ++ [is.getD i 0]))); rw [nv_append]
      · rw [upd_ne nks.symm, upd_same]
      · intro j hj
        rcases List.mem_append.mp hj with hj | hj
        · exact gj j hj
        · rw [List.mem_singleton.mp hj]; exact hiw
      · rw [List.length_append, List.length_singleton]; omega
      · rw [take_succ' hi2, ← hval, dd_snoc_out hout', List.map_append, gm] <;> rfl
      · have := DSub.putK_len kvs (Sum.inl (w.getD (is.getD i 0) 0)) (.bl true)
        omega
      · intro x
        rw [valV_put, take_succ' hi2, ← hval]
        generalize w.getD (is.getD i 0) 0 = z
        by_cases hx : x = z
        · subst hx
          simp
        · rw [if_neg (fun z => hx (Sum.inl.inj z)), gv]
          simp [hx]
    · rw [gv] at hin
      have hin' : w.getD (is.getD i 0) 0 ∈ (w).take i := by simpa using hin
      refine ⟨_, js, kvs, rfl, g1, g2, g3, e2, gj, by omega, ?_, by omega, fun x => ?_⟩
      · rw [take_succ' hi2, ← hval, dd_snoc_in hin', gm]
      · rw [gv, take_succ' hi2, ← hval]
        clear hval
        generalize w.getD (is.getD i 0) 0 = z at hin' ⊢
        by_cases hx : x = z
        · subst hx
          simp [hin']
        · simp [hx]
  · rintro σ H2 ⟨u4, js, kvs, rfl, g1, g2, g3, e2, gj, gl, gm, gk, gv⟩
    have hle : (nv is).length = (w).length := by rw [← hv, List.length_map, List.length_map]
    rw [hle, List.take_length] at gm
    exact ⟨_, rfl, hQ _ kp js e2 (fun o q => by rw [nk] at q; cases q) g2 ⟨gj, gm⟩⟩
/-! tails -/
theorem ok_keepTails (Y : Fx K mg fA fdA) (Z : Kx P K mg base Pt a) : FnOk P w K mg base CX0 2 (a.kA .tails) (a.kD .tails) ["self", "word"] (spKeep (TT Pt) a .tails) := by
  have hk : Kd.tails ≠ .list := by decide
  refine keep_of Z hk scTails spK_len fun A outer s H vs Q E hr h => ?_
  obtain ⟨p, dx, wa, c, w, rfl, hc, hp, hw, hl, ht, hQ⟩ := h
  have hch := in_chain hk hc
  have hup := up_chain hch
  refine ⟨_, qss_cons (QS.of (ps_set (i := 2) scTails.nd rfl (.inl rfl) (pe_lst pa_nil)))
    (qss_cons (QS.of (ps_set (i := 3) scTails.nd rfl (.inl rfl) pe_dnewK))
    (qss_cons (qs_forL PassesOwn.never rfl (qe_sub tail_backL (qe_super (hfu := rfl) (hco := rfl) (hcl := rfl) (hS := rfl) (hself := rfl) (hks := rfl) (hkc := rfl) (hms := Y.super) (hat := by decide +kernel) (T := Z.sat .tails hk) (U := Z.sto c .tails hch) (F := ok_keepL (T := TT Pt) Y Z) (hr := hr.mono (by decide)) (hb := bK Z .list) (hx := pass0) (ha := pa_cons (pv 1) pa_nil))) (pg_name (i := 4) scTails.nd rfl (.inl rfl))
      (pss_one (ps_if (pt_cmp (pc_dnotin (hu_of hr) (pe_ix ix_tup (pv 1) (pv 4) (fun _ _ => rfl)) (pv 3)))
        (pss_cons (ps_dput (hu_of hr) (pv 3) (pe_ix ix_tup (pv 1) (pv 4) (fun _ _ => rfl)) pe_bl rfl)
        (pss_one (ps_expr (pe_bm PySem.F.plainAttrs_list PySem.F.slot_list_append PySem.F.type_list_append mt_append (pv 2) (pa_cons (pv 4) pa_nil))))) pss_nil)))
    (qss_one (QS.of (ps_ret (pe_sub tail_backL (pv 2))))))), ?_⟩
  refine ⟨Nat.zero_le _, fun kp nk => fun sn nsn => ?_⟩
  have e0 : Fr (TT Pt) Nl H (upd (upd H kp (.lst [])) sn (.dK [])) := (Fr.refl.new nk).new nsn
  have nks : kp ≠ sn := fun z => by rw [← z, upd_same] at nsn; cases nsn
  have nsH : H sn = none := by
    rw [upd_ne nks.symm] at nsn
    exact nsn
  have h2 : upd (upd H kp (.lst [])) sn (.dK []) kp = some (.lst []) := by rw [upd_ne nks, upd_same]
  have h3 : upd (upd H kp (.lst [])) sn (.dK []) sn = some (.dK []) := upd_same
  generalize upd (upd H kp (.lst [])) sn (.dK []) = H0 at e0 h2 h3
  refine ⟨p, dx, [], rfl, e0.ins hp, _, rfl, p, dx, wa, c, w, rfl, hup, e0.ins hp, e0.tup hw, hl, e0.tabs ht, fun H1' l' is' e1' nwl' hl1' hkp => ⟨l', _, rfl, SqL.of hl1', fun l nl => ?_⟩⟩
  obtain ⟨is, his⟩ : ∃ is, is = is'.reverse := ⟨_, rfl⟩
  have hv : is.map (fun i => w.getD i 0) = w.reverse := by rw [his, List.map_reverse, hkp.2] <;> rfl
  have hlt : ∀ i ∈ is, i < w.length := fun i hi => hkp.1 i (by rw [his] at hi; exact List.mem_reverse.mp hi)
  have erev : (nv is').reverse = nv is := by rw [his, nv_reverse]
  rw [erev]
  have nwl : Nw H0 l := e1'.nw nl
  have e1 : Fr (TT Pt) Nl H0 (upd H1' l (.lst (nv is))) := e1'.new nl
  have hl1 : upd H1' l (.lst (nv is)) l = some (lN is) := upd_same
  generalize upd H1' l (.lst (nv is)) = H1 at e1 hl1
  have e01 := e0.trans e1
  have h2' := e1.lst h2
  have h3' := e1.ext _ _ h3 id rfl
  have nkl : kp ≠ l := nwl.ne h2 rfl
  refine ⟨l, nv is, fun i σ H' => ∃ (u4 : Option V) (js : List Nat) (kvs : List (Key × V)), σ = [some (.ref p), some (.ref wa), some (.ref kp), some (.ref sn), u4] ∧ H' l = some (lN is) ∧ H' kp = some (lN js) ∧ H' sn = some (.dK kvs) ∧ Fr (TT Pt) Nl H H' ∧ (∀ j ∈ js, j < w.length) ∧ js.length ≤ i ∧
    js.map (fun j => w.getD j 0) = dd ((w.reverse).take i) ∧ kvs.length ≤ i ∧ (∀ x : Int, (valV kvs (Sum.inl x)).isSome = decide (x ∈ (w.reverse).take i)),
    rfl, ⟨_, [], [], rfl, hl1, h2', h3', e01, fun j h => (nomatch h), Nat.le_refl _, rfl, Nat.le_refl _, fun x => by simp [valV_nil]⟩, fun i σ H' ⟨_, _, _, _, h, _⟩ => SqL.of h, ?_, ?_⟩
  · rintro i y σ H2 hy ⟨u4, js, kvs, rfl, g1, g2, g3, e2, gj, gl, gm, gk, gv⟩
    have hi : i < is.length := by have := (List.getElem?_eq_some_iff.mp hy).1; simpa using this
    rw [at_nv hi] at hy
    cases hy
    have hiw := hlt _ (getD_mem hi)
    have hw2 := e2.tup hw
    have hle : is.length = w.length := by have := congrArg List.length hv; simpa using this
    have hval : w.getD (is.getD i 0) 0 = (w.reverse).getD i 0 := by
      have z : (is.map (fun i => w.getD i 0)).getD i 0 = (w.reverse).getD i 0 := by rw [hv]
      rw [← z, List.getD_eq_getElem?_getD (l := is.map _), List.getElem?_map, List.getElem?_eq_getElem hi, List.getD_eq_getElem?_getD (l := is), List.getElem?_eq_getElem hi] <;> rfl
    have hsz := size_big
    have hi2 : i < (w.reverse).length := by rw [← hv, List.length_map]; exact hi
    refine ⟨_, rfl, _, rfl, wa, _, _, _, rfl, rfl, SqT.of hw2, atI_iv hiw, _, rfl, sn, _, rfl, DGet.k (k := Sum.inl (w.getD (is.getD i 0) 0)) g3, _, rfl, bI (fun hout => ?_) fun hin => ?_⟩
    · rw [gv] at hout
      have hout' : w.getD (is.getD i 0) 0 ∉ (w.reverse).take i := by simpa using hout
      have g2d : upd H2 sn (.dK (putK kvs (Sum.inl (w.getD (is.getD i 0) 0)) (.bl true))) kp = some (lN js) := by
        rw [upd_ne (fun z => by rw [z, g3] at g2; cases g2)]
        exact g2
      refine ⟨_, rfl, _, rfl, _, rfl, wa, _, _, _, rfl, rfl, SqT.of hw2, atI_iv hiw, sn, _, rfl, DPut.k (k := Sum.inl (w.getD (is.getD i 0) 0)) g3 (by omega), ?_⟩
      refine ⟨_, rfl, .inl ⟨rfl, _, SqL.of g2d⟩, _, rfl, kp, _, _, rfl, rfl, g2d, by rw [List.length_map]; omega, ?_⟩
      refine ⟨_, js ++ [is.getD i 0], putK kvs (Sum.inl (w.getD (is.getD i 0) 0)) (.bl true), rfl, ?_, ?_, ?_, ((e2.put nsH g3 rfl).put nk g2d rfl), ?_, ?_, ?_, ?_, ?_⟩
      · rw [upd_ne nkl.symm, upd_ne (fun z => by rw [z, g3] at g1; cases g1)]
        exact g1
      · rw [upd_same]; show some (HO.lst (nv js ++ nv [is.getD i 0])) = some (HO.lst (nv (js ++ [is.getD i 0]))); rw [nv_append]
      · rw [upd_ne nks.symm, upd_same]
      · intro j hj
        rcases List.mem_append.mp hj with hj | hj
        · exact gj j hj
        · rw [List.mem_singleton.mp hj]; exact hiw
      · rw [List.length_append, List.length_singleton]; omega
      · rw [take_succ' hi2, ← hval, dd_snoc_out hout', List.map_append, gm] <;> rfl
      · have := DSub.putK_len kvs (Sum.inl (w.getD (is.getD i 0) 0)) (.bl true)
        omega
      · intro x
        rw [valV_put, take_succ' hi2, ← hval]
        generalize w.getD (is.getD i 0) 0 = z
        by_cases hx : x = z
        · subst hx
          simp
        · rw [if_neg (fun z => hx (Sum.inl.inj z)), gv]
          simp [hx]
    · rw [gv] at hin
      have hin' : w.getD (is.getD i 0) 0 ∈ (w.reverse).take i := by simpa using hin
      refine ⟨_, js, kvs, rfl, g1, g2, g3, e2, gj, by omega, ?_, by omega, fun x => ?_⟩
      · rw [take_succ' hi2, ← hval, dd_snoc_in hin', gm]
      · rw [gv, take_succ' hi2, ← hval]
        clear hval
        generalize w.getD (is.getD i 0) 0 = z at hin' ⊢
        by_cases hx : x = z
        · subst hx
          simp [hin']
        · simp [hx]
  · rintro σ H2 ⟨u4, js, kvs, rfl, g1, g2, g3, e2, gj, gl, gm, gk, gv⟩
    have hle : (nv is).length = (w.reverse).length := by rw [← hv, List.length_map, List.length_map]
    rw [hle, List.take_length] at gm
    refine ⟨_, rfl, kp, _, rfl, SqL.of g2, fun q nq => hQ _ q js.reverse (e2.new nq) (e2.nw nq) (by rw [upd_same]; show some (HO.lst (nv js).reverse) = some (HO.lst (nv js.reverse)); rw [nv_reverse]) ⟨fun j hj => gj j (List.mem_reverse.mp hj), ?_⟩⟩
    rw [List.map_reverse, gm] <;> rfl
/-! first, last -/
theorem ok_keepFirst (Y : Fx K mg fA fdA) (Z : Kx P K mg base Pt a) : FnOk P w K mg base CX0 3 (a.kA .first) (a.kD .first) ["self", "word"] (spKeep (TT Pt) a .first) := by
  have hk : Kd.first ≠ .list := by decide
  refine keep_of Z hk scFirst spK_len fun A outer s H vs Q E hr h => ?_
  obtain ⟨p, dx, wa, c, w, rfl, hc, hp, hw, hl, ht, hQ⟩ := h
  have hch := in_chain hk hc
  have hup := up_chain hch
  refine ⟨_, qss_one (qs_ret (qe_sub (tail_cut sl_list po_none (po_some pe_int) (l := none) (u := some 1) (fun _ _ _ h => h) (fun _ _ _ h => ⟨1, rfl, h⟩)) (qe_super (hfu := rfl) (hco := rfl) (hcl := rfl) (hS := rfl) (hself := rfl) (hks := rfl) (hkc := rfl) (hms := Y.super) (hat := by decide +kernel) (T := Z.sat .first hk) (U := Z.sto c .first hch) (F := ok_keepHeads Y Z) (hr := hr.mono (by decide)) (hb := bK Z .heads) (hx := pass0) (ha := pa_cons (pv 1) pa_nil)))), ?_⟩
  refine ⟨p, dx, [], rfl, hp, _, rfl, p, dx, wa, c, w, rfl, hup, hp, hw, hl, ht, fun H1 l is e1 nwl hl1 hkp => ⟨l, _, rfl, SqL.of hl1, fun q nq => hQ _ q (is.take 1) (e1.new nq) (e1.nw nq) ?_ ⟨fun i hi => hkp.1 i (List.mem_of_mem_take hi), ?_⟩⟩⟩
  · rw [upd_same, show (some (1 : Int)) = some ((1 : Nat) : Int) from rfl, cut_to, ← nv_take]
  · rw [List.map_take, hkp.2]
    exact hd1_dd w
theorem ok_keepLast (Y : Fx K mg fA fdA) (Z : Kx P K mg base Pt a) : FnOk P w K mg base CX0 3 (a.kA .last) (a.kD .last) ["self", "word"] (spKeep (TT Pt) a .last) := by
  have hk : Kd.last ≠ .list := by decide
  refine keep_of Z hk scLast spK_len fun A outer s H vs Q E hr h => ?_
  obtain ⟨p, dx, wa, c, w, rfl, hc, hp, hw, hl, ht, hQ⟩ := h
  have hch := in_chain hk hc
  have hup := up_chain hch
  refine ⟨_, qss_one (qs_ret (qe_sub (tail_cut sl_list (po_some (pe_un un_neg pe_int)) po_none (l := some (-1)) (u := none) (fun _ _ _ h => ⟨_, rfl, _, rfl, h⟩) (fun _ _ _ h => h)) (qe_super (hfu := rfl) (hco := rfl) (hcl := rfl) (hS := rfl) (hself := rfl) (hks := rfl) (hkc := rfl) (hms := Y.super) (hat := by decide +kernel) (T := Z.sat .last hk) (U := Z.sto c .last hch) (F := ok_keepTails Y Z) (hr := hr.mono (by decide)) (hb := bK Z .tails) (hx := pass0) (ha := pa_cons (pv 1) pa_nil)))), ?_⟩
  refine ⟨p, dx, [], rfl, hp, _, rfl, p, dx, wa, c, w, rfl, hup, hp, hw, hl, ht, fun H1 l is e1 nwl hl1 hkp => ⟨l, _, rfl, SqL.of hl1, fun q nq => hQ _ q (is.drop (is.length - 1)) (e1.new nq) (e1.nw nq) ?_ ⟨fun i hi => hkp.1 i (List.mem_of_mem_drop hi), ?_⟩⟩⟩
  · rw [upd_same, cut_last, List.length_map, ← nv_drop]
  · have hle : is.length = (td w).length := by
      have := congrArg List.length hkp.2
      simpa [plain] using this
    rw [List.map_drop, hkp.2, hle]
    show (td w).drop ((td w).length - 1) = lt1 w
    rw [drop_last, lt1_td]
end
end K4
namespace K4
open PySem PySem.Spec PyProof.Rows L2 LamX
theorem lam_qual : qn .bag ++ (".<locals>." : Str) ++ ("<lambda>" : Str) = ("BagKind.keep.<locals>.<lambda>" : Str) := by decide +kernel
section
variable {P : Program} {w : World} {K : PySem.W.Frag} {mg : Str → Option Value} {base : Heap} {fA : Nat → Addr} {fdA : Nat → FuncData} {Pt : Addr} {H H' : Hp} {a : KA}
/-! bag -/
theorem ok_keepBag (Y : Fx K mg fA fdA) (Z : Kx P K mg base Pt a) : FnOk P w K mg base CX0 4 (a.kA .bag) (a.kD .bag) ["self", "word"] (spKeep (TT Pt) a .bag) := by
  have hk : Kd.bag ≠ .list := by decide
  refine keep_of Z hk scBag spK_len fun A outer s H vs Q E hr h => ?_
  obtain ⟨p, dx, wa, c, w, rfl, hc, hp, hw, hl, ht, hQ⟩ := h
  have hch := in_chain hk hc
  have hup := up_chain hch
  refine ⟨_, qss_one (qs_ret (qe_sortKey (T := TT Pt) (cd := a.kd .bag) (P := Pt) (cw := s.heap.objs.size + 1) (iw := 1) (qe_super (hfu := rfl) (hco := rfl) (hcl := rfl) (hS := rfl) (hself := rfl) (hks := rfl) (hkc := rfl) (hms := Y.super) (hat := by decide +kernel) (T := Z.sat .bag hk) (U := Z.sto c .bag hch) (F := ok_keepL (T := TT Pt) Y Z) (hr := hr.mono (by decide)) (hb := bK Z .list) (hx := pass0) (ha := pa_cons (pv 1) pa_nil)) rfl hr (by rfl) Y.sorted Z.tab rfl
    (by show (Pt, qn .bag ++ (".<locals>." : Str) ++ ("<lambda>" : Str)) ∈ TT Pt; rw [lam_qual]; exact List.mem_singleton.mpr rfl)
    (fun q hq _ => by show q.2 = qn .bag ++ (".<locals>." : Str) ++ ("<lambda>" : Str); rw [lam_qual, List.mem_singleton.mp hq])
    rfl (fun y hy h => ?_) rfl rfl rfl (by decide +kernel) (by decide +kernel) (by decide +kernel) rfl (show (defScope (kS .bag)).names.lookup ("word" : Str) = some .cell by decide +kernel) rfl rfl (fun _ _ _ _ _ _ => rfl))), ?_⟩
  · rcases List.mem_cons.mp hy with rfl | hy
    · cases h
    · rw [List.mem_singleton.mp hy]
      exact ⟨_, rfl⟩
  refine ⟨p, dx, [], rfl, hp, _, rfl, p, dx, wa, c, w, rfl, hup, hp, hw, hl, ht, fun H1 l is e1 nwl hl1 hkp => ?_⟩
  have hv : is.map (fun i => w.getD i 0) = w := hkp.2
  refine ⟨l, wa, is, w, rfl, SqL.of hl1, rfl, e1.tup hw, hkp.1, e1.tabs ht, fun H2 q js ext t2 nq pm srt => ?_⟩
  have e2 : Fr (TT Pt) Nl H1 H2 := Fr.ofN ext t2
  have e12 := e1.trans e2
  refine hQ _ q js (e12.new nq) (e12.nw nq) upd_same ⟨fun i hi => hkp.1 i (pm.mem_iff.mp hi), ?_⟩
  show js.map (fun i => w.getD i 0) = isort w
  refine isort_eq ?_ (List.pairwise_map.mpr srt)
  have := pm.map (fun i => w.getD i 0)
  rw [hv] at this
  exact this
/-! set -/
theorem ok_keepSet (Y : Fx K mg fA fdA) (Z : Kx P K mg base Pt a) : FnOk P w K mg base CX0 5 (a.kA .set) (a.kD .set) ["self", "word"] (spKeep (TT Pt) a .set) := by
  have hk : Kd.set ≠ .list := by decide
  refine keep_of Z hk scSet spK_len fun A outer s H vs Q E hr h => ?_
  obtain ⟨p, dx, wa, c, w, rfl, hc, hp, hw, hl, ht, hQ⟩ := h
  have hch := in_chain hk hc
  have hup := up_chain hch
  refine ⟨_, qss_cons (QS.of (ps_set (i := 2) scSet.nd rfl (.inl rfl) (pe_lst pa_nil)))
    (qss_cons (qs_forL PassesOwn.never rfl (qe_super (hfu := rfl) (hco := rfl) (hcl := rfl) (hS := rfl) (hself := rfl) (hks := rfl) (hkc := rfl) (hms := Y.super) (hat := by decide +kernel) (T := Z.sat .set hk) (U := Z.sto c .set hch) (F := ok_keepBag Y Z) (hr := hr.mono (by decide)) (hb := bK Z .bag) (hx := pass0) (ha := pa_cons (pv 1) pa_nil)) (pg_name (i := 3) scSet.nd rfl (.inl rfl))
      (pss_one (ps_if (PW.pt (pw_or (pt_not (pt_truth (pv 2) (by intro _; rfl))) (pw_or1 (pt_cmpR op_ne (pe_ix ix_tup (pv 1) (pe_ix ix_list (pv 2) (pe_un un_neg pe_int) (fun _ _ => rfl)) (fun _ _ => rfl)) (pe_ix ix_tup (pv 1) (pv 3) (fun _ _ => rfl)) (nomark _)))))
        (pss_one (ps_expr (pe_bm PySem.F.plainAttrs_list PySem.F.slot_list_append PySem.F.type_list_append mt_append (pv 2) (pa_cons (pv 3) pa_nil)))) pss_nil)))
    (qss_one (QS.of (ps_ret (pv 2))))), ?_⟩
  refine ⟨Nat.zero_le _, fun kp nk => ?_⟩
  have e0 : Fr (TT Pt) Nl H (upd H kp (.lst [])) := Fr.refl.new nk
  have h2 : upd H kp (.lst []) kp = some (.lst []) := upd_same
  generalize upd H kp (.lst []) = H0 at e0 h2
  refine ⟨p, dx, [], rfl, e0.ins hp, _, rfl, p, dx, wa, c, w, rfl, hup, e0.ins hp, e0.tup hw, hl, e0.tabs ht, fun H1 l is e1 nwl hl1 hkp => ?_⟩
  have hv : is.map (fun i => w.getD i 0) = isort w := hkp.2
  have hlt := hkp.1
  have e01 := e0.trans e1
  have h2' := e1.lst h2
  have nkl : kp ≠ l := nwl.ne h2 rfl
  refine ⟨l, nv is, fun i σ H' => ∃ (u4 : Option V) (js : List Nat), σ = [some (.ref p), some (.ref wa), some (.ref kp), u4] ∧ H' l = some (lN is) ∧ H' kp = some (lN js) ∧ Fr (TT Pt) Nl H H' ∧ (∀ j ∈ js, j < w.length) ∧ js.length ≤ i ∧
    js.map (fun j => w.getD j 0) = ((isort w).take i).foldl adjStep [], rfl, ⟨_, [], rfl, hl1, h2', e01, fun j h => (nomatch h), Nat.le_refl _, rfl⟩, fun i σ H' ⟨_, _, _, h, _⟩ => SqL.of h, ?_, ?_⟩
  · rintro i y σ H2 hy ⟨u4, js, rfl, g1, g2, e2, gj, gl, gm⟩
    have hi : i < is.length := by have := (List.getElem?_eq_some_iff.mp hy).1; simpa using this
    rw [at_nv hi] at hy
    cases hy
    have hiw := hlt _ (getD_mem hi)
    have hw2 := e2.tup hw
    have hle : is.length = w.length := by have := congrArg List.length hv; rw [List.length_map, isort_length] at this; exact this
    have hval : w.getD (is.getD i 0) 0 = (isort w).getD i 0 := by
      have z : (is.map (fun i => w.getD i 0)).getD i 0 = (isort w).getD i 0 := by rw [hv]
      rw [← z, List.getD_eq_getElem?_getD (l := is.map _), List.getElem?_map, List.getElem?_eq_getElem hi, List.getD_eq_getElem?_getD (l := is), List.getElem?_eq_getElem hi] <;> rfl
    have hsz := size_big
    have hi2 : i < (isort w).length := by rw [isort_length, ← hle]; exact hi
    have hstep : ((isort w).take (i + 1)).foldl adjStep [] = adjStep (js.map (fun j => w.getD j 0)) (w.getD (is.getD i 0) 0) := by
      rw [take_succ' hi2, List.foldl_append, ← hval, gm] <;> rfl
    have fin : adjStep (js.map (fun j => w.getD j 0)) (w.getD (is.getD i 0) 0) = js.map (fun j => w.getD j 0) ++ [w.getD (is.getD i 0) 0] → (fun (i : Nat) (σ : L2.St) (H' : Hp) => ∃ (u4 : Option V) (js : List Nat), σ = [some (.ref p), some (.ref wa), some (.ref kp), u4] ∧ H' l = some (lN is) ∧ H' kp = some (lN js) ∧ Fr (TT Pt) Nl H H' ∧ (∀ j ∈ js, j < w.length) ∧ js.length ≤ i ∧
      js.map (fun j => w.getD j 0) = ((isort w).take i).foldl adjStep []) (i + 1) [some (.ref p), some (.ref wa), some (.ref kp), some (.int (is.getD i 0 : Nat))] (upd H2 kp (.lst (nv js ++ [V.int (is.getD i 0 : Nat)]))) := fun ea => by
      refine ⟨_, js ++ [is.getD i 0], rfl, ?_, ?_, e2.put nk g2 rfl, ?_, ?_, ?_⟩
      · rw [upd_ne nkl.symm]; exact g1
      · rw [upd_same]
        show some (HO.lst (nv js ++ nv [is.getD i 0])) = some (HO.lst (nv (js ++ [is.getD i 0])))
        rw [nv_append]
      · intro j hj
        rcases List.mem_append.mp hj with hj | hj
        · exact gj j hj
        · rw [List.mem_singleton.mp hj]; exact hiw
      · rw [List.length_append, List.length_singleton]; omega
      · rw [hstep, ea, List.map_append] <;> rfl
    have hlj : (nv js).length < sizeLine := by rw [List.length_map]; omega
    refine ⟨_, rfl, _, .inl ⟨_, SqL.of g2, rfl⟩, ?_⟩
    by_cases hjs : js = []
    · subst hjs
      exact ⟨_, rfl, .inl ⟨rfl, _, SqL.of g2⟩, _, rfl, kp, _, _, rfl, rfl, g2, hlj, fin rfl⟩
    · obtain ⟨jr, jx, rfl⟩ : ∃ jr jx, js = jr ++ [jx] := ⟨_, _, (List.dropLast_concat_getLast hjs).symm⟩
      have ht1 : (!(!(nv (jr ++ [jx])).isEmpty)) = false := by rw [nv_append]; simp
      rw [ht1]
      refine iteF ?_
      have glast : ((jr ++ [jx]).map (fun j => w.getD j 0)).getLast? = some (w.getD jx 0) := by
        rw [List.map_append]
        exact List.getLast?_concat
      have hjw : jx < w.length := gj jx (List.mem_append_right _ List.mem_cons_self)
      refine ⟨_, rfl, _, rfl, _, rfl, kp, _, _, .int (jx : Nat), rfl, rfl, SqL.of g2, by rw [nv_append]; exact atI_last _ _, wa, _, _, _, rfl, rfl, SqT.of hw2, atI_iv hjw, _, rfl, _, rfl, wa, _, _, _, rfl, rfl, SqT.of hw2, atI_iv hiw, rfl, _, rfl, nI (fun hne => ?_) fun heq => ?_⟩
      · refine ⟨_, rfl, .inl ⟨rfl, _, SqL.of g2⟩, _, rfl, kp, _, _, rfl, rfl, g2, hlj, fin ?_⟩
        unfold adjStep
        rw [if_neg]
        rw [glast]
        exact fun z => hne (congrArg V.int (Option.some.inj z))
      · refine ⟨_, jr ++ [jx], rfl, g1, g2, e2, gj, by omega, ?_⟩
        rw [hstep]
        unfold adjStep
        rw [if_pos]
        rw [glast]
        exact congrArg some (V.int.inj heq)
  · rintro σ H2 ⟨u4, js, rfl, g1, g2, e2, gj, gl, gm⟩
    have hle : (nv is).length = (isort w).length := by rw [← hv, List.length_map, List.length_map]
    rw [hle, List.take_length, adj_sd] at gm
    exact ⟨_, rfl, hQ _ kp js e2 (fun o q => by rw [nk] at q; cases q) g2 ⟨gj, gm⟩⟩
end
end K4
namespace K4
open PySem PySem.Spec PyProof.Rows L2 LamX
section
variable {P : Program} {w : World} {K : PySem.W.Frag} {mg : Str → Option Value} {base : Heap} {fA : Nat → Addr} {fdA : Nat → FuncData} {Pt : Addr} {T : List (Addr × Str)} {H H' : Hp} {a : KA} {CT : Addr} {gA : Nat → Addr} {gdA : Nat → FuncData}
theorem ok_keep (Y : Fx K mg fA fdA) (Z : Kx P K mg base Pt a) (c : Kd) : FnOk P w K mg base CX0 5 (a.kA c) (a.kD c) ["self", "word"] (spKeep (TT Pt) a c) := by
  cases c
  · exact (ok_keepL Y Z).mono (by decide)
  · exact (ok_keepBag Y Z).mono (by decide)
  · exact (ok_keepSet Y Z).mono (by decide)
  · exact (ok_keepFirst Y Z).mono (by decide)
  · exact (ok_keepLast Y Z).mono (by decide)
  · exact (ok_keepEnds Y Z).mono (by decide)
  · exact (ok_keepHeads Y Z).mono (by decide)
  · exact (ok_keepTails Y Z).mono (by decide)
/-! Kind.plain -/
abbrev NPl : List Str := ["self", "word", "index"]
theorem scPl : FnScope NPl ["self", "word"] (defScope plS) := ⟨rfl, rfl, rfl, by decide +kernel, rfl, by decide +kernel, by decide +kernel⟩
theorem bPl (Z : Kx P K mg base Pt a) : Binds K a.plD ["self", "word"] [] := Z.dPl.bindsN fun _ _ _ _ _ _ us hl => match us, hl with | [_, _], _ => rfl
def spPlM (T : List (Addr × Str)) (a : KA) (c : Kd) : Sp := fun vs H Q _ => ∃ (p dx wa : Addr) (w : List Int), vs = [.ref p, .ref wa] ∧ H p = some (.ins (a.cA c) dx []) ∧ H wa = some (tI w) ∧ w.length ≤ 60 ∧ Tabs T H ∧ ∀ H' v, Fr T Nl H H' → Wd H' v (plain c w) → Q v H'
theorem ok_plainM (Y : Fx K mg fA fdA) (Z : Kx P K mg base Pt a) (c : Kd) : FnOk P w K mg base CX0 6 a.plA a.plD ["self", "word"] (spPlM (TT Pt) a c) := by
  refine Z.dPl.ok scPl (fun vs H Q E h => by obtain ⟨_, _, _, _, rfl, _⟩ := h; rfl) (fun cdv A outer s H vs Q E hr h => ?_)
  refine ⟨_, PSs.nox (pss_one (ps_ret (pe_callTy call_tuple_of (by rfl) Y.tuple (by decide +kernel) (pa_cons (pe_lc (own := [("index", 2)]) (g := gName 2) (tt := tYes) rfl scPl.nd (pi_list (pe_meth (pv 0) (Z.cl c) (Z.mKe c) (ok_keep Y Z c) hr (bK Z c) .nil pass0 (pa_cons (pv 1) pa_nil)))
    (blkOk_by (own := [("index", 2)]) (N := NPl) (sc := defScope plS) (by decide +kernel)) (fun _ _ _ _ _ => pg_name (i := 2) scPl.nd rfl (.inl rfl)) (fun _ _ _ _ _ => pts_nil) (fun _ _ _ _ _ => pe_ix (r := rIxT K) ix_tup (pv 1) (pv 2) (fun _ _ => rfl))) pa_nil)))), ?_⟩
  obtain ⟨p, dx, wa, w, rfl, hp, hw, hl, ht, hQ⟩ := h
  refine ⟨_, rfl, p, dx, [], rfl, hp, rfl, _, rfl, p, dx, wa, c, w, rfl, .inl rfl, hp, hw, hl, ht, fun H1 l is e1 nwl hl1 hkp => ?_⟩
  have hli : is.length ≤ 61 := by
    have z := congrArg List.length hkp.2
    rw [List.length_map] at z
    have := plain_len c w
    omega
  refine ⟨l, rfl, ⟨_, SqL.of hl1⟩, fun D nD => lc_list (K := K) (xs := nv is) (fun i H' => H' D = some (.lst (iv ((is.take i).map fun j => w.getD j 0))) ∧ Fr (TT Pt) Nl H1 H') ⟨by rw [upd_same] <;> rfl, Fr.refl.new nD⟩ (fun i H' _ ⟨_, ez⟩ => SqL.of (ez.lst hl1)) ?_ ?_⟩
  · rintro i y Ha hy ⟨hD, e⟩
    have hi : i < is.length := by have := (List.getElem?_eq_some_iff.mp hy).1; simpa using this
    rw [at_nv hi] at hy
    cases hy
    have hiw := hkp.1 _ (getD_mem hi)
    refine ⟨rfl, _, rfl, _, rfl, wa, _, _, _, rfl, rfl, SqT.of ((e1.trans e).tup hw), atI_iv hiw, _, hD, ?_, ?_, e.put nD hD rfl⟩
    · rw [List.length_map, List.length_map, List.length_take]
      have := size_big
      omega
    · rw [upd_same, take_succN hi, List.map_append, iv_append] <;> rfl
  · rintro Ha ⟨hD, e⟩
    rw [List.length_map, List.take_length, hkp.2] at hD
    exact ⟨D, _, rfl, .inl ⟨SqL.of hD, fun q nq => hQ _ _ ((e1.trans e).new nq) ⟨q, rfl, upd_same⟩⟩⟩
/-! kind_named -/
abbrev N14 : List Str := ["name"]
abbrev P14 : List Str := ["name"]
theorem sc14 : FnScope N14 P14 (dS 14) := ⟨rfl, rfl, rfl, by decide +kernel, rfl, by decide +kernel, by decide +kernel⟩
theorem b14 (Y : Fx K mg fA fdA) : Binds K (fdA 14) P14 [] := (Y.d 14 _ rfl).2.bindsN fun _ _ _ _ _ _ us hl => match us, hl with | [_], _ => rfl
/- slots: 0:name -/

def spKN (T : List (Addr × Str)) (a : KA) : Sp := fun vs H Q _ => ∃ c : Kd, vs = [.str (kn c)] ∧ ∀ H' p dx, Fr T Nl H H' → H' p = some (.ins (a.cA c) dx []) → Q (.ref p) H'
theorem knI (c d : Kd) {A B : Prop} (h1 : c = d → A) (h2 : c ≠ d → B) : if kn c = kn d then A else B := by
  by_cases h : kn c = kn d
  · rw [if_pos h]; exact h1 (kn_inj h)
  · rw [if_neg h]; exact h2 fun z => h (by rw [z])
theorem ok_kind_named (Y : Fx K mg fA fdA) (Z : Kx P K mg base Pt a) : FnOk P w K mg base CX0 1 (fA 14) (fdA 14) P14 (spKN T a) := by
  refine (Y.d 14 _ rfl).2.ok sc14 (fun vs H Q E h => by obtain ⟨_, rfl, _⟩ := h; rfl) (fun cdv A outer s H vs Q E hr h => ?_)
  refine ⟨_, PSs.nox (pss_one (ps_match (pv 0) (pms_str (pss_one (ps_ret (pe_mk0 (Z.mk0 .list) (by rfl) (Z.g .list))))
    (pms_str (pss_one (ps_ret (pe_mk0 (Z.mk0 .bag) (by rfl) (Z.g .bag))))
    (pms_str (pss_one (ps_ret (pe_mk0 (Z.mk0 .set) (by rfl) (Z.g .set))))
    (pms_str (pss_one (ps_ret (pe_mk0 (Z.mk0 .first) (by rfl) (Z.g .first))))
    (pms_str (pss_one (ps_ret (pe_mk0 (Z.mk0 .last) (by rfl) (Z.g .last))))
    (pms_str (pss_one (ps_ret (pe_mk0 (Z.mk0 .ends) (by rfl) (Z.g .ends))))
    (pms_str (pss_one (ps_ret (pe_mk0 (Z.mk0 .heads) (by rfl) (Z.g .heads))))
    (pms_str (pss_one (ps_ret (pe_mk0 (Z.mk0 .tails) (by rfl) (Z.g .tails))))
    (pms_any (pss_one ps_never)))))))))))), ?_⟩
  obtain ⟨c, rfl, hQ⟩ := h
  have fin : ∀ d, c = d → tMk0 (a.cA d) (L2.start N14 [V.str (kn c)]) H Q := fun d e x dx n1 n2 ne => by
    subst e
    have n1' : upd H dx (.own x) x = none := by rw [upd_ne ne.symm]; exact n1
    exact hQ _ x dx ((Fr.refl.new n2).new n1') upd_same
  refine ⟨_, rfl, _, rfl, knI c .list (fin .list) fun n1 => ?_⟩
  refine ⟨_, rfl, knI c .bag (fin .bag) fun n2 => ?_⟩
  refine ⟨_, rfl, knI c .set (fin .set) fun n3 => ?_⟩
  refine ⟨_, rfl, knI c .first (fin .first) fun n4 => ?_⟩
  refine ⟨_, rfl, knI c .last (fin .last) fun n5 => ?_⟩
  refine ⟨_, rfl, knI c .ends (fin .ends) fun n6 => ?_⟩
  refine ⟨_, rfl, knI c .heads (fin .heads) fun n7 => ?_⟩
  refine ⟨_, rfl, knI c .tails (fin .tails) fun n8 => ?_⟩
  cases c <;> contradiction
/-! plain_value -/
abbrev N15 : List Str := ["kind", "word"]
abbrev P15 : List Str := ["kind", "word"]
theorem sc15 : FnScope N15 P15 (dS 15) := ⟨rfl, rfl, rfl, by decide +kernel, rfl, by decide +kernel, by decide +kernel⟩
theorem b15 (Y : Fx K mg fA fdA) : Binds K (fdA 15) P15 [] := (Y.d 15 _ rfl).2.bindsN fun _ _ _ _ _ _ us hl => match us, hl with | [_, _], _ => rfl
/- slots: 0:kind 1:word -/

def spPV (T : List (Addr × Str)) : Sp := fun vs H Q _ => ∃ (c : Kd) (v : V) (u : List Int), vs = [.str (kn c), v] ∧ Wd H v u ∧ u.length ≤ 60 ∧ Tabs T H ∧ ∀ H' v', Fr T Nl H H' → Wd H' v' (plain c u) → Q v' H'
theorem ok_plain_value (Y : Fx K mg fA fdA) (Z : Kx P K mg base Pt a) : FnOk P w K mg base CX0 7 (fA 15) (fdA 15) P15 (spPV (TT Pt)) := by
  refine (Y.d 15 _ rfl).2.ok sc15 (fun vs H Q E h => by obtain ⟨_, _, _, rfl, _⟩ := h; rfl) (fun cdv A outer s H vs Q E hr h => ?_)
  obtain ⟨c, v, u, rfl, ⟨wa, rfl, hw⟩, hl, ht, hQ⟩ := h
  refine ⟨_, PSs.nox (pss_one (ps_ret (pe_meth (pe_call (ok_kind_named (T := TT Pt) Y Z) (hr.mono (by decide)) rfl (Y.d 14 _ rfl).1 (Y.d 14 _ rfl).2.kp (b14 Y) .nil pass0 (pa_cons (pv 0) pa_nil)) (Z.cl c) (Z.mPl c) (ok_plainM Y Z c) (hr.mono (by decide)) (bPl Z) .nil pass0 (pa_cons (pv 1) pa_nil)))), ?_⟩
  refine ⟨_, rfl, c, rfl, fun H1 p dx e1 hp => ⟨p, dx, [], rfl, hp, rfl, _, rfl, p, dx, wa, u, rfl, hp, e1.tup hw, hl, e1.tabs ht, fun H2 v' e2 hv' => hQ _ _ (e1.trans e2) hv'⟩⟩
/-! alike -/
abbrev N16 : List Str := ["kind", "left", "right", "merging"]
abbrev P16 : List Str := ["kind", "left", "right"]
theorem sc16 : FnScope N16 P16 (dS 16) := ⟨rfl, rfl, rfl, by decide +kernel, rfl, by decide +kernel, by decide +kernel⟩
theorem b16 (Y : Fx K mg fA fdA) : Binds K (fdA 16) P16 [] := (Y.d 16 _ rfl).2.bindsN fun _ _ _ _ _ _ us hl => match us, hl with | [_, _, _], _ => rfl
/- slots: 0:kind 1:left 2:right 3:merging -/

def spAlike (T : List (Addr × Str)) : Sp := fun vs H Q _ => ∃ (c : Kd) (v1 v2 : V) (u1 u2 : List Int), vs = [.str (kn c), v1, v2] ∧ Wd H v1 u1 ∧ Wd H v2 u2 ∧ u1.length ≤ 60 ∧ u2.length ≤ 60 ∧ Tabs T H ∧ ∀ H', Fr T Nl H H' → Q (.bl (decide (plain c u1 = plain c u2))) H'
theorem ok_alike (Y : Fx K mg fA fdA) (Z : Kx P K mg base Pt a) : FnOk P w K mg base CX0 7 (fA 16) (fdA 16) P16 (spAlike (TT Pt)) := by
  refine (Y.d 16 _ rfl).2.ok sc16 (fun vs H Q E h => by obtain ⟨_, _, _, _, _, rfl, _⟩ := h; rfl) (fun cdv A outer s H vs Q E hr h => ?_)
  obtain ⟨c, v1, v2, u1, u2, rfl, ⟨a1, rfl, h1⟩, ⟨a2, rfl, h2⟩, l1, l2, ht, hQ⟩ := h
  refine ⟨_, PSs.nox (pss_cons (ps_set (i := 3) sc16.nd rfl (.inl rfl) (pe_call (ok_kind_named (T := TT Pt) Y Z) (hr.mono (by decide)) rfl (Y.d 14 _ rfl).1 (Y.d 14 _ rfl).2.kp (b14 Y) .nil pass0 (pa_cons (pv 0) pa_nil))) (pss_one (ps_ret (pe_cmpR (op_eqD hr.units) (pe_meth (pv 3) (Z.cl c) (Z.mPl c) (ok_plainM Y Z c) (hr.mono (by decide)) (bPl Z) .nil pass0 (pa_cons (pv 1) pa_nil)) (pe_meth (pv 3) (Z.cl c) (Z.mPl c) (ok_plainM Y Z c) (hr.mono (by decide)) (bPl Z) .nil pass0 (pa_cons (pv 2) pa_nil)) (nomark _))))), ?_⟩
  refine ⟨_, rfl, c, rfl, fun H1 p dx e1 hp => ⟨_, rfl, p, dx, [], rfl, hp, rfl, _, rfl, p, dx, a1, u1, rfl, hp, e1.tup h1, l1, e1.tabs ht, fun H2 v1 e2 hv1 => ⟨_, rfl, p, dx, [], rfl, e2.ins hp, rfl, _, rfl, p, dx, a2, u2, rfl, e2.ins hp, (e1.trans e2).tup h2, l2, (e1.trans e2).tabs ht, fun H3 v2 e3 hv2 => eqW (u := plain c u1) (v := plain c u2) (hv1.fr e3) hv2 (hQ _ ((e1.trans e2).trans e3))⟩⟩⟩
end
end K4
namespace K4
open PySem PySem.Spec PyProof.Rows L2 LamX
theorem good_rules {c : Kd} {m : Nat → Nat → Nat} {n : Nat} (G : Good c m n) {i : Nat} {r : Rul} (h : (rl c)[i]? = some r) : Keeps m n r := G.rules r (List.mem_of_getElem? h)
/-- the merge of the parts of a side, from the left -/
theorem fold_plain (c : Kd) (g : Nat → List Int) : ∀ (ds : List Nat) (u : List Int), ds.foldl (fun m d => plain c (m ++ g d)) (plain c u) = plain c (u ++ ds.flatMap g)
  | [], u => by rw [List.flatMap_nil, List.append_nil] <;> rfl
  | d :: ds, u => by
    rw [List.foldl_cons, plain_l, fold_plain c g ds, List.flatMap_cons, List.append_assoc]
theorem cutS_tail (d : Nat) (ds : List Nat) : cutS (dtx (d :: ds)) (some 1) none = dtx ds := by
  unfold cutS
  have e : (dtx (d :: ds)).length = ds.length + 1 := dtx_size (d :: ds)
  rw [e, HT.sIx_none]
  have e2 : HT.sIx (ds.length + 1) 0 (some 1) = 1 := by
    rw [show (some (1 : Int)) = some ((1 : Nat) : Int) from rfl, HT.sIx_nat]
    omega
  rw [e2]
  show (⟨_⟩ : Str) = _
  unfold dtx
  simp
  exact List.take_of_length_le (by simp)
section
variable {P : Program} {w : World} {K : PySem.W.Frag} {mg : Str → Option Value} {base : Heap} {fA : Nat → Addr} {fdA : Nat → FuncData} {Pt : Addr} {T : List (Addr × Str)} {H H' : Hp} {a : KA} {CT : Addr} {gA : Nat → Addr} {gdA : Nat → FuncData}
abbrev N217 : List Str := ["self", "kind", "rules", "three", "rule", "chosen"]
abbrev P217 : List Str := ["self", "kind"]

theorem sc217 : FnScope N217 P217 (defScope (mS 7)) := ⟨rfl, rfl, rfl, by decide +kernel, rfl, by decide +kernel, by decide +kernel⟩
def spTFa (T : List (Addr × Str)) (CT : Addr) : Sp := fun vs H Q _ => ∃ (c : Kd) (v : V) (rows : List (List Nat)), vs = [v, .str (kn c)] ∧ TabAt CT H v rows ∧ Wf rows ∧ rows.length ≤ 50 ∧ Good c (mr rows) rows.length ∧ ∀ H', Fr T Nl H H' → Q .non H'
theorem ok_tfault (Y : Fx K mg fA fdA) (X : Kx P K mg base Pt a) (Z : Tx K mg CT gA gdA) : FnOk P w K mg base CX0 4 (gA 7) (gdA 7) P217 (spTFa T CT) := by
  refine (Z.d 7 _ _ rfl).ok sc217 (fun vs H Q E h => by obtain ⟨_, _, _, rfl, _⟩ := h; rfl) (fun cdv A outer s H vs Q E hr h => ?_)
  refine ⟨_, PSs.nox (pss_cons (ps_set (i := 2) sc217.nd rfl (by first | exact .inl rfl | exact .inr rfl) (pe_con (pe_call (ok_kind_named (T := T) Y X) (hr.mono (by decide)) rfl (Y.d 14 _ rfl).1 (Y.d 14 _ rfl).2.kp (b14 Y) .nil pass0 (pa_cons (pv 1) pa_nil)) rfl))
    (pss_cons (ps_set (i := 3) sc217.nd rfl (by first | exact .inl rfl | exact .inr rfl) (pe_meth0 (pv 0) Z.cl (Z.m 5 _ _ rfl (by decide)) (ok_tungrouped (T := T) Y Z) (hr.mono (by decide)) (bT5 Z) .nil pass0))
    (pss_cons (ps_if (pt_cmpR op_notN (pv 3) pe_non (nomark _)) (pss_one (ps_ret (pe_tup (pa_cons pe_str (pa_cons (pv 3) pa_nil))))) pss_nil)
    (pss_cons (ps_for PassesOwn.never rfl (pi_tup (pv 2)) (pg_name (i := 4) sc217.nd rfl (by first | exact .inl rfl | exact .inr rfl)) (pss_cons (ps_set (i := 5) sc217.nd rfl (by first | exact .inl rfl | exact .inr rfl) (pe_meth (pv 0) Z.cl (Z.m 6 _ _ rfl (by decide)) (ok_tbreaking (T := T) Y Z) (hr.mono (by decide)) (bT6 Z) .nil pass0 (pa_cons (pv 4) pa_nil)))
    (pss_one (ps_if (pt_cmpR op_notN (pv 5) pe_non (nomark _)) (pss_one (ps_ret (pe_tup (pa_cons (pv 4) (pa_cons (pv 5) pa_nil))))) pss_nil))))
    (pss_one (ps_ret pe_non)))))), ?_⟩
  obtain ⟨c, v, rows, rfl, hv, W, hn, G, hQ⟩ := h
  obtain ⟨tp, dx, rv, rfl, htp, hrv⟩ := id hv
  obtain ⟨ra, ru, hcon, hrt⟩ := X.rules c
  refine ⟨_, rfl, c, rfl, fun H1 p pdx e1 hp => ⟨p, a.cA c, pdx, [], .ref ra, ru, rfl, hp, X.cl c, hcon, rfl, ?_⟩⟩
  refine ⟨_, rfl, tp, dx, _, rfl, e1.ins htp, flN (by decide +kernel), .ref tp, rows, rfl, hv.fr e1, W, hn, G.assoc, fun H2 e2 => ?_⟩
  refine ⟨_, rfl, rfl, _, rfl, nI (fun hbad => absurd rfl hbad) fun _ => ?_⟩
  refine ⟨_, rfl, ra, rfl, ⟨_, hrt H2⟩, for_tup (xs := (rl c).map fun r => V.str (rt r)) (fun i σ H' => ∃ (u4 u5 : Option V), σ = [some (.ref tp), some (.str (kn c)), some (.ref ra), some .non, u4, u5] ∧ Fr T Nl H H') ⟨_, _, rfl, e1.trans e2⟩ (fun i σ H' _ _ => hrt H') ?_ ?_⟩
  · rintro i x σ H3 hx ⟨u4, u5, rfl, e⟩
    rw [List.getElem?_map] at hx
    obtain ⟨r, hr, rfl⟩ := Option.map_eq_some_iff.mp hx
    refine ⟨_, rfl, tp, dx, _, rfl, e.ins htp, flN (by decide +kernel), _, rfl, c, r, .ref tp, rows, rfl, List.mem_of_getElem? hr, hv.fr e, W, hn, good_rules G hr, fun H4 e4 => ?_⟩
    refine ⟨_, rfl, rfl, _, rfl, nI (fun hbad => absurd rfl hbad) fun _ => ⟨_, _, rfl, e.trans e4⟩⟩
  · rintro σ H3 ⟨u4, u5, rfl, e⟩
    exact hQ _ e
/-! merged -/
abbrev N36 : List Str := ["_law_kind_here", "_law_parts", "_law_side", "_law_merged_here", "_law_letter"]
abbrev P36 : List Str := ["_law_kind_here", "_law_parts", "_law_side"]
theorem sc36 : FnScope N36 P36 (dS 36) := ⟨rfl, rfl, rfl, by decide +kernel, rfl, by decide +kernel, by decide +kernel⟩
theorem b36 (Y : Fx K mg fA fdA) : Binds K (fdA 36) P36 [] := (Y.d 36 _ rfl).2.bindsN fun _ _ _ _ _ _ us hl => match us, hl with | [_, _, _], _ => rfl
/- slots: 0:_law_kind_here 1:_law_parts 2:_law_side 3:_law_merged_here 4:_law_letter -/

abbrev gP (ps : List (List Int)) (d : Nat) : List Int := ps.getD d [0]
def spMerged (T : List (Addr × Str)) : Sp := fun vs H Q _ => ∃ (c : Kd) (v : V) (ps : List (List Int)) (d : Nat) (ds : List Nat), vs = [.str (kn c), v, .str (dtx (d :: ds))] ∧ Lof tI H v ps ∧ ps.length = 3 ∧ (∀ p ∈ ps, plain c p = p ∧ p.length ≤ 7) ∧ (∀ x ∈ d :: ds, x < 3) ∧ ds.length ≤ 3 ∧ Tabs T H ∧
  ∀ H' v', Fr T Nl H H' → Wd H' v' (plain c ((d :: ds).flatMap (gP ps))) → Q v' H'
theorem Lof.at_ {v : V} {ps : List (List Int)} {i : Nat} {Q : VK} (h : Lof tI H v ps) (hi : i < ps.length) (q : ∀ b : Addr, H b = some (tI (ps.getD i [0])) → Q (.ref b) H) : rIxL K v (.int (i : Nat)) H Q := by
  obtain ⟨p, vs, rfl, hp, he⟩ := h
  obtain ⟨b, h1, h2⟩ := he.get hi
  refine ⟨p, _, _, _, rfl, rfl, SqL.of hp, atI_nat h1, q b ?_⟩
  rw [h2, List.getD_eq_getElem?_getD, List.getElem?_eq_getElem hi] <;> rfl
theorem Lof.atE {v : V} {ps : List (List Int)} {i : Nat} {z : Int} {Q : VK} (h : Lof tI H v ps) (hi : i < ps.length) (e : z = (i : Int)) (q : ∀ b : Addr, H b = some (tI (ps.getD i [0])) → Q (.ref b) H) : rIxL K v (.int z) H Q := by
  subst e
  exact h.at_ hi q
theorem ok_merged (Y : Fx K mg fA fdA) (X : Kx P K mg base Pt a) : FnOk P w K mg base CX0 8 (fA 36) (fdA 36) P36 (spMerged (TT Pt)) := by
  refine (Y.d 36 _ rfl).2.ok sc36 (fun vs H Q E h => by obtain ⟨_, _, _, _, _, rfl, _⟩ := h; rfl) (fun cdv A outer s H vs Q E hr h => ?_)
  refine ⟨_, PSs.nox (pss_cons (ps_set (i := 3) sc36.nd rfl (by first | exact .inl rfl | exact .inr rfl) (pe_ix ix_list (pv 1) (pe_op op_sub (pe_callTy call_int_str (by rfl) Y.int (by decide +kernel) (pa_cons (pe_ix ix_str (pv 2) pe_int (fun _ _ => rfl)) pa_nil)) pe_int) (fun _ _ => rfl)))
    (pss_cons (ps_for PassesOwn.never rfl (pi_str (pe_slice sl_str (pv 2) (po_some pe_int) po_none)) (pg_name (i := 4) sc36.nd rfl (by first | exact .inl rfl | exact .inr rfl)) (pss_one (ps_set (i := 3) sc36.nd rfl (by first | exact .inl rfl | exact .inr rfl) (pe_call (ok_plain_value Y X) (hr.mono (by decide)) rfl (Y.d 15 _ rfl).1 (Y.d 15 _ rfl).2.kp (b15 Y) .nil pass0 (pa_cons (pv 0) (pa_cons (pe_op op_catA (pv 3) (pe_ix ix_list (pv 1) (pe_op op_sub (pe_callTy call_int_str (by rfl) Y.int (by decide +kernel) (pa_cons (pv 4) pa_nil)) pe_int) (fun _ _ => rfl))) pa_nil))))))
    (pss_one (ps_ret (pv 3))))), ?_⟩
  obtain ⟨c, v, ps, d, ds, rfl, hv, hl3, hpl, hdl, hd3, ht, hQ⟩ := h
  have hd : d < 3 := hdl d List.mem_cons_self
  have hat : atI (dtx (d :: ds)).cps.toList 0 = some (49 + d) := by
    show atI (dtx (d :: ds)).cps.toList ((0 : Nat) : Int) = _
    refine atI_nat ?_
    unfold dtx
    simp
  have hg : ∀ x, x < 3 → plain c (gP ps x) = gP ps x ∧ (gP ps x).length ≤ 7 := fun x hx => by
    have : gP ps x ∈ ps := by
      unfold gP
      rw [List.getD_eq_getElem?_getD, List.getElem?_eq_getElem (by omega)]
      exact List.getElem_mem _
    exact hpl _ this
  have hsz := size_big
  have hdz : (dtx (d :: ds)).length ≤ 10 := by
    have := dtx_size (d :: ds)
    show (dtx (d :: ds)).cps.size ≤ 10
    rw [this, List.length_cons]
    omega
  refine ⟨_, rfl, _, rfl, _, _, _, rfl, rfl, by omega, hat, _, _, rfl, digit_text (by omega), by show 1 ≤ 640; decide, _, _, rfl, rfl, ?_⟩
  refine hv.atE (i := d) (by omega) (by omega) fun b hb => ?_
  refine ⟨_, rfl, 1, rfl, noPart_ ⟨_, rfl, by omega, ?_⟩⟩
  rw [cutS_tail]
  let F : List Int → Nat → List Int := fun m d => plain c (m ++ gP ps d)
  refine ⟨_, rfl, for_it walk_str (fun i σ H' => ∃ (u4 : Option V) (m : Addr), σ = [some (.str (kn c)), some v, some (.str (dtx (d :: ds))), some (.ref m), u4] ∧ Fr (TT Pt) Nl H H' ∧ H' m = some (tI ((ds.take i).foldl F (gP ps d))) ∧ ((ds.take i).foldl F (gP ps d)).length ≤ 8 * (i + 1)) ⟨_, b, rfl, Fr.refl, hb, by show (gP ps d).length ≤ 8 * (0 + 1); have := (hg d hd).2; omega⟩ (fun _ _ _ _ _ => trivial) ?_ ?_⟩
  · rintro i x σ H1 _ hi ⟨u4, m, rfl, e, hm, hml⟩ ⟨rfl, ch, hch, rfl⟩
    obtain ⟨hi', rfl⟩ := dtx_at hch
    have hx3 : ds.getD i 0 < 3 := hdl _ (List.mem_cons_of_mem _ (getD_mem hi'))
    have hgx := hg _ hx3
    refine ⟨_, rfl, _, rfl, _, rfl, _, rfl, _, _, rfl, digit_text (by omega), by show 1 ≤ 640; decide, _, _, rfl, rfl, (hv.fr (fun _ => rfl) e).atE (i := ds.getD i 0) (by omega) (by omega) fun b2 hb2 => ?_⟩
    refine catT (T := TT Pt) (xs := iv _) (ys := iv (gP ps (ds.getD i 0))) hm hb2 (by rw [List.length_map, List.length_map]; omega) fun H2 z e2 hz => ?_
    rw [← iv_append] at hz
    refine ⟨c, .ref z, _, rfl, ⟨z, rfl, hz⟩, by rw [List.length_append]; omega, (e.trans e2).tabs ht, fun H3 v' e3 hv' => ?_⟩
    obtain ⟨m', rfl, hm'⟩ := hv'
    have hF : (ds.take (i + 1)).foldl F (gP ps d) = plain c ((ds.take i).foldl F (gP ps d) ++ gP ps (ds.getD i 0)) := by
      rw [take_succN hi', List.foldl_append] <;> rfl
    refine ⟨_, m', rfl, (e.trans e2).trans e3, by rw [hF]; exact hm', ?_⟩
    rw [hF]
    have := plain_len c ((ds.take i).foldl F (gP ps d) ++ gP ps (ds.getD i 0))
    rw [List.length_append] at this
    omega
  · rintro σ H1 ⟨u4, m, rfl, e, hm, hml⟩
    rw [dtx_size, List.take_length] at hm
    refine ⟨_, rfl, hQ _ _ e ⟨m, rfl, ?_⟩⟩
    rw [hm, ← (hg d hd).1]
    show some (tI (ds.foldl (fun m d => plain c (m ++ gP ps d)) (plain c (gP ps d)))) = _
    rw [fold_plain, List.flatMap_cons]
/-! ruled -/
theorem rule_small {c : Kd} {r : Rul} (h : r ∈ rl c) : many r ≤ 3 ∧ r.1.length ≤ 3 ∧ r.2.length ≤ 3 := by
  have key : ∀ q ∈ [(([0, 1], [1, 0]) : Rul), ([0, 0], [0]), ([0, 1], [0]), ([0, 1], [1]), ([0, 1, 2], [0, 2]), ([0, 1, 0], [0, 1]), ([0, 1, 0], [1, 0])], many q ≤ 3 ∧ q.1.length ≤ 3 ∧ q.2.length ≤ 3 := by decide +kernel
  apply key
  cases c <;> simp only [rl, List.mem_cons, List.not_mem_nil, or_false] at h ⊢ <;> first | exact h.elim | (rcases h with rfl | rfl <;> simp) | (subst h; simp)
abbrev N37 : List Str := ["_law_kind_here", "_law_words", "_law_parts", "_law_word_here", "_law_k", "_law_one", "_law_two", "_law_end", "_law_both", "_law_rear", "_law_rule", "_law_left", "_law_right"]
abbrev P37 : List Str := ["_law_kind_here", "_law_words"]
theorem sc37 : FnScope N37 P37 (dS 37) := ⟨rfl, rfl, rfl, by decide +kernel, rfl, by decide +kernel, by decide +kernel⟩
theorem b37 (Y : Fx K mg fA fdA) : Binds K (fdA 37) P37 [] := (Y.d 37 _ rfl).2.bindsN fun _ _ _ _ _ _ us hl => match us, hl with | [_, _], _ => rfl
/- slots: 0:_law_kind_here 1:_law_words 2:_law_parts 3:_law_word_here 4:_law_k 5:_law_one 6:_law_two 7:_law_end 8:_law_both 9:_law_rear 10:_law_rule 11:_law_left 12:_law_right -/

def spRuled (T : List (Addr × Str)) : Sp := fun vs H Q _ => ∃ (c : Kd) (v : V) (ws : List (List Int)), vs = [.str (kn c), v] ∧ Lof tI H v ws ∧ ws.length = 3 ∧ (∀ p ∈ ws, p ≠ [] ∧ p.length ≤ 6) ∧ Tabs T H ∧ ∀ H', Fr T Nl H H' → Q (.bl true) H'
theorem ok_ruled (Y : Fx K mg fA fdA) (X : Kx P K mg base Pt a) : FnOk P w K mg base CX0 9 (fA 37) (fdA 37) P37 (spRuled (TT Pt)) := by
  refine (Y.d 37 _ rfl).2.ok sc37 (fun vs H Q E h => by obtain ⟨_, _, _, rfl, _⟩ := h; rfl) (fun cdv A outer s H vs Q E hr h => ?_)
  refine ⟨_, PSs.nox (pss_cons (ps_setLc (own := [("_law_word_here", 3)]) (g := gName 3) (tt := tYes) (i := 2) rfl sc37.nd rfl rfl (sw_true rfl rfl rfl (by decide +kernel)) (pi_list (pv 1)) (blkOk_by (own := [("_law_word_here", 3)]) (N := N37) (sc := (dS 37)) (by decide +kernel)) (fun _ _ _ _ _ => (pg_name (i := 3) sc37.nd rfl (by first | exact .inl rfl | exact .inr rfl))) (fun _ _ _ _ _ => pts_nil) (fun _ _ _ _ _ => (pe_call (ok_plain_value Y X) (hr.mono (by decide)) rfl (Y.d 15 _ rfl).1 (Y.d 15 _ rfl).2.kp (b15 Y) .nil pass0 (pa_cons (pv 0) (pa_cons (pv 3) pa_nil)))))
    (pss_cons (ps_for PassesOwn.never rfl (pi_range1 (by rfl) Y.range (pa_cons pe_int pa_nil)) (pg_name (i := 4) sc37.nd rfl (by first | exact .inl rfl | exact .inr rfl)) (pss_one (ps_if (pt_cmpR (op_neD hr.units) (pe_ix ix_list (pv 2) (pv 4) (fun _ _ => rfl)) (pe_call (ok_plain (T := TT Pt) Y) (hr.mono (by decide)) rfl (Y.d 29 _ rfl).1 (Y.d 29 _ rfl).2.kp (b29 Y) .nil pass0 (pa_cons (pv 0) (pa_cons (pe_ix ix_list (pv 1) (pv 4) (fun _ _ => rfl)) pa_nil))) (nomark _)) (pss_one (ps_ret pe_bl)) pss_nil)))
    (pss_cons (ps_for PassesOwn.never rfl (pi_range1 (by rfl) Y.range (pa_cons pe_int pa_nil)) (pg_name (i := 4) sc37.nd rfl (by first | exact .inl rfl | exact .inr rfl)) (pss_cons (ps_asg (pv 2) (pg_unl rfl (pgs_cons (pg_name (i := 5) sc37.nd rfl (by first | exact .inl rfl | exact .inr rfl)) (pgs_cons (pg_name (i := 6) sc37.nd rfl (by first | exact .inl rfl | exact .inr rfl)) (pgs_cons (pg_name (i := 7) sc37.nd rfl (by first | exact .inl rfl | exact .inr rfl)) pgs_nil)))))
    (pss_cons (ps_set (i := 8) sc37.nd rfl (by first | exact .inl rfl | exact .inr rfl) (pe_call (ok_plain_value Y X) (hr.mono (by decide)) rfl (Y.d 15 _ rfl).1 (Y.d 15 _ rfl).2.kp (b15 Y) .nil pass0 (pa_cons (pv 0) (pa_cons (pe_op op_catA (pv 5) (pv 6)) pa_nil))))
    (pss_cons (ps_set (i := 9) sc37.nd rfl (by first | exact .inl rfl | exact .inr rfl) (pe_call (ok_plain_value Y X) (hr.mono (by decide)) rfl (Y.d 15 _ rfl).1 (Y.d 15 _ rfl).2.kp (b15 Y) .nil pass0 (pa_cons (pv 0) (pa_cons (pe_op op_catA (pv 6) (pv 7)) pa_nil))))
    (pss_cons (ps_if (pt_cmpR (op_neD hr.units) (pe_call (ok_plain_value Y X) (hr.mono (by decide)) rfl (Y.d 15 _ rfl).1 (Y.d 15 _ rfl).2.kp (b15 Y) .nil pass0 (pa_cons (pv 0) (pa_cons (pe_op op_catA (pv 8) (pv 7)) pa_nil))) (pe_call (ok_plain_value Y X) (hr.mono (by decide)) rfl (Y.d 15 _ rfl).1 (Y.d 15 _ rfl).2.kp (b15 Y) .nil pass0 (pa_cons (pv 0) (pa_cons (pe_op op_catA (pv 5) (pv 9)) pa_nil))) (nomark _)) (pss_one (ps_ret pe_bl)) pss_nil)
    (pss_cons (ps_for PassesOwn.never rfl (pi_tup (pe_call (ok_rules (T := TT Pt) Y) (hr.mono (by decide)) rfl (Y.d 31 _ rfl).1 (Y.d 31 _ rfl).2.kp (b31 Y) .nil pass0 (pa_cons (pv 0) pa_nil))) (pg_name (i := 10) sc37.nd rfl (by first | exact .inl rfl | exact .inr rfl)) (pss_cons (ps_asg (pe_split (pv 10) pe_str) (pg_unl rfl (pgs_cons (pg_name (i := 11) sc37.nd rfl (by first | exact .inl rfl | exact .inr rfl)) (pgs_cons (pg_name (i := 12) sc37.nd rfl (by first | exact .inl rfl | exact .inr rfl)) pgs_nil))))
    (pss_one (ps_if (pt_cmpR (op_neD hr.units) (pe_call (ok_merged Y X) (hr.mono (by decide)) rfl (Y.d 36 _ rfl).1 (Y.d 36 _ rfl).2.kp (b36 Y) .nil pass0 (pa_cons (pv 0) (pa_cons (pv 2) (pa_cons (pv 11) pa_nil)))) (pe_call (ok_merged Y X) (hr.mono (by decide)) rfl (Y.d 36 _ rfl).1 (Y.d 36 _ rfl).2.kp (b36 Y) .nil pass0 (pa_cons (pv 0) (pa_cons (pv 2) (pa_cons (pv 12) pa_nil)))) (nomark _)) (pss_one (ps_ret pe_bl)) pss_nil))))
    (pss_one (ps_set (i := 2) sc37.nd rfl (by first | exact .inl rfl | exact .inr rfl) (pe_lst (pa_cons (pv 6) (pa_cons (pv 7) (pa_cons (pv 5) pa_nil))))))))))))
    (pss_one (ps_ret pe_bl))))), ?_⟩
  obtain ⟨c, v, ws, rfl, hv, hl3, hws, ht, hQ⟩ := h
  have z0 : ∀ i : Nat, ((0 : Int) + (i : Int)) = (i : Int) := fun i => by omega
  obtain ⟨wa, wvs, rfl, hwa, hwe⟩ := id hv
  have hwl : wvs.length = 3 := by rw [hwe.1, hl3]
  have hsz := size_big
  refine ⟨_, rfl, wa, rfl, ⟨_, SqL.of hwa⟩, fun D nD => lc_list (K := K) (xs := wvs) (fun i H' => ∃ vs', H' D = some (.lst vs') ∧ Each tI H' vs' ((ws.map (plain c)).take i) ∧ Fr (TT Pt) Nl H H') ⟨[], upd_same, Each.nil, Fr.refl.new nD⟩ (fun i H' _ ⟨_, _, _, ez⟩ => SqL.of (ez.lst hwa)) ?_ ?_⟩
  · rintro i x H1 hx ⟨vs', hD, he, e⟩
    obtain ⟨b, p, rfl, hp, hb⟩ := hwe.at_ hx
    have hi : i < ws.length := (List.getElem?_eq_some_iff.mp hp).1
    have hpw := hws p (List.mem_of_getElem? hp)
    refine ⟨rfl, _, rfl, _, rfl, c, .ref b, p, rfl, ⟨b, rfl, e.tup hb⟩, by omega, e.tabs ht, fun H2 v' e2 hv' => ?_⟩
    obtain ⟨q, rfl, hq⟩ := hv'
    have hD2 := e2.lst hD
    refine ⟨vs', hD2, ?_, vs' ++ [.ref q], upd_same, ?_, (e.trans e2).put nD hD2 rfl⟩
    · rw [he.1, List.length_take]
      omega
    · rw [List.take_add_one, List.getElem?_map, hp]
      refine ((he.fr (fun _ => rfl) e2).putT hD2).snoc ?_
      rw [upd_ne (fun z => by rw [z, hD2] at hq; cases hq)]
      exact hq
  rintro H1 ⟨vs', hD, he, e1⟩
  rw [hwl, List.take_of_length_le (by rw [List.length_map, hl3]; exact Nat.le_refl _)] at he
  have hP : Lof tI H1 (.ref D) (ws.map (plain c)) := ⟨D, vs', rfl, hD, he⟩
  have hPl : (ws.map (plain c)).length = 3 := by rw [List.length_map, hl3]
  refine ⟨3, rfl, by decide, by decide, for_range (n := 3) (fun i σ H' => ∃ (u3 u4 u5 u6 u7 u8 u9 u10 u11 u12 : Option V), σ = [some (.str (kn c)), some (.ref wa), some (.ref D), u3, u4, u5, u6, u7, u8, u9, u10, u11, u12] ∧ Fr (TT Pt) Nl H1 H') ⟨_, _, _, _, _, _, _, _, _, _, rfl, Fr.refl⟩ ?_ ?_⟩
  · rintro i σ H2 hi ⟨u3, u4, u5, u6, u7, u8, u9, u10, u11, u12, rfl, e⟩
    have eg : (ws.map (plain c)).getD i [0] = plain c (ws.getD i [0]) := by
      rw [List.getD_eq_getElem?_getD, List.getElem?_map, List.getD_eq_getElem?_getD, List.getElem?_eq_getElem (by omega)] <;> rfl
    have hw6 : (ws.getD i [0]).length ≤ 6 := by
      rw [List.getD_eq_getElem?_getD, List.getElem?_eq_getElem (by omega)]
      exact (hws _ (List.getElem_mem _)).2
    refine ⟨_, rfl, _, rfl, (hP.fr (fun _ => rfl) e).atE (i := i) (by omega) (z0 i) fun b hb => ⟨_, rfl, _, rfl, _, rfl, (hv.fr (fun _ => rfl) (e1.trans e)).atE (i := i) (by omega) (z0 i) fun b2 hb2 => ⟨c, _, _, rfl, ⟨b2, rfl, hb2⟩, by omega, fun H3 v' e3 hv' => ?_⟩⟩⟩
    rw [eg] at hb
    refine neW ⟨b, rfl, e3.tup hb⟩ hv' ⟨_, rfl, nI (fun hbad => absurd rfl hbad) fun _ => ⟨_, _, _, _, _, _, _, _, _, _, rfl, e.trans e3⟩⟩
  · rintro σ H2 ⟨u3, u4, u5, u6, u7, u8, u9, u10, u11, u12, rfl, e⟩
    refine ⟨3, rfl, by decide, by decide, for_range (n := 3) (fun i σ H' => ∃ (pv : V) (ps : List (List Int)) (u3 u4 u5 u6 u7 u8 u9 u10 u11 u12 : Option V), σ = [some (.str (kn c)), some (.ref wa), some pv, u3, u4, u5, u6, u7, u8, u9, u10, u11, u12] ∧ Fr (TT Pt) Nl H H' ∧ Lof tI H' pv ps ∧ ps.length = 3 ∧ ∀ p ∈ ps, p ≠ [] ∧ plain c p = p ∧ p.length ≤ 7)
      ⟨.ref D, ws.map (plain c), _, _, _, _, _, _, _, _, _, _, rfl, e1.trans e, hP.fr (fun _ => rfl) e, hPl, ?_⟩ ?_ ?_⟩
    · intro p hp
      obtain ⟨q, hq, rfl⟩ := List.mem_map.mp hp
      have := hws q hq
      have := plain_len c q
      exact ⟨plain_ne c (hws q hq).1, plain_plain c q, by omega⟩
    · rintro i σ H3 hi ⟨pv, ps, u3, u4, u5, u6, u7, u8, u9, u10, u11, u12, rfl, e3, ⟨pa, pvs, rfl, hpa, hpe⟩, hp3, hps⟩
      have hex : ∃ x y z, ps = [x, y, z] := by
        match ps, hp3 with
        | [x, y, z], _ => exact ⟨x, y, z, rfl⟩
      obtain ⟨x, y, z, rfl⟩ := hex
      obtain ⟨b1, f1, hb1⟩ := hpe.2 0 x rfl
      obtain ⟨b2, f2, hb2⟩ := hpe.2 1 y rfl
      obtain ⟨b3, f3, hb3⟩ := hpe.2 2 z rfl
      have hvs : pvs = [.ref b1, .ref b2, .ref b3] := by
        have hl := hpe.1
        match pvs, hl, f1, f2, f3 with
        | [_, _, _], _, rfl, rfl, rfl => rfl
      subst hvs
      obtain ⟨hx0, hxp, hxl⟩ := hps x (by simp)
      obtain ⟨hy0, hyp, hyl⟩ := hps y (by simp)
      obtain ⟨hz0, hzp, hzl⟩ := hps z (by simp)
      refine ⟨_, rfl, pa, _, rfl, SqL.of hpa, rfl, _, _, rfl, _, _, rfl, _, _, rfl, rfl, ?_⟩
      -- both
      refine ⟨_, rfl, _, rfl, _, rfl, catW (T := TT Pt) (u := x) (v := y) ⟨b1, rfl, hb1⟩ ⟨b2, rfl, hb2⟩ (by omega) fun H4 z4 e4 h4 => ⟨c, z4, x ++ y, rfl, h4, by rw [List.length_append]; omega, (e3.trans e4).tabs ht, fun H5 v5 e5 h5 => ?_⟩⟩
      have e35 := e4.trans e5
      refine ⟨_, rfl, _, rfl, _, rfl, catW (T := TT Pt) (u := y) (v := z) ⟨b2, rfl, e35.tup hb2⟩ ⟨b3, rfl, e35.tup hb3⟩ (by omega) fun H6 z6 e6 h6 => ⟨c, z6, y ++ z, rfl, h6, by rw [List.length_append]; omega, (e3.trans (e35.trans e6)).tabs ht, fun H7 v7 e7 h7 => ?_⟩⟩
      have e37 := (e35.trans e6).trans e7
      have l5 := plain_len c (x ++ y)
      have l7 := plain_len c (y ++ z)
      rw [List.length_append] at l5 l7
      refine ⟨_, rfl, _, rfl, _, rfl, catW (T := TT Pt) (u := plain c (x ++ y)) (v := z) (h5.fr (e6.trans e7)) ⟨b3, rfl, e37.tup hb3⟩ (by omega) fun H8 z8 e8 h8 => ⟨c, z8, _, rfl, h8, by rw [List.length_append]; omega, (e3.trans (e37.trans e8)).tabs ht, fun H9 v9 e9 h9 => ?_⟩⟩
      have e39 := (e37.trans e8).trans e9
      refine ⟨_, rfl, _, rfl, _, rfl, catW (T := TT Pt) (u := x) (v := plain c (y ++ z)) ⟨b1, rfl, e39.tup hb1⟩ (h7.fr (e8.trans e9)) (by omega) fun HA zA eA hA => ⟨c, zA, _, rfl, hA, by rw [List.length_append]; omega, (e3.trans (e39.trans eA)).tabs ht, fun HB vB eB hB => ?_⟩⟩
      have e3B := (e39.trans eA).trans eB
      refine neW (h9.fr (eA.trans eB)) hB ⟨_, rfl, nI (fun hbad => absurd (plain_assoc c x y z) hbad) fun _ => ?_⟩
      have e0B := e3.trans e3B
      have hPB : Lof tI HB (.ref pa) [x, y, z] := ⟨pa, _, rfl, e3B.lst hpa, hpe.fr (fun _ => rfl) e3B⟩
      refine ⟨_, rfl, c, rfl, fun HC rp eC hrp => ⟨rp, rfl, ⟨_, SqT.of hrp⟩, for_tup (xs := (rl c).map fun r => V.str (rt r)) (fun j σ H' => ∃ (u4 u10 u11 u12 : Option V), σ = [some (.str (kn c)), some (.ref wa), some (.ref pa), u3, u4, some (.ref b1), some (.ref b2), some (.ref b3), some v5, some v7, u10, u11, u12] ∧ Fr (TT Pt) Nl HC H') ⟨_, _, _, _, rfl, Fr.refl⟩ (fun j σ H' _ ⟨_, _, _, _, _, ez⟩ => SqT.of (ez.tup hrp)) ?_ ?_⟩⟩
      · rintro j w σ HD hw ⟨u4, u10, u11, u12, rfl, eD⟩
        rw [List.getElem?_map] at hw
        obtain ⟨r, hr, rfl⟩ := Option.map_eq_some_iff.mp hw
        have hrl := List.mem_of_getElem? hr
        obtain ⟨hsp, hlen, hl1, hl2, hd1, hd2, hm⟩ := rule_split hrl
        obtain ⟨hne1, hne2, hlt1, hlt2⟩ := rl_ne hrl
        obtain ⟨hm3, hr13, hr23⟩ := rule_small hrl
        refine ⟨_, rfl, ⟨_, rfl⟩, _, _, rfl, rfl, by decide, Nat.le_trans (Nat.add_le_add_right hlen 2) (by decide), fun p np => ?_⟩
        rw [hsp]
        refine ⟨p, _, rfl, SqL.of upd_same, rfl, _, _, rfl, _, _, rfl, rfl, ?_⟩
        have eE : Fr (TT Pt) Nl HD (upd HD p (.lst (List.map V.str [dtx r.1, dtx r.2]))) := Fr.refl.new np
        generalize upd HD p (.lst (List.map V.str [dtx r.1, dtx r.2])) = HE at eE
        obtain ⟨d1, ds1, q1⟩ := List.exists_cons_of_ne_nil hne1
        obtain ⟨d2, ds2, q2⟩ := List.exists_cons_of_ne_nil hne2
        have eBE := (eC.trans eD).trans eE
        have hpl : ∀ p ∈ [x, y, z], plain c p = p ∧ p.length ≤ 7 := fun p hp => ⟨(hps p hp).2.1, (hps p hp).2.2⟩
        refine ⟨_, rfl, _, rfl, _, rfl, c, .ref pa, [x, y, z], d1, ds1, by rw [← q1] <;> rfl, hPB.fr (fun _ => rfl) eBE, rfl, hpl, fun x hx => by have := hlt1 x (by rw [q1]; exact hx); omega, by rw [q1, List.length_cons] at hr13; omega, (e0B.trans eBE).tabs ht, fun HF vF eF hF => ?_⟩
        refine ⟨_, rfl, _, rfl, _, rfl, c, .ref pa, [x, y, z], d2, ds2, by rw [← q2] <;> rfl, hPB.fr (fun _ => rfl) (eBE.trans eF), rfl, hpl, fun x hx => by have := hlt2 x (by rw [q2]; exact hx); omega, by rw [q2, List.length_cons] at hr23; omega, (e0B.trans (eBE.trans eF)).tabs ht, fun HG vG eG hG => ?_⟩
        refine neW (hF.fr eG) hG ⟨_, rfl, nI (fun hbad => absurd ?_ hbad) fun _ => ⟨_, _, _, _, rfl, ((eD.trans eE).trans eF).trans eG⟩⟩
        rw [← q1, ← q2]
        refine wi c r hrl (gP [x, y, z]) fun d => ?_
        unfold gP
        match d with
        | 0 => exact hx0
        | 1 => exact hy0
        | 2 => exact hz0
        | (n + 3) => exact List.cons_ne_nil _ _
      · rintro σ HD ⟨u4, u10, u11, u12, rfl, eD⟩
        have eBD := eC.trans eD
        refine ⟨_, rfl, _, rfl, _, rfl, by show 3 ≤ sizeLine; decide, fun np nnp => ?_⟩
        have eN : Fr (TT Pt) Nl HD (upd HD np (.lst [V.ref b2, V.ref b3, V.ref b1])) := Fr.refl.new nnp
        have hN : upd HD np (.lst [V.ref b2, V.ref b3, V.ref b1]) np = some (.lst [V.ref b2, V.ref b3, V.ref b1]) := upd_same
        generalize upd HD np (.lst [V.ref b2, V.ref b3, V.ref b1]) = HN at eN hN
        have e3N := (e3B.trans eBD).trans eN
        refine ⟨.ref np, [y, z, x], _, _, _, _, _, _, _, _, _, _, rfl, e3.trans e3N, ⟨np, _, rfl, hN, Each.cons (g := tI) (x := y) (Each.cons (g := tI) (x := z) (Each.cons (g := tI) (x := x) Each.nil (e3N.tup hb1)) (e3N.tup hb3)) (e3N.tup hb2)⟩, rfl, fun p hp => hps p ?_⟩
        simp only [List.mem_cons, List.not_mem_nil, or_false] at hp ⊢
        rcases hp with h | h | h
        · exact .inr (.inl h)
        · exact .inr (.inr h)
        · exact .inl h
    · rintro σ H3 ⟨pv, ps, u3, u4, u5, u6, u7, u8, u9, u10, u11, u12, rfl, e3, _⟩
      exact hQ _ e3
end
end K4
namespace K4
open PySem PySem.Spec PyProof.Rows L2 LamX
def wk (p : List Int) : List Key := p.map Sum.inl
theorem wk_kV (p : List Int) : (wk p).map kV = iv p := by
  unfold wk
  rw [List.map_map] <;> rfl
theorem wk_inj : ∀ {p q : List Int}, wk p = wk q → p = q
  | [], [], _ => rfl
  | [], _ :: _, h => nomatch h
  | _ :: _, [], h => nomatch h
  | x :: p, y :: q, h => by
    have h1 : (Sum.inl x : Key) :: wk p = Sum.inl y :: wk q := h
    injection h1 with h2 h3
    rw [Sum.inl.inj h2, wk_inj h3]
def PlaceOk (H : Hp) (d : Addr) (N : List (List Int)) : Prop := ∃ kvs : List (List Key × V), H d = some (.dT kvs) ∧ ∀ p : List Int, valV kvs (wk p) = if p ∈ N then some (.int (N.idxOf p : Nat)) else none
theorem PlaceOk.fr {T : List (Addr × Str)} {H H' : Hp} {d : Addr} {N : List (List Int)} (e : Fr T Nl H H') (h : PlaceOk H d N) : PlaceOk H' d N := by
  obtain ⟨kvs, h1, h2⟩ := h
  exact ⟨kvs, e.ext _ _ h1 id rfl, h2⟩
theorem PlaceOk.get {H : Hp} {d : Addr} {N : List (List Int)} {v : V} {p : List Int} (h : PlaceOk H d N) (hv : Wd H v p) : IsD H d ∧ DGet H d v (if p ∈ N then some (.int (N.idxOf p : Nat)) else none) := by
  obtain ⟨kvs, h1, h2⟩ := h
  obtain ⟨b, rfl, hb⟩ := hv
  refine ⟨.inr ⟨kvs, .inl h1⟩, ?_⟩
  rw [← h2 p]
  exact DGet.t h1 (by rw [wk_kV]; exact hb)
section
variable {P : Program} {w : World} {K : PySem.W.Frag} {mg : Str → Option Value} {base : Heap} {fA : Nat → Addr} {fdA : Nat → FuncData} {Pt : Addr} {T : List (Addr × Str)} {H H' : Hp} {a : KA} {CT : Addr} {gA : Nat → Addr} {gdA : Nat → FuncData}
/-- kind in ("list", "bag") -/
theorem inLB {σ : L2.St} {i : Nat} {c : Kd} {Q : Bool → Hp → Prop} (hσ : σ[i]? = some (some (.str (kn c)))) (h : ∀ H', Fr T Nl H H' → Q (ext c) H') : tTest (tOp (rIn K false) (tVar i) (tTup (tCons (tC (.str (kn .list))) (tCons (tC (.str (kn .bag))) tNil)))) σ H Q := by
  refine ⟨_, hσ, by show 2 ≤ sizeLine; decide, fun p np => ⟨p, _, rfl, .inr (SqT.of upd_same), rfl, rfl, _, rfl, ?_⟩⟩
  rw [if_neg (by decide), extB]
  exact h _ (Fr.refl.new np)
abbrev N39 : List Str := ["_law_kind_here", "_law_normals_here", "_law_places", "_law_rows", "_law_one", "_law_row", "_law_other", "_law_merged_here", "_law_k"]
abbrev P39 : List Str := ["_law_kind_here", "_law_normals_here", "_law_places"]
theorem sc39 : FnScope N39 P39 (dS 39) := ⟨rfl, rfl, rfl, by decide +kernel, rfl, by decide +kernel, by decide +kernel⟩
theorem b39 (Y : Fx K mg fA fdA) : Binds K (fdA 39) P39 [] := (Y.d 39 _ rfl).2.bindsN fun _ _ _ _ _ _ us hl => match us, hl with | [_, _, _], _ => rfl
/- slots: 0:_law_kind_here 1:_law_normals_here 2:_law_places 3:_law_rows 4:_law_one 5:_law_row 6:_law_other 7:_law_merged_here 8:_law_k -/

def spFreeT (T : List (Addr × Str)) : Sp := fun vs H Q _ => ∃ (c : Kd) (v : V) (d : Addr) (N : List (List Int)), vs = [.str (kn c), v, .ref d] ∧ Lof tI H v N ∧ N ≠ [] ∧ N.length ≤ 39 ∧ (∀ p ∈ N, p.length ≤ 4) ∧ PlaceOk H d N ∧ Tabs T H ∧ ∀ H' v', Fr T Nl H H' → Lof lN H' v' (freeRows c N) → Q v' H'
theorem ok_free (Y : Fx K mg fA fdA) (X : Kx P K mg base Pt a) : FnOk P w K mg base CX0 8 (fA 39) (fdA 39) P39 (spFreeT (TT Pt)) := by
  refine (Y.d 39 _ rfl).2.ok sc39 (fun vs H Q E h => by obtain ⟨_, _, _, _, rfl, _⟩ := h; rfl) (fun cdv A outer s H vs Q E hr h => ?_)
  refine ⟨_, PSs.nox (pss_cons (ps_set (i := 3) sc39.nd rfl (by first | exact .inl rfl | exact .inr rfl) (pe_lst pa_nil))
    (pss_cons (ps_for PassesOwn.never rfl (pi_list (pv 1)) (pg_name (i := 4) sc39.nd rfl (by first | exact .inl rfl | exact .inr rfl)) (pss_cons (ps_set (i := 5) sc39.nd rfl (by first | exact .inl rfl | exact .inr rfl) (pe_lst pa_nil))
    (pss_cons (ps_for PassesOwn.never rfl (pi_list (pv 1)) (pg_name (i := 6) sc39.nd rfl (by first | exact .inl rfl | exact .inr rfl)) (pss_cons (ps_set (i := 7) sc39.nd rfl (by first | exact .inl rfl | exact .inr rfl) (pe_call (ok_plain_value Y X) (hr.mono (by decide)) rfl (Y.d 15 _ rfl).1 (Y.d 15 _ rfl).2.kp (b15 Y) .nil pass0 (pa_cons (pv 0) (pa_cons (pe_op op_catA (pv 4) (pv 6)) pa_nil))))
    (pss_cons (ps_if (pt_cmpR (op_neD hr.units) (pv 7) (pe_call (ok_plain (T := TT Pt) Y) (hr.mono (by decide)) rfl (Y.d 29 _ rfl).1 (Y.d 29 _ rfl).2.kp (b29 Y) .nil pass0 (pa_cons (pv 0) (pa_cons (pe_op op_catA (pv 4) (pv 6)) pa_nil))) (nomark _)) (pss_one (ps_ret (pe_lst pa_nil))) pss_nil)
    (pss_one (ps_expr (pe_bm PySem.F.plainAttrs_list PySem.F.slot_list_append PySem.F.type_list_append mt_append (pv 5) (pa_cons (pe_dget2 (hu_of hr) (pv 2) (pv 7) (pe_callB call_len_seq (by rfl) Y.len boot_len (pa_cons (pv 1) pa_nil)) ⟨rfl, rfl, rfl, rfl⟩) pa_nil)))))))
    (pss_cons (ps_if (pt_cmpR op_in_seq (pv 0) (pe_tup (pa_cons pe_str (pa_cons pe_str pa_nil))) (by rfl)) (pss_one (ps_expr (pe_bm PySem.F.plainAttrs_list PySem.F.slot_list_append PySem.F.type_list_append mt_append (pv 5) (pa_cons (pe_callB call_len_seq (by rfl) Y.len boot_len (pa_cons (pv 1) pa_nil)) pa_nil)))) pss_nil)
    (pss_one (ps_expr (pe_bm PySem.F.plainAttrs_list PySem.F.slot_list_append PySem.F.type_list_append mt_append (pv 3) (pa_cons (pv 5) pa_nil))))))))
    (pss_cons (ps_if (pt_cmpR op_in_seq (pv 0) (pe_tup (pa_cons pe_str (pa_cons pe_str pa_nil))) (by rfl)) (pss_one (ps_expr (pe_bm PySem.F.plainAttrs_list PySem.F.slot_list_append PySem.F.type_list_append mt_append (pv 3) (pa_cons (pe_lc (own := [("_law_k", 8)]) (g := gName 8) (tt := tYes) rfl sc39.nd (pi_range1 (by rfl) Y.range (pa_cons (pe_op op_add (pe_callB call_len_seq (by rfl) Y.len boot_len (pa_cons (pv 1) pa_nil)) pe_int) pa_nil)) (blkOk_by (own := [("_law_k", 8)]) (N := N39) (sc := (dS 39)) (by decide +kernel)) (fun _ _ _ _ _ => (pg_name (i := 8) sc39.nd rfl (by first | exact .inl rfl | exact .inr rfl))) (fun _ _ _ _ _ => pts_nil) (fun _ _ _ _ _ => (pe_callB (r := rLenK K) call_len_seq (by rfl) Y.len boot_len (pa_cons (pv 1) pa_nil)))) pa_nil)))) pss_nil)
    (pss_one (ps_ret (pv 3)))))), ?_⟩
  obtain ⟨c, v, d, N, rfl, hv, hN0, hN39, hN4, hpo, ht, hQ⟩ := h
  obtain ⟨na, nvs, rfl, hna, hne⟩ := id hv
  have hnl : nvs.length = N.length := hne.1
  have hpos : 0 < N.length := List.length_pos_iff.mpr hN0
  have hsz := size_big
  refine ⟨Nat.zero_le _, fun rr nr => ⟨_, rfl, na, rfl, ⟨_, SqL.of (by rw [upd_ne (ne_of_none hna nr)]; exact hna)⟩, ?_⟩⟩
  have hfrl : ∀ p, (freeRow c N p).length ≤ 40 := fun p => by rw [freeRow_length]; unfold tn; split <;> omega
  have hfr0 : ∀ p, freeRow c N p ≠ [] := fun p z => by
    have := freeRow_length c N p
    rw [z] at this
    unfold tn at this
    split at this <;> simp at this <;> omega
  refine for_list (xs := nvs) (fun i σ H' => ∃ (u4 u5 u6 u7 u8 : Option V) (ws : List V), σ = [some (.str (kn c)), some (.ref na), some (.ref d), some (.ref rr), u4, u5, u6, u7, u8] ∧ Fr (TT Pt) Nl H H' ∧ H' rr = some (.lst ws) ∧ Each lN H' ws ((N.map (freeRow c N)).take i))
    ⟨_, _, _, _, _, [], rfl, Fr.refl.new nr, upd_same, Each.nil⟩ (fun i σ H' _ ⟨_, _, _, _, _, _, _, e, _⟩ => SqL.of (e.lst hna)) ?_ ?_
  · rintro i x σ H1 hx ⟨u4, u5, u6, u7, u8, ws, rfl, e1, hrr, hE⟩
    obtain ⟨b, p, rfl, hp, hb⟩ := hne.at_ hx
    have hpN := List.mem_of_getElem? hp
    have hi : i < N.length := (List.getElem?_eq_some_iff.mp hp).1
    refine ⟨Nat.zero_le _, fun rl nrl => ⟨_, rfl, na, rfl, ⟨_, SqL.of (by rw [upd_ne (ne_of_none (e1.lst hna) nrl)]; exact e1.lst hna)⟩, ?_⟩⟩
    have nrrl : rr ≠ rl := ne_of_none hrr nrl
    refine for_list (xs := nvs) (fun j σ H' => ∃ (u6 u7 u8 : Option V), σ = [some (.str (kn c)), some (.ref na), some (.ref d), some (.ref rr), some (.ref b), some (.ref rl), u6, u7, u8] ∧ Fr (TT Pt) Nl H1 H' ∧ H' rl = some (lN ((N.map fun q => N.idxOf (plain c (p ++ q))).take j)))
      ⟨_, _, _, rfl, Fr.refl.new nrl, by rw [upd_same] <;> rfl⟩ (fun i σ H' _ ⟨_, _, _, _, e, _⟩ => SqL.of ((e1.trans e).lst hna)) ?_ ?_
    · rintro j y σ H2 hy ⟨u6, u7, u8, rfl, e2, hrl⟩
      obtain ⟨b2, q, rfl, hq, hb2⟩ := hne.at_ hy
      have hqN := List.mem_of_getElem? hq
      have hj : j < N.length := (List.getElem?_eq_some_iff.mp hq).1
      have e12 := e1.trans e2
      have hpl := hN4 p hpN
      have hql := hN4 q hqN
      refine ⟨_, rfl, _, rfl, _, rfl, catW (T := TT Pt) (u := p) (v := q) ⟨b, rfl, e12.tup hb⟩ ⟨b2, rfl, e12.tup hb2⟩ (by omega) fun H3 z3 e3 h3 => ⟨c, z3, p ++ q, rfl, h3, by rw [List.length_append]; omega, (e12.trans e3).tabs ht, fun H4 v4 e4 h4 => ?_⟩⟩
      have e24 := e3.trans e4
      refine ⟨_, rfl, _, rfl, _, rfl, _, rfl, catW (T := TT Pt) (u := p) (v := q) ⟨b, rfl, (e12.trans e24).tup hb⟩ ⟨b2, rfl, (e12.trans e24).tup hb2⟩ (by omega) fun H5 z5 e5 h5 => ⟨c, z5, p ++ q, rfl, h5, by rw [List.length_append]; omega, fun H6 v6 e6 h6 => ?_⟩⟩
      refine neW (h4.fr (e5.trans e6)) h6 ⟨_, rfl, nI (fun hbad => absurd rfl hbad) fun _ => ?_⟩
      have e26 := (e24.trans e5).trans e6
      have e06 := e12.trans e26
      have h46 := h4.fr (e5.trans e6)
      obtain ⟨hid, hget⟩ := (hpo.fr e06).get h46
      have hrl6 := e26.lst hrl
      refine ⟨_, rfl, .inl ⟨rfl, _, SqL.of hrl6⟩, _, rfl, d, rfl, hid, _, rfl, _, rfl, na, _, rfl, .inl (SqL.of (e06.lst hna)), _, hget, rl, _, _, rfl, rfl, hrl6, take_len9 (by rw [List.length_map]; omega), _, _, _, rfl, (e2.trans e26).put nrl hrl6 rfl, ?_⟩
      rw [upd_same]
      have ev : (if plain c (p ++ q) ∈ N then some (V.int (N.idxOf (plain c (p ++ q)) : Nat)) else none).getD (V.int (nvs.length : Nat)) = V.int (N.idxOf (plain c (p ++ q)) : Nat) := by
        by_cases hm : plain c (p ++ q) ∈ N
        · rw [if_pos hm] <;> rfl
        · rw [if_neg hm, hnl, List.idxOf_eq_length hm] <;> rfl
      rw [ev, nv_snoc (by rw [List.length_map]; exact hj)]
      rw [List.getD_eq_getElem?_getD (l := N.map _), List.getElem?_map, hq] <;> rfl
    · rintro σ H2 ⟨u6, u7, u8, rfl, e2, hrl⟩
      rw [hnl, List.take_of_length_le (by rw [List.length_map]; exact Nat.le_refl _)] at hrl
      refine inLB (T := TT Pt) rfl fun H3 e3 => ?_
      have hrl3 := e3.lst hrl
      refine bI (fun hx => ?_) fun hx => ?_
      · refine ⟨_, rfl, .inl ⟨rfl, _, SqL.of hrl3⟩, _, rfl, na, _, rfl, .inl (SqL.of (((e1.trans e2).trans e3).lst hna)), rl, _, _, rfl, rfl, hrl3, by rw [List.length_map, List.length_map]; omega, ?_⟩
        have e4 : Fr (TT Pt) Nl H1 (upd H3 rl (.lst (nv (N.map fun q => N.idxOf (plain c (p ++ q))) ++ [V.int (nvs.length : Nat)]))) := (e2.trans e3).put nrl hrl3 rfl
        have hrl4 : upd H3 rl (.lst (nv (N.map fun q => N.idxOf (plain c (p ++ q))) ++ [V.int (nvs.length : Nat)])) rl = some (lN (freeRow c N p)) := by
          rw [upd_same]
          unfold freeRow
          rw [if_pos hx, hnl]
          show some (HO.lst (nv _ ++ nv [N.length])) = some (HO.lst (nv (_ ++ [N.length])))
          rw [nv_append]
        generalize upd H3 rl (.lst (nv (N.map fun q => N.idxOf (plain c (p ++ q))) ++ [V.int (nvs.length : Nat)])) = H4 at e4 hrl4
        have hrr4 := (e4).lst hrr
        refine ⟨_, rfl, .inl ⟨rfl, _, SqL.of hrr4⟩, _, rfl, rr, _, _, rfl, rfl, hrr4, by rw [hE.1, List.length_take]; omega, _, _, _, _, _, ws ++ [.ref rl], rfl, (e1.trans (e4)).put nr hrr4 rfl, upd_same, ?_⟩
        rw [List.take_add_one, List.getElem?_map, hp]
        refine Each.snoc ((hE.fr (fun _ => rfl) (e4)).putL hrr4 fun x hx q => ?_) ?_
        · obtain ⟨y, _, rfl⟩ := List.mem_map.mp (List.mem_of_mem_take hx)
          exact hfr0 y q
        · rw [upd_ne nrrl.symm]
          exact hrl4
      · have hrl4 : H3 rl = some (lN (freeRow c N p)) := by
          rw [hrl3]
          unfold freeRow
          rw [if_neg (by rw [hx]; decide), List.append_nil]
        have e4 := e2.trans e3
        have hrr4 := (e4).lst hrr
        refine ⟨_, rfl, .inl ⟨rfl, _, SqL.of hrr4⟩, _, rfl, rr, _, _, rfl, rfl, hrr4, by rw [hE.1, List.length_take]; omega, _, _, _, _, _, ws ++ [.ref rl], rfl, (e1.trans (e4)).put nr hrr4 rfl, upd_same, ?_⟩
        rw [List.take_add_one, List.getElem?_map, hp]
        refine Each.snoc ((hE.fr (fun _ => rfl) (e4)).putL hrr4 fun x hx q => ?_) ?_
        · obtain ⟨y, _, rfl⟩ := List.mem_map.mp (List.mem_of_mem_take hx)
          exact hfr0 y q
        · rw [upd_ne nrrl.symm]
          exact hrl4
  · rintro σ H1 ⟨u4, u5, u6, u7, u8, ws, rfl, e1, hrr, hE⟩
    rw [hnl, List.take_of_length_le (by rw [List.length_map]; exact Nat.le_refl _)] at hE
    refine inLB (T := TT Pt) rfl fun H2 e2 => ?_
    have e02 := e1.trans e2
    have hrr2 := e2.lst hrr
    have hE2 := hE.fr (fun _ => rfl) e2
    refine bI (fun hx => ?_) fun hx => ?_
    · refine ⟨_, rfl, .inl ⟨rfl, _, SqL.of hrr2⟩, _, rfl, na, _, rfl, .inl (SqL.of (e02.lst hna)), _, _, rfl, rfl, ((nvs.length + 1 : Nat) : Int), by rw [Int.natCast_succ], by omega, by omega, fun D nD => lc_range (lo := 0) (n := nvs.length + 1) (fun i H' => H' D = some (lN (List.replicate i N.length)) ∧ Fr (TT Pt) Nl H2 H') ⟨upd_same, Fr.refl.new nD⟩ ?_ ?_⟩
      · rintro i H3 hi ⟨hD, e3⟩
        refine ⟨rfl, _, rfl, na, _, rfl, .inl (SqL.of ((e02.trans e3).lst hna)), _, hD, by rw [List.length_map, List.length_replicate]; omega, ?_, e3.put nD hD rfl⟩
        rw [upd_same, hnl, List.replicate_succ']
        show some (HO.lst (nv _ ++ nv [N.length])) = some (HO.lst (nv (_ ++ [N.length])))
        rw [nv_append]
      · rintro H3 ⟨hD, e3⟩
        have hrr3 := e3.lst hrr2
        have nDr : D ≠ rr := fun z => by rw [z, hrr2] at nD; cases nD
        refine ⟨rr, _, _, rfl, rfl, hrr3, by rw [hE.1, List.length_map]; omega, _, rfl, hQ _ (.ref rr) ((e02.trans e3).put nr hrr3 rfl) ⟨rr, ws ++ [.ref D], rfl, upd_same, ?_⟩⟩
        unfold freeRows
        rw [if_pos hx]
        refine Each.snoc ((hE2.fr (fun _ => rfl) e3).putL hrr3 fun x hx q => ?_) ?_
        · obtain ⟨y, _, rfl⟩ := List.mem_map.mp hx
          exact hfr0 y q
        · rw [upd_ne nDr, hD, hnl]
    · refine ⟨_, rfl, hQ _ (.ref rr) e02 ⟨rr, ws, rfl, hrr2, ?_⟩⟩
      unfold freeRows
      rw [if_neg (by rw [hx]; decide), List.append_nil]
      exact hE2
end
end K4
namespace K4
open PySem PySem.Spec PyProof.Rows L2 LamX
/-! rows as data -/
def rD (l : List Nat) : PyData := .list (l.map fun (n : Nat) => PyData.int (n : Int))
theorem nD_lay : ∀ l : List Nat, PyData.canLayAll0 (l.map fun (n : Nat) => PyData.int (n : Int)) = true
  | [] => by simp [PyData.canLayAll0]
  | x :: l => by simp [PyData.canLayAll0, PyData.canLay0, nD_lay l]
theorem nD_depth : ∀ l : List Nat, PyData.depthAll (l.map fun (n : Nat) => PyData.int (n : Int)) ≤ 1
  | [] => by simp [PyData.depthAll]
  | x :: l => by
    have h := nD_depth l
    simp only [List.map_cons, PyData.depthAll, PyData.depth]
    omega
theorem rDs_lay : ∀ ls : List (List Nat), PyData.canLayAll0 (ls.map rD) = true
  | [] => by simp [PyData.canLayAll0]
  | x :: l => by
    have h : (rD x).canLay0 = true := by simp only [rD, PyData.canLay0]; exact nD_lay x
    simp [PyData.canLayAll0, h, rDs_lay l]
theorem rDs_depth : ∀ ls : List (List Nat), PyData.depthAll (ls.map rD) ≤ 2
  | [] => by simp [PyData.depthAll]
  | x :: l => by
    have h1 := rDs_depth l
    have h2 := nD_depth x
    have h3 : (rD x).depth ≤ 2 := by simp only [rD, PyData.depth]; omega
    simp only [List.map_cons, PyData.depthAll]
    omega
theorem rDs_shaped (ls : List (List Nat)) : SeqAt.shaped (.list (ls.map rD)) = true := by
  have h := rDs_depth ls
  have h2 : PyData.depth (.list (ls.map rD)) ≤ 64 := by
    simp only [PyData.depth]
    omega
  show (PyData.canLay0 (.list (ls.map rD)) && decide (PyData.depth (.list (ls.map rD)) ≤ 64)) = true
  rw [Bool.and_eq_true]
  exact ⟨by simp only [PyData.canLay0]; exact rDs_lay ls, decide_eq_true h2⟩
theorem dp_nats {K : PySem.W.Frag} {H : Hp} : ∀ l : List Nat, DpAll K H (nv l) (l.map fun (n : Nat) => PyData.int (n : Int))
  | [] => .nil
  | x :: l => .cons (.int (x : Int)) (dp_nats l)
theorem idx_at {N : List (List Int)} (hnd : N.Nodup) {i : Nat} {p : List Int} (h : N[i]? = some p) : N.idxOf p = i := by
  have hp := List.mem_of_getElem? h
  have hl := List.idxOf_lt_length_iff.mpr hp
  refine (List.getElem?_inj hl hnd).mp ?_
  rw [h, List.getElem?_eq_getElem hl, List.getElem_idxOf]
theorem Nrm.ne0 {k : Kd} {L : List Int} {z : Nat} {N : List (List Int)} (R : Nrm k L z N) : N ≠ [] := by
  obtain ⟨x, l, hx⟩ := List.exists_cons_of_ne_nil R.ne
  intro e
  have := (R.mem (plain k [x])).mpr ⟨[x], by simp, R.z1, fun y hy => by rw [List.mem_singleton.mp hy, hx]; exact List.mem_cons_self, rfl⟩
  rw [e] at this
  cases this
theorem Nrm.one {k : Kd} {L : List Int} {z : Nat} {N : List (List Int)} (R : Nrm k L z N) {x : Int} (hx : x ∈ L) : plain k [x] ∈ N := (R.mem _).mpr ⟨[x], by simp, R.z1, fun y hy => by rw [List.mem_singleton.mp hy]; exact hx, rfl⟩
section
variable {P : Program} {w : World} {K : PySem.W.Frag} {mg : Str → Option Value} {base : Heap} {fA : Nat → Addr} {fdA : Nat → FuncData} {Pt : Addr} {T : List (Addr × Str)} {H H' : Hp} {a : KA} {CT : Addr} {gA : Nat → Addr} {gdA : Nat → FuncData}
theorem Fr.over {H1 Hm : Hp} {x : Addr} (e : Fr T Nl H1 Hm) (e' : Fr T (On x) Hm H') (n : H1 x = none) : Fr T Nl H1 H' := ⟨fun b o h _ q => e'.ext b o (e.ext b o h id q) (fun z => by rw [show b = x from z, n] at h; cases h) q, fun t => e'.tabs (e.tabs t)⟩
theorem noRows {v : V} {rows : List (List Nat)} {p : Addr} {Q : VK} (h : Lof lN H v rows) (hp : H p = some (.lst [])) (hne : rows ≠ []) (q : Q (.bl false) H) : rEqD K v (.ref p) H Q := by
  obtain ⟨b, vs, rfl, hb, he⟩ := h
  refine ⟨.list (rows.map rD), .list [], .lst (SqL.of hb) (dpAll_of (fun b x hb => .lst (SqL.of hb) (dp_nats x)) he), .lst (SqL.of hp) .nil, rDs_shaped rows, rfl, ?_⟩
  have e : PyData.eqv (.list (rows.map rD)) (.list []) = false := by
    cases rows with
    | nil => exact absurd rfl hne
    | cons r rows => simp [PyData.eqv, PyData.eqvAll]
  rw [e]
  exact q
abbrev N44 : List Str := ["_law_kind_here", "_law_normals_here", "_law_one", "_law_other", "_law_places", "_law_place", "_law_normal", "_law_rows", "_law_made", "_law_folds", "_law_word_here", "_law_marks", "_law_value_here"]
abbrev P44 : List Str := ["_law_kind_here", "_law_normals_here", "_law_one", "_law_other"]
theorem sc44 : FnScope N44 P44 (dS 44) := ⟨rfl, rfl, rfl, by decide +kernel, rfl, by decide +kernel, by decide +kernel⟩
theorem b44 (Y : Fx K mg fA fdA) : Binds K (fdA 44) P44 [] := (Y.d 44 _ rfl).2.bindsN fun _ _ _ _ _ _ us hl => match us, hl with | [_, _, _, _], _ => rfl
/- slots: 0:_law_kind_here 1:_law_normals_here 2:_law_one 3:_law_other 4:_law_places 5:_law_place 6:_law_normal 7:_law_rows 8:_law_made 9:_law_folds 10:_law_word_here 11:_law_marks 12:_law_value_here -/

def spParted (T : List (Addr × Str)) : Sp := fun vs H Q _ => ∃ (c : Kd) (v x1 x2 : V) (N : List (List Int)) (L u1 u2 : List Int) (z : Nat), vs = [.str (kn c), v, x1, x2] ∧ Lof tI H v N ∧ Nrm c L z N ∧ N.length ≤ 39 ∧ (∀ p ∈ N, p.length ≤ 4) ∧ Wd H x1 u1 ∧ Wd H x2 u2 ∧ Over L u1 ∧ Over L u2 ∧ u1.length ≤ 7 ∧ u2.length ≤ 7 ∧
  plain c u1 ∈ N ∧ plain c u2 ∈ N ∧ Tabs T H ∧ ∀ H', Fr T Nl H H' → Q (.bl true) H'
theorem ok_parted (Y : Fx K mg fA fdA) (X : Kx P K mg base Pt a) (Z : Tx K mg CT gA gdA) : FnOk P w K mg base CX0 9 (fA 44) (fdA 44) P44 (spParted (TT Pt)) := by
  refine (Y.d 44 _ rfl).2.ok sc44 (fun vs H Q E h => by obtain ⟨_, _, _, _, _, _, _, _, _, rfl, _⟩ := h; rfl) (fun cdv A outer s H vs Q E hr h => ?_)
  refine ⟨_, PSs.nox (pss_cons (ps_set (i := 4) sc44.nd rfl (by first | exact .inl rfl | exact .inr rfl) pe_dnewT)
    (pss_cons (ps_for PassesOwn.never rfl (pi_enum (by rfl) Y.enumerate (pa_cons (pv 1) pa_nil)) (pg_tup rfl (pgs_cons (pg_name (i := 5) sc44.nd rfl (by first | exact .inl rfl | exact .inr rfl)) (pgs_cons (pg_name (i := 6) sc44.nd rfl (by first | exact .inl rfl | exact .inr rfl)) pgs_nil))) (pss_one (ps_dput (hu_of hr) (pv 4) (pv 6) (pv 5) rfl)))
    (pss_cons (ps_set (i := 7) sc44.nd rfl (by first | exact .inl rfl | exact .inr rfl) (pe_call (ok_free Y X) (hr.mono (by decide)) rfl (Y.d 39 _ rfl).1 (Y.d 39 _ rfl).2.kp (b39 Y) .nil pass0 (pa_cons (pv 0) (pa_cons (pv 1) (pa_cons (pv 4) pa_nil)))))
    (pss_cons (ps_if (PW.pt (pw_or (pt_cmpR (op_eqD hr.units) (pv 7) (pe_lst pa_nil) (nomark _)) (pw_or1 (pt_cmpR op_notN (pe_call (ok_fault (T := TT Pt) Y) (hr.mono (by decide)) rfl (Y.d 35 _ rfl).1 (Y.d 35 _ rfl).2.kp (b35 Y) .nil pass0 (pa_cons (pv 0) (pa_cons (pv 7) pa_nil))) pe_non (nomark _))))) (pss_one (ps_ret pe_bl)) pss_nil)
    (pss_cons (ps_set (i := 8) sc44.nd rfl (by first | exact .inl rfl | exact .inr rfl) (pe_make Z.mkT (ok_tinit (T := TT Pt) Y Z) (hr.mono (by decide)) (by rfl) Z.mgT (bT0 Z) .nil pass0 (pa_cons (pv 7) pa_nil)))
    (pss_cons (ps_if (pt_cmpR op_notN (pe_meth (pv 8) Z.cl (Z.m 7 _ _ rfl (by decide)) (ok_tfault (T := TT Pt) Y X Z) (hr.mono (by decide)) (bT7 Z) .nil pass0 (pa_cons (pv 0) pa_nil)) pe_non (nomark _)) (pss_one (ps_ret pe_bl)) pss_nil)
    (pss_cons (ps_set (i := 9) sc44.nd rfl (by first | exact .inl rfl | exact .inr rfl) (pe_lst pa_nil))
    (pss_cons (ps_for PassesOwn.never rfl (pi_tup (pe_tup (pa_cons (pv 2) (pa_cons (pv 3) pa_nil)))) (pg_name (i := 10) sc44.nd rfl (by first | exact .inl rfl | exact .inr rfl)) (pss_cons (ps_setLc (own := [("_law_value_here", 12)]) (g := gName 12) (tt := tYes) (i := 11) rfl sc44.nd rfl rfl (sw_true rfl rfl rfl (by decide +kernel)) (pi_tup (pv 10)) (blkOk_by (own := [("_law_value_here", 12)]) (N := N44) (sc := (dS 44)) (by decide +kernel)) (fun _ _ _ _ _ => (pg_name (i := 12) sc44.nd rfl (by first | exact .inl rfl | exact .inr rfl))) (fun _ _ _ _ _ => pts_nil) (fun _ _ _ _ _ => (pe_dget (hu_of hr) (pv 4) (pe_call (ok_plain (T := TT Pt) Y) (hr.mono (by decide)) rfl (Y.d 29 _ rfl).1 (Y.d 29 _ rfl).2.kp (b29 Y) .nil pass0 (pa_cons (pv 0) (pa_cons (pe_tup (pa_cons (pv 12) pa_nil)) pa_nil))) (fun _ _ => rfl))))
    (pss_cons (ps_if (pt_cmpR op_ne (pe_meth (pv 8) Z.cl (Z.m 4 _ _ rfl (by decide)) (ok_tfold (T := TT Pt) Y Z) (hr.mono (by decide)) (bT4 Z) .nil pass0 (pa_cons (pv 11) pa_nil)) (pe_dget (hu_of hr) (pv 4) (pe_call (ok_plain (T := TT Pt) Y) (hr.mono (by decide)) rfl (Y.d 29 _ rfl).1 (Y.d 29 _ rfl).2.kp (b29 Y) .nil pass0 (pa_cons (pv 0) (pa_cons (pv 10) pa_nil))) (fun _ _ => rfl)) (nomark _)) (pss_one (ps_ret pe_bl)) pss_nil)
    (pss_one (ps_expr (pe_bm PySem.F.plainAttrs_list PySem.F.slot_list_append PySem.F.type_list_append mt_append (pv 9) (pa_cons (pe_meth (pv 8) Z.cl (Z.m 4 _ _ rfl (by decide)) (ok_tfold (T := TT Pt) Y Z) (hr.mono (by decide)) (bT4 Z) .nil pass0 (pa_cons (pe_callTy call_tuple_of (by rfl) Y.tuple (by decide +kernel) (pa_cons (pv 11) pa_nil)) pa_nil)) pa_nil)))))))
    (pss_one (ps_ret (pe_cmpR op_eq (pe_call (ok_alike Y X) (hr.mono (by decide)) rfl (Y.d 16 _ rfl).1 (Y.d 16 _ rfl).2.kp (b16 Y) .nil pass0 (pa_cons (pv 0) (pa_cons (pv 2) (pa_cons (pv 3) pa_nil)))) (pe_cmpR op_eq (pe_ix ix_list (pv 9) pe_int (fun _ _ => rfl)) (pe_ix ix_list (pv 9) pe_int (fun _ _ => rfl)) (nomark _)) (nomark _)))))))))))), ?_⟩
  obtain ⟨c, v, x1, x2, N, L, u1, u2, z, rfl, hv, R, hN39, hN4, hw1, hw2, ho1, ho2, hl1, hl2, hm1, hm2, ht, hQ⟩ := h
  have W := R.wf
  have hrl : (freeRows c N).length ≤ 50 := by rw [freeRows_length]; unfold tn; split <;> omega
  have hrne : freeRows c N ≠ [] := fun z => by have := W.pos; rw [z] at this; cases this
  have hsz := size_big
  obtain ⟨na, nvs, rfl, hna, hne⟩ := id hv
  have hnl : nvs.length = N.length := hne.1
  intro d0 n0
  refine ⟨_, rfl, na, nvs, rfl, SqL.of (by rw [upd_ne (ne_of_none hna n0)]; exact hna), for_it walk_enum (fun i σ H' => ∃ (u5 u6 u7 u8 u9 u10 u11 u12 : Option V) (kvs : List (List Key × V)), σ = [some (.str (kn c)), some (.ref na), some x1, some x2, some (.ref d0), u5, u6, u7, u8, u9, u10, u11, u12] ∧ Fr (TT Pt) Nl H H' ∧ H' d0 = some (.dT kvs) ∧ kvs.length ≤ i ∧ ∀ p : List Int, valV kvs (wk p) = if p ∈ N.take i then some (.int (N.idxOf p : Nat)) else none)
    ⟨_, _, _, _, _, _, _, _, [], rfl, Fr.refl.new n0, upd_same, Nat.le_refl _, fun p => by simp [valV_nil]⟩ (fun i σ H' _ ⟨_, _, _, _, _, _, _, _, _, _, e, _⟩ => SqL.of (e.lst hna)) ?_ ?_⟩
  · rintro i x σ H1 H2 hi ⟨u5, u6, u7, u8, u9, u10, u11, u12, kvs, rfl, e1, hd, hkl, hkv⟩ ⟨t, y, w, rfl, nt, rfl, hy, hw⟩
    cases hy
    replace hw : nvs[i]? = some w := hw
    obtain ⟨b, p, rfl, hp, hb⟩ := hne.at_ hw
    have e2 : Fr (TT Pt) Nl H1 (upd H1 t (.tup [.int (i : Nat), .ref b])) := Fr.refl.new nt
    refine ⟨t, _, rfl, SqT.of upd_same, rfl, _, _, rfl, _, _, rfl, rfl, _, rfl, _, rfl, _, rfl, d0, _, rfl, .inr ⟨kvs, wk p, b, e2.ext _ _ hd id rfl, rfl, by rw [wk_kV]; exact (e1.trans e2).tup hb, by omega, rfl⟩, ?_⟩
    refine ⟨_, _, _, _, _, _, _, _, putK kvs (wk p) (.int (i : Nat)), rfl, (e1.trans e2).put n0 (e2.ext _ _ hd id rfl) rfl, upd_same, ?_, fun q => ?_⟩
    · have := DSub.putK_len kvs (wk p) (.int (i : Nat))
      omega
    · rw [valV_put, hkv, List.take_add_one, hp]
      by_cases hq : q = p
      · subst hq
        rw [if_pos rfl, if_pos (by simp), idx_at R.nd hp]
      · rw [if_neg (fun z => hq (wk_inj z))]
        by_cases hm : q ∈ N.take i
        · rw [if_pos hm, if_pos (List.mem_append_left _ hm)]
        · rw [if_neg hm, if_neg (fun z => by
            rcases List.mem_append.mp z with z | z
            · exact hm z
            · exact hq (by simpa using z))]
  rintro σ H1 ⟨u5, u6, u7, u8, u9, u10, u11, u12, kvs, rfl, e1, hd, hkl, hkv⟩
  rw [hnl, List.take_length] at hkv
  have hpo : PlaceOk H1 d0 N := ⟨kvs, hd, hkv⟩
  refine ⟨_, rfl, _, rfl, _, rfl, c, _, d0, N, rfl, hv.fr (fun _ => rfl) e1, R.ne0, hN39, hN4, hpo, e1.tabs ht, fun H2 rv e2 hrv => ?_⟩
  have e02 := e1.trans e2
  refine ⟨_, rfl, Nat.zero_le _, fun ep nep => noRows (hrv.fr (fun _ => rfl) (Fr.refl.new (T := TT Pt) nep)) upd_same hrne ⟨_, rfl, iteF ?_⟩⟩
  have e3 : Fr (TT Pt) Nl H2 (upd H2 ep (.lst [])) := Fr.refl.new nep
  generalize upd H2 ep (.lst []) = H3 at e3
  refine ⟨_, rfl, _, rfl, c, rv, freeRows c N, rfl, hrv.fr (fun _ => rfl) e3, W, hrl, fun H4 x e4 hx => ?_⟩
  refine ⟨rfl, _, rfl, nI (fun hbad => absurd (hx.mpr R.goodR) hbad) fun _ => ?_⟩
  have e04 := (e02.trans e3).trans e4
  refine ⟨_, rfl, fun tb dx ntb ndx nne => ?_⟩
  have ntb' : upd H4 dx (.own tb) tb = none := by rw [upd_ne nne.symm]; exact ntb
  have e5 : Fr (TT Pt) Nl H4 (upd (upd H4 dx (.own tb)) tb (.ins CT dx [])) := (Fr.refl.new ndx).new ntb'
  refine ⟨tb, dx, rv, freeRows c N, rfl, upd_same, hrv.fr (fun _ => rfl) ((e3.trans e4).trans e5), W, hrl, fun H5 e6 htab => ⟨rfl, ?_⟩⟩
  have e45 := e5.over e6 ntb
  have e05 := e04.trans e45
  have ei : ∀ {u}, plain c u ∈ N → (if plain c u ∈ N then some (V.int (N.idxOf (plain c u) : Nat)) else none) = some (V.int (idx c N u : Nat)) := fun h => by rw [if_pos h] <;> rfl
  have hpo5 := hpo.fr ((e2.trans e3).trans (e4.trans e45))
  have hL5 : ∀ j x, ([x1, x2] : List V)[j]? = some x → ∃ u, ([u1, u2] : List (List Int))[j]? = some u ∧ Wd H5 x u ∧ Over L u ∧ u.length ≤ 7 ∧ plain c u ∈ N := fun j x hx => by
    match j, hx with
    | 0, rfl => exact ⟨u1, rfl, hw1.fr e05, ho1, hl1, hm1⟩
    | 1, rfl => exact ⟨u2, rfl, hw2.fr e05, ho2, hl2, hm2⟩
  obtain ⟨tb', dx', rv', etb, htb, hrv'⟩ := id htab
  obtain rfl : tb = tb' := V.ref.inj etb
  refine ⟨_, rfl, tb, dx', _, rfl, htb, flN (by decide +kernel), _, rfl, c, .ref tb, freeRows c N, rfl, htab, W, hrl, R.goodR, fun H6 e6' => ?_⟩
  refine ⟨rfl, _, rfl, nI (fun hbad => absurd rfl hbad) fun _ => ?_⟩
  have e06 := e05.trans e6'
  refine ⟨Nat.zero_le _, fun fl nfl => ?_⟩
  have e7 : Fr (TT Pt) Nl H5 (upd H6 fl (.lst [])) := e6'.new nfl
  have hfl : upd H6 fl (.lst []) fl = some (.lst []) := upd_same
  have nflH5 : Nw H5 fl := e6'.nw nfl
  have e67 : Fr (TT Pt) Nl H6 (upd H6 fl (.lst [])) := Fr.refl.new nfl
  generalize hH7 : upd H6 fl (.lst []) = H7 at e7 hfl e67
  refine ⟨_, rfl, _, rfl, by show 2 ≤ sizeLine; decide, fun tp ntp => ⟨tp, rfl, ⟨_, SqT.of upd_same⟩, ?_⟩⟩
  have e8 : Fr (TT Pt) Nl H7 (upd H7 tp (.tup [x1, x2])) := Fr.refl.new ntp
  have htp : upd H7 tp (.tup [x1, x2]) tp = some (.tup [x1, x2]) := upd_same
  have hfl8 := e8.lst hfl
  generalize upd H7 tp (.tup [x1, x2]) = H8 at e8 htp hfl8
  have e68 := e67.trans e8
  have e58 := e7.trans e8
  refine for_tup (xs := [x1, x2]) (fun i σ H' => ∃ (u5 u6 u10 u11 u12 : Option V), σ = [some (.str (kn c)), some (.ref na), some x1, some x2, some (.ref d0), u5, u6, some rv, some (.ref tb), some (.ref fl), u10, u11, u12] ∧ Fr (TT Pt) Nl H6 H' ∧ H' tp = some (.tup [x1, x2]) ∧ H' fl = some (lN (([u1, u2].map (idx c N)).take i)))
    ⟨_, _, _, _, _, rfl, e68, htp, hfl8⟩ (fun i σ H' _ ⟨_, _, _, _, _, _, _, h, _⟩ => SqT.of h) ?_ ?_
  · rintro i x σ H9 hx ⟨u5', u6', u10', u11', u12', rfl, e69, htp9, hfl9⟩
    obtain ⟨u, hu, hwu, hou, hlu, hmu⟩ := hL5 i x hx
    have e59 := e6'.trans e69
    obtain ⟨b, rfl, hb5⟩ := hwu
    have hb9 := e59.tup hb5
    have hpo9 := hpo5.fr e59
    have hu0 : u ≠ [] := hou.1
    refine ⟨_, rfl, b, rfl, ⟨_, SqT.of hb9⟩, fun D nD => lc_tup (K := K) (xs := iv u) (fun k H' => H' D = some (lN ((u.map fun x => idx c N [x]).take k)) ∧ Fr (TT Pt) Nl H9 H') ⟨by rw [upd_same] <;> rfl, Fr.refl.new nD⟩ (fun k H' _ ⟨_, ez⟩ => SqT.of (ez.tup hb9)) ?_ ?_⟩
    · rintro k y Ha hy ⟨hD, ea⟩
      have hk : k < u.length := by have := (List.getElem?_eq_some_iff.mp hy).1; simpa using this
      rw [at_iv hk] at hy
      cases hy
      have hxL : u.getD k 0 ∈ L := hou.2 _ (by rw [List.getD_eq_getElem?_getD, List.getElem?_eq_getElem hk]; exact List.getElem_mem hk)
      refine ⟨rfl, _, rfl, _, rfl, _, rfl, by show 1 ≤ sizeLine; decide, fun t nt => ⟨c, .ref t, [u.getD k 0], rfl, ⟨t, rfl, upd_same⟩, by show 1 ≤ 60; decide, fun Hb vb eb hvb => ?_⟩⟩
      have eab : Fr (TT Pt) Nl Ha Hb := (Fr.refl.new nt).trans eb
      have hDb := eab.lst hD
      refine ⟨d0, .int (idx c N [u.getD k 0] : Nat), rfl, ?_, _, hDb, take_len9 (by rw [List.length_map]; omega), ?_, (ea.trans eab).put nD hDb rfl⟩
      · rw [← ei (R.one hxL)]
        exact ((hpo9.fr (ea.trans eab)).get hvb).2
      · rw [upd_same, nv_snoc (by rw [List.length_map]; exact hk)]
        rw [List.getD_eq_getElem?_getD (l := u.map _), List.getElem?_map, List.getElem?_eq_getElem hk, List.getD_eq_getElem?_getD (l := u), List.getElem?_eq_getElem hk] <;> rfl
    rintro Ha ⟨hD, ea⟩
    rw [List.length_map, List.take_of_length_le (by rw [List.length_map]; exact Nat.le_refl _)] at hD
    have e5a := e59.trans ea
    have hlt : ∀ x ∈ (u.map fun x => idx c N [x]), x < (freeRows c N).length := fun x hx => by
      obtain ⟨y, hy, rfl⟩ := List.mem_map.mp hx
      rw [freeRows_length]
      exact R.idx_tn ⟨by simp, fun z hz => by rw [List.mem_singleton.mp hz]; exact hou.2 y hy⟩
    have hmne : (u.map fun x => idx c N [x]) ≠ [] := by simp [hu0]
    have hwr : K4.foldm (mr (freeRows c N)) (u.map fun x => idx c N [x]) = idx c N u := R.wordR hou
    refine ⟨_, rfl, tb, dx', _, rfl, e5a.ins htb, flN (by decide +kernel), _, rfl, .ref tb, D, freeRows c N, _, rfl, htab.fr e5a, .inl hD, W, hmne, hlt, fun Hb eb => ?_⟩
    have e5b := e5a.trans eb
    refine ⟨_, rfl, _, rfl, _, rfl, c, .ref b, u, rfl, ⟨b, rfl, e5b.tup hb5⟩, by omega, fun Hc vc ec hvc => ⟨d0, .int (idx c N u : Nat), rfl, ?_, ?_⟩⟩
    · rw [← ei hmu]
      exact ((hpo5.fr (e5b.trans ec)).get hvc).2
    have e5c := e5b.trans ec
    have e9c := (ea.trans eb).trans ec
    have hflc := e9c.lst hfl9
    refine ⟨rfl, _, rfl, nI (fun hbad => absurd (by rw [hwr]) hbad) fun _ => ?_⟩
    refine ⟨_, rfl, .inl ⟨rfl, _, SqL.of hflc⟩, _, rfl, tb, dx', _, rfl, e5c.ins htb, flN (by decide +kernel), _, rfl, D, _, rfl, .inl ⟨SqL.of ((eb.trans ec).lst hD), fun t nt => ?_⟩⟩
    have ed : Fr (TT Pt) Nl Hc (upd Hc t (.tup (nv (u.map fun x => idx c N [x])))) := Fr.refl.new nt
    refine ⟨.ref tb, t, freeRows c N, _, rfl, htab.fr (e5c.trans ed), .inr upd_same, W, hmne, hlt, fun He ee => ?_⟩
    have e9e := (e9c.trans ed).trans ee
    have hfle := e9e.lst hfl9
    refine ⟨fl, _, _, rfl, rfl, hfle, take_len9 (by simp), _, _, _, _, _, rfl, ?_, ?_, ?_⟩
    · have nfl6 : H6 fl = none := nfl
      exact (e69.trans e9e).put nfl6 hfle rfl
    · rw [upd_ne (fun z => by rw [z, hfl9] at htp9; cases htp9)]
      exact e9e.tup htp9
    · rw [upd_same, hwr]
      have hi : i < ([u1, u2].map (idx c N)).length := by have := (List.getElem?_eq_some_iff.mp hu).1; rw [List.length_map]; exact this
      rw [nv_snoc hi]
      rw [List.getD_eq_getElem?_getD (l := [u1, u2].map _), List.getElem?_map, hu] <;> rfl
  · rintro σ H9 ⟨u5', u6', u10', u11', u12', rfl, e69, htp9, hfl9⟩
    have e59 := e6'.trans e69
    have e09 := e05.trans e59
    refine ⟨_, rfl, _, rfl, _, rfl, c, x1, x2, u1, u2, rfl, hw1.fr e09, hw2.fr e09, by omega, by omega, e09.tabs ht, fun Ha ea => ?_⟩
    have hfla : Ha fl = some (lN [idx c N u1, idx c N u2]) := ea.lst hfl9
    refine ⟨_, rfl, fl, _, 0, _, rfl, rfl, SqL.of hfla, atI_nv (i := 0) (by show 0 < 2; decide), _, rfl, fl, _, 1, _, rfl, rfl, SqL.of hfla, atI_nv (i := 1) (by show 1 < 2; decide), rfl, rfl, ?_⟩
    have e := hQ _ (e09.trans ea)
    have eq : decide (plain c u1 = plain c u2) = decide (V.int ((([idx c N u1, idx c N u2] : List Nat).getD 0 0 : Nat) : Int) = V.int ((([idx c N u1, idx c N u2] : List Nat).getD 1 0 : Nat) : Int)) := by
      show decide (plain c u1 = plain c u2) = decide (V.int ((idx c N u1 : Nat) : Int) = V.int ((idx c N u2 : Nat) : Int))
      by_cases h : plain c u1 = plain c u2
      · have : idx c N u1 = idx c N u2 := by unfold idx; rw [h]
        rw [decide_eq_true h, decide_eq_true (by rw [this])]
      · rw [decide_eq_false h, decide_eq_false fun z => h (idx_inj hm1 hm2 (by have := V.int.inj z; omega))]
    rw [eq]
    show Q (.bl (decide (V.bl _ = V.bl _))) Ha
    rw [decide_eq_true rfl]
    exact e
end
end K4
namespace K4
open PySem PySem.Spec PyProof.Rows L2 LamX
theorem menu_ok {i : Nat} (h : i < 10) : Wf (menuT.getD i []) ∧ (menuT.getD i []).length ≤ 4 := by
  have key : ∀ i ∈ List.range 10, 0 < (menuT.getD i []).length ∧ (menuT.getD i []).length ≤ 4 ∧ ∀ r ∈ menuT.getD i [], r.length = (menuT.getD i []).length ∧ ∀ x ∈ r, x < (menuT.getD i []).length := by decide +kernel
  obtain ⟨h1, h2, h3⟩ := key i (List.mem_range.mpr h)
  exact ⟨⟨h1, h3⟩, h2⟩
theorem good_one (c : Kd) : Good c (mr (menuT.getD 0 [])) (menuT.getD 0 []).length := by
  have C := (menu_ok (i := 0) (by decide)).1.closed
  have hn : (menuT.getD 0 []).length = 1 := rfl
  rw [hn] at C ⊢
  have z : ∀ {x : Nat}, x < 1 → x = 0 := fun h => by omega
  refine ⟨fun a b d ha hb hd => ?_, fun r hr ch hch => ?_⟩
  · rw [z (C.lt _ _ (C.lt _ _ ha hb) hd), z (C.lt _ _ ha (C.lt _ _ hb hd))]
  · obtain ⟨h1, h2, h3, h4⟩ := rl_ne hr
    obtain ⟨hl, hx⟩ := mem_choices.mp hch
    rw [z (foldm_lt C (by simp [h1]) fun x hx' => ?_), z (foldm_lt C (by simp [h2]) fun x hx' => ?_)]
    · obtain ⟨d, hd, rfl⟩ := List.mem_map.mp hx'
      exact hx _ (getD_mem (by rw [hl]; exact h4 d hd))
    · obtain ⟨d, hd, rfl⟩ := List.mem_map.mp hx'
      exact hx _ (getD_mem (by rw [hl]; exact h3 d hd))
theorem idxOf_lt {L : List Int} {x : Int} (h : x ∈ L) : L.idxOf x < L.length := List.idxOf_lt_length_iff.mpr h
section
variable {P : Program} {w : World} {K : PySem.W.Frag} {mg : Str → Option Value} {base : Heap} {fA : Nat → Addr} {fdA : Nat → FuncData} {Pt : Addr} {T : List (Addr × Str)} {H H' : Hp} {a : KA} {CT : Addr} {gA : Nat → Addr} {gdA : Nat → FuncData}
abbrev N45 : List Str := ["_law_kind_here", "_law_letters", "_law_word_here", "_law_start", "_law_narrower", "_law_rows", "_law_k", "_law_made", "_law_chosen", "_law_one", "_law_value_here", "_law_other"]
abbrev P45 : List Str := ["_law_kind_here", "_law_letters", "_law_word_here", "_law_start"]
theorem sc45 : FnScope N45 P45 (dS 45) := ⟨rfl, rfl, rfl, by decide +kernel, rfl, by decide +kernel, by decide +kernel⟩
theorem b45 (Y : Fx K mg fA fdA) : Binds K (fdA 45) P45 [] := (Y.d 45 _ rfl).2.bindsN fun _ _ _ _ _ _ us hl => match us, hl with | [_, _, _, _], _ => rfl
/- slots: 0:_law_kind_here 1:_law_letters 2:_law_word_here 3:_law_start 4:_law_narrower 5:_law_rows 6:_law_k 7:_law_made 8:_law_chosen 9:_law_one 10:_law_value_here 11:_law_other -/

def spSound (T : List (Addr × Str)) : Sp := fun vs H Q _ => ∃ (c : Kd) (la : Addr) (x : V) (L u : List Int) (st : Nat), vs = [.str (kn c), .ref la, x, .int st] ∧ LtAt H la L ∧ L ≠ [] ∧ L.length ≤ 3 ∧ Wd H x u ∧ Over L u ∧ u.length ≤ 7 ∧ Tabs T H ∧ ∀ H', Fr T Nl H H' → Q (.bl true) H'
theorem ok_sound (Y : Fx K mg fA fdA) (X : Kx P K mg base Pt a) (Z : Tx K mg CT gA gdA) : FnOk P w K mg base CX0 8 (fA 45) (fdA 45) P45 (spSound (TT Pt)) := by
  refine (Y.d 45 _ rfl).2.ok sc45 (fun vs H Q E h => by obtain ⟨_, _, _, _, _, _, rfl, _⟩ := h; rfl) (fun cdv A outer s H vs Q E hr h => ?_)
  refine ⟨_, PSs.nox (pss_cons (ps_set (i := 4) sc45.nd rfl (by first | exact .inl rfl | exact .inr rfl) (pe_call (ok_plain_value Y X) (hr.mono (by decide)) rfl (Y.d 15 _ rfl).1 (Y.d 15 _ rfl).2.kp (b15 Y) .nil pass0 (pa_cons (pv 0) (pa_cons (pv 2) pa_nil))))
    (pss_cons (ps_set (i := 5) sc45.nd rfl (by first | exact .inl rfl | exact .inr rfl) (pe_lst (pa_cons (pe_lst (pa_cons pe_int pa_nil)) pa_nil)))
    (pss_cons (ps_for PassesOwn.never rfl (pi_range1 (by rfl) Y.range (pa_cons pe_int pa_nil)) (pg_name (i := 6) sc45.nd rfl (by first | exact .inl rfl | exact .inr rfl)) (pss_cons (ps_set (i := 5) sc45.nd rfl (by first | exact .inl rfl | exact .inr rfl) (pe_call (ok_menu (T := TT Pt) Y) (hr.mono (by decide)) rfl (Y.d 30 _ rfl).1 (Y.d 30 _ rfl).2.kp (b30 Y) .nil pass0 (pa_cons (pe_op op_modN (pe_callTy call_int1 (by rfl) Y.int (by decide +kernel) (pa_cons (pe_op op_add (pv 3) (pv 6)) pa_nil)) pe_int) pa_nil)))
    (pss_one (ps_if (pt_cmpR op_isN (pe_call (ok_fault (T := TT Pt) Y) (hr.mono (by decide)) rfl (Y.d 35 _ rfl).1 (Y.d 35 _ rfl).2.kp (b35 Y) .nil pass0 (pa_cons (pv 0) (pa_cons (pv 5) pa_nil))) pe_non (nomark _)) (pss_one ps_break) pss_nil))))
    (pss_cons (ps_set (i := 7) sc45.nd rfl (by first | exact .inl rfl | exact .inr rfl) (pe_make Z.mkT (ok_tinit (T := TT Pt) Y Z) (hr.mono (by decide)) (by rfl) Z.mgT (bT0 Z) .nil pass0 (pa_cons (pv 5) pa_nil)))
    (pss_cons (ps_for PassesOwn.never rfl (pi_list (pe_call (ok_choices (T := TT Pt) Y) (hr.mono (by decide)) rfl (Y.d 33 _ rfl).1 (Y.d 33 _ rfl).2.kp (b33 Y) .nil pass0 (pa_cons (pe_callB call_len_seq (by rfl) Y.len boot_len (pa_cons (pv 5) pa_nil)) (pa_cons (pe_callB call_len_seq (by rfl) Y.len boot_len (pa_cons (pv 1) pa_nil)) pa_nil)))) (pg_name (i := 8) sc45.nd rfl (by first | exact .inl rfl | exact .inr rfl)) (pss_cons (ps_setLc (own := [("_law_value_here", 10)]) (g := gName 10) (tt := tYes) (i := 9) rfl sc45.nd rfl rfl (sw_true rfl rfl rfl (by decide +kernel)) (pi_tup (pv 2)) (blkOk_by (own := [("_law_value_here", 10)]) (N := N45) (sc := (dS 45)) (by decide +kernel)) (fun _ _ _ _ _ => (pg_name (i := 10) sc45.nd rfl (by first | exact .inl rfl | exact .inr rfl))) (fun _ _ _ _ _ => pts_nil) (fun _ _ _ _ _ => (pe_ix (r := rIxT K) ix_tup (pv 8) (pe_tIdx (pv 1) (pv 10)) (fun _ _ => rfl))))
    (pss_cons (ps_setLc (own := [("_law_value_here", 10)]) (g := gName 10) (tt := tYes) (i := 11) rfl sc45.nd rfl rfl (sw_true rfl rfl rfl (by decide +kernel)) (pi_tup (pv 4)) (blkOk_by (own := [("_law_value_here", 10)]) (N := N45) (sc := (dS 45)) (by decide +kernel)) (fun _ _ _ _ _ => (pg_name (i := 10) sc45.nd rfl (by first | exact .inl rfl | exact .inr rfl))) (fun _ _ _ _ _ => pts_nil) (fun _ _ _ _ _ => (pe_ix (r := rIxT K) ix_tup (pv 8) (pe_tIdx (pv 1) (pv 10)) (fun _ _ => rfl))))
    (pss_cons (ps_if (pt_cmpR op_ne (pe_call (ok_fold (T := TT Pt) Y) (hr.mono (by decide)) rfl (Y.d 32 _ rfl).1 (Y.d 32 _ rfl).2.kp (b32 Y) .nil pass0 (pa_cons (pv 5) (pa_cons (pv 9) pa_nil))) (pe_call (ok_fold (T := TT Pt) Y) (hr.mono (by decide)) rfl (Y.d 32 _ rfl).1 (Y.d 32 _ rfl).2.kp (b32 Y) .nil pass0 (pa_cons (pv 5) (pa_cons (pv 11) pa_nil))) (nomark _)) (pss_one (ps_ret pe_bl)) pss_nil)
    (pss_one (ps_if (pt_cmpR op_ne (pe_meth (pv 7) Z.cl (Z.m 4 _ _ rfl (by decide)) (ok_tfold (T := TT Pt) Y Z) (hr.mono (by decide)) (bT4 Z) .nil pass0 (pa_cons (pv 9) pa_nil)) (pe_meth (pv 7) Z.cl (Z.m 4 _ _ rfl (by decide)) (ok_tfold (T := TT Pt) Y Z) (hr.mono (by decide)) (bT4 Z) .nil pass0 (pa_cons (pv 11) pa_nil)) (nomark _)) (pss_one (ps_ret pe_bl)) pss_nil))))))
    (pss_one (ps_ret pe_bl))))))), ?_⟩
  obtain ⟨c, la, x, L, u, st, rfl, hla, hL0, hL3, hx, ho, hl, ht, hQ⟩ := h
  have z0 : ∀ i : Nat, ((0 : Int) + (i : Int)) = (i : Int) := fun i => by omega
  have hsz := size_big
  refine ⟨_, rfl, _, rfl, c, x, u, rfl, hx, by omega, ht, fun H1 nv1 e1 hn1 => ?_⟩
  refine ⟨by show 1 ≤ sizeLine; decide, fun p0 n0 => ⟨by show 1 ≤ sizeLine; decide, fun p1 n1 => ?_⟩⟩
  have e2 : Fr (TT Pt) Nl H1 (upd (upd H1 p0 (.lst [V.int 0])) p1 (.lst [V.ref p0])) := (Fr.refl.new n0).new n1
  generalize upd (upd H1 p0 (.lst [V.int 0])) p1 (.lst [V.ref p0]) = H2 at e2
  refine ⟨10, rfl, by decide, by decide, for_range (n := 10) (fun i σ H' => ∃ (v5 : V) (u6 u7 u8 u9 u10 u11 : Option V), σ = [some (.str (kn c)), some (.ref la), some x, some (.int (st : Nat)), some nv1, some v5, u6, u7, u8, u9, u10, u11] ∧ Fr (TT Pt) Nl H1 H' ∧ ∀ j, j < i → ¬ Good c (mr (menuT.getD ((st + j) % 10) [])) (menuT.getD ((st + j) % 10) []).length)
    ⟨.ref p1, _, _, _, _, _, _, rfl, e2, fun j h => absurd h (Nat.not_lt_zero _)⟩ ?_ ?_⟩
  · rintro i σ H3 hi ⟨v5, u6, u7, u8, u9, u10, u11, rfl, e3, bad⟩
    have hm10 : (st + i) % 10 < 10 := Nat.mod_lt _ (by decide)
    obtain ⟨W, hrl4⟩ := menu_ok hm10
    have ez : (((st : Nat) : Int) + ((0 : Int) + (i : Int))).fmod 10 = (((st + i) % 10 : Nat) : Int) := by
      rw [z0, Int.fmod_eq_emod_of_nonneg _ (by decide)]
      omega
    refine ⟨_, rfl, _, rfl, _, _, rfl, rfl, .inl ⟨_, rfl, _, _, rfl, rfl, (show (10 : Int) ≠ 0 by decide), (st + i) % 10, by show [V.int (Int.fmod _ _)] = _; rw [ez], hm10, fun H4 rv e4 hrv => ?_⟩⟩
    generalize hrows : menuT.getD ((st + i) % 10) [] = rows at hrv W hrl4
    refine ⟨_, rfl, _, rfl, c, rv, rows, rfl, hrv, W, by omega, fun H5 y e5 hy => ⟨rfl, _, rfl, dI (fun hyes => ?_) fun hno => ?_⟩⟩
    · have G := hy.mp hyes
      have e15 := (e3.trans e4).trans e5
      have e05 := e1.trans e15
      obtain ⟨xa, rfl, hxa⟩ := hx
      obtain ⟨na, rfl, hna⟩ := hn1
      have hna5 := e15.tup hna
      have hxa5 := e05.tup hxa
      have hla5 := hla.fr e05
      have hrv5 := hrv.fr (fun _ => rfl) e5
      refine ⟨_, rfl, fun tb dx ntb ndx nne => ?_⟩
      have ntb' : upd H5 dx (.own tb) tb = none := by rw [upd_ne nne.symm]; exact ntb
      have e6 : Fr (TT Pt) Nl H5 (upd (upd H5 dx (.own tb)) tb (.ins CT dx [])) := (Fr.refl.new ndx).new ntb'
      refine ⟨tb, dx, rv, rows, rfl, upd_same, hrv5.fr (fun _ => rfl) e6, W, by omega, fun H6 e6b htab => ⟨rfl, ?_⟩⟩
      have e56 := e6.over e6b ntb
      have hrv6 := hrv5.fr (fun _ => rfl) e56
      have hla6 := hla5.fr e56
      obtain ⟨ra, rvs, rfl, hra, hre⟩ := id hrv6
      have hpw : rows.length ^ L.length ≤ 10000000 := Nat.le_trans (Nat.pow_le_pow_left hrl4 _) (Nat.le_trans (Nat.pow_le_pow_right (by decide) hL3) (by decide))
      refine ⟨_, rfl, ra, _, rfl, .inl (SqL.of hra), _, rfl, la, _, rfl, .inr hla6.seq, rows.length, L.length, by rw [hre.1, iv, List.length_map] <;> rfl, by omega, hpw, by omega, fun H7 cv e7 hcv => ?_⟩
      obtain ⟨ca, cvs, rfl, hca, hce⟩ := hcv
      have e57 := e56.trans e7
      have htab7 := htab.fr e7
      have hrv7 := hrv6.fr (fun _ => rfl) e7
      have hla7 := hla6.fr e7
      have hxa7 := e57.tup hxa5
      have hna7 := e57.tup hna5
      have e07 := e05.trans e57
      obtain ⟨tb', dx', rv', etb, htb, hrv'⟩ := id htab7
      obtain rfl : tb = tb' := V.ref.inj etb
      refine ⟨ca, rfl, ⟨_, SqL.of hca⟩, for_list (xs := cvs) (fun i' σ H' => ∃ (u8 u9 u10 u11 : Option V), σ = [some (.str (kn c)), some (.ref la), some (.ref xa), some (.int (st : Nat)), some (.ref na), some (.ref ra), some (.int ((0 : Int) + (i : Nat))), some (.ref tb), u8, u9, u10, u11] ∧ Fr (TT Pt) Nl H7 H') ⟨_, _, _, _, rfl, Fr.refl⟩ (fun i σ H' _ ⟨_, _, _, _, _, e⟩ => SqL.of (e.lst hca)) ?_ ?_⟩
      · rintro j w σ H8 hw ⟨u8, u9, u10, u11, rfl, e8⟩
        obtain ⟨q, ch, rfl, hch, hq0⟩ := hce.at_ hw
        have hq := hq0
        obtain ⟨hcl, hcn⟩ := mem_choices.mp (List.mem_of_getElem? hch)
        let f : Int → Nat := fun x => ch.getD (L.idxOf x) 0
        have hf : ∀ x, f x < rows.length := fun x => by
          show ch.getD (L.idxOf x) 0 < _
          by_cases hi' : L.idxOf x < ch.length
          · exact hcn _ (getD_mem hi')
          · rw [List.getD_eq_getElem?_getD, List.getElem?_eq_none (by omega)]
            exact W.pos
        have hfs : ∀ {l : List Int}, ∀ y ∈ l.map f, y < rows.length := fun y hy => by
          obtain ⟨z, _, rfl⟩ := List.mem_map.mp hy
          exact hf z
        have hsnd : K4.foldm (mr rows) (u.map f) = K4.foldm (mr rows) ((plain c u).map f) := sound W.closed G hf ho.1
        have hpln := plain_len c u
        have hxa7o : ∀ x ∈ u, x ∈ L := ho.2
        have hna7o : ∀ x ∈ plain c u, x ∈ L := (ho.plain c).2
        have hne1 : u.map f ≠ [] := by simp [ho.1]
        have hne2 : (plain c u).map f ≠ [] := by simp [(ho.plain c).1]
        refine ⟨_, rfl, xa, rfl, ⟨_, SqT.of ((e8).tup hxa7)⟩, fun D1 nD1 => lc_tup (K := K) (xs := iv u) (fun i H' => H' D1 = some (lN ((u.map f).take i)) ∧ Fr (TT Pt) Nl H8 H') ⟨by rw [upd_same] <;> rfl, Fr.refl.new nD1⟩ (fun i H' _ ⟨_, ezz⟩ => SqT.of (((e8).trans ezz).tup hxa7)) ?_ ?_⟩
        · rintro k y Ha hy ⟨hD, ea⟩
          have hk : k < (u).length := by have := (List.getElem?_eq_some_iff.mp hy).1; simpa using this
          rw [at_iv hk] at hy
          cases hy
          have hxL : (u).getD k 0 ∈ L := hxa7o _ (by rw [List.getD_eq_getElem?_getD, List.getElem?_eq_getElem hk]; exact List.getElem_mem hk)
          have hla' := hla7.fr ((e8).trans ea)
          refine ⟨rfl, _, rfl, _, rfl, la, L, rfl, hla', _, rfl, _, rfl, hla', hxL, q, _, _, .int (ch.getD (L.idxOf ((u).getD k 0)) 0 : Nat), rfl, rfl, SqT.of (((e8).trans ea).tup hq), atI_nv (by rw [hcl]; exact idxOf_lt hxL), _, hD, take_len9 (by rw [List.length_map]; omega), ?_, ea.put nD1 hD rfl⟩
          rw [upd_same, nv_snoc (by rw [List.length_map]; exact hk)]
          rw [List.getD_eq_getElem?_getD (l := (u).map f), List.getElem?_map, List.getElem?_eq_getElem hk, List.getD_eq_getElem?_getD (l := u), List.getElem?_eq_getElem hk] <;> rfl
        rintro H9 ⟨hD1, e9⟩
        rw [List.length_map, List.take_of_length_le (by rw [List.length_map]; exact Nat.le_refl _)] at hD1
        have e79 := e8.trans e9
        refine ⟨_, rfl, na, rfl, ⟨_, SqT.of ((e79).tup hna7)⟩, fun D2 nD2 => lc_tup (K := K) (xs := iv (plain c u)) (fun i H' => H' D2 = some (lN (((plain c u).map f).take i)) ∧ Fr (TT Pt) Nl H9 H') ⟨by rw [upd_same] <;> rfl, Fr.refl.new nD2⟩ (fun i H' _ ⟨_, ezz⟩ => SqT.of (((e79).trans ezz).tup hna7)) ?_ ?_⟩
        · rintro k y Ha hy ⟨hD, ea⟩
          have hk : k < ((plain c u)).length := by have := (List.getElem?_eq_some_iff.mp hy).1; simpa using this
          rw [at_iv hk] at hy
          cases hy
          have hxL : ((plain c u)).getD k 0 ∈ L := hna7o _ (by rw [List.getD_eq_getElem?_getD, List.getElem?_eq_getElem hk]; exact List.getElem_mem hk)
          have hla' := hla7.fr ((e79).trans ea)
          refine ⟨rfl, _, rfl, _, rfl, la, L, rfl, hla', _, rfl, _, rfl, hla', hxL, q, _, _, .int (ch.getD (L.idxOf (((plain c u)).getD k 0)) 0 : Nat), rfl, rfl, SqT.of (((e79).trans ea).tup hq), atI_nv (by rw [hcl]; exact idxOf_lt hxL), _, hD, take_len9 (by rw [List.length_map]; omega), ?_, ea.put nD2 hD rfl⟩
          rw [upd_same, nv_snoc (by rw [List.length_map]; exact hk)]
          rw [List.getD_eq_getElem?_getD (l := ((plain c u)).map f), List.getElem?_map, List.getElem?_eq_getElem hk, List.getD_eq_getElem?_getD (l := (plain c u)), List.getElem?_eq_getElem hk] <;> rfl
        rintro HA ⟨hD2, eA⟩
        rw [List.length_map, List.take_of_length_le (by rw [List.length_map]; exact Nat.le_refl _)] at hD2
        have e7A := e79.trans eA
        have hD1A := eA.lst hD1
        refine ⟨_, rfl, _, rfl, .ref ra, D1, rows, _, rfl, hrv7.fr (fun _ => rfl) e7A, hD1A, W, hne1, hfs, fun HB eB => ?_⟩
        have e7B := e7A.trans eB
        refine ⟨_, rfl, _, rfl, .ref ra, D2, rows, _, rfl, hrv7.fr (fun _ => rfl) e7B, eB.lst hD2, W, hne2, hfs, fun HC eC => ?_⟩
        have e7C := e7B.trans eC
        refine ⟨rfl, _, rfl, nI (fun hbad => absurd (by rw [hsnd]) hbad) fun _ => ?_⟩
        refine ⟨_, rfl, tb, dx', _, rfl, e7C.ins htb, flN (by decide +kernel), _, rfl, .ref tb, D1, rows, _, rfl, htab7.fr e7C, .inl ((eB.trans eC).lst hD1A), W, hne1, hfs, fun HD eD => ?_⟩
        have e7D := e7C.trans eD
        refine ⟨_, rfl, tb, dx', _, rfl, e7D.ins htb, flN (by decide +kernel), _, rfl, .ref tb, D2, rows, _, rfl, htab7.fr e7D, .inl (((eB.trans eC).trans eD).lst hD2), W, hne2, hfs, fun HE eE => ?_⟩
        refine ⟨rfl, _, rfl, nI (fun hbad => absurd (by rw [hsnd]) hbad) fun _ => ⟨_, _, _, _, rfl, e7D.trans eE⟩⟩
      · rintro σ H8 ⟨u8, u9, u10, u11, rfl, e8⟩
        exact hQ _ (e07.trans e8)
    · refine ⟨_, _, _, _, _, _, _, rfl, (e3.trans e4).trans e5, fun j hj => ?_⟩
      by_cases h : j < i
      · exact bad j h
      · have : j = i := by omega
        subst this
        rw [hrows]
        exact fun G => hno (hy.mpr G)
  · rintro σ H3 ⟨v5, u6, u7, u8, u9, u10, u11, rfl, e3, bad⟩
    refine absurd ?_ (bad ((10 - st % 10) % 10) (Nat.mod_lt _ (by decide)))
    rw [show (st + (10 - st % 10) % 10) % 10 = 0 by omega]
    exact good_one c
end
end K4
namespace K4
open PySem PySem.Spec PyProof.Rows L2 LamX
theorem Each.frS {T : List (Addr × Str)} {H H' : Hp} {st : Addr} {vs : List V} {xs : List (List Int)} (e : Fr T (On st) H H') (s : Stm H st) (h : Each tI H vs xs) : Each tI H' vs xs := ⟨h.1, fun i x q => by
  obtain ⟨b, h1, h2⟩ := h.2 i x q
  exact ⟨b, h1, frS_tup e s h2⟩⟩
def two (c : Kd) : Bool := match c with
  | .list => true | .ends => true | _ => false
theorem twoB (c : Kd) : inV (V.str (kn c)) [V.str (kn .list), V.str (kn .ends)] = two c := by
  cases c <;> decide +kernel
def zz (c : Kd) : Nat := if two c then 2 else 3
section
variable {P : Program} {w : World} {K : PySem.W.Frag} {mg : Str → Option Value} {base : Heap} {fA : Nat → Addr} {fdA : Nat → FuncData} {Pt : Addr} {T : List (Addr × Str)} {H H' : Hp} {a : KA} {CT : Addr} {gA : Nat → Addr} {gdA : Nat → FuncData}
theorem inLE {σ : L2.St} {i : Nat} {c : Kd} {Q : Bool → Hp → Prop} (hσ : σ[i]? = some (some (.str (kn c)))) (h : ∀ H', Fr T Nl H H' → Q (two c) H') : tTest (tOp (rIn K false) (tVar i) (tTup (tCons (tC (.str (kn .list))) (tCons (tC (.str (kn .ends))) tNil)))) σ H Q := by
  refine ⟨_, hσ, by show 2 ≤ sizeLine; decide, fun p np => ⟨p, _, rfl, .inr (SqT.of upd_same), rfl, rfl, _, rfl, ?_⟩⟩
  rw [if_neg (by decide), twoB]
  exact h _ (Fr.refl.new np)
abbrev N46 : List Str := ["_law_script", "_law_stream_here", "_law_kind_here", "_law_style", "_law_words", "_law_k", "_law_letters", "_law_size", "_law_normals_here", "_law_one", "_law_other", "_law_start"]
abbrev P46 : List Str := ["_law_script"]
theorem sc46 : FnScope N46 P46 (dS 46) := ⟨rfl, rfl, rfl, by decide +kernel, rfl, by decide +kernel, by decide +kernel⟩
theorem b46 (Y : Fx K mg fA fdA) : Binds K (fdA 46) P46 [] := (Y.d 46 _ rfl).2.bindsN fun _ _ _ _ _ _ us hl => match us, hl with | [_], _ => rfl
/- slots: 0:_law_script 1:_law_stream_here 2:_law_kind_here 3:_law_style 4:_law_words 5:_law_k 6:_law_letters 7:_law_size 8:_law_normals_here 9:_law_one 10:_law_other 11:_law_start -/

def spLaw (K : PySem.W.Frag) (T : List (Addr × Str)) : Sp := fun vs H Q _ => ∃ (sa : Addr) (ns : List Int), vs = [.ref sa] ∧ SqL K H sa (iv ns) ∧ ns.length ≤ 63 ∧ Tabs T H ∧ ∀ H', Q (.bl true) H'
theorem ok_law (Y : Fx K mg fA fdA) (X : Kx P K mg base Pt a) (Z : Tx K mg CT gA gdA) : FnOk P w K mg base CX0 10 (fA 46) (fdA 46) P46 (spLaw K (TT Pt)) := by
  refine (Y.d 46 _ rfl).2.ok sc46 (fun vs H Q E h => by obtain ⟨_, _, rfl, _⟩ := h; rfl) (fun cdv A outer s H vs Q E hr h => ?_)
  refine ⟨_, PSs.nox (pss_cons (ps_set (i := 1) sc46.nd rfl (by first | exact .inl rfl | exact .inr rfl) (pe_call (ok_stream (T := TT Pt) Y) (hr.mono (by decide)) rfl (Y.d 23 _ rfl).1 (Y.d 23 _ rfl).2.kp (b23 Y) .nil pass0 (pa_cons (pv 0) pa_nil)))
    (pss_cons (ps_set (i := 2) sc46.nd rfl (by first | exact .inl rfl | exact .inr rfl) (pe_call (ok_kind (T := TT Pt) Y) (hr.mono (by decide)) rfl (Y.d 26 _ rfl).1 (Y.d 26 _ rfl).2.kp (b26 Y) .nil pass0 (pa_cons (pv 1) pa_nil)))
    (pss_cons (ps_set (i := 3) sc46.nd rfl (by first | exact .inl rfl | exact .inr rfl) (pe_call (ok_draw (T := TT Pt) Y) (hr.mono (by decide)) rfl (Y.d 24 _ rfl).1 (Y.d 24 _ rfl).2.kp (b24 Y) .nil pass0 (pa_cons (pv 1) (pa_cons pe_int pa_nil))))
    (pss_cons (ps_set (i := 4) sc46.nd rfl (by first | exact .inl rfl | exact .inr rfl) (pe_lst pa_nil))
    (pss_cons (ps_for PassesOwn.never rfl (pi_range1 (by rfl) Y.range (pa_cons pe_int pa_nil)) (pg_name (i := 5) sc46.nd rfl (by first | exact .inl rfl | exact .inr rfl)) (pss_one (ps_expr (pe_bm PySem.F.plainAttrs_list PySem.F.slot_list_append PySem.F.type_list_append mt_append (pv 4) (pa_cons (pe_call (ok_word (T := TT Pt) Y) (hr.mono (by decide)) rfl (Y.d 28 _ rfl).1 (Y.d 28 _ rfl).2.kp (b28 Y) .nil pass0 (pa_cons (pv 1) (pa_cons (pe_op op_add pe_int (pe_call (ok_draw (T := TT Pt) Y) (hr.mono (by decide)) rfl (Y.d 24 _ rfl).1 (Y.d 24 _ rfl).2.kp (b24 Y) .nil pass0 (pa_cons (pv 1) (pa_cons pe_int pa_nil)))) (pa_cons (pv 3) pa_nil)))) pa_nil)))))
    (pss_cons (ps_if (pt_not (pt_val (pe_call (ok_ruled Y X) (hr.mono (by decide)) rfl (Y.d 37 _ rfl).1 (Y.d 37 _ rfl).2.kp (b37 Y) .nil pass0 (pa_cons (pv 2) (pa_cons (pv 4) pa_nil))))) (pss_one (ps_ret pe_bl)) pss_nil)
    (pss_cons (ps_set (i := 6) sc46.nd rfl (by first | exact .inl rfl | exact .inr rfl) (pe_call (ok_alphabet (T := TT Pt) Y) (hr.mono (by decide)) rfl (Y.d 40 _ rfl).1 (Y.d 40 _ rfl).2.kp (b40 Y) .nil pass0 (pa_cons (pv 1) (pa_cons (pv 2) pa_nil))))
    (pss_cons (ps_set (i := 7) sc46.nd rfl (by first | exact .inl rfl | exact .inr rfl) pe_int)
    (pss_cons (ps_if (pt_cmpR op_in_seq (pv 2) (pe_tup (pa_cons pe_str (pa_cons pe_str pa_nil))) (by rfl)) (pss_one (ps_set (i := 7) sc46.nd rfl (by first | exact .inl rfl | exact .inr rfl) pe_int)) pss_nil)
    (pss_cons (ps_set (i := 8) sc46.nd rfl (by first | exact .inl rfl | exact .inr rfl) (pe_call (ok_turned (T := TT Pt) Y) (hr.mono (by decide)) rfl (Y.d 41 _ rfl).1 (Y.d 41 _ rfl).2.kp (b41 Y) .nil pass0 (pa_cons (pv 1) (pa_cons (pe_call (ok_normals (T := TT Pt) Y) (hr.mono (by decide)) rfl (Y.d 38 _ rfl).1 (Y.d 38 _ rfl).2.kp (b38 Y) .nil pass0 (pa_cons (pv 2) (pa_cons (pv 6) (pa_cons (pv 7) pa_nil)))) pa_nil))))
    (pss_cons (ps_set (i := 9) sc46.nd rfl (by first | exact .inl rfl | exact .inr rfl) (pe_call (ok_free_word (T := TT Pt) Y) (hr.mono (by decide)) rfl (Y.d 42 _ rfl).1 (Y.d 42 _ rfl).2.kp (b42 Y) .nil pass0 (pa_cons (pv 1) (pa_cons (pv 6) pa_nil))))
    (pss_cons (ps_set (i := 10) sc46.nd rfl (by first | exact .inl rfl | exact .inr rfl) (pe_call (ok_partner (T := TT Pt) Y) (hr.mono (by decide)) rfl (Y.d 43 _ rfl).1 (Y.d 43 _ rfl).2.kp (b43 Y) .nil pass0 (pa_cons (pv 1) (pa_cons (pv 2) (pa_cons (pv 9) (pa_cons (pv 6) pa_nil))))))
    (pss_cons (ps_set (i := 11) sc46.nd rfl (by first | exact .inl rfl | exact .inr rfl) (pe_call (ok_draw (T := TT Pt) Y) (hr.mono (by decide)) rfl (Y.d 24 _ rfl).1 (Y.d 24 _ rfl).2.kp (b24 Y) .nil pass0 (pa_cons (pv 1) (pa_cons pe_int pa_nil))))
    (pss_cons (ps_if (pt_not (pt_val (pe_call (ok_sound Y X Z) (hr.mono (by decide)) rfl (Y.d 45 _ rfl).1 (Y.d 45 _ rfl).2.kp (b45 Y) .nil pass0 (pa_cons (pv 2) (pa_cons (pv 6) (pa_cons (pv 9) (pa_cons (pv 11) pa_nil))))))) (pss_one (ps_ret pe_bl)) pss_nil)
    (pss_cons (ps_if (pt_not (pt_val (pe_call (ok_sound Y X Z) (hr.mono (by decide)) rfl (Y.d 45 _ rfl).1 (Y.d 45 _ rfl).2.kp (b45 Y) .nil pass0 (pa_cons (pv 2) (pa_cons (pv 6) (pa_cons (pv 10) (pa_cons (pv 11) pa_nil))))))) (pss_one (ps_ret pe_bl)) pss_nil)
    (pss_cons (ps_if (pt_cmpR op_in_seq (pv 2) (pe_tup (pa_cons pe_str (pa_cons pe_str pa_nil))) (by rfl)) (pss_cons (ps_set (i := 9) sc46.nd rfl (by first | exact .inl rfl | exact .inr rfl) (pe_slice sl_tupA (pv 9) po_none (po_some (pv 7))))
    (pss_one (ps_set (i := 10) sc46.nd rfl (by first | exact .inl rfl | exact .inr rfl) (pe_slice sl_tupA (pv 10) po_none (po_some (pv 7)))))) pss_nil)
    (pss_one (ps_ret (pe_call (ok_parted Y X Z) (hr.mono (by decide)) rfl (Y.d 44 _ rfl).1 (Y.d 44 _ rfl).2.kp (b44 Y) .nil pass0 (pa_cons (pv 2) (pa_cons (pv 8) (pa_cons (pv 9) (pa_cons (pv 10) pa_nil))))))))))))))))))))))), ?_⟩
  obtain ⟨sa, ns, rfl, hsa, hl, ht, hQ⟩ := h
  have hsz := size_big
  refine ⟨_, rfl, sa, ns, rfl, hsa, hl, fun H1 st e1 s1 => ?_⟩
  have t1 := e1.tabs ht
  refine ⟨_, rfl, st, rfl, s1, fun H2 c e2 s2 => ?_⟩
  have t2 := e2.tabs t1
  refine ⟨_, rfl, st, 6, rfl, s2, by decide, fun H3 sty e3 s3 _ => ?_⟩
  have t3 := e3.tabs t2
  refine ⟨Nat.zero_le _, fun wl nwl => ?_⟩
  have hwst : wl ≠ st := s3.ne nwl
  refine ⟨3, rfl, by decide, by decide, for_range (n := 3) (fun i σ H' => ∃ (u5 u6 u7 u8 u9 u10 u11 : Option V) (vs : List V) (ws : List (List Int)), σ = [some (.ref sa), some (.ref st), some (.str (kn c)), some (.int (sty : Nat)), some (.ref wl), u5, u6, u7, u8, u9, u10, u11] ∧ Stm H' st ∧ Tabs (TT Pt) H' ∧ H' wl = some (.lst vs) ∧ Each tI H' vs ws ∧ ws.length = i ∧ ∀ p ∈ ws, p ≠ [] ∧ p.length ≤ 6)
    ⟨_, _, _, _, _, _, _, [], [], rfl, s3.new nwl, (Fr.refl (S := Nl).new nwl).tabs t3, upd_same, Each.nil, rfl, fun p h => (nomatch h)⟩ ?_ ?_⟩
  · rintro i σ H4 hi ⟨u5, u6, u7, u8, u9, u10, u11, vs, ws, rfl, s4, t4, hwl, hE, hln, hws⟩
    refine ⟨_, rfl, .inl ⟨rfl, _, SqL.of hwl⟩, _, rfl, _, rfl, st, 6, rfl, s4, by decide, fun H5 k e5 s5 hk => ⟨_, _, rfl, rfl, _, rfl, st, k + 1, (sty : Nat), by show [V.ref st, V.int ((1 : Int) + (k : Int)), V.int (sty : Nat)] = _; rw [show (1 : Int) + (k : Int) = ((k + 1 : Nat) : Int) by omega], s5, by omega, fun H6 v u e6 s6 hul hu => ?_⟩⟩
    obtain ⟨b, rfl, hb⟩ := hu
    have e46 := e5.trans e6
    have hwl6 := e46.ext _ _ hwl hwst rfl
    have hE6 := hE.frS e46 s4
    refine ⟨wl, _, _, rfl, rfl, hwl6, by rw [hE.1, hln]; omega, _, _, _, _, _, _, _, vs ++ [.ref b], ws ++ [u], rfl, ?_, ?_, upd_same, ?_, by rw [List.length_append, hln] <;> rfl, ?_⟩
    · obtain ⟨ms, s6⟩ := s6
      exact ⟨ms, by rw [upd_ne hwst.symm]; exact s6⟩
    · exact Tabs.upd' (e46.tabs t4) fun q hq => by rw [hwl6] at hq; cases hq; rfl
    · refine (hE6.putT hwl6).snoc ?_
      rw [upd_ne (fun z => by rw [z, hwl6] at hb; cases hb)]
      exact hb
    · intro p hp
      rcases List.mem_append.mp hp with hp | hp
      · exact hws p hp
      · rw [List.mem_singleton.mp hp]
        exact ⟨fun z => (by rw [z] at hul; cases hul), by omega⟩
  rintro σ H4 ⟨u5, u6, u7, u8, u9, u10, u11, vs, ws, rfl, s4, t4, hwl, hE, hln, hws⟩
  refine ⟨_, rfl, _, rfl, c, .ref wl, ws, rfl, ⟨wl, vs, rfl, hwl, hE⟩, hln, hws, t4, fun H5 e5 => ⟨_, rfl, iteF ?_⟩⟩
  have s5 := s4.fr e5
  have t5 := e5.tabs t4
  refine ⟨_, rfl, _, rfl, st, c, rfl, s5, fun H6 la L e6 s6 hla hnd hLl => ?_⟩
  have t6 := e6.tabs t5
  have hL0 : L ≠ [] := fun z => by rw [z] at hLl; rcases hLl with h | ⟨h, _⟩ <;> cases h
  have hL3 : L.length ≤ 3 := by rcases hLl with h | ⟨h, _⟩ <;> omega
  refine inLE (T := TT Pt) rfl fun H7 e7 => bI (fun hx => ?_) fun hx => ?_
  · have s7 := s6.fr e7
    have hla7 := hla.fr e7
    have t7 := e7.tabs t6
    have hzL : L.length ≤ 2 ∨ c = .list ∨ c = .bag ∨ c = .first ∨ c = .last ∨ c = .ends := by
      cases c <;> first | (cases hx; done) | simp
    refine ⟨_, rfl, _, rfl, _, rfl, _, rfl, c, la, L, 2, rfl, hla7.seq, hL0, hL3, by decide, by decide, fun H8 v8 N e8 hN nd mem len => ?_⟩
    have s8 := s7.fr e8
    have hla8 := hla7.fr e8
    have t8 := e8.tabs t7
    have R0 : Nrm c L 2 N := ⟨nd, mem, hL0, by decide, fun _ => by decide, hzL⟩
    refine ⟨st, v8, N, rfl, s8, hN, R0.ne0, by omega, fun H9 v9 N' e9 s9 hN' pm => ?_⟩
    have R : Nrm c L 2 N' := ⟨(pm.nodup_iff).mpr nd, fun p => (pm.mem_iff).trans (mem p), hL0, by decide, fun _ => by decide, hzL⟩
    have hN39 : N'.length ≤ 39 := by rw [pm.length_eq]; exact len
    have hN4 : ∀ p ∈ N', p.length ≤ 4 := fun p hp => by
      obtain ⟨w, _, hw, _, rfl⟩ := (R.mem p).mp hp
      have := plain_len c w
      omega
    have hN0 := R.ne0
    have hla9 := hla8.frS e9 s8
    have t9 := e9.tabs t8
    refine ⟨_, rfl, _, rfl, st, la, L, rfl, s9, hla9.seq, hL0, fun HA x1 u1 eA sA hw1 ho1 hl1 => ?_⟩
    have hlaA := hla9.frS eA s9
    have tA := eA.tabs t9
    have hNA := hN'.frS eA s9 hN0
    refine ⟨_, rfl, _, rfl, _, rfl, _, rfl, st, la, c, x1, u1, L, rfl, sA, hw1, hlaA.seq, hL0, ho1, hl1, fun HB x2 u2 eB sB hw2 ho2 hl2 => ?_⟩
    have hlaB := hlaA.frS eB sA
    have tB := eB.tabs tA
    have hNB := hNA.frS eB sA hN0
    have hw1B := hw1.frS eB sA
    refine ⟨_, rfl, st, 10, rfl, sB, by decide, fun HC k eC sC hk => ?_⟩
    have hlaC := hlaB.frS eC sB
    have tC' := eC.tabs tB
    have hNC := hNB.frS eC sB hN0
    have hw1C := hw1B.frS eC sB
    have hw2C := hw2.frS eC sB
    refine ⟨_, rfl, _, rfl, _, rfl, _, rfl, c, la, x1, L, u1, k, rfl, hlaC, hL0, hL3, hw1C, ho1, by omega, tC', fun HD eD => ⟨_, rfl, iteF ?_⟩⟩
    refine ⟨_, rfl, _, rfl, _, rfl, _, rfl, c, la, x2, L, u2, k, rfl, hlaC.fr eD, hL0, hL3, hw2C.fr eD, ho2, by omega, eD.tabs tC', fun HE eE => ⟨_, rfl, iteF ?_⟩⟩
    have eCE := eD.trans eE
    refine inLB (T := TT Pt) rfl fun HF eF => ?_
    have eCF := eCE.trans eF
    obtain ⟨a1, rfl, ha1⟩ := hw1C.fr eCF
    obtain ⟨a2, rfl, ha2⟩ := hw2C.fr eCF
    refine bI (fun hx2 => ?_) fun hx2 => ?_
    · have hov : ∀ {u : List Int}, Over L u → Over L (u.take 2) ∧ plain c (u.take 2) ∈ N' ∧ (u.take 2).length ≤ 7 := fun {u} ho => by
        have h1 : Over L (u.take 2) := ⟨fun z => by
          have h := congrArg List.length z
          rw [List.length_take, List.length_nil] at h
          have := List.length_pos_iff.mpr ho.1
          omega, fun x hx => ho.2 x (List.mem_of_mem_take hx)⟩
        exact ⟨h1, (R.found_ext hx2 h1).mpr (by rw [List.length_take]; omega), by rw [List.length_take]; omega⟩
      have ecut : ∀ u : List Int, cutV (iv u) none (some 2) = iv (u.take 2) := fun u => by
        rw [show (some (2 : Int)) = some ((2 : Nat) : Int) from rfl, cut_to, iv, iv, List.map_take]
      refine ⟨_, rfl, _, rfl, _, rfl, slT (T := TT Pt) ha1 fun HG q1 eG hq1 => ?_⟩
      replace hq1 : HG q1 = some (.tup (cutV (iv u1) none (some 2))) := hq1
      rw [ecut] at hq1
      refine ⟨_, rfl, _, rfl, _, rfl, slT (T := TT Pt) (eG.tup ha2) fun HH q2 eH hq2 => ?_⟩
      replace hq2 : HH q2 = some (.tup (cutV (iv u2) none (some 2))) := hq2
      rw [ecut] at hq2
      have eCH := (eCF.trans eG).trans eH
      obtain ⟨o1, m1, l1⟩ := hov ho1
      obtain ⟨o2, m2, l2⟩ := hov ho2
      exact ⟨_, rfl, _, rfl, _, rfl, _, rfl, c, v9, .ref q1, .ref q2, N', L, _, _, 2, rfl, hNC.fr (fun _ => rfl) eCH, R, hN39, hN4, ⟨q1, rfl, eH.tup hq1⟩, ⟨q2, rfl, hq2⟩, o1, o2, l1, l2, m1, m2, eCH.tabs tC', fun H' _ => hQ H'⟩
    · exact ⟨_, rfl, _, rfl, _, rfl, _, rfl, c, v9, .ref a1, .ref a2, N', L, u1, u2, 2, rfl, hNC.fr (fun _ => rfl) eCF, R, hN39, hN4, ⟨a1, rfl, ha1⟩, ⟨a2, rfl, ha2⟩, ho1, ho2, by omega, by omega, R.found hx2 ho1, R.found hx2 ho2, eCF.tabs tC', fun H' _ => hQ H'⟩
  · have s7 := s6.fr e7
    have hla7 := hla.fr e7
    have t7 := e7.tabs t6
    have hzL : L.length ≤ 3 ∨ c = .list ∨ c = .bag ∨ c = .first ∨ c = .last ∨ c = .ends := by
      exact .inl hL3
    refine ⟨_, rfl, _, rfl, _, rfl, _, rfl, c, la, L, 3, rfl, hla7.seq, hL0, hL3, by decide, by decide, fun H8 v8 N e8 hN nd mem len => ?_⟩
    have s8 := s7.fr e8
    have hla8 := hla7.fr e8
    have t8 := e8.tabs t7
    have R0 : Nrm c L 3 N := ⟨nd, mem, hL0, by decide, fun _ => by decide, hzL⟩
    refine ⟨st, v8, N, rfl, s8, hN, R0.ne0, by omega, fun H9 v9 N' e9 s9 hN' pm => ?_⟩
    have R : Nrm c L 3 N' := ⟨(pm.nodup_iff).mpr nd, fun p => (pm.mem_iff).trans (mem p), hL0, by decide, fun _ => by decide, hzL⟩
    have hN39 : N'.length ≤ 39 := by rw [pm.length_eq]; exact len
    have hN4 : ∀ p ∈ N', p.length ≤ 4 := fun p hp => by
      obtain ⟨w, _, hw, _, rfl⟩ := (R.mem p).mp hp
      have := plain_len c w
      omega
    have hN0 := R.ne0
    have hla9 := hla8.frS e9 s8
    have t9 := e9.tabs t8
    refine ⟨_, rfl, _, rfl, st, la, L, rfl, s9, hla9.seq, hL0, fun HA x1 u1 eA sA hw1 ho1 hl1 => ?_⟩
    have hlaA := hla9.frS eA s9
    have tA := eA.tabs t9
    have hNA := hN'.frS eA s9 hN0
    refine ⟨_, rfl, _, rfl, _, rfl, _, rfl, st, la, c, x1, u1, L, rfl, sA, hw1, hlaA.seq, hL0, ho1, hl1, fun HB x2 u2 eB sB hw2 ho2 hl2 => ?_⟩
    have hlaB := hlaA.frS eB sA
    have tB := eB.tabs tA
    have hNB := hNA.frS eB sA hN0
    have hw1B := hw1.frS eB sA
    refine ⟨_, rfl, st, 10, rfl, sB, by decide, fun HC k eC sC hk => ?_⟩
    have hlaC := hlaB.frS eC sB
    have tC' := eC.tabs tB
    have hNC := hNB.frS eC sB hN0
    have hw1C := hw1B.frS eC sB
    have hw2C := hw2.frS eC sB
    refine ⟨_, rfl, _, rfl, _, rfl, _, rfl, c, la, x1, L, u1, k, rfl, hlaC, hL0, hL3, hw1C, ho1, by omega, tC', fun HD eD => ⟨_, rfl, iteF ?_⟩⟩
    refine ⟨_, rfl, _, rfl, _, rfl, _, rfl, c, la, x2, L, u2, k, rfl, hlaC.fr eD, hL0, hL3, hw2C.fr eD, ho2, by omega, eD.tabs tC', fun HE eE => ⟨_, rfl, iteF ?_⟩⟩
    have eCE := eD.trans eE
    refine inLB (T := TT Pt) rfl fun HF eF => ?_
    have eCF := eCE.trans eF
    obtain ⟨a1, rfl, ha1⟩ := hw1C.fr eCF
    obtain ⟨a2, rfl, ha2⟩ := hw2C.fr eCF
    refine bI (fun hx2 => ?_) fun hx2 => ?_
    · have hov : ∀ {u : List Int}, Over L u → Over L (u.take 3) ∧ plain c (u.take 3) ∈ N' ∧ (u.take 3).length ≤ 7 := fun {u} ho => by
        have h1 : Over L (u.take 3) := ⟨fun z => by
          have h := congrArg List.length z
          rw [List.length_take, List.length_nil] at h
          have := List.length_pos_iff.mpr ho.1
          omega, fun x hx => ho.2 x (List.mem_of_mem_take hx)⟩
        exact ⟨h1, (R.found_ext hx2 h1).mpr (by rw [List.length_take]; omega), by rw [List.length_take]; omega⟩
      have ecut : ∀ u : List Int, cutV (iv u) none (some 3) = iv (u.take 3) := fun u => by
        rw [show (some (3 : Int)) = some ((3 : Nat) : Int) from rfl, cut_to, iv, iv, List.map_take]
      refine ⟨_, rfl, _, rfl, _, rfl, slT (T := TT Pt) ha1 fun HG q1 eG hq1 => ?_⟩
      replace hq1 : HG q1 = some (.tup (cutV (iv u1) none (some 3))) := hq1
      rw [ecut] at hq1
      refine ⟨_, rfl, _, rfl, _, rfl, slT (T := TT Pt) (eG.tup ha2) fun HH q2 eH hq2 => ?_⟩
      replace hq2 : HH q2 = some (.tup (cutV (iv u2) none (some 3))) := hq2
      rw [ecut] at hq2
      have eCH := (eCF.trans eG).trans eH
      obtain ⟨o1, m1, l1⟩ := hov ho1
      obtain ⟨o2, m2, l2⟩ := hov ho2
      exact ⟨_, rfl, _, rfl, _, rfl, _, rfl, c, v9, .ref q1, .ref q2, N', L, _, _, 3, rfl, hNC.fr (fun _ => rfl) eCH, R, hN39, hN4, ⟨q1, rfl, eH.tup hq1⟩, ⟨q2, rfl, hq2⟩, o1, o2, l1, l2, m1, m2, eCH.tabs tC', fun H' _ => hQ H'⟩
    · exact ⟨_, rfl, _, rfl, _, rfl, _, rfl, c, v9, .ref a1, .ref a2, N', L, u1, u2, 3, rfl, hNC.fr (fun _ => rfl) eCF, R, hN39, hN4, ⟨a1, rfl, ha1⟩, ⟨a2, rfl, ha2⟩, ho1, ho2, by omega, by omega, R.found hx2 ho1, R.found hx2 ho2, eCF.tabs tC', fun H' _ => hQ H'⟩
end
end K4
/-! the head's facts: an own Hook -/
namespace K4
open PySem PySem.Spec PyProof.Rows L2 LamX He
/-! ### functions found by a path of one's own -/
abbrev FnZ : Type := Option (Str × Str × Arguments × FuncBody × Scope × Addr × Addr)
def fnZ (K : PySem.W.Frag) (a : Addr) : FnZ := match K.lookup a with
  | some ⟨_, _, .func fd, _⟩ => some (fd.name, fd.qualname, fd.params, fd.body, fd.scope, fd.globals, fd.builtins)
  | _ => none
structure ZD where
  ad : PySem.W.Frag → Addr
  name : Str
  qual : Str
  params : Arguments
  body : List Stmt
  scope : Scope
def ZD.val (d : ZD) : FnZ := some (d.name, d.qual, d.params, .stmts d.body, d.scope, mainGlobals, builtinsNs)
def noneB : Value → Bool
  | .none => true
  | _ => false
/-- no defaults; the code's name; the closure: none, or the cell of __class__ at cc -/
def funB (K : PySem.W.Frag) (a : Addr) (q : Str) (cl : Option Addr) : Bool := match K.lookup a with
  | some ⟨_, _, .func fd, _⟩ => PySem.W.codeIn K fd.code q && (noneB fd.defaults && (match cl with
    | none => fd.closure.isEmpty
    | some cc => decide (fd.closure = [(("__class__" : Str), cc)])))
  | _ => false
/-- the code's address, the closure's first cell -/
def codeAt (K : PySem.W.Frag) (a : Addr) : Addr := match K.lookup a with
  | some ⟨_, _, .func fd, _⟩ => (match fd.code with | .ref c => c | _ => 0)
  | _ => 0
def cellAt (K : PySem.W.Frag) (a : Addr) : Addr := match K.lookup a with
  | some ⟨_, _, .func fd, _⟩ => (match fd.closure with | (_, c) :: _ => c | _ => 0)
  | _ => 0
theorem fun_open {K : PySem.W.Frag} {d : ZD} (e : fnZ K (d.ad K) = d.val) (c : funB K (d.ad K) d.qual none = true) (kk : PySem.W.keepIn K (.ref (d.ad K)) = true) :
    ∃ fd, FunD K d.name d.qual d.params d.body d.scope [] [] (d.ad K) fd := by
  unfold funB at c
  unfold fnZ at e
  cases q : K.lookup (d.ad K) with
  | none =>
    rw [q] at c
    cases c
  | some o =>
    obtain ⟨oc, od, dt, osl⟩ := o
    rw [q] at c e
    cases dt with
    | func fd =>
      obtain ⟨n1, n2, n3, n4, n5, n6, n7, n8, n9, n10, n11, n12, n13, n14, n15⟩ := fd
      have e2 : (some (n1, n2, n3, n4, n5, n6, n15) : FnZ) = some (d.name, d.qual, d.params, .stmts d.body, d.scope, mainGlobals, builtinsNs) := e
      simp only [Option.some.injEq, Prod.mk.injEq] at e2
      obtain ⟨h1, h2, h3, h4, h5, h6, h7⟩ := e2
      subst h1 h2 h3 h4 h5 h6 h7
      obtain ⟨k1, k2⟩ := ba (show (PySem.W.codeIn K n13 d.qual && (noneB n8 && n7.isEmpty)) = true from c)
      obtain ⟨k3, k4⟩ := ba k2
      have k5 : n7 = [] := List.isEmpty_iff.mp k4
      subst k5
      have k6 : n8 = .none := by
        cases n8 <;> first | rfl | cases k3
      subst k6
      exact ⟨_, ⟨oc, od, .none, n9, n10, n11, n12, n13, n14, osl, rfl, q, k1, .inl ⟨rfl, rfl⟩, .inl rfl⟩, kk⟩
    | _ => cases c
theorem fun_clo {K : PySem.W.Frag} {d : ZD} (e : fnZ K (d.ad K) = d.val) (c : funB K (d.ad K) d.qual (some (cellAt K (d.ad K))) = true) :
    ∃ (oc : Value) (od : Option Addr) (kV doc pm : Value) (an : Option Addr) (ct : Value) (osl : Array (Option Value)), K.lookup (d.ad K) = some ⟨oc, od, .func (PySem.W.ksFn d.name d.qual d.params d.body d.scope .none kV doc pm an (.ref (codeAt K (d.ad K))) ct (cellAt K (d.ad K))), osl⟩ ∧ PySem.W.codeIn K (.ref (codeAt K (d.ad K))) d.qual = true := by
  generalize hcc : cellAt K (d.ad K) = cc at c
  generalize hca : codeAt K (d.ad K) = ca
  unfold funB at c
  unfold fnZ at e
  unfold codeAt at hca
  cases q : K.lookup (d.ad K) with
  | none =>
    rw [q] at c
    cases c
  | some o =>
    obtain ⟨oc, od, dt, osl⟩ := o
    rw [q] at c e hca
    cases dt with
    | func fd =>
      obtain ⟨n1, n2, n3, n4, n5, n6, n7, n8, n9, n10, n11, n12, n13, n14, n15⟩ := fd
      have e2 : (some (n1, n2, n3, n4, n5, n6, n15) : FnZ) = some (d.name, d.qual, d.params, .stmts d.body, d.scope, mainGlobals, builtinsNs) := e
      simp only [Option.some.injEq, Prod.mk.injEq] at e2
      obtain ⟨h1, h2, h3, h4, h5, h6, h7⟩ := e2
      subst h1 h2 h3 h4 h5 h6 h7
      obtain ⟨k1, k2⟩ := ba (show (PySem.W.codeIn K n13 d.qual && (noneB n8 && decide (n7 = [(("__class__" : Str), cc)]))) = true from c)
      obtain ⟨k3, k4⟩ := ba k2
      have k5 : n7 = [(("__class__" : Str), cc)] := of_decide_eq_true k4
      subst k5
      have k6 : n8 = .none := by
        cases n8 <;> first | rfl | cases k3
      subst k6
      obtain ⟨c13, rfl⟩ := codeIn_ref k1
      have h13 : c13 = ca := hca
      subst h13
      exact ⟨oc, od, n9, n10, n11, n12, n14, osl, rfl, k1⟩
    | _ => cases c
/-! ### the places -/
def Cc (K : PySem.W.Frag) (c : Kd) : Addr := ga K (cn c)
def Ck (K : PySem.W.Frag) (c : Kd) : Addr := ma K (Cc K c) "keep"
def szP (K : PySem.W.Frag) : Addr := ma K (ga K "Table") "size"
def szG (K : PySem.W.Frag) : Addr := match PySem.W.recIn K (szP K) "property" with
  | some (.ref g :: _) => g
  | _ => 0
def mTab (j : Nat) (K : PySem.W.Frag) : Addr := match tq j with
  | some (x, _) => if j = 1 then szG K else ma K (ga K "Table") x
  | none => 0
abbrev kinds : List Kd := [.list, .bag, .set, .first, .last, .ends, .heads, .tails]
def nms : List Nat := [14, 15, 16, 17, 19, 20, 23, 24, 25, 26, 27, 28, 29, 30, 31, 32, 33, 34, 35, 36, 37, 38, 39, 40, 41, 42, 43, 44, 45, 46]
def nmd (i : Nat) : Str := (nm i).getD ""
def zdef (i : Nat) : ZD := ⟨fun K => ga K (nmd i), nmd i, nmd i, defArgs (topS i), defBody (topS i), defScope (topS i)⟩
def ztab (j : Nat) : ZD := ⟨mTab j, ((tq j).getD ("", "")).1, ((tq j).getD ("", "")).2, defArgs (mS j), defBody (mS j), defScope (mS j)⟩
def zkeep (c : Kd) : ZD := ⟨fun K => Ck K c, "keep", qn c, defArgs (kS c), defBody (kS c), defScope (kS c)⟩
def zplain : ZD := ⟨fun K => ma K (Cc K .list) "plain", "plain", "Kind.plain", defArgs plS, defBody plS, defScope plS⟩
def tjs : List Nat := [0, 1, 4, 5, 6, 7]
def zs : List ZD := nms.map zdef ++ (tjs.map ztab ++ (kinds.map zkeep ++ [zplain]))
/-! ### the facts -/
def fileB (K : PySem.W.Frag) (file : Str) (c : Addr) : Bool := match K.lookup c with
  | some ⟨_, _, .fields vs, _⟩ => (match (vs[2]? : Option Value) with | some (.str f _) => file == f | _ => false)
  | _ => false
def cellB (K : PySem.W.Frag) (cc D : Addr) : Bool := match K.lookup cc with
  | some ⟨_, _, .cell (some (.ref a)), _⟩ => decide (a = D)
  | _ => false
def supB (K : PySem.W.Frag) (C D f2 : Addr) : Bool := decide (PySem.W.mroIn K C (.ref D) = some true) && (eqO (PySem.W.nsIn K PySem.cStatics "thirdparty.any") (some none) && (eqO (PySem.W.ks_superIn K C D "keep") (some (some (.ref f2))) && (decide (PySem.W.typeIn K (.ref f2) = some (.type "function")) && PySem.W.fnIn K f2)))
def ruleB (K : PySem.W.Frag) (C : Addr) (vs : List V) : Bool := eqO (PySem.W.findIn K (.ref C) "RULES") (some (some (.ref (ma K C "RULES")))) && (eqO (PySem.W.specialIn K (.ref (ma K C "RULES")) "__get__") (some none) && (match K.lookup (ma K C "RULES") with
  | some ⟨.type t, _, .seq its _, _⟩ => decide (t = "tuple") && (decide (its.size ≤ sizeLine) && relAll vs its.toList)
  | _ => false))
def mk0B (K : PySem.W.Frag) (C : Addr) : Bool := PySem.W.makesIn K C && (eqO (PySem.W.findIn K (.ref C) "__init__") (some (some (.builtin "object.__init__"))) && PySem.W.keepIn K (.ref C))
def propB (K : PySem.W.Frag) : Bool := eqO (PySem.W.findIn K (.ref (ga K "Table")) "size") (some (some (.ref (szP K)))) && (eqO (PySem.W.specialIn K (.ref (szP K)) "__get__") (some (some (.builtin "property.__get__"))) && (decide (PySem.W.takesIn K (.ref (szP K)) = some true) && (match PySem.W.recIn K (szP K) "property" with
  | some (.ref _ :: _) => true
  | _ => false)))
def kindB (file : Str) (K : PySem.W.Frag) (c : Kd) : Bool := mk0B K (Cc K c) && (ruleB K (Cc K c) ((rl c).map fun r => V.str (rt r)) && (decide (ma K (Cc K c) "plain" = ma K (Cc K .list) "plain") && (chain c).all fun d => supB K (Cc K c) (Cc K d) (Ck K (bs d))))
def cloB (file : Str) (K : PySem.W.Frag) (c : Kd) : Bool := match c with
  | .list => funB K (Ck K c) (qn c) none && PySem.W.keepIn K (.ref (Ck K c))
  | _ => funB K (Ck K c) (qn c) (some (cellAt K (Ck K c))) && (fileB K file (codeAt K (Ck K c)) && (cellB K (cellAt K (Ck K c)) (Cc K c) && (PySem.W.clsIn K (Cc K c)).isSome))
def plnB (K : PySem.W.Frag) (d : ZD) : Bool := funB K (d.ad K) d.qual none && PySem.W.keepIn K (.ref (d.ad K))
def exB (file : Str) (K : PySem.W.Frag) : Bool := (kinds.all fun c => kindB file K c && cloB file K c) && (propB K && (nms.map zdef ++ (tjs.map ztab ++ [zplain])).all fun d => plnB K d)
def fa : List Fa := (nms.map fun i => Fa.glo (nmd i)) ++ ((kinds.flatMap fun c => [Fa.glo (cn c), .cls (cn c), .meth (cn c) "plain", .meth (cn c) "keep"]) ++ [.glo "Table", .cls "Table", .mkr "Table", .keep "Table", .noat "Table" "_rows", .meth "Table" "fold", .meth "Table" "ungrouped", .meth "Table" "breaking", .meth "Table" "fault",
  .free "len", .free "range", .free "abs", .free "int", .free "enumerate", .free "tuple", .free "sorted", .free "list", .free "max", .free "super"])
def tf : List Defn := [("BagKind", some "keep")]
/-! ### the Hook -/
abbrev AlY : Type := AlX × List FnZ
def Kof (g : Addr → Option Obj) (n : Nat) : PySem.W.Frag := frT g (PySem.cStatics :: asD g n)
def obsY (n : Nat) (fa : List Fa) (tf : List Defn) (zs : List ZD) (ex : PySem.W.Frag → Bool) (g : Addr → Option Obj) : AlY := (((obsT fa [] [] (Kof g n), ex (Kof g n) && tabsB g tf (Kof g n))), zs.map fun d => fnZ (Kof g n) (d.ad (Kof g n)))
def valY (zs : List ZD) (w : World) : AlY := (valX [] [] w, zs.map ZD.val)
structure SaysY (fa : List Fa) (tf : List Defn) (zs : List ZD) (ex : PySem.W.Frag → Bool) (w : World) (h : Heap) (K : PySem.W.Frag) : Prop where
  t : SaysX fa [] [] tf ex w h K
  z : ∀ d ∈ zs, fnZ K (d.ad K) = d.val
theorem map_eq {α β : Type} {f g : α → β} : ∀ {l : List α}, l.map f = l.map g → ∀ x ∈ l, f x = g x
  | [], _, x, h => nomatch h
  | y :: l, e, x, h => by
    rw [List.map_cons, List.map_cons] at e
    injection e with e1 e2
    rcases List.mem_cons.mp h with rfl | h
    · exact e1
    · exact map_eq e2 x h
theorem saysY_of {n : Nat} {fa : List Fa} {tf : List Defn} {zs : List ZD} {ex : PySem.W.Frag → Bool} {w : World} {h : Heap} (e : obsY n fa tf zs ex h.get? = valY zs w) : SaysY fa tf zs ex w h (Kof h.get? n) := by
  have e0 : (obsT fa [] [] (Kof h.get? n), ex (Kof h.get? n) && tabsB h.get? tf (Kof h.get? n)) = valX [] [] w := congrArg (fun z : AlY => z.1) e
  have e1 : obsT fa [] [] (Kof h.get? n) = valT [] [] w := congrArg (fun z : AlX => z.1) e0
  have e2 : (ex (Kof h.get? n) && tabsB h.get? tf (Kof h.get? n)) = true := congrArg (fun z : AlX => z.2) e0
  have e3 : zs.map (fun d => fnZ (Kof h.get? n) (d.ad (Kof h.get? n))) = zs.map ZD.val := congrArg (fun z : AlY => z.2) e
  obtain ⟨h1, h2⟩ := ba e2
  have key : ∀ p ∈ tf, PySem.W.codeHdIn (Kof h.get? n) (cT (Kof h.get? n) p).1 (cT (Kof h.get? n) p).2 = true ∧ ∃ o, h.get? (cT (Kof h.get? n) p).2 = some o ∧ emptyTab o = true := fun p hp => by
    obtain ⟨h3, h4⟩ := ba (List.all_eq_true.mp h2 p hp)
    refine ⟨h3, ?_⟩
    cases q : h.get? (cT (Kof h.get? n) p).2 with
    | none =>
      rw [q] at h4
      cases h4
    | some o =>
      rw [q] at h4
      exact ⟨o, rfl, h4⟩
  refine ⟨⟨e1, h1, fun p hp => (key p hp).1, fun p hp => ?_, fun p hp => ?_⟩, fun d hd => map_eq e3 d hd⟩
  · obtain ⟨_, o, q, z⟩ := key p hp
    exact frT_none q z
  · obtain ⟨_, o, q, z⟩ := key p hp
    rw [q, emptyTab_eq z]
def hookY (n : Nat) (fa : List Fa) (tf : List Defn) (zs : List ZD) (ex : PySem.W.Frag → Bool) : PySem.W.Hook where
  α := AlY
  obs := fun s => obsY n fa tf zs ex s.heap.get?
  val := fun w => valY zs w
  says := fun w h => ∃ K : PySem.W.Frag, K.In h ∧ SaysY fa tf zs ex w h K
  of := fun _ _ e => ⟨_, frT_in, saysY_of e⟩
  keeps := fun _ _ _ ⟨K, hK, c⟩ k => ⟨K, PySem.W.Frag.In.keeps hK k, ⟨⟨c.t.t, c.t.more, c.t.hd, c.t.out, fun p hp => k _ _ (c.t.empty p hp)⟩, c.z⟩⟩
theorem obsY_eq {n : Nat} {fa : List Fa} {tf : List Defn} {zs : List ZD} {ex : PySem.W.Frag → Bool} {g : Addr → Option Obj} {s : Shared} (h : ∀ a, g a = s.heap.get? a) : obsY n fa tf zs ex g = (hookY n fa tf zs ex).obs s := by
  have e : g = s.heap.get? := funext h
  rw [e] <;> rfl
end K4
namespace K4
open PySem PySem.W PySem.Calls PyProof.Rows He
abbrev R : OpenRow := OpenLaw.row PySem.Challenge.rw_movedstates_k04_whole_words
def nm1 : List PySem.Str := ["MovedError", "BadKind", "BadTable", "EmptyWord", "Kind", "BagKind", "SetKind", "HeadsKind", "FirstKind", "TailsKind", "LastKind", "EndsKind", "kind_named", "plain_value", "alike", "rule_words", "check_rows", "tuples_of", "Table"]
def nm2 : List PySem.Str := ["_law_stream", "_law_draw", "_law_wide", "_law_kind", "_law_value", "_law_word", "_law_plain", "_law_menu", "_law_rules", "_law_fold", "_law_choices", "_law_breaking", "_law_fault", "_law_merged", "_law_ruled", "_law_normals", "_law_free", "_law_alphabet", "_law_turned", "_law_free_word", "_law_partner", "_law_parted", "_law_sound"]
def names : List PySem.Str := nm1 ++ nm2
abbrev exR : PySem.W.Frag → Bool := exB R.prog.main.file
abbrev hk : Hook := hookY 6 fa tf zs exR
def ob (s : SharedT) : AlY := obsY 6 fa tf zs exR (HandSHeadRun.getT s)
theorem ob_eq (s : SharedT) : ob s = hk.obs s.abs := obsY_eq (HandSHeadRun.getT_eq s)
theorem run (w : World) : HandSHeadRun.RunEq R (view R.prog [46]) hk ob 20000 names w := by
  intro os
  kernel_rfl
end K4
namespace K4
open PySem PySem.Spec PyProof.Rows L2 LamX He
def funAt (K : PySem.W.Frag) (a : Addr) : FuncData := match K.lookup a with
  | some ⟨_, _, .func fd, _⟩ => fd
  | _ => default
theorem FunD.at_ {K : PySem.W.Frag} {x q : Str} {pa : Arguments} {b : List Stmt} {s : Scope} {f : Addr} {fd : FuncData} (F : FunD K x q pa b s [] [] f fd) : fd = funAt K f := by
  obtain ⟨oc, od, dV, kV, doc, pm, an, cdv, ct, osl, _, lk, _⟩ := F.ex
  unfold funAt
  rw [lk]
theorem nm_mem {i : Nat} {x : Str} (h : nm i = some x) : i ∈ nms ∧ nmd i = x := by
  have h2 : nmd i = x := by unfold nmd; rw [h] <;> rfl
  refine ⟨?_, h2⟩
  unfold nm at h
  split at h <;> first | decide | cases h
theorem tq_mem {j : Nat} {x q : Str} (h : tq j = some (x, q)) : j ∈ tjs ∧ (ztab j).name = x ∧ (ztab j).qual = q := by
  refine ⟨?_, by show ((tq j).getD ("", "")).1 = x; rw [h] <;> rfl, by show ((tq j).getD ("", "")).2 = q; rw [h] <;> rfl⟩
  unfold tq at h
  split at h <;> first | decide | cases h
theorem con_ok {K : PySem.W.Frag} {C : Addr} {vs : List V} (h : ruleB K C vs = true) : ∃ (ra : Addr) (u : Value), Con K C "RULES" (.ref ra) u ∧ ∀ H, SqT K H ra vs := by
  obtain ⟨h1, h2⟩ := ba h
  obtain ⟨h3, h4⟩ := ba h2
  refine ⟨ma K C "RULES", .ref (ma K C "RULES"), ⟨eqO_ok h1, rfl, eqO_ok h3, by decide +kernel⟩, fun H => ?_⟩
  cases q : K.lookup (ma K C "RULES") with
  | none =>
    rw [q] at h4
    cases h4
  | some o =>
    obtain ⟨oc, od, dt, osl⟩ := o
    rw [q] at h4
    cases oc with
    | type t =>
      cases dt with
      | seq its n =>
        obtain ⟨k1, k2⟩ := ba (show (decide (t = "tuple") && (decide (its.size ≤ sizeLine) && relAll vs its.toList)) = true from h4)
        obtain ⟨k3, k4⟩ := ba k2
        exact .inr ⟨_, its, n, q, congrArg Value.type (of_decide_eq_true k1), rfl, of_decide_eq_true k3, relAll_ok k4⟩
      | _ => cases h4
    | _ => cases dt <;> cases h4
theorem sup_ok {K : PySem.W.Frag} {C D f2 : Addr} (h : supB K C D f2 = true) : SupTo K C D "keep" f2 := by
  obtain ⟨h1, h⟩ := ba h
  obtain ⟨h2, h⟩ := ba h
  obtain ⟨h3, h⟩ := ba h
  obtain ⟨h4, h5⟩ := ba h
  exact ⟨of_decide_eq_true h1, eqO_ok h2, eqO_ok h3, of_decide_eq_true h4, h5⟩
theorem mk0_ok {K : PySem.W.Frag} {C : Addr} (h : mk0B K C = true) : Mk0 K C := by
  obtain ⟨h1, h⟩ := ba h
  obtain ⟨h2, h3⟩ := ba h
  exact ⟨h1, eqO_ok h2, h3⟩
theorem prop_ok {K : PySem.W.Frag} (h : propB K = true) : ∃ pp, PropOf K (ga K "Table") "size" pp (szG K) := by
  obtain ⟨h1, h⟩ := ba h
  obtain ⟨h2, h⟩ := ba h
  obtain ⟨h3, h4⟩ := ba h
  refine ⟨szP K, eqO_ok h1, eqO_ok h2, of_decide_eq_true h3, ?_⟩
  unfold szG
  cases q : PySem.W.recIn K (szP K) "property" with
  | none =>
    rw [q] at h4
    cases h4
  | some l =>
    rw [q] at h4
    cases l with
    | nil => cases h4
    | cons v l =>
      cases v with
      | ref g => exact ⟨l, rfl⟩
      | _ => cases h4
theorem file_ok {K : PySem.W.Frag} {file : Str} {c : Addr} (h : fileB K file c = true) : ∃ (oc : Value) (od : Option Addr) (vs : Array Value) (osl : Array (Option Value)) (f : Str) (tf : Tok), K.lookup c = some ⟨oc, od, .fields vs, osl⟩ ∧ vs[2]? = some (.str f tf) ∧ (file == f) = true := by
  unfold fileB at h
  cases q : K.lookup c with
  | none =>
    rw [q] at h
    cases h
  | some o =>
    obtain ⟨oc, od, dt, osl⟩ := o
    rw [q] at h
    cases dt with
    | fields vs =>
      have h' : (match (vs[2]? : Option Value) with | some (.str f _) => file == f | _ => false) = true := h
      cases e : (vs[2]? : Option Value) with
      | none =>
        rw [e] at h'
        cases h'
      | some v =>
        rw [e] at h'
        cases v with
        | str f t => exact ⟨oc, od, vs, osl, f, t, rfl, e, h'⟩
        | _ => cases h'
    | _ => cases h
theorem cell_ok {K : PySem.W.Frag} {cc D : Addr} (h : cellB K cc D = true) : ∃ (oc : Value) (od : Option Addr) (osl : Array (Option Value)), K.lookup cc = some ⟨oc, od, .cell (some (.ref D)), osl⟩ := by
  unfold cellB at h
  cases q : K.lookup cc with
  | none =>
    rw [q] at h
    cases h
  | some o =>
    obtain ⟨oc, od, dt, osl⟩ := o
    rw [q] at h
    cases dt with
    | cell v =>
      cases v with
      | none => cases h
      | some v =>
        cases v with
        | ref a =>
          have e : a = D := of_decide_eq_true h
          subst e
          exact ⟨oc, od, osl, rfl⟩
        | _ => cases h
    | _ => cases h
section
variable {w : World} {K : PySem.W.Frag} {h : Heap} {mg : Str → Option Value}
theorem ok_plnB (c : SaysY fa tf zs exR w h K) {d : ZD} (hd : d ∈ nms.map zdef ++ (tjs.map ztab ++ [zplain])) : FunD K d.name d.qual d.params d.body d.scope [] [] (d.ad K) (funAt K (d.ad K)) := by
  obtain ⟨_, h2⟩ := ba c.t.more
  obtain ⟨_, h3⟩ := ba h2
  obtain ⟨h4, h5⟩ := ba (List.all_eq_true.mp h3 d hd)
  have hz : d ∈ zs := by
    unfold zs
    rcases List.mem_append.mp hd with q | q
    · exact List.mem_append_left _ q
    · rcases List.mem_append.mp q with q | q
      · exact List.mem_append_right _ (List.mem_append_left _ q)
      · exact List.mem_append_right _ (List.mem_append_right _ (List.mem_append_right _ q))
  obtain ⟨fd, F⟩ := fun_open (c.z d hz) h4 h5
  have e := FunD.at_ F
  rw [e] at F
  exact F
theorem mkFx (X : K.In h) (G : h.Ns mainGlobals mg) (c : SaysY fa tf zs exR w h K) : Fx K mg (fun i => ga K (nmd i)) (fun i => funAt K (ga K (nmd i))) := by
  have F : ∀ {f : Fa}, f ∈ fa → f.ok K = true := fun hf => c.t.t.d.facts hf
  refine ⟨free_ok X G (F (f := .free "len") ?_), free_ok X G (F (f := .free "range") ?_), free_ok X G (F (f := .free "abs") ?_), free_ok X G (F (f := .free "int") ?_), free_ok X G (F (f := .free "enumerate") ?_), free_ok X G (F (f := .free "tuple") ?_), free_ok X G (F (f := .free "sorted") ?_),
    free_ok X G (F (f := .free "list") ?_), free_ok X G (F (f := .free "max") ?_), free_ok X G (F (f := .free "super") ?_), fun i x hx => ?_⟩
  all_goals try (refine List.mem_append_right _ (List.mem_append_right _ ?_); simp; done)
  obtain ⟨hi, rfl⟩ := nm_mem hx
  refine ⟨glo_ok X G (F (List.mem_append_left _ (List.mem_map.mpr ⟨i, hi, rfl⟩))), ?_⟩
  exact ok_plnB c (d := zdef i) (List.mem_append_left _ (List.mem_map.mpr ⟨i, hi, rfl⟩))
theorem mkTx (X : K.In h) (G : h.Ns mainGlobals mg) (c : SaysY fa tf zs exR w h K) : Tx K mg (ga K "Table") (fun j => mTab j K) (fun j => funAt K (mTab j K)) := by
  have F : ∀ {f : Fa}, f ∈ fa → f.ok K = true := fun hf => c.t.t.d.facts hf
  obtain ⟨_, h2⟩ := ba c.t.more
  refine ⟨glo_ok X G (F (f := .glo "Table") ?_), mkr_ok (F (f := .mkr "Table") ?_), keep_ok (F (f := .keep "Table") ?_), cls_ok (F (f := .cls "Table") ?_), noat_ok (F (f := .noat "Table" "_rows") ?_), fun j x q hj h2 => ?_, fun j x q hj => ?_, prop_ok (ba h2).1⟩
  all_goals try (refine List.mem_append_right _ (List.mem_append_right _ ?_); simp; done)
  · have key : ∀ j ∈ tjs, 2 ≤ j → Fa.meth "Table" (ztab j).name ∈ fa ∧ mTab j K = ma K (ga K "Table") (ztab j).name := by
      intro j hj h2
      simp only [tjs, List.mem_cons, List.not_mem_nil, or_false] at hj
      rcases hj with rfl | rfl | rfl | rfl | rfl | rfl
      · omega
      · omega
      all_goals
        refine ⟨List.mem_append_right _ (List.mem_append_right _ ?_), rfl⟩
        simp [ztab, tq]
    obtain ⟨hm, rfl, rfl⟩ := tq_mem hj
    obtain ⟨k1, k2⟩ := key j hm h2
    rw [k2]
    exact meth_ok (F k1)
  · obtain ⟨hm, rfl, rfl⟩ := tq_mem hj
    exact ok_plnB c (d := ztab j) (List.mem_append_right _ (List.mem_append_left _ (List.mem_map.mpr ⟨j, hm, rfl⟩)))
def KAof (K : PySem.W.Frag) : KA := ⟨Cc K, Ck K, fun c => cellAt K (Ck K c), fun c => codeAt K (Ck K c), ma K (Cc K .list) "plain", funAt K (ma K (Cc K .list) "plain"), fun c => funAt K (Ck K c)⟩
theorem kd_mem (c : Kd) : c ∈ kinds := by cases c <;> decide
theorem mkKx {base : Heap} {Pt : Addr} (X : K.In h) (G : h.Ns mainGlobals mg) (c : SaysY fa tf zs exR w h K) (tab : TabB base mg (codeAt K (Ck K .bag)) Pt) : Kx R.prog K mg base Pt (KAof K) := by
  have F : ∀ {f : Fa}, f ∈ fa → f.ok K = true := fun hf => c.t.t.d.facts hf
  obtain ⟨h1, h2⟩ := ba c.t.more
  have hk : ∀ d, kindB R.prog.main.file K d = true ∧ cloB R.prog.main.file K d = true := fun d => ba (List.all_eq_true.mp h1 d (kd_mem d))
  have fk : ∀ d, ∀ f ∈ [Fa.glo (cn d), .cls (cn d), .meth (cn d) "plain", .meth (cn d) "keep"], f.ok K = true := fun d f hf => F (List.mem_append_right _ (List.mem_append_left _ (List.mem_flatMap.mpr ⟨d, kd_mem d, hf⟩)))
  have hz : ∀ d, zkeep d ∈ zs := fun d => List.mem_append_right _ (List.mem_append_right _ (List.mem_append_left _ (List.mem_map.mpr ⟨d, kd_mem d, rfl⟩)))
  have hpl : ∀ d, ma K (Cc K d) "plain" = ma K (Cc K .list) "plain" := fun d => of_decide_eq_true (ba (ba (ba (hk d).1).2).2).1
  have hcl : ∀ d, d ≠ .list → funB K (Ck K d) (qn d) (some (cellAt K (Ck K d))) = true ∧ fileB K R.prog.main.file (codeAt K (Ck K d)) = true ∧ cellB K (cellAt K (Ck K d)) (Cc K d) = true ∧ (PySem.W.clsIn K (Cc K d)).isSome = true := fun d hd => by
    have q := (hk d).2
    cases d <;> first
      | exact absurd rfl hd
      | (obtain ⟨q1, q⟩ := ba q
         obtain ⟨q2, q⟩ := ba q
         obtain ⟨q3, q4⟩ := ba q
         exact ⟨q1, q2, q3, q4⟩)
  have hks := fun (d : Kd) (hd : d ≠ .list) => fun_clo (d := zkeep d) (c.z _ (hz d)) (hcl d hd).1
  refine ⟨fun d => cls_ok (fk d _ (by simp)), fun d => mk0_ok (ba (hk d).1).1, fun d => glo_ok X G (fk d _ (by simp)), fun d => ?_, fun d => meth_ok (fk d _ (by simp)), ?_, ?_, fun d hd => ?_, fun d hd => ?_, fun d hd => ?_, fun d e he => ?_, fun d => con_ok (ba (ba (hk d).1).2).1, tab⟩
  · have q := meth_ok (fk d (.meth (cn d) "plain") (by simp))
    have e : ma K (ga K (cn d)) "plain" = ma K (Cc K .list) "plain" := hpl d
    rw [e] at q
    exact q
  · exact ok_plnB c (d := zplain) (List.mem_append_right _ (List.mem_append_right _ (List.mem_singleton.mpr rfl)))
  · obtain ⟨q1, q2⟩ := ba (hk .list).2
    obtain ⟨fd, F0⟩ := fun_open (d := zkeep .list) (c.z _ (hz .list)) q1 q2
    have e := FunD.at_ F0
    rw [e] at F0
    exact F0
  · obtain ⟨oc, od, kV, doc, pm, an, ct, osl, lk, _⟩ := hks d hd
    have e : funAt K (Ck K d) = PySem.W.ksFn "keep" (qn d) (defArgs (kS d)) (defBody (kS d)) (defScope (kS d)) .none kV doc pm an (.ref (codeAt K (Ck K d))) ct (cellAt K (Ck K d)) := by
      unfold funAt
      rw [show K.lookup (Ck K d) = _ from lk] <;> rfl
    refine ⟨oc, od, kV, doc, pm, an, ct, osl, e, ?_⟩
    show K.lookup (Ck K d) = some ⟨oc, od, .func (funAt K (Ck K d)), osl⟩
    rw [e]
    exact lk
  · obtain ⟨oc, od, kV, doc, pm, an, ct, osl, _, hc⟩ := hks d hd
    exact hc
  · obtain ⟨oc, od, kV, doc, pm, an, ct, osl, lk, hc⟩ := hks d hd
    obtain ⟨_, g2, g3, g4⟩ := hcl d hd
    refine ⟨?_, file_ok g2, cell_ok g3, Option.isSome_iff_exists.mp g4, by decide +kernel⟩
    have hp : ∃ ar : Arg, ((defArgs (kS d)).posonlyargs ++ (defArgs (kS d)).args).head? = some ar ∧ ar.arg = ("self" : Str) := by
      cases d <;> exact ⟨_, rfl, rfl⟩
    obtain ⟨ar, ha1, ha2⟩ := hp
    exact ⟨oc, od, _, osl, ar, lk, ha1, ha2⟩
  · exact sup_ok (List.all_eq_true.mp (ba (ba (ba (hk d).1).2).2).2 e he)
end
end K4
namespace K4
open PySem PySem.Spec PyProof.Rows L2 LamX He
theorem lawAt {w : World} {K : PySem.W.Frag} {h : Heap} {mg : Str → Option Value} {f : Addr} (X : K.In h) (G : h.Ns mainGlobals mg) (hfa : mg ("law" : Str) = some (.ref f)) (c : SaysY fa tf zs exR w h K) : LawAtS PySem.Challenge.rw_movedstates_k04_whole_words w K CX0 10 63 ("_law_script" : Str) mg f h := by
  have Y := mkFx X G c
  have e : f = ga K (nmd 46) := by
    have q := (Y.d 46 _ rfl).1
    rw [hfa] at q
    exact Value.ref.inj (Option.some.inj q)
  subst e
  have hp : (("BagKind", some "keep") : Defn) ∈ tf := List.mem_singleton.mpr rfl
  have ec : (cT K (("BagKind", some "keep") : Defn)).1 = codeAt K (Ck K .bag) := rfl
  have b := (Y.d 46 _ rfl).2.bindsA (ps := ["_law_script"]) fun _ _ _ _ _ _ us hl => match us, hl with | [_], _ => rfl
  refine ⟨funAt K (ga K (nmd 46)), [cT K (("BagKind", some "keep") : Defn)], spLaw K (TT (cT K (("BagKind", some "keep") : Defn)).2), fun p hp' => ?_, fun p hp' => ?_, fun p hp' => ?_, fun s u => b s [u] rfl, fun H a ns hl _ hcs hS => ⟨a, ns, rfl, hS, hl, fun p hp' => ?_, fun _ => rfl⟩, fun base KB GB htab => ?_⟩
  · rw [List.mem_singleton.mp hp']
    exact c.t.empty _ hp
  · rw [List.mem_singleton.mp hp']
    exact c.t.out _ hp
  · rw [List.mem_singleton.mp hp']
    exact PySem.W.codeHd_of_K X (c.t.hd _ hp)
  · rw [List.mem_singleton.mp hp']
    exact TabS.nil (hcs _ (List.mem_singleton.mpr rfl))
  · have tb := htab _ (List.mem_singleton.mpr rfl)
    rw [ec] at tb
    exact ok_law (P := PySem.Challenge.rw_movedstates_k04_whole_words.prog) (w := w) (base := base) Y (mkKx X G c tb) (mkTx X G c)
end K4
open PySem PySem.W PySem.Calls PyProof.Rows
theorem PySem.Challenge.cw_movedstates_k04_whole_words_holds : PySem.Challenge.rw_movedstates_k04_whole_words.Holds := by
  w_on; o_law
  refine HandSHeadRun.head_any (r := OpenLaw.row PySem.Challenge.rw_movedstates_k04_whole_words) (q := view (OpenLaw.row PySem.Challenge.rw_movedstates_k04_whole_words).prog [46]) (H := K4.hk) (ob := K4.ob) (M := 20000) (loose := K4.names) (d := HandSHeadRun.topDef (OpenLaw.row PySem.Challenge.rw_movedstates_k04_whole_words).prog 46) (kwd := []) K4.ob_eq
    (by kernel_rfl) (fun s => by kernel_rfl) K4.run (by kernel_rfl) (by kernel_rfl) (by kernel_rfl) (by rfl) (by first | assumption | decide +kernel) (by decide +kernel) ⟨rfl, rfl, rfl, rfl, rfl, by decide +kernel⟩ ?hw ?hc
  case hw => w_witness2
  case hc =>
    refine LamX.walk_ofTsE (l := PySem.Challenge.rw_movedstates_k04_whole_words) (n := 63) (k := 10) (x := "_law_script") (CX := fun _ => L2.CX0) rfl (by decide) (by kernel_rfl) ⟨rfl, by decide, by decide⟩ ?F (fun _ _ _ _ _ z => z)
    intro w mg fa h Y G hmg0
    obtain ⟨K, KX, c⟩ := Y
    have hmg : mg ("law" : PySem.Str) = some (.ref fa) := by
      have e : (HandSHeadRun.topDef (OpenLaw.row PySem.Challenge.rw_movedstates_k04_whole_words).prog 46).name = ("law" : PySem.Str) := by kernel_rfl
      rw [← e]
      exact hmg0
    exact ⟨K, KX, K4.lawAt KX G hmg c⟩
