import PyProof.Rows.All
import Wide.All
import OpenK.AllK
import Wide.FinOn
import PySem.Challenge.RW_xm0785_01
open PySem PySem.W PyProof.Rows
set_option Elab.async false
set_option maxRecDepth 100000
namespace Mine
section
variable {prog : Program} {w : World} {A : Around} {E : Value → Shared → Prop} {s : Shared}

theorem adjustUpto (b n : Nat) (hb : b ≤ n) : Builtin.Slice.sliceAdjust none (some (b : Int)) 1 (n : Int) = (0, (b : Int)) := by
  unfold Builtin.Slice.sliceAdjust
  have h1 : ¬ ((1 : Int) < 0) := by omega
  have h2 : ¬ ((b : Int) < 0) := by omega
  simp only [h1, h2, if_false]
  congr 1
  omega

theorem placesUpto (b : Nat) : Builtin.Slice.slicePlaces 0 (b : Int) 1 = b := by
  unfold Builtin.Slice.slicePlaces
  have h1 : (1 : Int) > 0 := by omega
  simp only [h1, if_true, Int.ediv_one]
  split <;> omega

theorem appliedUpto {sl : Addr} {b n : Nat} {u : Tok} {Q : Int × Int × Nat → Shared → Prop} (hs : s.heap.IsSliceOf sl .none (.int b u) .none) (hb : b ≤ n) (h : Q (0, 1, b) s) :
    wpAny (model prog w) A (Builtin.Slice.sliceApplied (.ref sl) (pure (n : Int))) Q E s := by
  obtain ⟨os, hos, hcs, hds⟩ := id hs
  unfold Builtin.Slice.sliceApplied Builtin.Slice.sliceFields
  refine wpAny_bind (wpAny_bind (wpAny_field hos hds (x := .none) rfl (wpAny_bind (wpAny_field hos hds (x := .int b u) rfl (wpAny_bind (wpAny_field hos hds (x := .none) rfl (wpAny_pure ?_)))))))
  refine wpAny_bind (slicePart_none ?_)
  show wpAny _ _ (if ((1 : Int) == 0) = true then _ else _) _ _ s
  rw [if_neg (by decide)]
  refine wpAny_bind (slicePart_none (wpAny_bind (slicePart_int (wpAny_bind (wpAny_pure ?_)))))
  show wpAny _ _ (match Builtin.Slice.sliceAdjust none (some (b : Int)) 1 (n : Int) with | (lo, hi) => pure (lo, (1 : Int), Builtin.Slice.slicePlaces lo hi 1)) _ _ s
  rw [adjustUpto b n hb]
  show wpAny _ _ (pure ((0 : Int), (1 : Int), Builtin.Slice.slicePlaces 0 (b : Int) 1)) _ _ s
  rw [placesUpto b]
  exact wpAny_pure h

theorem pickUpto (xs : Array Value) (b : Nat) : ((List.range b).filterMap fun (k : Nat) => xs[((0 : Int) + (k : Int) * 1).toNat]?).toArray = (xs.toList.take b).toArray := by
  have e : (fun (k : Nat) => xs[((0 : Int) + (k : Int) * 1).toNat]?) = fun k => xs[0 + k]? := by
    funext k
    have : ((0 : Int) + (k : Int) * 1).toNat = 0 + k := by omega
    rw [this]
  rw [e]
  have := pick_run xs 0 b
  rw [List.filterMap_map, List.drop_zero] at this
  have e2 : ((fun x => xs[x]?) ∘ fun x => 0 + x) = fun k => xs[0 + k]? := rfl
  rw [e2] at this
  rw [this]

theorem itemUpto {t sl : Addr} {items : Array Value} {b : Nat} {u : Tok} {Q : Value → Shared → Prop} (ht : IsTup s.heap t items) (hs : s.heap.IsSliceOf sl .none (.int b u) .none) (hb : b < items.size)
    (h : Q (.ref s.heap.objs.size) { s with heap := s.heap.push { cls := .type "tuple", data := .seq (items.toList.take b).toArray } })
    (hsz : items.size ≤ sizeLine) : wpAny (model prog w) A (getItem (.ref t) (.ref sl)) Q E s := by
  have htake : sizeOk (.seq (items.toList.take b).toArray) := by
    show (items.toList.take b).toArray.size ≤ sizeLine
    rw [List.size_toArray, List.length_take, Array.length_toList]
    omega
  obtain ⟨os, hos, hcs, hds⟩ := id hs
  have hTs : s.TypeIs (.ref sl) "slice" := ⟨os, hos, hcs⟩
  unfold getItem
  try with_reducible refine wpAny_holding ?_
  first | refine wpAny_bind (wpAny_pure ?_) | skip
  refine wpAny_bind (wpAny_sequenceKey ht.typeIs (by decide) ?_)
  refine wpAny_bind (wpAny_callSpecial?_slot (name := Str.ofString "__getitem__") ht.typeIs slot_tuple_getitem
    (wpAny_call_entry slot_tuple_getitem ht.typeIs entry_tuple_getitem ?_ (args_tuple_getitem _ _)))
  show wpAny _ _ (Builtin.Tuple.tupleItemsOf (.ref t) >>= _) _ _ s
  refine wpAny_bind (tupleItemsOf_ ht ?_)
  refine wpAny_bind (wpAny_typeOf hTs ?_)
  rw [if_pos (by decide)]
  refine wpAny_bind (appliedUpto hs (Nat.le_of_lt hb) ?_)
  have hno : ¬ (((0 : Int) == 0 && (1 : Int) == 1 && b == items.size) = true) := by
    have : (b == items.size) = false := by rw [beq_eq_false_iff_ne]; omega
    rw [this]; simp
  show wpAny _ _ (if ((0 : Int) == 0 && (1 : Int) == 1 && b == items.size) = true then _ else _) _ _ s
  rw [if_neg hno, pickUpto items b]
  first
    | exact wpAny_bind (m := Builtin.Tuple.tupleExact _) (wpAny_newObj_type (wpAny_pure ⟨_, rfl, wpAny_pure h⟩) htake)
    | exact wpAny_bind (m := Builtin.Tuple.tupleExact _) (wpAny_newObj_type (wpAny_bind (wpAny_pure (wpAny_pure ⟨_, rfl, wpAny_pure h⟩))) htake)
    | exact wpAny_bind (wpAny_bind (m := Builtin.Tuple.tupleExact _) (wpAny_newObj_type (wpAny_pure (wpAny_pure ⟨_, rfl, wpAny_pure h⟩)) htake))
    | exact wpAny_bind (wpAny_bind (m := Builtin.Tuple.tupleExact _) (wpAny_newObj_type (wpAny_pure ⟨_, rfl, wpAny_pure h⟩) htake))
end

section
variable {prog : Program} {w : World} {A : Around} {E : Value → Shared → Prop} {s : Shared} {h₀ : Heap} {L : Addr} {m : Str → Option Value} {news : List (Addr × Obj)} {K : Frag}
/-- t[:b] of a tuple of the text's own, b a written number below its length -/
theorem sliceUpto {value slice : PySem.Expr} {t : Addr} {lo : Obj} {items : Array Value} {n b : Nat} {u : Tok} {zs : List Value} {Q : Value → Shared → Prop}
    (F : Fr h₀ L s.heap m) (N : News h₀ L s.heap news) (X₀ : K.In h₀) (hk : K.lookup t = some lo) (hc : lo.cls = .type "tuple") (hd : lo.data = .seq items n) (hb : b < items.size) (hz : items.toList.take b = zs) (hsz : items.size ≤ sizeLine)
    (h : ∀ D h', Fr h₀ L h' m → News h₀ L h' ((D, ({ cls := .type "tuple", data := .seq zs.toArray } : Obj)) :: news) → (∀ p ∈ news, p.1 < D) → Q (.ref D) { s with heap := h' })
    (hs : subscripted slice false (.ref t) (.ref s.heap.objs.size) = operate [.ref s.heap.objs.size, .ref t] (getItem (.ref t) (.ref s.heap.objs.size)))
    (hg : ∀ r, letTemporaryGo value (.ref t) r = pure ()) :
    wpAny (model prog w) A (subscriptTail value slice (.ref t) (.ref s.heap.objs.size)) Q E { s with heap := s.heap.push { cls := .type "slice", data := .fields #[.none, .int (b : Nat) u, .none] } } := by
  subst hz
  have ht : IsTup s.heap t items := ⟨lo, F.keep _ _ (X₀ _ _ hk), hc, n, hd⟩
  have ht' : IsTup (s.heap.push { cls := .type "slice", data := .fields #[.none, .int (b : Nat) u, .none] }) t items := ht.keeps fun _ _ e => Heap.get?_push_of_some _ e
  refine subscriptTail_ops (s := { s with heap := s.heap.push { cls := .type "slice", data := .fields #[.none, .int (b : Nat) u, .none] } }) ht'.typeIs slot_tuple_getitem.lookup
    (itemUpto ht' (Heap.IsSliceOf.new ..) hb ?_ hsz) hs hg
  have N1 := News.push (F.push { cls := .type "slice", data := .fields #[.none, .int (b : Nat) u, .none] }) (N.grown fun _ _ e => Heap.get?_push_of_some _ e) { cls := .type "tuple", data := .seq (items.toList.take b).toArray }
  exact h _ _ ((F.push _).push _) N1 fun p hp => by
    rw [Heap.size_push]
    exact Nat.lt_succ_of_lt (Heap.lt_size (N p hp).1)
end
end Mine
namespace Mine
structure InPool : Prop where
  mk' :: (one : True)
structure InTake : Prop where
  mk' :: (one : True)
structure InOne : Prop where
  mk' :: (one : True)
structure InParts : Prop where
  mk' :: (one : True)
theorem ints2 {vs : List Value} {a b : Int} (h : IntsAre vs [a, b]) : ∃ ta tb, vs = [Value.int a ta, Value.int b tb] := by
  cases h with
  | cons _ ta h =>
    cases h with
    | cons _ tb h =>
      cases h
      exact ⟨ta, tb, rfl⟩
section
variable {M : Model} {A : Around} {E : Value → Shared → Prop} {s : Shared} {h₀ : Heap} {L d : Addr} {m : Str → Option Value} {news : List (Addr × Obj)} {g : Obj → List (Addr × Obj)} {Q : Value → Shared → Prop}

abbrev srcOf (a b : Int) (ta tb : Tok) (n : Nat) : Obj := listOf [Value.int a ta, Value.int b tb].toArray n

/-- the pool's end: a new list of two ints, the second small -/
def PoolEnd (h₀ : Heap) (L : Addr) (m : Str → Option Value) (news : List (Addr × Obj)) (s : Shared) (v : Value) (s' : Shared) : Prop :=
  ∃ (D : Addr) (a b : Int) (ta tb : Tok) (n : Nat) (h : Heap) (tk : Nat), v = .ref D ∧ s' = { s with heap := h, toks := tk } ∧ 0 ≤ a ∧ 0 ≤ b ∧ b < 2147483647 ∧ Fr h₀ L h m ∧ News h₀ L h ((D, srcOf a b ta tb n) :: news) ∧ ∀ p ∈ news, p.1 < D
theorem poolEnd {D : Addr} {a b : Int} {ta tb : Tok} {n : Nat} {h : Heap} {tk : Nat} {news' : List (Addr × Obj)} (F : Fr h₀ L h m) (N : News h₀ L h news') (hn : ∀ p ∈ (D, srcOf a b ta tb n) :: news, p ∈ news') (ha : 0 ≤ a) (hb : 0 ≤ b) (hb' : b < 2147483647) (hl : ∀ p ∈ news, p.1 < D) :
    PoolEnd h₀ L m news s (.ref D) { s with heap := h, toks := tk } :=
  ⟨D, a, b, ta, tb, n, h, tk, rfl, rfl, ha, hb, hb', F, fun p hp => N p (hn p hp), hl⟩
theorem poolCut {f : Addr} {x : Value} (F : Fr h₀ L s.heap m) (N : News h₀ L s.heap news) (hc : InPool → wpAny M A (call (.ref f) [x]) (fun v s' => PoolEnd h₀ L m news s v s') E s)
    (hk : ∀ (D : Addr) (a b : Int) (ta tb : Tok) (n : Nat) (h : Heap) (tk : Nat), 0 ≤ a → 0 ≤ b → b < 2147483647 → Fr h₀ L h m → News h₀ L h ((D, srcOf a b ta tb n) :: news) → (∀ p ∈ news, p.1 < D) → Q (.ref D) { s with heap := h, toks := tk }) :
    wpAny M A (call (.ref f) [x]) Q E s := by
  refine wpAny_mono (hc ⟨trivial⟩) (fun v s₂ hq => ?_) fun _ _ h => h
  obtain ⟨D, a, b, ta, tb, n, h, tk, rfl, rfl, ha, hb, hb', F', N', hl⟩ := hq
  exact hk D a b ta tb n h tk ha hb hb' F' N' hl

/-- the end of a draw: an int from lo on and below top, the source's two ints anew -/
def TakeEnd (h₀ : Heap) (L : Addr) (m : Str → Option Value) (g : Obj → List (Addr × Obj)) (lo top : Int) (s : Shared) (v : Value) (s' : Shared) : Prop :=
  ∃ (r : Int) (t : Tok) (a b : Int) (ta tb : Tok) (n : Nat) (h : Heap) (tk : Nat), v = .int r t ∧ s' = { s with heap := h, toks := tk } ∧ lo ≤ r ∧ r < top ∧ 0 ≤ a ∧ 0 ≤ b ∧ b < 2147483647 ∧ Fr h₀ L h m ∧ News h₀ L h (g (srcOf a b ta tb n))
theorem takeEnd {lo top r : Int} {t : Tok} {a b : Int} {ta tb : Tok} {n : Nat} {h : Heap} {tk : Nat} {news' : List (Addr × Obj)} (F : Fr h₀ L h m) (N : News h₀ L h news') (hn : ∀ p ∈ g (srcOf a b ta tb n), p ∈ news') (h1 : lo ≤ r) (h2 : r < top) (ha : 0 ≤ a) (hb : 0 ≤ b) (hb' : b < 2147483647) :
    TakeEnd h₀ L m g lo top s (.int r t) { s with heap := h, toks := tk } :=
  ⟨r, t, a, b, ta, tb, n, h, tk, rfl, rfl, h1, h2, ha, hb, hb', F, fun p hp => N p (hn p hp)⟩
theorem takeCut {f : Addr} {top : Int} {u : Tok} {a₀ b₀ : Int} {ta₀ tb₀ : Tok} {n₀ : Nat} (F : Fr h₀ L s.heap m) (N : News h₀ L s.heap news) (U : UpdF d (srcOf a₀ b₀ ta₀ tb₀ n₀) news g)
    (hc : InTake → wpAny M A (call (.ref f) [.ref d, .int top u]) (fun v s' => TakeEnd h₀ L m g 0 top s v s') E s)
    (hk : ∀ (r : Int) (t : Tok) (a b : Int) (ta tb : Tok) (n : Nat) (h : Heap) (tk : Nat), 0 ≤ r → r < top → 0 ≤ a → 0 ≤ b → b < 2147483647 → Fr h₀ L h m → News h₀ L h (g (srcOf a b ta tb n)) → Q (.int r t) { s with heap := h, toks := tk }) :
    wpAny M A (call (.ref f) [.ref d, .int top u]) Q E s := by
  refine wpAny_mono (hc ⟨trivial⟩) (fun v s₂ hq => ?_) fun _ _ h => h
  obtain ⟨r, t, a, b, ta, tb, n, h, tk, rfl, rfl, h1, h2, ha, hb, hb', F', N'⟩ := hq
  exact hk r t a b ta tb n h tk h1 h2 ha hb hb' F' N'
theorem oneCut {f l : Addr} (lo top : Int) {a₀ b₀ : Int} {ta₀ tb₀ : Tok} {n₀ : Nat} (F : Fr h₀ L s.heap m) (N : News h₀ L s.heap news) (U : UpdF d (srcOf a₀ b₀ ta₀ tb₀ n₀) news g)
    (hc : InOne → wpAny M A (call (.ref f) [.ref d, .ref l]) (fun v s' => TakeEnd h₀ L m g lo top s v s') E s)
    (hk : ∀ (r : Int) (t : Tok) (a b : Int) (ta tb : Tok) (n : Nat) (h : Heap) (tk : Nat), lo ≤ r → r < top → 0 ≤ a → 0 ≤ b → b < 2147483647 → Fr h₀ L h m → News h₀ L h (g (srcOf a b ta tb n)) → Q (.int r t) { s with heap := h, toks := tk }) :
    wpAny M A (call (.ref f) [.ref d, .ref l]) Q E s := by
  refine wpAny_mono (hc ⟨trivial⟩) (fun v s₂ hq => ?_) fun _ _ h => h
  obtain ⟨r, t, a, b, ta, tb, n, h, tk, rfl, rfl, h1, h2, ha, hb, hb', F', N'⟩ := hq
  exact hk r t a b ta tb n h tk h1 h2 ha hb hb' F' N'

abbrev fourOf (a b c d : Int) (ta tb tc td : Tok) (n : Nat) : Obj := listOf [Value.int a ta, Value.int b tb, Value.int c tc, Value.int d td].toArray n
/-- the end of parts_of: a new list of four ints, told by linear facts alone -/
def PartsEnd (h₀ : Heap) (L : Addr) (m : Str → Option Value) (news : List (Addr × Obj)) (e : Int) (s : Shared) (v : Value) (s' : Shared) : Prop :=
  ∃ (D : Addr) (a b c d : Int) (ta tb tc td : Tok) (n : Nat) (h : Heap) (tk : Nat), v = .ref D ∧ s' = { s with heap := h, toks := tk } ∧ (16 * a ≤ 7 * e ∧ 7 * e < 16 * a + 16) ∧ (16 * b ≤ 3 * e ∧ 3 * e < 16 * b + 16) ∧ (16 * c ≤ 5 * e ∧ 5 * e < 16 * c + 16) ∧ a + b + c + d = e ∧ Fr h₀ L h m ∧ News h₀ L h ((D, fourOf a b c d ta tb tc td n) :: news) ∧ ∀ p ∈ news, p.1 < D
theorem partsEnd {e : Int} {D : Addr} {a b c d : Int} {ta tb tc td : Tok} {n : Nat} {h : Heap} {tk : Nat} {news' : List (Addr × Obj)} (F : Fr h₀ L h m) (N : News h₀ L h news') (hn : ∀ p ∈ (D, fourOf a b c d ta tb tc td n) :: news, p ∈ news')
    (ha : 16 * a ≤ 7 * e ∧ 7 * e < 16 * a + 16) (hb : 16 * b ≤ 3 * e ∧ 3 * e < 16 * b + 16) (hc : 16 * c ≤ 5 * e ∧ 5 * e < 16 * c + 16) (hd : a + b + c + d = e) (hl : ∀ p ∈ news, p.1 < D) :
    PartsEnd h₀ L m news e s (.ref D) { s with heap := h, toks := tk } :=
  ⟨D, a, b, c, d, ta, tb, tc, td, n, h, tk, rfl, rfl, ha, hb, hc, hd, F, fun p hp => N p (hn p hp), hl⟩
theorem partsCut {f : Addr} {e : Int} {u : Tok} (F : Fr h₀ L s.heap m) (N : News h₀ L s.heap news) (hc : InParts → wpAny M A (call (.ref f) [.int e u]) (fun v s' => PartsEnd h₀ L m news e s v s') E s)
    (hk : ∀ (D : Addr) (a b c d : Int) (ta tb tc td : Tok) (n : Nat) (h : Heap) (tk : Nat), (16 * a ≤ 7 * e ∧ 7 * e < 16 * a + 16) → (16 * b ≤ 3 * e ∧ 3 * e < 16 * b + 16) → (16 * c ≤ 5 * e ∧ 5 * e < 16 * c + 16) → a + b + c + d = e →
      Fr h₀ L h m → News h₀ L h ((D, fourOf a b c d ta tb tc td n) :: news) → (∀ p ∈ news, p.1 < D) → Q (.ref D) { s with heap := h, toks := tk }) :
    wpAny M A (call (.ref f) [.int e u]) Q E s := by
  refine wpAny_mono (hc ⟨trivial⟩) (fun v s₂ hq => ?_) fun _ _ h => h
  obtain ⟨D, a, b, c, d, ta, tb, tc, td, n, h, tk, rfl, rfl, ha, hb, hc, hd, F', N', hl⟩ := hq
  exact hk D a b c d ta tb tc td n h tk ha hb hc hd F' N' hl
end
end Mine
namespace Mine
theorem fd16 (x : Int) : 16 * x.fdiv 16 ≤ x ∧ x < 16 * x.fdiv 16 + 16 := by
  rw [Int.fdiv_eq_ediv_of_nonneg _ (by decide)]
  omega
theorem fmB (m x : Int) (h : 0 < m) : 0 ≤ x.fmod m ∧ x.fmod m < m := by
  rw [Int.fmod_eq_emod_of_nonneg _ (by omega)]
  exact ⟨Int.emod_nonneg _ (by omega), Int.emod_lt_of_pos _ h⟩
theorem fdPos (x m : Int) (h : 0 ≤ x) (hm : 0 < m) : 0 ≤ x.fdiv m := by
  rw [Int.fdiv_eq_ediv_of_nonneg _ (by omega)]
  exact Int.ediv_nonneg h (by omega)
theorem poolA (x : Int) (p : Prop) {inst : Decidable p} : 0 ≤ (if -1 - x > x then -1 - x else x) * (@ite Int p inst 1 0) := by
  split <;> split <;> omega
theorem ltCons {d : Addr} {p : Addr × Obj} {r : List (Addr × Obj)} (h : @LT.lt Nat _ p.1 d) (h' : AllLt d r) : AllLt d (p :: r) := ⟨h, h'⟩
theorem ltAll {d : Addr} {l : List (Addr × Obj)} (h : AllLt d l) : ∀ p ∈ l, p.1 < d := kst_ltOf h
theorem inCons {news' : List (Addr × Obj)} {p : Addr × Obj} {r : List (Addr × Obj)} (h : p ∈ news') (h' : ∀ q ∈ r, q ∈ news') : ∀ q ∈ p :: r, q ∈ news' := List.forall_mem_cons.mpr ⟨h, h'⟩
section
variable {s : Shared} {h₀ : Heap} {L d : Addr} {m : Str → Option Value} {news : List (Addr × Obj)} {g : Obj → List (Addr × Obj)}
theorem partsEnd' {e : Int} {D : Addr} {ta tb tc td : Tok} {n : Nat} {h : Heap} {tk : Nat} {news' : List (Addr × Obj)} (F : Fr h₀ L h m) (N : News h₀ L h news')
    (hm : (D, fourOf ((e * 7).fdiv 16) ((e * 3).fdiv 16) ((e * 5).fdiv 16) (e - ((e * 7).fdiv 16 + ((e * 3).fdiv 16 + ((e * 5).fdiv 16 + 0)))) ta tb tc td n) ∈ news') (hn : ∀ p ∈ news, p ∈ news') (hl : AllLt D news) :
    PartsEnd h₀ L m news e s (.ref D) { s with heap := h, toks := tk } := by
  refine partsEnd F N (inCons hm hn) ?_ ?_ ?_ ?_ (ltAll hl)
  · have := fd16 (e * 7); omega
  · have := fd16 (e * 3); omega
  · have := fd16 (e * 5); omega
  · omega
theorem poolEnd' {x y : Int} {p : Prop} {inst : Decidable p} {D : Addr} {ta tb : Tok} {n : Nat} {h : Heap} {tk : Nat} {news' : List (Addr × Obj)} (F : Fr h₀ L h m) (N : News h₀ L h news')
    (hm : (D, srcOf ((if -1 - x > x then -1 - x else x) * (@ite Int p inst 1 0)) (y.fmod 2147483647) ta tb n) ∈ news') (hn : ∀ p ∈ news, p ∈ news') (hl : AllLt D news) :
    PoolEnd h₀ L m news s (.ref D) { s with heap := h, toks := tk } :=
  poolEnd F N (inCons hm hn) (poolA x p) (fmB _ _ (by decide)).1 (fmB _ _ (by decide)).2 (ltAll hl)
end
end Mine
namespace Mine
section
variable {prog : Program} {w : World} {A : Around} {E : Value → Shared → Prop} {s : Shared} {env : Env} {h₀ : Heap} {x : Str} {body : List Stmt} {Q : Flow → Shared → Prop}

def SrcEnd (h₀ : Heap) (L : Addr) (x : Str) (stored : List Str) (m₀ : Str → Option Value) (I : Addr) (o : Obj) (D : Addr) (s₁ s₂ : Shared) : Prop :=
  ∃ (h' : Heap) (tk : Nat) (m' : Str → Option Value) (news' : List (Addr × Obj)) (a b : Int) (ta tb : Tok) (n : Nat), s₂ = { s₁ with heap := h', toks := tk } ∧ Fr h₀ L h' m' ∧ News h₀ L h' news' ∧ (I, o) ∈ news' ∧ (D, srcOf a b ta tb n) ∈ news' ∧ 0 ≤ a ∧ 0 ≤ b ∧ b < 2147483647 ∧ ∀ z, z ≠ x → stored.contains z = false → m' z = m₀ z
theorem srcEnd {L : Addr} {stored : List Str} {m₀ m' : Str → Option Value} {I D : Addr} {o : Obj} {s₁ : Shared} {h' : Heap} {tk : Nat} {news' : List (Addr × Obj)} {a b : Int} {ta tb : Tok} {n : Nat}
    (F : Fr h₀ L h' m') (N : News h₀ L h' news') (hI : (I, o) ∈ news') (hD : (D, srcOf a b ta tb n) ∈ news') (ha : 0 ≤ a) (hb : 0 ≤ b) (hb' : b < 2147483647) (hm : ∀ z, z ≠ x → stored.contains z = false → m' z = m₀ z) :
    SrcEnd h₀ L x stored m₀ I o D s₁ { s₁ with heap := h', toks := tk } := ⟨h', tk, m', news', a, b, ta, tb, n, rfl, F, N, hI, hD, ha, hb, hb', hm⟩
def SrcPost (h₀ : Heap) (L : Addr) (x : Str) (stored : List Str) (m₀ : Str → Option Value) (I : Addr) (o : Obj) (D : Addr) (s₁ : Shared) (Q : Flow → Shared → Prop) (f : Flow) (s₂ : Shared) : Prop :=
  match f with
  | .ret v => Q (.ret v) s₂
  | .brk => Q .next s₂
  | _ => SrcEnd h₀ L x stored m₀ I o D s₁ s₂

theorem mapAs {stored : List Str} {m₀ m₁ : Str → Option Value} {v : Option Value} (hm : ∀ z, z ≠ x → stored.contains z = false → m₁ z = m₀ z) :
    (fun y => if y = x then v else m₁ y) = fun y => if y = x then v else if stored.contains y = true then m₁ y else m₀ y := by
  funext y
  by_cases h : y = x
  · rw [if_pos h, if_pos h]
  · rw [if_neg h, if_neg h]
    cases h2 : stored.contains y with
    | true => simp
    | false => simp only [Bool.false_eq_true, if_false]; exact hm y h h2
theorem mapAs' {stored : List Str} {m₀ m₁ : Str → Option Value} (hm : ∀ z, z ≠ x → stored.contains z = false → m₁ z = m₀ z) :
    m₁ = fun y => if y = x then m₁ y else if stored.contains y = true then m₁ y else m₀ y := by
  funext y
  by_cases h : y = x
  · rw [if_pos h]
  · rw [if_neg h]
    cases h2 : stored.contains y with
    | true => simp
    | false => simp only [Bool.false_eq_true, if_false]; exact hm y h h2

theorem srcLoop {r D : Addr} {t₀ u₀ v₀ : Tok} {m₀ : Str → Option Value} {news : List (Addr × Obj)} {a₀ b₀ : Int} {ta₀ tb₀ : Tok} {n₀ : Nat} (stored : List Str)
    (hh : A.handled = none) (hr : IsRange s.heap r 0 8 1 t₀ u₀ v₀) (F : Fr h₀ env.locals s.heap m₀) (N : News h₀ env.locals s.heap news) (hD : (D, srcOf a₀ b₀ ta₀ tb₀ n₀) ∈ news) (ha : 0 ≤ a₀) (hb : 0 ≤ b₀) (hb' : b₀ < 2147483647)
    (turn : ∀ (I : Addr) (o : Obj) (k : Int) (t : Tok) (a b : Int) (ta tb : Tok) (n : Nat) (u : Str → Option Value) (h : Heap) (tk : Nat), o.cls = .type "range_iterator" → @LT.lt Nat _ D I → 0 ≤ a → 0 ≤ b → b < 2147483647 →
      Fr h₀ env.locals h (fun y => if y = x then some (.int k t) else if stored.contains y = true then u y else m₀ y) → News h₀ env.locals h [(I, o), (D, srcOf a b ta tb n)] →
      wpAny (model prog w) A (execs body env) (SrcPost h₀ env.locals x stored m₀ I o D { s with heap := h, toks := tk } Q) E { s with heap := h, toks := tk })
    (done : ∀ (a b : Int) (ta tb : Tok) (n : Nat) (u : Str → Option Value) (h : Heap) (tk : Nat), Fr h₀ env.locals h (fun y => if y = x then u y else if stored.contains y = true then u y else m₀ y) → News h₀ env.locals h [(D, srcOf a b ta tb n)] → Q .next { s with heap := h, toks := tk }) :
    wpAny (model prog w) A (pyIter (.ref r)) (fun it s₂ => LoopAtV prog w A h₀ env x body Q E it s₂) E s := by
  refine wpAny_pyIter_range hr (by decide) ?_
  have W := Walks.range (prog := prog) (w := w) hh s.heap.objs.size 0 1 8
  have hDI : D < s.heap.objs.size := Heap.lt_size (N _ hD).1
  have hnew : h₀.get? s.heap.objs.size = none := next_is_new F
  let J : Nat → (Str → Option Value) → List (Addr × Obj) → Prop := fun _ m₁ news₁ => ∃ (a b : Int) (ta tb : Tok) (n : Nat), news₁ = [(D, srcOf a b ta tb n)] ∧ 0 ≤ a ∧ 0 ≤ b ∧ b < 2147483647 ∧ ∀ z, z ≠ x → stored.contains z = false → m₁ z = m₀ z
  have off : ∀ (a b : Int) (ta tb : Tok) (n : Nat), ∀ p ∈ [(D, srcOf a b ta tb n)], p.1 ∉ [s.heap.objs.size] := fun a b ta tb n p hp hI => by
    rw [List.mem_singleton.mp hp] at hI
    exact absurd hDI ((List.mem_singleton.mp hI) ▸ Nat.lt_irrefl _)
  refine ⟨s.heap.objs.size, [s.heap.objs.size], [s.heap.objs.size], 8, _, _, m₀, [(D, srcOf a₀ b₀ ta₀ tb₀ n₀)], J, rfl, W, ?_, ?_, off _ _ _ _ _, ?_, F.push _, ?_, ⟨a₀, b₀, ta₀, tb₀, n₀, rfl, ha, hb, hb', fun _ _ _ => rfl⟩, ?_, ?_⟩
  · intro hm
    exact absurd F.ns.lt ((List.mem_singleton.mp hm) ▸ Nat.lt_irrefl _)
  · intro b hb
    rw [List.mem_singleton.mp hb]
    exact hnew
  · have e : Builtin.Range.rangeSize 0 8 1 = 8 := by decide
    rw [e]
    exact Heap.get?_push_size _ rfl
  · intro p hp
    rw [List.mem_singleton.mp hp]
    exact ⟨Heap.get?_push_of_some _ (N _ hD).1, (N _ hD).2⟩
  · rintro i v m₁ news₁ s₁ own ⟨hh', tk', rfl⟩ hin ⟨t, rfl⟩ ⟨a, b, ta, tb, n, rfl, h1, h2, h3, hm⟩ _ hown hget hall hst F₁ N₁
    rw [mapAs hm] at F₁
    obtain ⟨o, hst', hcls⟩ : ∃ o : Obj, hh'.get? s.heap.objs.size = some o ∧ o.cls = .type "range_iterator" := ⟨_, hst, rfl⟩
    have hmem := hall s.heap.objs.size (by simp) hnew _ hst'
    refine wpAny_mono (turn s.heap.objs.size o _ t a b ta tb n m₁ hh' tk' hcls hDI h1 h2 h3 F₁ (fun p hp => ?_)) (fun f s₂ p => ?_) fun _ _ e => e
    · rcases List.mem_cons.mp hp with rfl | hp
      · exact N₁ _ (List.mem_append_left _ hmem)
      · exact N₁ _ (List.mem_append_right _ hp)
    · have fin : SrcEnd h₀ env.locals x stored m₀ s.heap.objs.size o D { s with heap := hh', toks := tk' } s₂ → LoopStepU h₀ env.locals [s.heap.objs.size] own (J (i + 1)) { s with heap := hh', toks := tk' } .next s₂ := by
        rintro ⟨h', tk, m', news', a', b', ta', tb', n', e, F', N', hI', hD', g1, g2, g3, hm'⟩
        refine ⟨rfl, h', tk, m', [(D, srcOf a' b' ta' tb' n')], e, F', fun p hp => ?_, off _ _ _ _ _, a', b', ta', tb', n', rfl, g1, g2, g3, hm'⟩
        rcases List.mem_append.mp hp with hp | hp
        · obtain ⟨pa, po⟩ := p
          have e1 : pa = s.heap.objs.size := List.mem_singleton.mp (hown _ hp)
          subst e1
          have e2 : some po = some o := (hget _ hp).symm.trans hst'
          cases Option.some.inj e2
          exact N' _ hI'
        · rw [List.mem_singleton.mp hp]
          exact N' _ hD'
      cases f with
      | ret v => exact .ret p
      | brk => exact .brk p
      | next => exact .next (fin p)
      | cont => exact .cont (fin p)
  · rintro h' tk m' news' F' N' _ ⟨a, b, ta, tb, n, rfl, _, _, _, hm⟩
    rw [mapAs' hm] at F'
    exact done a b ta tb n m' h' tk F' N'
end
section
variable {prog : Program} {w : World} {A : Around} {E : Value → Shared → Prop} {s : Shared} {h₀ : Heap} {L d : Addr} {m : Str → Option Value} {g : Obj → List (Addr × Obj)}

theorem smallBits {x : Int} (h : 0 ≤ x ∧ x < 2147483647) : Builtin.Int.intBits x ≤ 64 := intBits_le_64 (by omega) (by omega)
theorem mulSq {a y : Int} {t u : Tok} {Q : Value → Shared → Prop} (h : Q (.int (y.fmod 2147483647 * y.fmod 2147483647) s.toks) { s with toks := s.toks + 1 }) :
    wpAny (model prog w) A (binaryOp .Mult (.int ([a, y.fmod 2147483647].getD (Int.toNat 1) 0) t) (.int ([a, y.fmod 2147483647].getD (Int.toNat 1) 0) u)) Q E s :=
  mul_int h (IntMulOk.of_left (smallBits (fmB _ _ (by decide))))

/-- the draw from what is left of the great int -/
theorem takeEndA {top x b : Int} {t : Tok} {ta tb : Tok} {n : Nat} {h : Heap} {tk : Nat} {news' : List (Addr × Obj)} (F : Fr h₀ L h m) (N : News h₀ L h news') (hn : ∀ p ∈ g (srcOf (x.fdiv top) b ta tb n), p ∈ news') (hx : 0 ≤ x) (ht : 0 < top) (hb : 0 ≤ b) (hb' : b < 2147483647) :
    TakeEnd h₀ L m g 0 top s (.int (x.fmod top) t) { s with heap := h, toks := tk } :=
  takeEnd F N hn (fmB _ _ ht).1 (fmB _ _ ht).2 (fdPos _ _ hx ht) hb hb'
/-- the draw by the second int's turn -/
theorem takeEndB {top a y z : Int} {t : Tok} {ta tb : Tok} {n : Nat} {h : Heap} {tk : Nat} {news' : List (Addr × Obj)} (F : Fr h₀ L h m) (N : News h₀ L h news') (hn : ∀ p ∈ g (srcOf a (z.fmod 2147483647) ta tb n), p ∈ news') (ha : 0 ≤ a) (ht : 0 < top) :
    TakeEnd h₀ L m g 0 top s (.int (y.fmod top) t) { s with heap := h, toks := tk } :=
  takeEnd F N hn (fmB _ _ ht).1 (fmB _ _ ht).2 ha (fmB _ _ (by decide)).1 (fmB _ _ (by decide)).2
theorem getD3 {x y z lo hi : Int} (hx : lo ≤ x ∧ x < hi) (hy : lo ≤ y ∧ y < hi) (hz : lo ≤ z ∧ z < hi) (h0 : lo ≤ 0 ∧ 0 < hi) : ∀ j : Nat, lo ≤ [x, y, z].getD j 0 ∧ [x, y, z].getD j 0 < hi
  | 0 => hx
  | 1 => hy
  | 2 => hz
  | _ + 3 => h0
theorem oneEnd {p q : Int} {j : Nat} {t : Tok} {a b : Int} {ta tb : Tok} {n : Nat} {h : Heap} {tk : Nat} {news' : List (Addr × Obj)} (F : Fr h₀ L h m) (N : News h₀ L h news') (hn : ∀ p ∈ g (srcOf a b ta tb n), p ∈ news') (hp : 0 ≤ p) (hp' : p < 601) (hq : 0 ≤ q) (hq' : q < 2 ^ Int.toNat 41 + 1) (ha : 0 ≤ a) (hb : 0 ≤ b) (hb' : b < 2147483647) :
    TakeEnd h₀ L m g (-1099511627776) 1099511627777 s (.int ([p - 300, q - 2 ^ Int.toNat 40, 16 * ((q - 2 ^ Int.toNat 40).fmod 64 - 32)].getD j 0) t) { s with heap := h, toks := tk } := by
  have e1 : (2 : Int) ^ Int.toNat 41 = 2199023255552 := by decide
  have e2 : (2 : Int) ^ Int.toNat 40 = 1099511627776 := by decide
  rw [e1] at hq'
  rw [e2]
  have f := fmB 64 (q - 1099511627776) (by decide)
  have k := getD3 (x := p - 300) (y := q - 1099511627776) (z := 16 * ((q - 1099511627776).fmod 64 - 32)) (lo := -1099511627776) (hi := 1099511627777) (by omega) (by omega) (by omega) (by omega) j
  exact takeEnd F N hn k.1 k.2 ha hb hb'
end
end Mine
namespace Mine
open PySem.Calls
section
variable {prog : Program} {w : World} {A : Around} {E : Value → Shared → Prop} {s : Shared}

/-- a tuple's iterator hands on its next item to zip -/
theorem nextTup {it t : Addr} {i : Nat} {items : Array Value} {x : Value} {Q : Value → Shared → Prop} (hit : s.heap.IsTupleIter it t i) (ht : s.heap.IsTuple t items) (hx : items[i]? = some x)
    (hQ : ∀ h', h'.IsTupleIter it t (i + 1) → Heap.SameBut it s.heap h' → Q x { s with heap := h' }) : wpAny (model prog w) A (Builtin.SmallTypes.nextOf (.ref it)) Q E s := by
  obtain ⟨o, ho, hc, hd⟩ := id hit
  obtain ⟨ot, hot, _, nt, hdt⟩ := ht
  unfold Builtin.SmallTypes.nextOf
  refine wpAny_bind (wpAny_callSpecial?_slot (name := Str.ofString "__next__") hit.typeIs F.slot_tuple_iterator_next
    (wpAny_call_entry F.slot_tuple_iterator_next hit.typeIs F.entry_tuple_iterator_next ?_ (F.args_tuple_iterator_next_1 _)))
  show wpAny _ _ (field (.ref it) 0 >>= _) _ _ s
  refine wpAny_bind (wpAny_field ho hd (x := .ref t) rfl ?_)
  show wpAny _ _ (if (Value.ref t == Value.none) = true then _ else _) _ _ s
  rw [if_neg (show ¬ ((Value.ref t == Value.none) = true) from Bool.false_ne_true)]
  show wpAny _ _ (field (.ref it) 1 >>= _) _ _ s
  refine wpAny_bind (wpAny_field ho hd (x := .int i 0) rfl ?_)
  show wpAny _ _ (seqItems? (.ref t) >>= _) _ _ s
  refine wpAny_bind (wpAny_seqItems hot hdt ?_)
  simp only [Int.toNat_natCast, hx]
  refine wpAny_bind (wpAny_setField ho hd (by simp) (wpAny_pure ⟨x, rfl, wpAny_pure (hQ _ ⟨_, Heap.get?_update_self _ ho (Obj.isFreed_of_fields (Obj.data_mapFields hd _)), (Obj.cls_mapFields ..).trans hc, ?_⟩ (Heap.SameBut.update ..))⟩))
  rw [Obj.data_mapFields hd]
  simp [rawInt]

/-- a tuple's iterator at its end -/
theorem nextTupEnd {it t : Addr} {i : Nat} {items : Array Value} {Q : Value → Shared → Prop} (hh : A.handled = none) (hit : s.heap.IsTupleIter it t i) (ht : s.heap.IsTuple t items) (hx : items[i]? = none)
    (hE : ∀ h' e, Heap.ExtBut it s.heap h' → (∃ o, h'.get? e = some o ∧ o.cls = .type "StopIteration") → E (.ref e) { s with heap := h' }) : wpAny (model prog w) A (Builtin.SmallTypes.nextOf (.ref it)) Q E s := by
  obtain ⟨o, ho, hc, hd⟩ := id hit
  obtain ⟨ot, hot, _, nt, hdt⟩ := ht
  unfold Builtin.SmallTypes.nextOf
  refine wpAny_bind (wpAny_callSpecial?_slot (name := Str.ofString "__next__") hit.typeIs F.slot_tuple_iterator_next
    (wpAny_call_entry F.slot_tuple_iterator_next hit.typeIs F.entry_tuple_iterator_next ?_ (F.args_tuple_iterator_next_1 _)))
  show wpAny _ _ (field (.ref it) 0 >>= _) _ _ s
  refine wpAny_bind (wpAny_field ho hd (x := .ref t) rfl ?_)
  show wpAny _ _ (if (Value.ref t == Value.none) = true then _ else _) _ _ s
  rw [if_neg (show ¬ ((Value.ref t == Value.none) = true) from Bool.false_ne_true)]
  show wpAny _ _ (field (.ref it) 1 >>= _) _ _ s
  refine wpAny_bind (wpAny_field ho hd (x := .int i 0) rfl ?_)
  show wpAny _ _ (seqItems? (.ref t) >>= _) _ _ s
  refine wpAny_bind (wpAny_seqItems hot hdt ?_)
  simp only [Int.toNat_natCast, hx]
  refine wpAny_bind (wpAny_rule (wpAny_bind (wpAny_setField ho hd (by simp) ?_)))
  show wpAny _ _ (newExc (.type "StopIteration") [] >>= _) _ _ _
  refine wpAny_bind ?_
  simp only [newExc, newTuple]
  refine wpAny_bind (wpAny_newObj_type ?_ (by size_fits))
  refine wpAny_bind (m := firstArgMember _ _) (wpAny_of_eq (a := Value.none) (by first | rfl | (simp only [firstArgMember]; rfl)) ?_)
  refine wpAny_newObj_type ?_ (by size_fits)
  simp only [raiseNew]
  refine wpAny_bind (wpAny_handled ?_)
  first | rw [show A.in1.handled = none from hh] | rw [hh]
  exact wpAny_bind (wpAny_pure (wpAny_throw (hE _ _ (((Heap.SameBut.update ..).extBut.push _).push _) ⟨_, Heap.get?_push_size _ rfl, rfl⟩)))

section
variable {z TI TO i1 i2 l1 l2 : Addr} {k1 k2 : Nat} {xs ys : Array Value} {x y a b : Value}

/-- zip's next over a list and a tuple: a pair of the two items -/
theorem zipNext {Q : Value → Shared → Prop} (D : ZipApart z TI TO i1 i2 l1 l2) (hz : IsZip s.heap z TI TO .none) (hTI : IsPair s.heap TI (.ref i1) (.ref i2)) (hTO : IsPair s.heap TO a b)
    (h1 : s.heap.IsListIter i1 l1 k1) (h2 : s.heap.IsTupleIter i2 l2 k2) (hl1 : s.heap.IsList l1 xs) (hl2 : s.heap.IsTuple l2 ys) (hx : xs[k1]? = some x) (hy : ys[k2]? = some y)
    (hQ : ∀ h', IsZip h' z TI TO (rawInt s.heap.objs.size) → IsPair h' TO x y → h'.IsListIter i1 l1 (k1 + 1) → h'.IsTupleIter i2 l2 (k2 + 1) → IsPair h' s.heap.objs.size x y →
      (∀ c o, c ≠ z → c ≠ TO → c ≠ i1 → c ≠ i2 → s.heap.get? c = some o → h'.get? c = some o) → Q (.ref s.heap.objs.size) { s with heap := h' }) :
    wpAny (model prog w) A (Builtin.«zip.__next__» ⟨[.ref z], []⟩) (fun fin s' => ∃ v, fin = .done (.ret v) ∧ Q v s') E s := by
  show wpAny _ _ (field (.ref z) 2 >>= _) _ _ _
  refine wpAny_bind (wpAny_field hz rfl (x := .bool false) rfl ?_)
  show wpAny _ _ (field (.ref z) 3 >>= _) _ _ _
  refine wpAny_bind (wpAny_field hz rfl (x := .ref TI) rfl ?_)
  refine wpAny_bind (wpAny_seqItems hTI rfl ?_)
  show wpAny _ _ (Builtin.SmallTypes.ownedTupleIsFree (.ref z) >>= _) _ _ _
  refine wpAny_bind ?_
  unfold Builtin.SmallTypes.ownedTupleIsFree
  refine wpAny_bind (wpAny_field hz rfl (x := .none) rfl (wpAny_pure ?_))
  simp only [if_true]
  refine wpAny_bind (wpAny_rule ?_)
  refine wpAny_bind (wpAny_field hz rfl (x := .ref TO) rfl ?_)
  refine wpAny_bind (wpAny_setField_rec hz (by simp) fun g₁ hz₁ q₁ => ?_)
  replace hz₁ : IsZip g₁ z TI TO .ellipsis := hz₁
  refine wpAny_bind ?_
  simp only [List.zipIdx_cons, List.zipIdx_nil, List.forIn_cons, List.forIn_nil]
  -- the list's item
  refine wpAny_bind (wpAny_bind (wpAny_onRaise ?_))
  show wpAny _ _ (Builtin.SmallTypes.nextOf (.ref i1) >>= _) _ _ _
  refine wpAny_bind (wpAny_nextOf_list_item (h1.extBut q₁.extBut D.i1z) (hl1.extBut q₁.extBut D.l1z) hx fun g₂ h1₂ q₂ => wpAny_pure ?_)
  have hTO₂ : IsPair g₂ TO a b := q₂.extBut _ _ D.TOi1 (q₁.extBut _ _ D.TOz hTO)
  refine wpAny_bind (wpAny_seqItems hTO₂ rfl ?_)
  refine wpAny_bind (wpAny_updateSeq_pair hTO₂ fun g₃ hTO₃ q₃ => ?_)
  replace hTO₃ : IsPair g₃ TO x b := hTO₃
  refine wpAny_bind (wpAny_letGo (wpAny_pure ?_))
  -- the tuple's
  have h2₃ : g₃.IsTupleIter i2 l2 k2 := ((h2.extBut q₁.extBut D.i2z).extBut q₂.extBut D.i12.symm).extBut q₃.extBut D.TOi2.symm
  have hl2₃ : g₃.IsTuple l2 ys := ((hl2.extBut q₁.extBut D.l2z).extBut q₂.extBut D.l2i1).extBut q₃.extBut D.l2TO
  refine wpAny_bind (wpAny_bind (wpAny_onRaise ?_))
  show wpAny _ _ (Builtin.SmallTypes.nextOf (.ref i2) >>= _) _ _ _
  refine wpAny_bind (nextTup h2₃ hl2₃ hy fun g₄ h2₄ q₄ => wpAny_pure ?_)
  have hTO₄ : IsPair g₄ TO x b := q₄.extBut _ _ D.TOi2 hTO₃
  refine wpAny_bind (wpAny_seqItems hTO₄ rfl ?_)
  refine wpAny_bind (wpAny_updateSeq_pair hTO₄ fun g₅ hTO₅ q₅ => ?_)
  replace hTO₅ : IsPair g₅ TO x y := hTO₅
  refine wpAny_bind (wpAny_letGo (wpAny_pure (wpAny_pure ?_)))
  refine wpAny_bind (wpAny_seqItems hTO₅ rfl ?_)
  refine wpAny_bind (wpAny_newTuple ?_)
  have hsz : g₅.objs.size = s.heap.objs.size := by rw [q₅.1, q₄.1, q₃.1, q₂.1, q₁.1]
  have hz₅ : IsZip g₅ z TI TO .ellipsis := q₅.extBut _ _ D.TOz.symm (q₄.extBut _ _ D.i2z.symm (q₃.extBut _ _ D.TOz.symm (q₂.extBut _ _ D.i1z.symm hz₁)))
  have keep : ∀ c o, c ≠ z → c ≠ TO → c ≠ i1 → c ≠ i2 → s.heap.get? c = some o → g₅.get? c = some o := fun c o c1 c2 c3 c4 e =>
    q₅.extBut _ _ c2 (q₄.extBut _ _ c4 (q₃.extBut _ _ c2 (q₂.extBut _ _ c3 (q₁.extBut _ _ c1 e))))
  have h1₅ : g₅.IsListIter i1 l1 (k1 + 1) := ((h1₂.extBut q₃.extBut D.TOi1.symm).extBut q₄.extBut D.i12).extBut q₅.extBut D.TOi1.symm
  have h2₅ : g₅.IsTupleIter i2 l2 (k2 + 1) := h2₄.extBut q₅.extBut D.TOi2.symm
  show wpAny _ _ (Builtin.SmallTypes.ownedTupleHandOut (.ref z) (.ref g₅.objs.size) >>= _) _ _ _
  refine wpAny_bind ?_
  unfold Builtin.SmallTypes.ownedTupleHandOut
  have hz₆ : IsZip (g₅.push { cls := .type "tuple", data := .seq #[x, y] }) z TI TO .ellipsis := Heap.get?_push_of_some _ hz₅
  refine wpAny_bind (wpAny_setField_rec hz₆ (by simp) fun g₇ hz₇ q₇ => ?_)
  replace hz₇ : IsZip g₇ z TI TO (rawInt g₅.objs.size) := hz₇
  refine wpAny_setField_rec hz₇ (by simp) fun g₈ hz₈ q₈ => ?_
  replace hz₈ : IsZip g₈ z TI TO (rawInt g₅.objs.size) := hz₈
  have up : ∀ c o, c ≠ z → g₅.get? c = some o → g₈.get? c = some o := fun c o c1 e => q₈.extBut _ _ c1 (q₇.extBut _ _ c1 (Heap.get?_push_of_some _ e))
  have hzne : g₅.objs.size ≠ z := Nat.ne_of_gt (Heap.lt_size hz₅)
  have hT₈ : IsPair g₈ g₅.objs.size x y := q₈.extBut _ _ hzne (q₇.extBut _ _ hzne (Heap.get?_push_size _ rfl))
  rw [hsz] at hz₈ hT₈
  refine wpAny_pure ⟨_, rfl, ?_⟩
  show Q (.ref g₅.objs.size) _
  rw [hsz]
  exact hQ g₈ hz₈ (up _ _ D.TOz hTO₅) (h1₅.at fun o e => up _ o D.i1z e) (h2₅.at fun o e => up _ o D.i2z e) hT₈ fun c o c1 c2 c3 c4 e => up c o c1 (keep c o c1 c2 c3 c4 e)

/-- zip's next where the list has an item and the tuple none -/
theorem zipNextEnd {Q : Fin → Shared → Prop} (hh : A.handled = none) (D : ZipApart z TI TO i1 i2 l1 l2) (hz : IsZip s.heap z TI TO .none) (hTI : IsPair s.heap TI (.ref i1) (.ref i2)) (hTO : IsPair s.heap TO a b)
    (h1 : s.heap.IsListIter i1 l1 k1) (h2 : s.heap.IsTupleIter i2 l2 k2) (hl1 : s.heap.IsList l1 xs) (hl2 : s.heap.IsTuple l2 ys) (hx : xs[k1]? = some x) (hy : ys[k2]? = none)
    (hE : ∀ h' e, (∀ c o, c ≠ z → c ≠ TO → c ≠ i1 → c ≠ i2 → s.heap.get? c = some o → h'.get? c = some o) → (∃ o, h'.get? e = some o ∧ o.cls = .type "StopIteration") → E (.ref e) { s with heap := h' }) :
    wpAny (model prog w) A (Builtin.«zip.__next__» ⟨[.ref z], []⟩) Q E s := by
  show wpAny _ _ (field (.ref z) 2 >>= _) _ _ _
  refine wpAny_bind (wpAny_field hz rfl (x := .bool false) rfl ?_)
  show wpAny _ _ (field (.ref z) 3 >>= _) _ _ _
  refine wpAny_bind (wpAny_field hz rfl (x := .ref TI) rfl ?_)
  refine wpAny_bind (wpAny_seqItems hTI rfl ?_)
  show wpAny _ _ (Builtin.SmallTypes.ownedTupleIsFree (.ref z) >>= _) _ _ _
  refine wpAny_bind ?_
  unfold Builtin.SmallTypes.ownedTupleIsFree
  refine wpAny_bind (wpAny_field hz rfl (x := .none) rfl (wpAny_pure ?_))
  simp only [if_true]
  refine wpAny_bind (wpAny_rule ?_)
  refine wpAny_bind (wpAny_field hz rfl (x := .ref TO) rfl ?_)
  refine wpAny_bind (wpAny_setField_rec hz (by simp) fun g₁ hz₁ q₁ => ?_)
  replace hz₁ : IsZip g₁ z TI TO .ellipsis := hz₁
  refine wpAny_bind ?_
  simp only [List.zipIdx_cons, List.zipIdx_nil, List.forIn_cons, List.forIn_nil]
  refine wpAny_bind (wpAny_bind (wpAny_onRaise ?_))
  show wpAny _ _ (Builtin.SmallTypes.nextOf (.ref i1) >>= _) _ _ _
  refine wpAny_bind (wpAny_nextOf_list_item (h1.extBut q₁.extBut D.i1z) (hl1.extBut q₁.extBut D.l1z) hx fun g₂ h1₂ q₂ => wpAny_pure ?_)
  have hTO₂ : IsPair g₂ TO a b := q₂.extBut _ _ D.TOi1 (q₁.extBut _ _ D.TOz hTO)
  refine wpAny_bind (wpAny_seqItems hTO₂ rfl ?_)
  refine wpAny_bind (wpAny_updateSeq_pair hTO₂ fun g₃ hTO₃ q₃ => ?_)
  refine wpAny_bind (wpAny_letGo (wpAny_pure ?_))
  have h2₃ : g₃.IsTupleIter i2 l2 k2 := ((h2.extBut q₁.extBut D.i2z).extBut q₂.extBut D.i12.symm).extBut q₃.extBut D.TOi2.symm
  have hl2₃ : g₃.IsTuple l2 ys := ((hl2.extBut q₁.extBut D.l2z).extBut q₂.extBut D.l2i1).extBut q₃.extBut D.l2TO
  refine wpAny_bind (wpAny_bind (wpAny_onRaise ?_))
  show wpAny _ _ (Builtin.SmallTypes.nextOf (.ref i2) >>= _) _ _ _
  refine wpAny_bind (nextTupEnd hh h2₃ hl2₃ hy fun g₄ e q₄ he => ?_)
  obtain ⟨oe, hoe, hce⟩ := he
  have hz₄ : IsZip g₄ z TI TO .ellipsis := q₄ _ _ D.i2z.symm (q₃.extBut _ _ D.TOz.symm (q₂.extBut _ _ D.i1z.symm hz₁))
  have hez : e ≠ z := fun x => by subst x; rw [hz₄] at hoe; cases hoe; simp at hce
  exact wpAny_setField_rec hz₄ (by simp) fun g₅ _ q₅ => hE g₅ e (fun c o c1 c2 c3 c4 x => q₅.extBut _ _ c1 (q₄ _ _ c4 (q₃.extBut _ _ c2 (q₂.extBut _ _ c3 (q₁.extBut _ _ c1 x))))) ⟨oe, q₅.extBut _ _ hez hoe, hce⟩

theorem pyNextZip {Q : Option Value → Shared → Prop} (D : ZipApart z TI TO i1 i2 l1 l2) (hz : IsZip s.heap z TI TO .none) (hTI : IsPair s.heap TI (.ref i1) (.ref i2)) (hTO : IsPair s.heap TO a b)
    (h1 : s.heap.IsListIter i1 l1 k1) (h2 : s.heap.IsTupleIter i2 l2 k2) (hl1 : s.heap.IsList l1 xs) (hl2 : s.heap.IsTuple l2 ys) (hx : xs[k1]? = some x) (hy : ys[k2]? = some y)
    (hQ : ∀ h', IsZip h' z TI TO (rawInt s.heap.objs.size) → IsPair h' TO x y → h'.IsListIter i1 l1 (k1 + 1) → h'.IsTupleIter i2 l2 (k2 + 1) → IsPair h' s.heap.objs.size x y →
      (∀ c o, c ≠ z → c ≠ TO → c ≠ i1 → c ≠ i2 → s.heap.get? c = some o → h'.get? c = some o) → Q (some (.ref s.heap.objs.size)) { s with heap := h' }) :
    wpAny (model prog w) A (pyNext (.ref z)) Q E s := by
  have hT : s.TypeIs (.ref z) "zip" := ⟨_, hz, rfl⟩
  unfold pyNext
  exact wpAny_bind (wpAny_attempt (wpAny_callSpecial?_slot (name := Str.ofString "__next__") hT F.slot_zip_next
    (wpAny_call_entry F.slot_zip_next hT F.entry_zip_next (zipNext D hz hTI hTO h1 h2 hl1 hl2 hx hy fun h' a1 a2 a3 a4 a5 a6 => wpAny_pure (hQ h' a1 a2 a3 a4 a5 a6)) (F.args_zip_next_1 _))))

theorem pyNextZipEnd {Q : Option Value → Shared → Prop} (hh : A.handled = none) (D : ZipApart z TI TO i1 i2 l1 l2) (hz : IsZip s.heap z TI TO .none) (hTI : IsPair s.heap TI (.ref i1) (.ref i2)) (hTO : IsPair s.heap TO a b)
    (h1 : s.heap.IsListIter i1 l1 k1) (h2 : s.heap.IsTupleIter i2 l2 k2) (hl1 : s.heap.IsList l1 xs) (hl2 : s.heap.IsTuple l2 ys) (hx : xs[k1]? = some x) (hy : ys[k2]? = none)
    (hQ : ∀ h', (∀ c o, c ≠ z → c ≠ TO → c ≠ i1 → c ≠ i2 → s.heap.get? c = some o → h'.get? c = some o) → Q none { s with heap := h' }) : wpAny (model prog w) A (pyNext (.ref z)) Q E s := by
  have hT : s.TypeIs (.ref z) "zip" := ⟨_, hz, rfl⟩
  unfold pyNext
  refine wpAny_bind (wpAny_attempt (wpAny_callSpecial?_slot (name := Str.ofString "__next__") hT F.slot_zip_next
    (wpAny_call_entry F.slot_zip_next hT F.entry_zip_next (zipNextEnd hh D hz hTI hTO h1 h2 hl1 hl2 hx hy fun h' e hk he => ?_) (F.args_zip_next_1 _))))
  obtain ⟨o, ho, hc⟩ := he
  refine wpAny_bind (wpAny_isInstance (T := "StopIteration") (b := true) ⟨o, ho, hc⟩ isSubtype_stop ?_)
  exact wpAny_pure (hQ _ hk)
end
end

abbrev zH1 (h : Heap) (l1 : Addr) : Heap := h.push { cls := .type "list_iterator", data := .fields #[.ref l1, .int 0 0] }
abbrev zH2 (h : Heap) (l1 l2 : Addr) : Heap := (zH1 h l1).push { cls := .type "tuple_iterator", data := .fields #[.ref l2, .int 0 0] }
abbrev zH3 (h : Heap) (l1 l2 : Addr) : Heap := (zH2 h l1 l2).push { cls := .type "tuple", data := .seq #[.ref h.objs.size, .ref (zH1 h l1).objs.size] }
abbrev zH4 (h : Heap) (l1 l2 : Addr) : Heap := (zH3 h l1 l2).push { cls := .type "tuple", data := .seq #[.none, .none] }
abbrev zH5 (h : Heap) (l1 l2 : Addr) : Heap := (zH4 h l1 l2).push { cls := .type "zip", data := .fields #[.none, .bool false, .bool false, .ref (zH2 h l1 l2).objs.size, .ref (zH3 h l1 l2).objs.size] }

theorem meetsZip (l1 l2 : Addr) (xs ys : Array Value) :
    Meets (Builtin.«zip.__new__» ⟨[.type "zip", .ref l1, .ref l2], []⟩) (fun _ R s => s.heap.IsList l1 xs ∧ s.heap.IsTuple l2 ys ∧
      R (.ok (.ret (.ref (zH4 s.heap l1 l2).objs.size))) { s with heap := zH5 s.heap l1 l2 }) :=
  .of_wp fun prog w A R s h => by
    obtain ⟨hp, g, d, tk, os⟩ := s; obtain ⟨hl1, hl2, h⟩ := h
    have hsub := sub_zip
    have hL1 : Heap.IsList (Shared.heap ⟨hp, g, d, tk, os⟩) l1 xs := hl1
    have hL2 : Heap.IsTuple (Shared.heap ⟨hp.push { cls := .type "list_iterator", data := .fields #[.ref l1, .int 0 0] }, g, d, tk, os⟩) l2 ys := Heap.IsTuple.push hl2 _
    wp_walk using wpAny_pyIter_list hL1, wpAny_pyIter_tuple hL2
    exact ⟨_, rfl, h⟩

section
variable {prog : Program} {w : World} {A : Around} {E : Value → Shared → Prop} {s : Shared}
theorem callZip {l1 l2 : Addr} {xs ys : Array Value} {Q : Value → Shared → Prop} (hl1 : s.heap.IsList l1 xs) (hl2 : s.heap.IsTuple l2 ys)
    (h : ∀ h', IsZip h' (s.heap.objs.size + 4) (s.heap.objs.size + 2) (s.heap.objs.size + 3) .none → IsPair h' (s.heap.objs.size + 2) (.ref s.heap.objs.size) (.ref (s.heap.objs.size + 1)) →
      IsPair h' (s.heap.objs.size + 3) .none .none → h'.IsListIter s.heap.objs.size l1 0 → h'.IsTupleIter (s.heap.objs.size + 1) l2 0 →
      (∀ c o, s.heap.get? c = some o → h'.get? c = some o) → Q (.ref (s.heap.objs.size + 4)) { s with heap := h' }) :
    wpAny (model prog w) A (call (.type "zip") [.ref l1, .ref l2]) Q E s := by
  refine callType_new F.called_zip (by decide) (F.typeCall_zip_2 _ _) (F.newCall_zip_2 _ _) (fun obj => F.args_object_init_3 obj _ _) F.entry_zip_new
    (meetsZip l1 l2 xs ys) ⟨hl1, hl2, ?_⟩
  have z1 : (zH1 s.heap l1).objs.size = s.heap.objs.size + 1 := Heap.size_push ..
  have z2 : (zH2 s.heap l1 l2).objs.size = s.heap.objs.size + 2 := by rw [Heap.size_push, z1]
  have z3 : (zH3 s.heap l1 l2).objs.size = s.heap.objs.size + 3 := by rw [Heap.size_push, z2]
  have z4 : (zH4 s.heap l1 l2).objs.size = s.heap.objs.size + 4 := by rw [Heap.size_push, z3]
  have p1 : ∀ {c o}, (zH1 s.heap l1).get? c = some o → (zH5 s.heap l1 l2).get? c = some o := fun e => Heap.get?_push_of_some _ (Heap.get?_push_of_some _ (Heap.get?_push_of_some _ (Heap.get?_push_of_some _ e)))
  have p2 : ∀ {c o}, (zH2 s.heap l1 l2).get? c = some o → (zH5 s.heap l1 l2).get? c = some o := fun e => Heap.get?_push_of_some _ (Heap.get?_push_of_some _ (Heap.get?_push_of_some _ e))
  have g1 : (zH5 s.heap l1 l2).get? s.heap.objs.size = some _ := p1 (Heap.get?_push_size _ rfl)
  have g2 : (zH5 s.heap l1 l2).get? (zH1 s.heap l1).objs.size = some _ := p2 (Heap.get?_push_size _ rfl)
  have g3 : (zH5 s.heap l1 l2).get? (zH2 s.heap l1 l2).objs.size = some _ := Heap.get?_push_of_some _ (Heap.get?_push_of_some _ (Heap.get?_push_size _ rfl))
  have g4 : (zH5 s.heap l1 l2).get? (zH3 s.heap l1 l2).objs.size = some _ := Heap.get?_push_of_some _ (Heap.get?_push_size _ rfl)
  have g5 : (zH5 s.heap l1 l2).get? (zH4 s.heap l1 l2).objs.size = some _ := Heap.get?_push_size _ rfl
  show _ ∧ _
  rw [z2, z3, z4] at g5
  rw [z1, z2] at g3
  rw [z3] at g4
  rw [z1] at g2
  rw [z4]
  exact ⟨⟨_, g5, rfl⟩, h _ g5 g3 g4 ⟨_, g1, rfl, rfl⟩ ⟨_, g2, rfl, rfl⟩ fun c o x => p1 (Heap.get?_push_of_some _ x)⟩
end
end Mine
namespace Mine
open PySem.Calls PySem.Spec
section
variable {prog : Program} {w : World} {A : Around}
theorem zipTurns {elts : List PySem.Expr} {k : Nat} {pos : Pos} (hh : A.handled = none) (z TI TO i1 i2 l1 l2 : Addr) (D : ZipApart z TI TO i1 i2 l1 l2) (xs ys : Array Value) (hlt : ys.size < xs.size) :
    KTurns prog w A (.Tuple elts k pos) z [z, TI, TO, i1, i2, l1, l2] [z, TO, i1, i2] ys.size
      (fun i v h => ∃ T x y, v = .ref T ∧ xs[i]? = some x ∧ ys[i]? = some y ∧ IsPair h T x y)
      (fun i v h => ∃ T x y, v = .ref T ∧ xs[i]? = some x ∧ ys[i]? = some y ∧ IsPair h T x y ∧ (T ≠ z ∧ T ≠ TO ∧ T ≠ i1 ∧ T ≠ i2) ∧ IsZip h z TI TO (rawInt T) ∧ IsPair h TI (.ref i1) (.ref i2) ∧ (∃ a b, IsPair h TO a b) ∧ h.IsListIter i1 l1 (i + 1) ∧ h.IsTupleIter i2 l2 (i + 1) ∧ h.IsList l1 xs ∧ h.IsTuple l2 ys)
      (fun i h => IsZip h z TI TO .none ∧ IsPair h TI (.ref i1) (.ref i2) ∧ (∃ a b, IsPair h TO a b) ∧ h.IsListIter i1 l1 i ∧ h.IsTupleIter i2 l2 i ∧ h.IsList l1 xs ∧ h.IsTuple l2 ys) where
  sub := fun c hc => by simp at hc ⊢; rcases hc with rfl | rfl | rfl | rfl <;> simp
  frame := fun i h h' hst hk => by
    obtain ⟨hz, hTI, ⟨a, b, hTO⟩, h1, h2, hl1, hl2⟩ := hst
    exact ⟨hk z (by simp) _ hz, hk TI (by simp) _ hTI, ⟨a, b, hk TO (by simp) _ hTO⟩, h1.at fun o e => hk i1 (by simp) o e, h2.at fun o e => hk i2 (by simp) o e,
      hl1.at fun o e => hk l1 (by simp) o e, hl2.at fun o e => hk l2 (by simp) o e⟩
  item := fun i s Q E hi hst hQ => by
    obtain ⟨hz, hTI, ⟨a, b, hTO⟩, h1, h2, hl1, hl2⟩ := hst
    have hix : i < xs.size := Nat.lt_trans hi hlt
    have hxi := Array.getElem?_eq_getElem hix
    have hyi := Array.getElem?_eq_getElem hi
    refine pyNextZip D hz hTI hTO h1 h2 hl1 hl2 hxi hyi fun h' a1 a2 a3 a4 a5 hk => ?_
    have lt : ∀ {c o}, s.heap.get? c = some o → s.heap.objs.size ≠ c := fun e => Nat.ne_of_gt (Heap.lt_size e)
    refine hQ (.ref s.heap.objs.size) h' s.toks ⟨_, _, _, rfl, hxi, hyi, a5, ⟨lt hz, lt hTO, ?_, ?_⟩, a1, hk _ _ D.TIz D.TITO D.TIi1 D.TIi2 hTI, ⟨_, _, a2⟩, a3, a4,
      hl1.at fun o e => hk _ o D.l1z D.l1TO D.l1i1 D.l1i2 e, hl2.at fun o e => hk _ o D.l2z D.l2TO D.l2i1 D.l2i2 e⟩
      fun c o hc e => hk c o (fun x => hc (by simp [x])) (fun x => hc (by simp [x])) (fun x => hc (by simp [x])) (fun x => hc (by simp [x])) e
    · obtain ⟨_, e, _⟩ := h1; exact lt e
    · obtain ⟨_, e, _⟩ := h2; exact lt e
  go := fun i v s Q E hm hQ => by
    obtain ⟨T, x, y, rfl, hx, hy, hT, ⟨t1, t2, t3, t4⟩, hz, hTI, ⟨a, b, hTO⟩, h1, h2, hl1, hl2⟩ := hm
    refine wpAny_letOwnedTupleGo_zip hz fun h' hz' hs' => hQ h' ⟨T, x, y, rfl, hx, hy, hs'.extBut _ _ t1 hT⟩ ⟨hz', hs'.extBut _ _ D.TIz hTI, ⟨a, b, hs'.extBut _ _ D.TOz hTO⟩, h1.extBut hs'.extBut D.i1z, h2.extBut hs'.extBut D.i2z,
      hl1.extBut hs'.extBut D.l1z, hl2.extBut hs'.extBut D.l2z⟩ fun c o hc e => hs'.extBut _ _ (fun x => hc (by simp [x])) e
  done := fun s Q E hst hQ => by
    obtain ⟨hz, hTI, ⟨a, b, hTO⟩, h1, h2, hl1, hl2⟩ := hst
    exact pyNextZipEnd hh D hz hTI hTO h1 h2 hl1 hl2 (Array.getElem?_eq_getElem hlt) (Array.getElem?_eq_none (Nat.le_refl _)) fun h' hk => hQ h' s.toks fun c o hc e =>
      hk c o (fun x => hc (by simp [x])) (fun x => hc (by simp [x])) (fun x => hc (by simp [x])) (fun x => hc (by simp [x])) e
end
section
variable {prog : Program} {w : World} {A : Around} {E : Value → Shared → Prop} {s : Shared} {env : Env} {h₀ : Heap} {body : List Stmt} {Q : Flow → Shared → Prop}
/-- zip of a made list and a made tuple, the tuple the shorter, as a for's source -/
theorem zipFor {elts : List PySem.Expr} {k : Nat} {pos : Pos} {l1 l2 : Addr} {lo1 lo2 : Obj} {xs ys : List Value} {n1 n2 : Nat} {m₀ : Str → Option Value} {news : List (Addr × Obj)}
    (hh : A.handled = none) (F : Fr h₀ env.locals s.heap m₀) (N : News h₀ env.locals s.heap news) (hm1 : (l1, lo1) ∈ news) (hc1 : lo1.cls = .type "list") (hd1 : lo1.data = .seq xs.toArray n1) (hm2 : (l2, lo2) ∈ news) (hc2 : lo2.cls = .type "tuple") (hd2 : lo2.data = .seq ys.toArray n2) (hlt : ys.length < xs.length)
    (rest₀ : ∀ I : Addr, (∀ p ∈ news, p.1 < I) → ItemsRest prog w A E h₀ env (.Tuple elts k pos) body Q s [(I + 4, "zip"), (I + 2, "tuple"), (I + 3, "tuple"), (I, "list_iterator"), (I + 1, "tuple_iterator")] [(l1, lo1), (l2, lo2)] (zipItems xs ys) m₀ news) :
    wpAny (model prog w) A (call (.type "zip") [.ref l1, .ref l2]) (fun xv s₁ => wpAny (model prog w) A (pyIter xv) (fun it s₂ => TurnsAt prog w A h₀ env (.Tuple elts k pos) body Q E it s₂) E s₁) E s := by
  have hax1 := N _ hm1
  have hax2 := N _ hm2
  have hl1 : s.heap.IsList l1 xs.toArray := ⟨lo1, hax1.1, hc1, n1, hd1⟩
  have hl2 : s.heap.IsTuple l2 ys.toArray := ⟨lo2, hax2.1, hc2, n2, hd2⟩
  have hlt1 : l1 < s.heap.objs.size := Heap.lt_size hax1.1
  have hlt2 : l2 < s.heap.objs.size := Heap.lt_size hax2.1
  have hLs : env.locals < s.heap.objs.size := F.ns.lt
  have D : ZipApart (s.heap.objs.size + 4) (s.heap.objs.size + 2) (s.heap.objs.size + 3) s.heap.objs.size (s.heap.objs.size + 1) l1 l2 := ktu_apart _ _ _ hlt1 hlt2
  refine callZip hl1 hl2 fun h' hz hTI hTO hi1 hi2 hk => ?_
  refine wpAny_pyIter_zip hz ?_
  refine ktu_core (tk0 := s.toks) (keep := [(l1, lo1), (l2, lo2)]) (zipTurns hh _ _ _ _ _ _ _ D xs.toArray ys.toArray (by simpa using hlt)) (by rw [zipItems_length, List.size_toArray]; omega) ?_ ?_ ?_ ?_ ?_ ?_ ?_ ?_ (F.keeps hk) (N.grown hk) (And.intro hm1 (And.intro hm2 trivial)) (rest₀ _ fun p hp => Heap.lt_size (N p hp).1)
  · rintro i v h ⟨T, x, y, rfl, hx, hy, hT⟩
    exact ⟨_, zipItems_get xs ys i (x := x) (y := y) (by simpa using hx) (by simpa using hy), T, 0, rfl, ⟨_, hT, rfl, 0, rfl⟩⟩
  · rintro i h ⟨hz, hTI, ⟨a, b, hTO⟩, ⟨o1, ho1, hc1, _⟩, ⟨o2, ho2, hc2, _⟩, _⟩
    obtain ⟨q1, g1, k1⟩ : ∃ o : Obj, h.get? (s.heap.objs.size + 4) = some o ∧ o.cls = .type "zip" := ⟨_, hz, rfl⟩
    obtain ⟨q2, g2, k2⟩ : ∃ o : Obj, h.get? (s.heap.objs.size + 2) = some o ∧ o.cls = .type "tuple" := ⟨_, hTI, rfl⟩
    obtain ⟨q3, g3, k3⟩ : ∃ o : Obj, h.get? (s.heap.objs.size + 3) = some o ∧ o.cls = .type "tuple" := ⟨_, hTO, rfl⟩
    refine ⟨[(s.heap.objs.size + 4, q1), (s.heap.objs.size + 2, q2), (s.heap.objs.size + 3, q3), (s.heap.objs.size, o1), (s.heap.objs.size + 1, o2)], ⟨⟨rfl, k1⟩, ⟨rfl, k2⟩, ⟨rfl, k3⟩, ⟨rfl, hc1⟩, ⟨rfl, hc2⟩, trivial⟩, ?_⟩
    simp only [List.forall_mem_cons, List.not_mem_nil, false_implies, implies_true, and_true]
    exact ⟨g1, g2, g3, ho1, ho2⟩
  · intro b hb
    have hb' : b = s.heap.objs.size + 4 ∨ b = s.heap.objs.size + 2 ∨ b = s.heap.objs.size + 3 ∨ b = s.heap.objs.size ∨ b = s.heap.objs.size + 1 := by simpa using hb
    rcases hb' with rfl | rfl | rfl | rfl | rfl
    · exact ⟨by simp, ktu_new F (Nat.le_add_right _ _)⟩
    · exact ⟨by simp, ktu_new F (Nat.le_add_right _ _)⟩
    · exact ⟨by simp, ktu_new F (Nat.le_add_right _ _)⟩
    · exact ⟨by simp, ktu_new F (Nat.le_refl _)⟩
    · exact ⟨by simp, ktu_new F (Nat.le_add_right _ _)⟩
  · intro b hb
    have hb' : b = s.heap.objs.size + 4 ∨ b = s.heap.objs.size + 3 ∨ b = s.heap.objs.size ∨ b = s.heap.objs.size + 1 := by simpa using hb
    rcases hb' with rfl | rfl | rfl | rfl <;> simp
  · intro b hb
    have hb' : b = s.heap.objs.size + 4 ∨ b = s.heap.objs.size + 2 ∨ b = s.heap.objs.size + 3 ∨ b = s.heap.objs.size ∨ b = s.heap.objs.size + 1 ∨ b = l1 ∨ b = l2 := by simpa using hb
    rcases hb' with rfl | rfl | rfl | rfl | rfl | rfl | rfl
    · exact .inl (by simp)
    · exact .inl (by simp)
    · exact .inl (by simp)
    · exact .inl (by simp)
    · exact .inl (by simp)
    · exact .inr ⟨lo1, by simp⟩
    · exact .inr ⟨lo2, by simp⟩
  · intro hI'
    have hb' : env.locals = s.heap.objs.size + 4 ∨ env.locals = s.heap.objs.size + 2 ∨ env.locals = s.heap.objs.size + 3 ∨ env.locals = s.heap.objs.size ∨ env.locals = s.heap.objs.size + 1 ∨ env.locals = l1 ∨ env.locals = l2 := by simpa using hI'
    rcases hb' with e | e | e | e | e | e | e
    · exact ktu_ne 4 hLs e
    · exact ktu_ne 2 hLs e
    · exact ktu_ne 3 hLs e
    · exact Nat.ne_of_lt hLs e
    · exact ktu_ne 1 hLs e
    · exact hax1.2.1 e.symm
    · exact hax2.2.1 e.symm
  · intro p hp hI'
    have hb' : p.1 = s.heap.objs.size + 4 ∨ p.1 = s.heap.objs.size + 3 ∨ p.1 = s.heap.objs.size ∨ p.1 = s.heap.objs.size + 1 := by simpa using hI'
    have hlp := Heap.lt_size (N p hp).1
    rcases hb' with e | e | e | e
    · exact ktu_ne 4 hlp e
    · exact ktu_ne 3 hlp e
    · exact Nat.ne_of_lt hlp e
    · exact ktu_ne 1 hlp e
  · exact ⟨hz, hTI, ⟨_, _, hTO⟩, hi1, hi2, hl1.at fun o e => hk l1 o e, hl2.at fun o e => hk l2 o e⟩
end
end Mine
namespace Mine
open PySem.Calls PyProof.Rows.LCg PySem.Spec
theorem ints4 {vs : List Value} {a b c d : Int} (h : IntsAre vs [a, b, c, d]) : ∃ ta tb tc td, vs = [Value.int a ta, Value.int b tb, Value.int c tc, Value.int d td] := by
  cases h with
  | cons _ ta h =>
    cases h with
    | cons _ tb h =>
      cases h with
      | cons _ tc h =>
        cases h with
        | cons _ td h =>
          cases h
          exact ⟨ta, tb, tc, td, rfl⟩
theorem diffSnoc {ns ms : List Int} {i : Nat} {p q : Int} (hp : ns[i]? = some p) (hq : ms[i]? = some q) :
    List.zipWith (· - ·) (ns.take (i + 1)) (ms.take (i + 1)) = List.zipWith (· - ·) (ns.take i) (ms.take i) ++ [p - q] := by
  have h1 : i < ns.length := (List.getElem?_eq_some_iff.mp hp).1
  have h2 : i < ms.length := (List.getElem?_eq_some_iff.mp hq).1
  rw [List.take_add_one, List.take_add_one, hp, hq, List.zipWith_append (by rw [List.length_take, List.length_take]; omega)]
  rfl

/-- the state of a zip over two lists at its i-th item -/
abbrev ZipAt (z TI TO i1 i2 l1 l2 : Addr) (xs ys : List Value) (i : Nat) (h : Heap) : Prop :=
  IsZip h z TI TO .none ∧ IsPair h TI (.ref i1) (.ref i2) ∧ (∃ a b, IsPair h TO a b) ∧ h.IsListIter i1 l1 i ∧ h.IsListIter i2 l2 i ∧ h.IsList l1 xs.toArray ∧ h.IsList l2 ys.toArray

def DiffAt (A : Around) (h₀ : Heap) (L : Addr) (m : Str → Option Value) (Q : Value → Shared → Prop) (xv : Value) (s₁ : Shared) : Prop :=
  ∃ (z TI TO i1 i2 l1 l2 : Addr) (xs ys : List Value) (ns ms : List Int) (news : List (Addr × Obj)), ZipApart z TI TO i1 i2 l1 l2 ∧ xv = .ref z ∧ A.handled = none ∧ IntsAre xs ns ∧ IntsAre ys ms ∧ ns.length = ms.length ∧ ns.length ≤ sizeLine ∧
    ZipAt z TI TO i1 i2 l1 l2 xs ys 0 s₁.heap ∧ Fr h₀ L s₁.heap m ∧ News h₀ L s₁.heap news ∧ (∀ b ∈ [z, TO, i1, i2], h₀.get? b = none ∧ L ≠ b ∧ ∀ p ∈ news, p.1 ≠ b) ∧
    ∀ D zs h tk, IntsAre zs (List.zipWith (· - ·) ns ms) → Fr h₀ L h m → News h₀ L h ((D, lst zs) :: news) → (∀ p ∈ news, p.1 < D) → Q (.ref D) { s₁ with heap := h, toks := tk }

section
variable {prog : Program} {w : World} {A : Around} {E : Value → Shared → Prop} {s : Shared} {h₀ : Heap} {L : Addr} {m : Str → Option Value} {env : Env}
/-- [a - b for a, b in zip(..)] of two lists of ints of one length -/
theorem compDiff {iter : PySem.Expr} {a b : Str} {pa pb tp qa qb ep : Pos} {kk : Nat} {scope : Scope} {cl : List (Str × Addr)} {pos : Pos} {Q : Value → Shared → Prop} (F₀ : Fr h₀ L s.heap m)
    (hclos : closureFor scope env = pure cl) (hcell : ∀ y ∈ scope.names, y.2 ≠ .cell) (hkind : scope.kind = .function)
    (hnames : ∀ y ∈ scope.names, y.2 = .local → scope.names.lookup y.1 = some .local) (hxa : scope.names.lookup a = some .local) (hxb : scope.names.lookup b = some .local) (hab : ¬ a = b) (hda : (a == ("__debug__" : Str)) = false) (hdb : (b == ("__debug__" : Str)) = false)
    (hs : ∀ x, foldedSetIterable iter env x = pure x)
    (h : wpAny (model prog w) A (eval iter env) (DiffAt A h₀ L m Q) E s) :
    wpAny (model prog w) A (eval (.ListComp (.BinOp (.Name a qa) .Sub (.Name b qb) ep) [⟨.Tuple [.Name a pa, .Name b pb] kk tp, iter, [], 0⟩] scope pos) env) Q E s := by
  rw [eval_ListComp]
  refine wpAny_comprehension_free (use := none) rfl hs hclos hkind hnames (wpAny_mono h (fun xv s₁ h₁ => ?_) fun _ _ e => e)
  obtain ⟨z, TI, TO, i1, i2, l1, l2, xs, ys, ns, ms, news, D, rfl, hh, hI1, hI2, hlen, hsz, hZ, F, N, hoff, fin⟩ := h₁
  refine wpAny_pyIter_zip hZ.1 ?_
  refine wpAny_newObj_type (wpAny_newFunctionEnv hcell (by intro y hy; simp at hy) (fun g₁ hns₁ hsb₁ => ?_) hkind)
  dsimp only at hns₁ hsb₁ ⊢
  generalize hH2 : s₁.heap.push { cls := .type "list", dict := none, data := .seq ([] : List Value).toArray } = H2 at hns₁ hsb₁ ⊢
  have hC : H2.objs.size = s₁.heap.objs.size + 1 := by rw [← hH2, Heap.size_push]
  have hDC : s₁.heap.objs.size ≠ H2.objs.size := by rw [hC]; exact Nat.ne_of_lt (Nat.lt_succ_self _)
  have below : ∀ c o, s₁.heap.get? c = some o → c ≠ H2.objs.size ∧ c ≠ s₁.heap.objs.size := fun c o e =>
    ⟨by rw [hC]; exact Nat.ne_of_lt (Nat.lt_succ_of_lt (Heap.lt_size e)), Nat.ne_of_lt (Heap.lt_size e)⟩
  have old : ∀ c o, s₁.heap.get? c = some o → g₁.get? c = some o := fun c o e => hsb₁.extBut c o (below c o e).1 (Heap.get?_push_of_some _ (hH2 ▸ Heap.get?_push_of_some _ e))
  have hacc : g₁.get? s₁.heap.objs.size = some (lst []) := hsb₁.extBut _ _ hDC (Heap.get?_push_of_some _ (hH2 ▸ Heap.get?_push_size _ rfl))
  have old₀ : ∀ c, s₁.heap.objs.size ≤ c → h₀.get? c = none := fun c hc => by
    cases e : h₀.get? c with
    | none => rfl
    | some o => exact absurd (Heap.lt_size (F.keep c o e)) (Nat.not_lt.mpr hc)
  have hD₀ : h₀.get? s₁.heap.objs.size = none := old₀ _ (Nat.le_refl _)
  have hC₀ : h₀.get? H2.objs.size = none := old₀ _ (by rw [hC]; exact Nat.le_succ _)
  have hLlt : L < s₁.heap.objs.size := F.ns.lt
  have hDL : s₁.heap.objs.size ≠ L := Ne.symm (Nat.ne_of_lt hLlt)
  have hCL : H2.objs.size ≠ L := Ne.symm (by rw [hC]; exact Nat.ne_of_lt (Nat.lt_succ_of_lt hLlt))
  have at0 : ∀ {j : Nat} {h : Heap}, ZipAt z TI TO i1 i2 l1 l2 xs ys j h → ∀ h' : Heap, (∀ c ∈ [z, TI, TO, i1, i2, l1, l2], ∀ o, h.get? c = some o → h'.get? c = some o) → ZipAt z TI TO i1 i2 l1 l2 xs ys j h' := by
    rintro j h ⟨q1, q2, ⟨u, v, q3⟩, q4, q5, q6, q7⟩ h' hk
    exact ⟨hk z (by simp) _ q1, hk TI (by simp) _ q2, ⟨u, v, hk TO (by simp) _ q3⟩, q4.at fun o e => hk i1 (by simp) o e, q5.at fun o e => hk i2 (by simp) o e, q6.at fun o e => hk l1 (by simp) o e, q7.at fun o e => hk l2 (by simp) o e⟩
  have zne : ∀ c ∈ [z, TI, TO, i1, i2, l1, l2], c ≠ H2.objs.size ∧ c ≠ s₁.heap.objs.size := by
    obtain ⟨q1, q2, ⟨u, v, q3⟩, ⟨_, q4, _⟩, ⟨_, q5, _⟩, ⟨_, q6, _⟩, ⟨_, q7, _⟩⟩ := hZ
    intro c hc
    have hc' : c = z ∨ c = TI ∨ c = TO ∨ c = i1 ∨ c = i2 ∨ c = l1 ∨ c = l2 := by simpa using hc
    rcases hc' with rfl | rfl | rfl | rfl | rfl | rfl | rfl
    · exact below _ _ q1
    · exact below _ _ q2
    · exact below _ _ q3
    · exact below _ _ q4
    · exact below _ _ q5
    · exact below _ _ q6
    · exact below _ _ q7
  have W := KTurns.ofWalksU (prog := prog) (w := w) (elts := [.Name a pa, .Name b pb]) (k := kk) (pos := tp) (WalksT.zip2 hh z TI TO i1 i2 l1 l2 D xs.toArray ys.toArray).toU
  have hn : min xs.toArray.size ys.toArray.size = ns.length := by rw [List.size_toArray, List.size_toArray, hI1.length, hI2.length, hlen, Nat.min_self]
  rw [hn] at W
  have loop : ∀ s₃ : Shared, s₃ = { s₁ with heap := g₁, toks := s₁.toks + ([] : List (Str × Value)).length } →
      codeAny (model prog w) A (.compLoop (.ListComp (.BinOp (.Name a qa) .Sub (.Name b qb) ep) [⟨.Tuple [.Name a pa, .Name b pb] kk tp, iter, [], 0⟩] scope pos) 0 (.ref z) (.ref s₁.heap.objs.size) (compEnvC scope cl H2.objs.size env))
        (compPost (model prog w) A E none Q (.ref s₁.heap.objs.size) H2.objs.size) s₃ := by
    rintro s₃ rfl
    refine kcp_loop
      (fun k s' => ∃ h' tk i zs m', s' = { s₁ with heap := h', toks := tk } ∧ i ≤ ns.length ∧ k = ns.length + 1 - i ∧ zs.length = i ∧ IntsAre zs (List.zipWith (· - ·) (ns.take i) (ms.take i)) ∧ ZipAt z TI TO i1 i2 l1 l2 xs ys i h' ∧ Fr h₀ L h' m ∧ h'.Ns H2.objs.size m' ∧
        h'.get? s₁.heap.objs.size = some (lst zs) ∧ News h₀ L h' news) ?_ (ns.length + 1)
      ⟨g₁, _, 0, [], _, rfl, Nat.zero_le _, rfl, rfl, .nil, at0 hZ g₁ fun c _ o e => old c o e, F.keeps old, hns₁, hacc, N.grown old⟩
    rintro k s' ⟨h', tk, i, zs, m', rfl, hi, rfl, hzl, hzs, hZ', F', hn', hD', N'⟩
    have keepF : ∀ h'' : Heap, (∀ c o, c ∉ [z, TO, i1, i2] → c ≠ H2.objs.size → c ≠ s₁.heap.objs.size → h'.get? c = some o → h''.get? c = some o) → Fr h₀ L h'' m ∧ News h₀ L h'' news := fun h'' hk => by
      refine ⟨⟨F'.ns.at' fun o e => hk _ o (fun hm => (hoff _ hm).2.1 rfl) (Ne.symm hCL) (Ne.symm hDL) e, fun c o e => hk c o (fun hm => ?_) (fun q => ?_) (fun q => ?_) (F'.keep c o e), F'.above⟩, fun p hp => ⟨hk _ _ (fun hm => (hoff _ hm).2.2 p hp rfl) ?_ ?_ (N' p hp).1, (N' p hp).2⟩⟩
      · rw [(hoff _ hm).1] at e; cases e
      · rw [q, hC₀] at e; cases e
      · rw [q, hD₀] at e; cases e
      · exact (below _ _ (N p hp).1).1
      · exact (below _ _ (N p hp).1).2
    have zin : ∀ c ∈ [z, TO, i1, i2], c ≠ H2.objs.size ∧ c ≠ s₁.heap.objs.size := fun c hc => zne c (by
      have hc' : c = z ∨ c = TO ∨ c = i1 ∨ c = i2 := by simpa using hc
      rcases hc' with rfl | rfl | rfl | rfl <;> simp)
    have hCz : H2.objs.size ∉ [z, TO, i1, i2] := fun hm => (zin _ hm).1 rfl
    have hDz : s₁.heap.objs.size ∉ [z, TO, i1, i2] := fun hm => (zin _ hm).2 rfl
    by_cases hlt : i < ns.length
    · refine W.item i _ _ _ hlt hZ' fun v h₂ tk₂ hMd hk₂ => ?_
      refine W.go i v _ _ _ hMd fun h₃ hP hst₃ hk₃ => ?_
      obtain ⟨T, vals, rfl, ⟨x, y, hx, hy, rfl⟩, hT⟩ := hP
      obtain ⟨p, t, rfl, hp⟩ := hI1.at i x (by simpa using hx)
      obtain ⟨q, u, rfl, hq⟩ := hI2.at i y (by simpa using hy)
      have up₃ : ∀ c o, c ∉ [z, TO, i1, i2] → h'.get? c = some o → h₃.get? c = some o := fun c o hc e => hk₃ c o hc (hk₂ c o hc e)
      refine kcp_assign (env := compEnvC scope cl H2.objs.size env) hh hT (lookup_relabel_local hxa) (lookup_relabel_local hxb) (by simp [compEnvC, relabel, hkind]) (hn'.at' fun o e => up₃ _ o hCz e) fun h₄ tk₄ hn₄ hs₄ => ?_
      have kd : (compEnvC scope cl H2.objs.size env).scope.kind = .function := by simp [compEnvC, relabel, hkind]
      refine wpAny_BinOp (ldVarK hn₄ (v := .int p t) (by simp [hab]) (ldVarK hn₄ (v := .int q u) (by simp) (sub_int ?_) kd (lookup_relabel_local hxb) hdb) kd (lookup_relabel_local hxa) hda)
      have hD₄ : h₄.get? s₁.heap.objs.size = some (lst zs) := hs₄ _ _ hDC (up₃ _ _ hDz hD')
      refine append_at (hsz := by show zs.toArray.size ≤ sizeLine; rw [List.size_toArray, hzl]; exact Nat.le_trans hi hsz) hD₄ fun h₅ hs₅ hD₅ => ?_
      have up₅ : ∀ c o, c ∉ [z, TO, i1, i2] → c ≠ H2.objs.size → c ≠ s₁.heap.objs.size → h'.get? c = some o → h₅.get? c = some o := fun c o h1 h2 h3 e => hs₅.extBut _ _ h3 (hs₄ c o h2 (up₃ c o h1 e))
      obtain ⟨F₅, N₅⟩ := keepF h₅ up₅
      refine ⟨ns.length + 1 - (i + 1), by omega, h₅, _, i + 1, zs ++ [.int (p - q) _], _, rfl, hlt, rfl, by rw [List.length_append, List.length_singleton, hzl], ?_, ?_, F₅, hn₄.at' fun o e => hs₅.extBut _ _ (Ne.symm hDC) e, hD₅.trans (congrArg some (lst_snoc zs _)), N₅⟩
      · rw [diffSnoc hp hq]
        exact hzs.append (.cons _ _ .nil)
      · exact at0 hst₃ h₅ fun c hc o e => hs₅.extBut _ _ (zne c hc).2 (hs₄ c o (zne c hc).1 e)
    · have hin : i = ns.length := Nat.le_antisymm hi (Nat.not_lt.mp hlt)
      subst hin
      refine W.done _ _ _ hZ' fun h₂ tk₂ hk₂ => ?_
      have hn₂ : h₂.Ns H2.objs.size m' := hn'.at' fun o e => hk₂ _ o hCz e
      refine ⟨m', hn₂, fun h'' hs'' => ?_⟩
      obtain ⟨F₂, N₂⟩ := keepF h'' fun c o h1 h2 h3 e => hs''.extBut _ _ h2 (hk₂ c o h1 e)
      have hzs' : IntsAre zs (List.zipWith (· - ·) ns ms) := by
        rw [List.take_length, hlen, List.take_length] at hzs
        exact hzs
      refine fin s₁.heap.objs.size zs h'' _ hzs' F₂ (fun p hp => ?_) (fun p hp => Heap.lt_size (N p hp).1)
      rcases List.mem_cons.mp hp with rfl | hp
      · exact ⟨hs''.extBut _ _ hDC (hk₂ _ _ hDz hD'), hDL, hD₀⟩
      · exact N₂ p hp
  exact codeAny_compStart_list (loop _ rfl) (wpAny_pyIter_zip (hZ.1 |> fun e => old _ _ e) (loop _ rfl))
/-- zip of two made lists of ints of one length, as that comprehension's source -/
theorem callDiff {l1 l2 : Addr} {lo1 lo2 : Obj} {xs ys : List Value} {n1 n2 : Nat} {ns ms : List Int} {news : List (Addr × Obj)} {Q : Value → Shared → Prop}
    (hh : A.handled = none) (F : Fr h₀ L s.heap m) (N : News h₀ L s.heap news) (hm1 : (l1, lo1) ∈ news) (hc1 : lo1.cls = .type "list") (hd1 : lo1.data = .seq xs.toArray n1) (hm2 : (l2, lo2) ∈ news) (hc2 : lo2.cls = .type "list") (hd2 : lo2.data = .seq ys.toArray n2)
    (hI1 : IntsAre xs ns) (hI2 : IntsAre ys ms) (hlen : ns.length = ms.length) (hsz : ns.length ≤ sizeLine)
    (h : ∀ D zs h tk, IntsAre zs (List.zipWith (· - ·) ns ms) → Fr h₀ L h m → News h₀ L h ((D, lst zs) :: news) → (∀ p ∈ news, p.1 < D) → Q (.ref D) { s with heap := h, toks := tk }) :
    wpAny (model prog w) A (call (.type "zip") [.ref l1, .ref l2]) (DiffAt A h₀ L m Q) E s := by
  have hax1 := N _ hm1
  have hax2 := N _ hm2
  have hl1 : s.heap.IsList l1 xs.toArray := ⟨lo1, hax1.1, hc1, n1, hd1⟩
  have hl2 : s.heap.IsList l2 ys.toArray := ⟨lo2, hax2.1, hc2, n2, hd2⟩
  have hlt1 : l1 < s.heap.objs.size := Heap.lt_size hax1.1
  have hlt2 : l2 < s.heap.objs.size := Heap.lt_size hax2.1
  have hLs : L < s.heap.objs.size := F.ns.lt
  have D : ZipApart (s.heap.objs.size + 4) (s.heap.objs.size + 2) (s.heap.objs.size + 3) s.heap.objs.size (s.heap.objs.size + 1) l1 l2 := ktu_apart _ _ _ hlt1 hlt2
  refine call_zip_2 hl1 hl2 fun h' hz hTI hTO hi1 hi2 hs5 hk => ?_
  refine ⟨_, _, _, _, _, l1, l2, xs, ys, ns, ms, news, D, rfl, hh, hI1, hI2, hlen, hsz, ⟨hz, hTI, ⟨_, _, hTO⟩, hi1, hi2, hl1.at fun o e => hk l1 o e, hl2.at fun o e => hk l2 o e⟩, F.keeps hk, N.grown hk, ?_, h⟩
  intro b hb
  have hb' : s.heap.objs.size ≤ b := by
    have hb' : b = s.heap.objs.size + 4 ∨ b = s.heap.objs.size + 3 ∨ b = s.heap.objs.size ∨ b = s.heap.objs.size + 1 := by simpa using hb
    rcases hb' with rfl | rfl | rfl | rfl
    · exact Nat.le_add_right _ _
    · exact Nat.le_add_right _ _
    · exact Nat.le_refl _
    · exact Nat.le_add_right _ _
  exact ⟨ktu_new F hb', Nat.ne_of_lt (Nat.lt_of_lt_of_le hLs hb'), fun p hp => Nat.ne_of_lt (Nat.lt_of_lt_of_le (Heap.lt_size (N p hp).1) hb')⟩
theorem callDiff4 {l1 l2 : Addr} {a b c d a' b' c' d' : Int} {ta tb tc td ta' tb' tc' td' : Tok} {n1 n2 : Nat} {news : List (Addr × Obj)} {Q : Value → Shared → Prop}
    (hh : A.handled = none) (F : Fr h₀ L s.heap m) (N : News h₀ L s.heap news) (hm1 : (l1, fourOf a b c d ta tb tc td n1) ∈ news) (hm2 : (l2, fourOf a' b' c' d' ta' tb' tc' td' n2) ∈ news)
    (h : ∀ D t1 t2 t3 t4 h tk, Fr h₀ L h m → News h₀ L h ((D, fourOf (a - a') (b - b') (c - c') (d - d') t1 t2 t3 t4 4) :: news) → (∀ p ∈ news, p.1 < D) → Q (.ref D) { s with heap := h, toks := tk }) :
    wpAny (model prog w) A (call (.type "zip") [.ref l1, .ref l2]) (DiffAt A h₀ L m Q) E s := by
  refine callDiff hh F N hm1 rfl rfl hm2 rfl rfl (.cons a ta (.cons b tb (.cons c tc (.cons d td .nil)))) (.cons a' ta' (.cons b' tb' (.cons c' tc' (.cons d' td' .nil)))) rfl (Nat.le_of_ble_eq_true rfl) fun D zs g tk hz F' N' l => ?_
  obtain ⟨t1, t2, t3, t4, rfl⟩ := ints4 (a := a - a') (b := b - b') (c := c - c') (d := d - d') hz
  exact h D t1 t2 t3 t4 g tk F' N' l
end
end Mine
local macro_rules | `(tactic| walk_at "exec For Tuple Subscript cons nil") => `(tactic| (k_here; (rename Fr _ _ _ _ => lF'); (with_unfolding_all refine' For_turns lF' ?_; k_whole)))
local macro_rules | `(tactic| walk_at "subscriptTail Name Slice ref ref") => `(tactic| (k_here; (with_reducible show wpAny _ _ (subscriptTail _ (PySem.Expr.Slice none (some _) none _) (Value.ref _) (Value.ref _)) _ _ _); k_dflt (refine' Mine.sliceUpto ?F ?N ?X ?k ?c ?d ?b ?z ?y ?_ ?s ?g; (case F => k_asm); (case N => k_asm); (case X => k_asm); (case k => k_is); (case c => exact rfl); (case d => exact rfl); (case b => decide); (case z => exact rfl); (case y => decide); (case s => with_unfolding_all rfl); (case g => intro _; with_unfolding_all rfl)); intro D' h' F' N' l1; (try k_lt l1); (try k_sweep)))
local macro_rules | `(tactic| walk_at "call ref") => `(tactic| (k_here; (with_reducible show wpAny _ _ (PySem.call (Value.ref 33) _ _) _ _ _); (fail_if_success (with_reducible rename Mine.InPool => hX)); k_dflt (refine' Mine.poolCut ?F ?N (fun hIn' => ?_) ?_; (case F => k_asm); (case N => k_asm)); walk_say "CUT POOL"; rotate_left; (intro D' a' b' ta' tb' n' h' tk' ha' hb' hc' F' N' l1; (try k_lt l1); (try k_sweep)); rotate_left; (all_goals (try k_fold))))
local macro_rules | `(tactic| walk_at "call ref") => `(tactic| (k_here; (with_reducible show wpAny _ _ (PySem.call (Value.ref 40) _ _) _ _ _); (fail_if_success (with_reducible rename Mine.InTake => hX)); k_dflt (refine' Mine.takeCut ?F ?N ?U (fun hIn' => ?_) ?_; (case F => k_asm); (case N => k_asm); (case U => k_updF)); walk_say "CUT TAKE"; rotate_left; (intro r' t' a' b' ta' tb' n' h' tk' h1' h2' ha' hb' hc' F' N'; (try dsimp only at N'); (try k_sweep)); rotate_left; (all_goals (try k_fold))))
local macro_rules | `(tactic| walk_at "call ref") => `(tactic| (k_here; (with_reducible show wpAny _ _ (PySem.call (Value.ref 47) _ _) _ _ _); (fail_if_success (with_reducible rename Mine.InOne => hX)); k_dflt (refine' Mine.oneCut (-1099511627776) 1099511627777 ?F ?N ?U (fun hIn' => ?_) ?_; (case F => k_asm); (case N => k_asm); (case U => k_updF)); walk_say "CUT ONE"; rotate_left; (intro r' t' a' b' ta' tb' n' h' tk' h1' h2' ha' hb' hc' F' N'; (try dsimp only at N'); (try k_sweep)); rotate_left; (all_goals (try k_fold))))
local macro_rules | `(tactic| walk_at "call ref") => `(tactic| (k_here; (with_reducible show wpAny _ _ (PySem.call (Value.ref 26) _ _) _ _ _); (fail_if_success (with_reducible rename Mine.InParts => hX)); k_dflt (refine' Mine.partsCut ?F ?N (fun hIn' => ?_) ?_; (case F => k_asm); (case N => k_asm)); walk_say "CUT PARTS"; rotate_left; (intro D' a' b' c' d' ta' tb' tc' td' n' h' tk' ha' hb' hc' hd' F' N' l1; (try k_lt l1); (try k_sweep)); rotate_left; (all_goals (try k_fold))))
local macro_rules | `(tactic| walk_at "mine lt") => `(tactic| first | exact True.intro | assumption | (refine' Mine.ltCons (ltN ?_) ?_; (focus ((try dsimp only); omega)); walk_at "mine lt") | exact (show _ ∧  AllLt _ _ from by assumption).2 | exact (show _ ∧ _ ∧  AllLt _ _ from by assumption).2.2 | exact (show _ ∧ _ ∧ _ ∧  AllLt _ _ from by assumption).2.2.2 | exact (show _ ∧ _ ∧ _ ∧ _ ∧  AllLt _ _ from by assumption).2.2.2.2 | exact (show _ ∧ _ ∧ _ ∧ _ ∧ _ ∧  AllLt _ _ from by assumption).2.2.2.2.2 | exact (show _ ∧ _ ∧ _ ∧ _ ∧ _ ∧ _ ∧  AllLt _ _ from by assumption).2.2.2.2.2.2 | exact (show _ ∧ _ ∧ _ ∧ _ ∧ _ ∧ _ ∧ _ ∧  AllLt _ _ from by assumption).2.2.2.2.2.2.2 | exact (show _ ∧ _ ∧ _ ∧ _ ∧ _ ∧ _ ∧ _ ∧ _ ∧  AllLt _ _ from by assumption).2.2.2.2.2.2.2.2 | exact (show _ ∧ _ ∧ _ ∧ _ ∧ _ ∧ _ ∧ _ ∧ _ ∧ _ ∧  AllLt _ _ from by assumption).2.2.2.2.2.2.2.2.2 | exact (show _ ∧ _ ∧ _ ∧ _ ∧ _ ∧ _ ∧ _ ∧ _ ∧ _ ∧ _ ∧  AllLt _ _ from by assumption).2.2.2.2.2.2.2.2.2.2 | exact (show _ ∧ _ ∧ _ ∧ _ ∧ _ ∧ _ ∧ _ ∧ _ ∧ _ ∧ _ ∧ _ ∧  AllLt _ _ from by assumption).2.2.2.2.2.2.2.2.2.2.2 | exact (show _ ∧ _ ∧ _ ∧ _ ∧ _ ∧ _ ∧ _ ∧ _ ∧ _ ∧ _ ∧ _ ∧ _ ∧  AllLt _ _ from by assumption).2.2.2.2.2.2.2.2.2.2.2.2 | exact (show _ ∧ _ ∧ _ ∧ _ ∧ _ ∧ _ ∧ _ ∧ _ ∧ _ ∧ _ ∧ _ ∧ _ ∧ _ ∧  AllLt _ _ from by assumption).2.2.2.2.2.2.2.2.2.2.2.2.2 | exact (show _ ∧ _ ∧ _ ∧ _ ∧ _ ∧ _ ∧ _ ∧ _ ∧ _ ∧ _ ∧ _ ∧ _ ∧ _ ∧ _ ∧  AllLt _ _ from by assumption).2.2.2.2.2.2.2.2.2.2.2.2.2.2 | exact (show _ ∧ _ ∧ _ ∧ _ ∧ _ ∧ _ ∧ _ ∧ _ ∧ _ ∧ _ ∧ _ ∧ _ ∧ _ ∧ _ ∧ _ ∧  AllLt _ _ from by assumption).2.2.2.2.2.2.2.2.2.2.2.2.2.2.2)
local macro_rules | `(tactic| walk_at "PartsEnd") => `(tactic| (k_here; (show Mine.PartsEnd _ _ _ _ _ _ _ _); (with_reducible rename News _ _ _ _ => nE'); (try simp only [List.push_toArray, List.nil_append, List.cons_append] at nE'); k_dflt (refine' Mine.partsEnd' ?F nE' ?hm ?hn ?hl; (case F => k_asm); (case hm => k_mem); (case hn => kcj_all); (case hl => walk_at "mine lt")); walk_say "PARTS END"))
local macro_rules | `(tactic| walk_at "PoolEnd") => `(tactic| (k_here; (show Mine.PoolEnd _ _ _ _ _ _ _); (with_reducible rename News _ _ _ _ => nE'); k_dflt (refine' Mine.poolEnd' ?F nE' ?hm ?hn ?hl; (case F => k_asm); (case hm => k_mem); (case hn => kcj_all); (case hl => walk_at "mine lt")); walk_say "POOL END"))
local macro_rules | `(tactic| walk_at "exec For Name Call cons nil") => `(tactic| (k_here; (rename Fr _ _ _ _ => lF'); (with_unfolding_all refine' For_invVF lF' ?k1 ?k2 ?_; (case k1 => exact rfl); (case k2 => exact rfl); k_whole)))
local macro_rules | `(tactic| walk_at "pyIter ref") => `(tactic| (k_here; (with_reducible show wpAny _ _ (pyIter (Value.ref _)) (fun it s₂ => LoopAtV _ _ _ _ _ _ _ _ _ it s₂) _ _); (rename IsRange _ _ _ _ _ _ _ _ => rgX); k_dflt (refine' Mine.srcLoop [Str.ofString "great", Str.ofString "error", Str.ofString "shares", Str.ofString "more", Str.ofString "part", Str.ofString "times"] ?hh rgX ?F ?N ?hD ?ha ?hb ?hb' (fun I' o' k' t' a' b' ta' tb' n' u' h' tk' ho' hDI' ha' hb' hc' F' N' => ?_) (fun a' b' ta' tb' n' u' h' tk' F' N' => ?_); (case hh => with_unfolding_all rfl); (case F => k_asm); (case N => k_asm); (case hD => k_mem); (case ha => assumption); (case hb => assumption); (case hb' => assumption)); walk_say "SOURCE LOOP"; (all_goals (try k_sweep)); (all_goals (try k_fold))))
local macro_rules | `(tactic| walk_at "SrcPost") => `(tactic| (dsimp only [Mine.SrcPost]))
local macro_rules | `(tactic| walk_at "SrcEnd") => `(tactic| (k_here; (show Mine.SrcEnd _ _ _ _ _ _ _ _ _ _); (with_reducible rename News _ _ _ _ => nE'); k_dflt (refine' Mine.srcEnd ?F nE' ?hI ?hD ?ha ?hb ?hc ?hm; (case F => k_asm); (case hI => k_mem); (case hD => k_mem); (case ha => assumption); (case hb => assumption); (case hc => assumption); (case hm => (intro z h1 h3; (simp only [List.contains_cons, List.contains_nil, Bool.or_false, Bool.or_eq_false_iff, beq_eq_false_iff_ne, ne_eq] at h3); (simp [h1, h3]; done)))); walk_say "TURN END"))
local macro_rules | `(tactic| walk_at "binaryOp Mult int int") => `(tactic| (k_here; (with_reducible rename Mine.InTake => hX); (with_reducible refine Mine.mulSq ?_)))
local macro_rules | `(tactic| walk_at "TakeEnd") => `(tactic| (k_here; (with_reducible rename Mine.InTake => hX); (show Mine.TakeEnd _ _ _ _ _ _ _ _ _); (with_reducible rename News _ _ _ _ => nE'); k_dflt (first | ((with_reducible show Mine.TakeEnd _ _ _ _ _ _ _ (Value.int (Int.fmod (List.getD _ _ _) _) _) _); refine' Mine.takeEndA ?F nE' ?hn ?hx ?ht ?hb ?hc; (case F => k_asm); (case hn => kcj_all); (case hx => assumption); (case ht => decide); (case hb => assumption); (case hc => assumption)) | ((with_reducible show Mine.TakeEnd _ _ _ _ _ _ _ (Value.int (Int.fmod (Int.fdiv _ _) _) _) _); refine' Mine.takeEndB ?F nE' ?hn ?ha ?ht; (case F => k_asm); (case hn => kcj_all); (case ha => assumption); (case ht => decide))); walk_say "TAKE END"))
local macro_rules | `(tactic| walk_at "TakeEnd") => `(tactic| (k_here; (with_reducible rename Mine.InOne => hX); (show Mine.TakeEnd _ _ _ _ _ _ _ _ _); (with_reducible rename News _ _ _ _ => nE'); k_dflt (refine' Mine.oneEnd ?F nE' ?hn ?hp ?hp' ?hq ?hq' ?ha ?hb ?hc; (case F => k_asm); (case hn => kcj_all); (case hp => assumption); (case hp' => assumption); (case hq => assumption); (case hq' => assumption); (case ha => assumption); (case hb => assumption); (case hc => assumption)); walk_say "ONE END"))
local macro_rules | `(tactic| walk_at "exec For Tuple Call cons nil") => `(tactic| (k_here; (with_reducible show wpAny _ _ (exec (Stmt.For (Expr.Tuple _ _ _) (Expr.Call (Expr.Name (PySem.Str.ofString "zip") _) _ _ _) _ [] _) _) _ _ _); (rename Fr _ _ _ _ => lF'); (with_unfolding_all refine' For_turns lF' ?_; k_whole)))
local macro_rules | `(tactic| walk_at "call type:zip") => `(tactic| (k_here; (with_reducible show wpAny _ _ (call (Value.type _) [Value.ref _, Value.ref _]) (fun xv s₁ => wpAny _ _ (pyIter xv) (fun it s₂ => TurnsAt _ _ _ _ _ _ _ _ _ it s₂) _ s₁) _ _); k_dflt (refine' Mine.zipFor ?hh ?F ?N ?m1 ?c1 ?d1 ?m2 ?c2 ?d2 ?lt ?_; (case hh => with_unfolding_all rfl); (case F => k_asm); (case N => k_asm); (case m1 => k_mem); (case c1 => exact rfl); (case d1 => exact rfl); (case m2 => k_mem); (case c2 => exact rfl); (case d2 => exact rfl); (case lt => exact Nat.le_of_ble_eq_true rfl)); walk_say "ZIP FOR"; intro i' l1; (try k_lt l1)))
local macro_rules | `(tactic| walk_at "eval ListComp") => `(tactic| (k_here; (with_reducible show wpAny _ _ (eval (Expr.ListComp (Expr.BinOp (Expr.Name _ _) Operator.Sub (Expr.Name _ _) _) [⟨Expr.Tuple [Expr.Name _ _, Expr.Name _ _] _ _, Expr.Call (Expr.Name (PySem.Str.ofString "zip") _) _ _ _, [], 0⟩] _ _) _) _ _ _); (rename Fr _ _ _ _ => lF'); k_dflt (refine' Mine.compDiff lF' ?h1 ?h2 ?h3 ?h4 ?h5 ?h6 ?h7 ?h8 ?h9 ?h10 ?_; (case h1 => with_unfolding_all rfl); (case h2 => decide); (case h3 => exact rfl); (case h4 => decide); (case h5 => exact rfl); (case h6 => exact rfl); (case h7 => decide); (case h8 => decide); (case h9 => decide); (case h10 => (intro _; with_unfolding_all rfl))); walk_say "DIFF COMP"))
local macro_rules | `(tactic| walk_at "call type:zip") => `(tactic| (k_here; (with_reducible show wpAny _ _ (call (Value.type _) [Value.ref _, Value.ref _]) (Mine.DiffAt _ _ _ _ _) _ _); k_dflt (refine' Mine.callDiff4 ?hh ?F ?N ?m1 ?m2 ?_; (case hh => with_unfolding_all rfl); (case F => k_asm); (case N => k_asm); (case m1 => k_mem); (case m2 => k_mem)); walk_say "DIFF ZIP"; intro D' t1' t2' t3' t4' h' tk' F' N' l1; (try k_lt l1); (try k_sweep)))
set_option maxRecDepth 100000 in
set_option maxHeartbeats 8000000 in
theorem PySem.Challenge.cw_xm0785_01_holds : PySem.Challenge.rw_xm0785_01.Holds := by
  open_k
