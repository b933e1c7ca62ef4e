import PyProof.Rows.All
import Wide.All
import OpenK.AllK
import Wide.FinOn
import KE.KTryDeepN
import KE.KPairTest
import KE.KLcPair
import PySem.Challenge.RW_pc0123_01
open PySem PySem.W PyProof.Rows
set_option Elab.async false
namespace Mine
set_option synthInstance.maxSize 1 in
set_option maxRecDepth 100000 in
set_option maxHeartbeats 8000000 in
open_top hd for PySem.Challenge.rw_pc0123_01
end Mine
open PySem PySem.W PyProof.Rows PySem.Calls PySem.Spec
set_option linter.unusedVariables false
set_option maxRecDepth 100000
set_option maxHeartbeats 8000000
namespace Mine
section
local macro_rules | `(tactic| walk_at $s:str) => `(tactic| k_extra $s)
local macro_rules | `(tactic| k_all) => `(tactic| k_extra "own all")
local macro_rules | `(tactic| lcg_sub) => `(tactic| k_extra "own sub")
local macro_rules | `(tactic| k_get) => `(tactic| k_extra "own get")
local macro_rules | `(tactic| k_mem) => `(tactic| k_extra "own mem")
local macro_rules | `(tactic| lcg_off) => `(tactic| k_extra "own off")
local macro_rules | `(tactic| k_enter) => `(tactic| k_extra "own enter")
local macro_rules | `(tactic| k_put) => `(tactic| k_extra "own put")
local macro_rules | `(tactic| k_room) => `(tactic| k_extra "own room")
section
theorem ext_1 : True := by
  w_top off
  k_with_none
  trivial
theorem fill_it (w : World) : Mine.hd.heap_39 w.params = Mine.hd.heap_39 w.params ∧ PySem.Challenge.rw_pc0123_01 = PySem.Challenge.rw_pc0123_01 := by k_fill; exact ⟨rfl, rfl⟩
theorem ext_2 : True := by
  k_with "own room" => ktr_room
  k_with "own all" => assumption
  trivial
theorem draw_spec {w : World} {p : Program} {loose : List Str} {mean : ExcName → Option Value} {mg mb : Str → Option Value}
  {dp un : Nat} {gd : Option (List Code)} {cn : Str} {cs : Scope} {a : Addr} {ccd : Value} {cl : List (Str × Addr)} {outer : List Env} {A₀ : Around} {base h₀ : Heap} {L : Addr} {m : Str → Option Value} {rest : List (Addr × Obj)} {s : Shared}
  {t c : Addr} {i lim : Int} {ti tl : Tok} {n1 n2 : Nat} {vs : List Value} {ns : List Int}
  {Q E : Value → Shared → Prop}
  (B : Below A₀ base outer h₀) (F : Fr h₀ L s.heap m) (X : (Mine.hd.heap_39 w.params).In h₀)
  (N : News h₀ L s.heap ((t, listOf [.ref c, .int i ti].toArray n1) :: (c, listOf vs.toArray n2) :: rest))
  (T : Top p loose mean mg mb h₀) (hk : cs.kind = .function)
  (htc : @Ne Nat t c) (hrt : ∀ q ∈ rest, q.1 ≠ t) (hrc : ∀ q ∈ rest, q.1 ≠ c)
  (hI : IntsAre vs ns) (hlen : 0 < ns.length) (hlen2 : ns.length ≤ 60) (hi : 0 ≤ i) (hi2 : i < 1000) (hl : 0 < lim) (hl2 : lim < 1000)
  (hd : dp + 10 < recursionLimit) (hu : un + 64 < cLine)
  (ret : ∀ r tk h' tks vs' ns' n1' n2' ti', 0 ≤ r → r < lim → ns'.length = ns.length → IntsAre vs' ns' → Fr h₀ L h' m →
    News h₀ L h' ((t, listOf [.ref c, .int (i+1) ti'].toArray n1') :: (c, listOf vs'.toArray n2') :: rest) →
    Q (.int r tk) { s with heap := h', toks := tks }) :
  wpAny (model PySem.Challenge.rw_pc0123_01.row.prog w) (ktrTop dp un gd cn cs L a ccd cl outer) (call (.ref 168) [.ref t, .int lim tl]) Q E s := by
  refine wpAny_call ?_
  k_dflt ktr_enter
  k_steps
  all_goals (refine' ret _ _ _ _ _ _ _ _ _ (fmod_lo _ hl) (fmod_hi _ hl) ?len ?iints ?F ?N; (case F => k_asm); (case N => k_asm); (case iints => assumption); (case len => assumption))
end
section
theorem memN {a : Addr × Obj} {l : List (Addr × Obj)} (h : a ∈ l) : List.Mem a l := h
abbrev tupOf (vs : List Value) (n : Nat) : Obj := { cls := .type "tuple", data := .seq vs.toArray n }
/-- the ledger's value at v is the pair (level, path) -/
noncomputable def OctIn (news : List (Addr × Obj)) (v : Value) (o : Int × List Int) : Prop :=
  ∃ a b n1 n2 ws t, v = .ref a ∧ (a, tupOf [.int o.1 t, .ref b] n1) ∈ news ∧ (b, tupOf ws n2) ∈ news ∧ IntsAre ws o.2 ∧ ws.length ≤ 10
noncomputable def OctsIn (news : List (Addr × Obj)) : List Value → List (Int × List Int) → Prop
  | [], [] => True
  | v :: vs, o :: os => OctIn news v o ∧ OctsIn news vs os
  | _, _ => False
theorem OctIn.mono {news news' : List (Addr × Obj)} {v : Value} {o : Int × List Int} (h : OctIn news v o) (hs : ∀ p ∈ news, p ∈ news') : OctIn news' v o := by
  obtain ⟨a, b, n1, n2, ws, t, e, h1, h2, h3⟩ := h
  exact ⟨a, b, n1, n2, ws, t, e, hs _ h1, hs _ h2, h3⟩
theorem OctsIn.mono {news news' : List (Addr × Obj)} (hs : ∀ p ∈ news, p ∈ news') : ∀ {vs : List Value} {os : List (Int × List Int)}, OctsIn news vs os → OctsIn news' vs os
  | [], [], _ => trivial
  | _ :: _, _ :: _, h => ⟨h.1.mono hs, OctsIn.mono hs h.2⟩
theorem OctsIn.length {news : List (Addr × Obj)} : ∀ {vs : List Value} {os : List (Int × List Int)}, OctsIn news vs os → vs.length = os.length
  | [], [], _ => rfl
  | _ :: _, _ :: _, h => by rw [List.length_cons, List.length_cons, OctsIn.length h.2]
theorem OctsIn.append {news : List (Addr × Obj)} : ∀ {vs ws : List Value} {os ps : List (Int × List Int)}, OctsIn news vs os → OctsIn news ws ps → OctsIn news (vs ++ ws) (os ++ ps)
  | [], _, [], _, _, k => k
  | _ :: _, _, _ :: _, _, h, k => ⟨h.1, OctsIn.append h.2 k⟩
theorem OctsIn.rep {news : List (Addr × Obj)} {v : Value} {o : Int × List Int} (h : OctIn news v o) : ∀ n : Nat, OctsIn news (List.replicate n v) (List.replicate n o)
  | 0 => trivial
  | n + 1 => ⟨h, OctsIn.rep h n⟩
theorem OctsIn.get {news : List (Addr × Obj)} : ∀ {vs : List Value} {os : List (Int × List Int)} (k : Nat), OctsIn news vs os → (hk : k < os.length) → ∃ v, vs[k]? = some v ∧ OctIn news v (os[k]'hk)
  | [], [], _, _, hk => absurd hk (Nat.not_lt_zero _)
  | v :: _, _ :: _, 0, h, _ => ⟨v, rfl, h.1⟩
  | _ :: _, _ :: _, k + 1, h, hk => OctsIn.get k h.2 (Nat.lt_of_succ_lt_succ hk)
section
variable {prog : Program} {w : World} {A : Around} {E : Value → Shared → Prop} {s : Shared} {h₀ : Heap} {L : Addr} {m : Str → Option Value} {news nw : List (Addr × Obj)}
/-- the length of a ledger's list -/
theorem len_led {l : Addr} {vs : List Value} {n k : Nat} {Q : Value → Shared → Prop} (N : News h₀ L s.heap news) (hm : (l, listOf vs.toArray n) ∈ news) (hk : vs.length = k) (hfit : k < 2 ^ 62)
    (h : Q (.int (k : Nat) (s.toks + 1)) { s with toks := s.toks + 1 + 1 }) : wpAny (model prog w) A (call (.builtin "len") [.ref l]) Q E s := by
  have hl : s.heap.IsList l vs.toArray := PySem.IsL.isList (n := n) (N _ hm).1
  subst hk
  have e : vs.toArray.size = vs.length := by simp
  refine Calls.call_len_list hl (by omega) ?_
  rw [e]
  exact h
/-- the length of a ledger's tuple -/
theorem len_tup {l : Addr} {vs : List Value} {n k : Nat} {Q : Value → Shared → Prop} (N : News h₀ L s.heap news) (hm : (l, tupOf vs n) ∈ news) (hk : vs.length = k) (hfit : k < 2 ^ 62)
    (h : Q (.int (k : Nat) (s.toks + 1)) { s with toks := s.toks + 1 + 1 }) : wpAny (model prog w) A (call (.builtin "len") [.ref l]) Q E s := by
  have hl : IsTup s.heap l vs.toArray := ⟨_, (N _ hm).1, rfl, n, rfl⟩
  subst hk
  have e : vs.toArray.size = vs.length := by simp
  refine PyProof.Rows.len_tuple hl (by omega) ?_
  rw [e]
  exact h
/-- an item of a list of octets -/
theorem oct_item {l : Addr} {vs : List Value} {os : List (Int × List Int)} {n : Nat} {k : Int} {u : Tok} {value slice : PySem.Expr} {Q : Value → Shared → Prop} (N : News h₀ L s.heap news) (hm : (l, listOf vs.toArray n) ∈ news) (ho : OctsIn nw vs os)
    (h0 : 0 ≤ k) (h1 : k < os.length) (hf : k < 2 ^ 63) (h : ∀ v, OctIn nw v (os.getD k.toNat default) → Q v s)
    (hs : subscripted slice false (.ref l) (.int k u) = operate [.ref l, .int k u] (getItem (.ref l) (.int k u)) := by with_unfolding_all rfl) :
    wpAny (model prog w) A (subscriptTail value slice (.ref l) (.int k u)) Q E s := by
  have hl : s.heap.IsList l vs.toArray := PySem.IsL.isList (n := n) (N _ hm).1
  have hk : k.toNat < os.length := by omega
  obtain ⟨v, hv, hi⟩ := ho.get k.toNat hk
  refine tail_any hl.typeIs slot_list_getitem.lookup (wpAny_getItem_list hl h0 hf (by simpa using hv) (h v ?_)) hs
  rw [List.getD_eq_getElem?_getD, List.getElem?_eq_getElem hk]
  exact hi
theorem sliceApplied_upto {sl : Addr} {b n : Nat} {u : Tok} {Q : Int × Int × Nat → Shared → Prop} (hs : s.heap.IsSliceOf sl .none (.int b u) .none) (h : Q ((0 : Int), 1, min b n) s) :
    wpAny (model prog w) A (Builtin.Slice.sliceApplied (.ref sl) (pure (n : Int))) Q E s := by
  obtain ⟨os, hos, hcs, hds⟩ := id hs
  unfold Builtin.Slice.sliceApplied Builtin.Slice.sliceFields
  refine wpAny_bind (wpAny_bind (wpAny_field hos hds (x := .none) rfl (wpAny_bind (wpAny_field hos hds (x := .int b u) rfl (wpAny_bind (wpAny_field hos hds (x := .none) rfl (wpAny_pure ?_)))))))
  refine wpAny_bind (slicePart_none ?_)
  show wpAny _ _ (if ((1 : Int) == 0) = true then _ else _) _ _ s
  rw [if_neg (by decide)]
  refine wpAny_bind (slicePart_none (wpAny_bind (slicePart_int (wpAny_bind (wpAny_pure ?_)))))
  show wpAny _ _ (match Builtin.Slice.sliceAdjust none (some (b : Int)) 1 (n : Int) with | (lo, hi) => pure (lo, (1 : Int), Builtin.Slice.slicePlaces lo hi 1)) _ _ s
  have e : Builtin.Slice.sliceAdjust none (some (b : Int)) 1 (n : Int) = ((0 : Int), ((min b n : Nat) : Int)) := by
    unfold Builtin.Slice.sliceAdjust
    have h1 : ¬ ((1 : Int) < 0) := by omega
    have h2 : ¬ ((b : Int) < 0) := by omega
    simp only [h1, h2, if_false]
    congr 1
    omega
  have e2 : Builtin.Slice.slicePlaces (0 : Int) ((min b n : Nat) : Int) 1 = min b n := by
    unfold Builtin.Slice.slicePlaces
    have h1 : (1 : Int) > 0 := by omega
    simp only [h1, if_true, Int.ediv_one]
    split <;> omega
  rw [e]
  show wpAny _ _ (pure ((0 : Int), (1 : Int), Builtin.Slice.slicePlaces (0 : Int) ((min b n : Nat) : Int) 1)) _ _ s
  rw [e2]
  exact wpAny_pure h
theorem pick_upto (xs : Array Value) (b : Nat) : ((List.range (min b xs.size)).filterMap fun (k : Nat) => xs[((0 : Int) + (k : Int) * 1).toNat]?).toArray = (xs.toList.take b).toArray := by
  have e : (fun (k : Nat) => xs[((0 : Int) + (k : Int) * 1).toNat]?) = fun k => xs[0 + k]? := by
    funext k
    have : ((0 : Int) + (k : Int) * 1).toNat = 0 + k := by omega
    rw [this]
  rw [e]
  have := pick_run xs 0 (min b xs.size)
  rw [List.filterMap_map] at this
  have e2 : ((fun x => xs[x]?) ∘ fun x => 0 + x) = fun k => xs[0 + k]? := rfl
  rw [e2] at this
  rw [this, List.drop_zero, ← Array.length_toList, ← List.take_eq_take_min]
theorem getItem_tuple_upto {t sl : Addr} {items : Array Value} {b : Nat} {u : Tok} {Q : Value → Shared → Prop} (ht : IsTup s.heap t items) (hs : s.heap.IsSliceOf sl .none (.int b u) .none)
    (h1 : items.size ≤ b → Q (.ref t) s)
    (h2 : b < items.size → Q (.ref s.heap.objs.size) { s with heap := s.heap.push { cls := .type "tuple", data := .seq (items.toList.take b).toArray } })
    (hsz : items.size ≤ sizeLine) : wpAny (model prog w) A (getItem (.ref t) (.ref sl)) Q E s := by
  have htake : sizeOk (.seq (items.toList.take b).toArray) := by
    show (items.toList.take b).toArray.size ≤ sizeLine
    rw [List.size_toArray, List.length_take, Array.length_toList]
    omega
  obtain ⟨os, hos, hcs, hds⟩ := id hs
  have hTs : s.TypeIs (.ref sl) "slice" := ⟨os, hos, hcs⟩
  unfold getItem
  try with_reducible refine wpAny_holding ?_
  first | refine wpAny_bind (wpAny_pure ?_) | skip
  refine wpAny_bind (wpAny_sequenceKey ht.typeIs (by decide) ?_)
  refine wpAny_bind (wpAny_callSpecial?_slot (name := Str.ofString "__getitem__") ht.typeIs slot_tuple_getitem
    (wpAny_call_entry slot_tuple_getitem ht.typeIs entry_tuple_getitem ?_ (args_tuple_getitem _ _)))
  show wpAny _ _ (Builtin.Tuple.tupleItemsOf (.ref t) >>= _) _ _ s
  refine wpAny_bind (tupleItemsOf_ ht ?_)
  refine wpAny_bind (wpAny_typeOf hTs ?_)
  rw [if_pos (by decide)]
  refine wpAny_bind (sliceApplied_upto hs ?_)
  by_cases hb : items.size ≤ b
  · have hm : min b items.size = items.size := by omega
    have hyes : ((((0 : Int) == 0) && ((1 : Int) == 1) && ((min b items.size) == items.size)) = true) := by rw [hm]; simp
    show wpAny _ _ (if (((0 : Int) == 0) && ((1 : Int) == 1) && ((min b items.size) == items.size)) = true then _ else _) _ _ s
    rw [if_pos hyes]
    show wpAny _ _ (Builtin.Tuple.tupleIsExact _ >>= _) _ _ s
    unfold Builtin.Tuple.tupleIsExact
    refine wpAny_bind (wpAny_bind (wpAny_typeOf ht.typeIs (wpAny_pure ?_)))
    rw [if_pos (by decide)]
    first
      | exact wpAny_bind (wpAny_rule (wpAny_pure ⟨_, rfl, wpAny_pure (h1 hb)⟩))
      | exact wpAny_bind (wpAny_rule (wpAny_bind (wpAny_pure (wpAny_pure ⟨_, rfl, wpAny_pure (h1 hb)⟩))))
  · have hno : ¬ ((((0 : Int) == 0) && ((1 : Int) == 1) && ((min b items.size) == items.size)) = true) := by
      have : ((min b items.size) == items.size) = false := by rw [beq_eq_false_iff_ne]; omega
      rw [this]; simp
    show wpAny _ _ (if (((0 : Int) == 0) && ((1 : Int) == 1) && ((min b items.size) == items.size)) = true then _ else _) _ _ s
    rw [if_neg hno, pick_upto items b]
    have h := h2 (by omega)
    first
      | exact wpAny_bind (m := Builtin.Tuple.tupleExact _) (wpAny_newObj_type (wpAny_pure ⟨_, rfl, wpAny_pure h⟩) htake)
      | exact wpAny_bind (m := Builtin.Tuple.tupleExact _) (wpAny_newObj_type (wpAny_bind (wpAny_pure (wpAny_pure ⟨_, rfl, wpAny_pure h⟩))) htake)
      | exact wpAny_bind (wpAny_bind (m := Builtin.Tuple.tupleExact _) (wpAny_newObj_type (wpAny_pure (wpAny_pure ⟨_, rfl, wpAny_pure h⟩)) htake))
      | exact wpAny_bind (wpAny_bind (m := Builtin.Tuple.tupleExact _) (wpAny_newObj_type (wpAny_pure ⟨_, rfl, wpAny_pure h⟩) htake))
theorem slice_upto {value slice : PySem.Expr} {t : Addr} {vs : List Value} {n b : Nat} {u : Tok} {Q : Value → Shared → Prop}
    (F : Fr h₀ L s.heap m) (N : News h₀ L s.heap news) (hm : (t, tupOf vs n) ∈ news) (hz : vs.length ≤ 1000)
    (h : ∀ r k h', Fr h₀ L h' m → News h₀ L h' ((r, tupOf (vs.take b) k) :: news) → Q (.ref r) { s with heap := h' })
    (hs : subscripted slice false (.ref t) (.ref s.heap.objs.size) = operate [.ref s.heap.objs.size, .ref t] (getItem (.ref t) (.ref s.heap.objs.size)) := by with_unfolding_all rfl)
    (hg : ∀ r, letTemporaryGo value (.ref t) r = pure () := by intro _; with_unfolding_all rfl) :
    wpAny (model prog w) A (subscriptTail value slice (.ref t) (.ref s.heap.objs.size)) Q E { s with heap := s.heap.push { cls := .type "slice", data := .fields #[.none, .int b u, .none] } } := by
  have ht : IsTup s.heap t vs.toArray := ⟨_, (N _ hm).1, rfl, n, rfl⟩
  have ht' : IsTup (s.heap.push { cls := .type "slice", data := .fields #[.none, .int b u, .none] }) t vs.toArray := ht.keeps fun _ _ e => Heap.get?_push_of_some _ e
  refine PyProof.Rows.subscriptTail_ops (s := { s with heap := s.heap.push { cls := .type "slice", data := .fields #[.none, .int b u, .none] } }) ht'.typeIs slot_tuple_getitem.lookup
    (getItem_tuple_upto ht' (Heap.IsSliceOf.new ..) (fun hb => ?_) (fun hb => ?_) (by rw [sizeLine_eq, List.size_toArray]; omega)) hs hg
  · have hb' : vs.length ≤ b := by simpa using hb
    have N2 : News h₀ L (s.heap.push { cls := .type "slice", data := .fields #[.none, .int b u, .none] }) news := N.grown fun _ _ e => Heap.get?_push_of_some _ e
    exact h t n _ (F.push _) (fun p hp => by
      rcases List.mem_cons.mp hp with rfl | hp
      · rw [List.take_of_length_le hb']; exact N2 _ hm
      · exact N2 _ hp)
  · have N1 := News.push (F.push { cls := .type "slice", data := .fields #[.none, .int b u, .none] }) (N.grown fun _ _ e => Heap.get?_push_of_some _ e) { cls := .type "tuple", data := .seq (vs.take b).toArray }
    exact h _ 0 _ ((F.push _).push _) N1
theorem reads_ints {h : Heap} : ∀ {vs : List Value} {ns : List Int}, IntsAre vs ns → ReadsAll h vs (ns.map PyData.int) []
  | _, _, .nil => .nil
  | _, _, .cons _ t r => .cons (.int _ t) (reads_ints r)
theorem shaped_tup (ns : List Int) : SeqAt.shaped (.tuple (ns.map PyData.int)) = true := by
  simp [SeqAt.shaped, PyData.canLay0, PyData.depth, ke_canLayAll0, ke_depthAll]
/-- two tuples of ints of the ledger, compared -/
theorem eq_tups {a b : Addr} {vs ws : List Value} {ns ms : List Int} {n k : Nat} {Q : Value → Shared → Prop} (N : News h₀ L s.heap news) (ha : (a, tupOf vs n) ∈ news) (hb : (b, tupOf ws k) ∈ news)
    (hi : IntsAre vs ns) (hj : IntsAre ws ms) (hu : A.units + 64 < cLine) (h : Q (.bool (decide (ns = ms))) s) :
    wpAny (model prog w) A (compareOp .Eq (.ref a) (.ref b)) Q E s := by
  refine eq_dataH (reads_tuple_at (N _ ha).1 rfl rfl (reads_ints hi)) (reads_tuple_at (N _ hb).1 rfl rfl (reads_ints hj)) (shaped_tup _) (shaped_tup _) hu ?_
  rw [PyData.eqv, ked_eqvAll]
  exact h
end
theorem range_size (n : Nat) : Builtin.Range.rangeSize 0 (n : Int) 1 = (n : Int) := by
  rw [rangeSize_pos (by omega) (by omega)]; omega
theorem range_small {n : Nat} (h : n ≤ 1000) : Builtin.Range.small 0 (n : Int) 1 = true := by
  have e : ∀ k : Int, 0 ≤ k → k ≤ 1000 → Builtin.Range.rangeFitsLong k = true := by
    intro k h1 h2
    simp only [Builtin.Range.rangeFitsLong, Bool.and_eq_true, decide_eq_true_eq]
    omega
  unfold Builtin.Range.small
  rw [range_size, e 0 (by omega) (by omega), e n (by omega) (by omega), e 1 (by omega) (by omega), if_pos (by omega), e (n + (1 - 1)) (by omega) (by omega)]
  simp
section
variable {prog : Program} {w : World} {A : Around} {s : Shared} {h₀ : Heap} {L : Addr} {m : Str → Option Value} {env : Env} {ct elt : PySem.Expr} {x : Str} {scope : Scope} {cl : List (Str × Addr)} {S : List (Addr × Obj) → Prop} {P : Nat → Value → Prop} {Fin : List Value → List (Addr × Obj) → Prop} {news₀ : List (Addr × Obj)}
theorem compEnd_mono {s₁ s₂ : Shared} {I C D : Addr} {oI oC oD : Obj} {rest rest' : Value → List (Addr × Obj) → Prop} {y : Value} (h : LCg.CompEnd h₀ L m s₁ I oI C oC D oD S rest y s₂) (hr : ∀ y n, rest y n → rest' y n) :
    LCg.CompEnd h₀ L m s₁ I oI C oC D oD S rest' y s₂ := by
  obtain ⟨h', tk, n, e, F, N, o, hS, r⟩ := h
  exact ⟨h', tk, n, e, F, N, o, hS, hr _ _ r⟩
/-- a comprehension with a test, any number of turns, by an invariant -/
theorem compT_run {n : Nat} (Inv : Nat → List Value → Prop) (h0 : Inv 0 [])
    (step : ∀ i ys v I oI C oC D m₂ h tk (E' : Value → Shared → Prop), i < n → Inv i ys → P i v → LCg.NsObj oC m₂ → m₂ x = some v → Fr h₀ L h m → News h₀ L h ((I, oI) :: (C, oC) :: (D, LCg.lst ys) :: news₀) → LCg.Off3 I C D news₀ → ((@Ne Nat I C) ∧ (@Ne Nat I D) ∧ (@Ne Nat C D)) →
      wpAny (model prog w) A (isTrue ct (compEnvC scope cl C env) (eval ct (compEnvC scope cl C env))) (fun ok s' => if ok = true then
        wpAny (model prog w) A (eval elt (compEnvC scope cl C env)) (LCg.CompEnd h₀ L m { s with heap := h, toks := tk } I oI C oC D (LCg.lst ys) S (fun y news' => news' = news₀ ∧ Inv (i + 1) (ys ++ [y]))) E' s'
        else LCg.CompEnd h₀ L m { s with heap := h, toks := tk } I oI C oC D (LCg.lst ys) S (fun _ news' => news' = news₀ ∧ Inv (i + 1) ys) Value.none s') E' { s with heap := h, toks := tk })
    (fin : ∀ ys, Inv n ys → Fin ys news₀) : LCt.CompRestT prog w A h₀ L m env ct elt x scope cl s S P Fin n 0 [] news₀ := by
  suffices H : ∀ k i ys, i + k = n → Inv i ys → LCt.CompRestT prog w A h₀ L m env ct elt x scope cl s S P Fin k i ys news₀ from H n 0 [] (by omega) h0
  intro k
  induction k with
  | zero => intro i ys e hi; exact LCt.CompRestT.zero (fin ys (by rw [← e]; exact hi))
  | succ k ih =>
    intro i ys e hi
    refine LCt.CompRestT.succ fun v I oI C oC D m₂ h tk E' hP hC hx F N off ne => ?_
    refine wpAny_mono (step i ys v I oI C oC D m₂ h tk E' (by omega) hi hP hC hx F N off ne) (fun ok s' hk => ?_) fun _ _ e => e
    by_cases hb : ok = true
    · rw [if_pos hb] at hk ⊢
      refine wpAny_mono hk (fun y s₂ q => compEnd_mono q ?_) fun _ _ e => e
      rintro y n ⟨rfl, r⟩
      exact ih (i + 1) _ (by omega) r
    · rw [if_neg hb] at hk ⊢
      refine compEnd_mono hk ?_
      rintro y n ⟨rfl, r⟩
      exact ih (i + 1) _ (by omega) r
end
theorem units_deep {dp un : Nat} {gd : Option (List Code)} {cn : Str} {cs : Scope} {L a : Addr} {ccd : Value} {cl : List (Str × Addr)} {outer : List Env} {env : Env} (h : un + 128 < cLine) :
    ((ktrTop dp un gd cn cs L a ccd cl outer).deeper env).units + 64 < cLine := by
  show un + 3 + 64 < cLine
  omega
theorem News_sub {h₀ h : Heap} {L : Addr} {news news' : List (Addr × Obj)} (N : News h₀ L h news) (hs : ∀ p ∈ news', p ∈ news) : News h₀ L h news' := fun p hp => N p (hs p hp)
section
variable {prog : Program} {w : World} {A : Around} {E : Value → Shared → Prop} {s : Shared} {h₀ : Heap} {L : Addr} {m : Str → Option Value} {news : List (Addr × Obj)}
/-- an item of a ledger's list, or tuple, at a known place -/
theorem item_led {l : Addr} {vs : List Value} {n : Nat} {k : Int} {u : Tok} {v : Value} {value slice : PySem.Expr} {Q : Value → Shared → Prop} (N : News h₀ L s.heap news) (hm : (l, listOf vs.toArray n) ∈ news) (hx : vs[k.toNat]? = some v)
    (h0 : 0 ≤ k) (hf : k < 2 ^ 63) (h : Q v s)
    (hs : subscripted slice false (.ref l) (.int k u) = operate [.ref l, .int k u] (getItem (.ref l) (.int k u)) := by with_unfolding_all rfl) :
    wpAny (model prog w) A (subscriptTail value slice (.ref l) (.int k u)) Q E s := by
  have hl : s.heap.IsList l vs.toArray := PySem.IsL.isList (n := n) (N _ hm).1
  exact tail_any hl.typeIs slot_list_getitem.lookup (wpAny_getItem_list hl h0 hf (by simpa using hx) h) hs
/-- two lists of the ledger, one behind the other -/
theorem add_led {a b : Addr} {vs ws : List Value} {n k : Nat} {Q : Value → Shared → Prop} (F : Fr h₀ L s.heap m) (N : News h₀ L s.heap news) (ha : (a, listOf vs.toArray n) ∈ news) (hb : (b, listOf ws.toArray k) ∈ news) (hz : vs.length + ws.length ≤ 10000)
    (h : ∀ r h', Fr h₀ L h' m → News h₀ L h' ((r, listOf (vs ++ ws).toArray 0) :: news) → (∀ p ∈ news, p.1 < r) → Q (.ref r) { s with heap := h' }) : wpAny (model prog w) A (binaryOp .Add (.ref a) (.ref b)) Q E s :=
  add_lists F N (PySem.IsL.isList (n := n) (N _ ha).1) (PySem.IsL.isList (n := k) (N _ hb).1) (fun h' F' N' => h _ h' F' N' fun p hp => Heap.lt_size (N p hp).1) (by rw [sizeLine_eq]; omega)
/-- a list of one item, times an int -/
theorem mul_led {a : Addr} {v : Value} {n : Nat} {x : Int} {u : Tok} {Q : Value → Shared → Prop} (F : Fr h₀ L s.heap m) (N : News h₀ L s.heap news) (ha : (a, listOf [v].toArray n) ∈ news) (h0 : 0 ≤ x) (h1 : x ≤ 1000)
    (h : ∀ r h', Fr h₀ L h' m → News h₀ L h' ((r, listOf (List.replicate x.toNat v).toArray 0) :: news) → (∀ p ∈ news, p.1 < r) → Q (.ref r) { s with heap := h' }) : wpAny (model prog w) A (binaryOp .Mult (.ref a) (.int x u)) Q E s := by
  refine mul_list F N (N _ ha).1 (by omega) (by omega) (by simp; omega) fun h' F' N' => ?_
  have e : ∀ (k : Nat) (acc : Array Value), List.foldl (fun x1 x2 => x1 ++ x2) acc (List.replicate k [v].toArray) = acc ++ (List.replicate k v).toArray := by
    intro k
    induction k with
    | zero => intro acc; simp
    | succ k ih => intro acc; rw [List.replicate_succ, List.foldl_cons, ih, List.replicate_succ]; apply Array.toList_inj.mp; simp
  have e2 : (if ([v].toArray.isEmpty = true) then 0 else x.toNat) = x.toNat := by rw [if_neg]; simp
  rw [e2, e, Array.empty_append] at N'
  exact h _ h' F' N' fun p hp => Heap.lt_size (N p hp).1
/-- two tuples of the ledger, one behind the other -/
theorem add_tup {a b : Addr} {vs ws : List Value} {n k : Nat} {Q : Value → Shared → Prop} (F : Fr h₀ L s.heap m) (N : News h₀ L s.heap news) (ha : (a, tupOf vs n) ∈ news) (hb : (b, tupOf ws k) ∈ news) (hz : vs.length + ws.length ≤ 10000)
    (h : ∀ r j h', Fr h₀ L h' m → News h₀ L h' ((r, tupOf (vs ++ ws) j) :: news) → Q (.ref r) { s with heap := h' }) : wpAny (model prog w) A (binaryOp .Add (.ref a) (.ref b)) Q E s := by
  have ht : IsTup s.heap a vs.toArray := ⟨_, (N _ ha).1, rfl, n, rfl⟩
  have hu : IsTup s.heap b ws.toArray := ⟨_, (N _ hb).1, rfl, k, rfl⟩
  refine add_tuples F N ht hu (fun e => ?_) (fun _ e => ?_) (fun _ _ h' F' N' => h _ 0 h' F' N') (by rw [sizeLine_eq]; omega)
  · subst e
    exact h b k _ F (fun p hp => by
      rcases List.mem_cons.mp hp with rfl | hp
      · exact N _ hb
      · exact N _ hp)
  · subst e
    exact h a n _ F (fun p hp => by
      rcases List.mem_cons.mp hp with rfl | hp
      · rw [List.append_nil]; exact N _ ha
      · exact N _ hp)
end
theorem ne_of_all {d : Addr} {l : List (Addr × Obj)} (h : AllLt d l) : ∀ p ∈ l, p.1 ≠ d := by
  induction l with
  | nil => exact fun _ hq => nomatch hq
  | cons p r ih =>
    obtain ⟨h1, h2⟩ := h
    intro q hq
    cases hq with
    | head => exact Nat.ne_of_lt h1
    | tail _ hq => exact ih h2 q hq
theorem ne_of_lts {d : Addr} {l : List (Addr × Obj)} (h : ∀ p ∈ l, p.1 < d) : ∀ p ∈ l, p.1 ≠ d := fun p hp => Nat.ne_of_lt (h p hp)
inductive Drop (I : Addr) (it : Obj) : List (Addr × Obj) → List (Addr × Obj) → Prop
  | head {r} : (∀ p ∈ r, p.1 ≠ I) → Drop I it ((I, it) :: r) r
  | tail {p r r'} : (p.1 ≠ I ∨ p.2.cls ≠ it.cls) → Drop I it r r' → Drop I it (p :: r) (p :: r')
theorem Drop.sub {I : Addr} {it : Obj} {l l' : List (Addr × Obj)} (h : Drop I it l l') : ∀ p ∈ (I, it) :: l', p ∈ l := by
  induction h with
  | head h => exact fun p hp => hp
  | tail h _ ih =>
    intro p hp
    rcases List.mem_cons.mp hp with rfl | hp
    · exact .tail _ (ih _ (.head _))
    · rcases List.mem_cons.mp hp with rfl | hp
      · exact .head _
      · exact .tail _ (ih _ (.tail _ hp))
theorem Drop.off {I : Addr} {it : Obj} {l l' : List (Addr × Obj)} {h₀ h : Heap} {L : Addr} (D : Drop I it l l') (N : News h₀ L h l) : ∀ p ∈ l', p.1 ≠ I := by
  have hI : h.get? I = some it := (N _ (D.sub _ (.head _))).1
  have hN : ∀ p ∈ l', h.get? p.1 = some p.2 := fun p hp => (N _ (D.sub _ (.tail _ hp))).1
  clear N
  induction D with
  | head h => exact h
  | tail hd _ ih =>
    intro p hp
    rcases List.mem_cons.mp hp with rfl | hp
    · rcases hd with hd | hd
      · exact hd
      · intro e
        have := hN p (.head _)
        rw [e, hI] at this
        exact hd (congrArg Obj.cls (Option.some.inj this)).symm
    · exact ih (fun q hq => hN q (.tail _ hq)) p hp
theorem unr_end {h₀ : Heap} {L I : Addr} {it : Obj} {rest : (Str → Option Value) → List (Addr × Obj) → Prop} {s₁ : Shared} {h' : Heap} {tk : Nat} {m' : Str → Option Value} {all news' : List (Addr × Obj)} (F : Fr h₀ L h' m') (N : News h₀ L h' all) (D : Drop I it all news') (r : rest m' news') :
    UnrEnd h₀ L s₁ I it rest { s₁ with heap := h', toks := tk } := UnrEnd.intro F N news' D.sub (D.off N) r
noncomputable def Held (P : Prop) : Prop := P
theorem held {P : Prop} (h : Held P) : P := h
theorem unheld {P : Prop} (h : P) : Held P := h
section
variable {prog : Program} {w : World} {A : Around} {E : Value → Shared → Prop} {s : Shared} {env : Env} {h₀ : Heap} {body : List Stmt} {Q : Flow → Shared → Prop}
/-- a loop over a range, one name that grows: by what holds of it -/
theorem acc_loop (x acc : Str) (stored : List Str) (J : Nat → Value → List (Addr × Obj) → Prop) {r : Addr} {b : Int} {t₀ u₀ v₀ : Tok} {n : Nat} {m₀ : Str → Option Value} {news : List (Addr × Obj)} {v0 : Value} (hxa : acc ≠ x)
    (hh : A.handled = none) (hr : IsRange s.heap r 0 b 1 t₀ u₀ v₀) (hb : b = (n : Int)) (hn : n ≤ 1000) (F : Fr h₀ env.locals s.heap m₀) (N : News h₀ env.locals s.heap news) (h0 : m₀ acc = some v0) (hj : J 0 v0 news)
    (turn : ∀ I i t v (m₁ : Str → Option Value) nx h tk, i < n → (∀ p ∈ nx, p.1 ≠ I) → J i v nx → Fr h₀ env.locals h (fun y => if y = x then some (.int (0 + (i : Int)) t) else if y = acc then some v else if stored.contains y then m₁ y else m₀ y) →
      News h₀ env.locals h ((I, itR (0 + ((i + 1 : Nat) : Int)) ((n : Int) - ((i + 1 : Nat) : Int))) :: nx) →
      wpAny (model prog w) A (execs body env) (UnrPost h₀ env.locals { s with heap := h, toks := tk } I (itR (0 + ((i + 1 : Nat) : Int)) ((n : Int) - ((i + 1 : Nat) : Int)))
        (fun m' nx' => (∃ v', m' acc = some v' ∧ J (i + 1) v' nx') ∧ ∀ z, z ≠ x → z ≠ acc → stored.contains z = false → m' z = m₀ z) Q) E { s with heap := h, toks := tk })
    (done : ∀ v (m₁ : Str → Option Value) nx h tk, J n v nx → Fr h₀ env.locals h (fun y => if y = x then m₁ y else if y = acc then some v else if stored.contains y then m₁ y else m₀ y) → News h₀ env.locals h nx → Q .next { s with heap := h, toks := tk }) :
    wpAny (model prog w) A (pyIter (.ref r)) (fun it s₂ => LoopAtV prog w A h₀ env x body Q E it s₂) E s := by
  subst hb
  refine iter_rangeUnr hh hr (range_small hn) (range_size n) F N fun I hI => ?_
  suffices H : ∀ k i m nx, i + k = n → (∀ p ∈ nx, p.1 ≠ I) → (∃ v, m acc = some v ∧ J i v nx) → (∀ z, z ≠ x → z ≠ acc → stored.contains z = false → m z = m₀ z) → RangeRest prog w A E h₀ env x body Q s I 0 n k i m nx from
    H n 0 m₀ news (by omega) (fun p hp => Nat.ne_of_lt (hI p hp)) ⟨v0, h0, hj⟩ fun _ _ _ _ => rfl
  intro k
  induction k with
  | zero =>
    intro i m nx e _ hJ hm
    obtain ⟨v, hv, hJ⟩ := hJ
    have e' : i = n := by omega
    subst e'
    refine RangeRest.zero fun h tk F' N' => done v m nx h tk hJ ?_ N'
    have em : (fun y => if y = x then m y else if y = acc then some v else if stored.contains y then m y else m₀ y) = m := by
      funext y
      by_cases h1 : y = x
      · rw [if_pos h1]
      · rw [if_neg h1]
        by_cases h2 : y = acc
        · rw [if_pos h2, h2, hv]
        · rw [if_neg h2]
          by_cases h3 : stored.contains y = true
          · rw [if_pos h3]
          · rw [if_neg h3]; exact (hm y h1 h2 (by simpa using h3)).symm
    rw [em]
    exact F'
  | succ k ih =>
    intro i m nx e hoff hJ hm
    obtain ⟨v, hv, hJ⟩ := hJ
    refine RangeRest.succ fun t h tk F' N' => ?_
    have em : (fun y => if y = x then some (Value.int (0 + (i : Int)) t) else m y) = (fun y => if y = x then some (Value.int (0 + (i : Int)) t) else if y = acc then some v else if stored.contains y then m y else m₀ y) := by
      funext y
      by_cases h1 : y = x
      · rw [if_pos h1, if_pos h1]
      · rw [if_neg h1, if_neg h1]
        by_cases h2 : y = acc
        · rw [if_pos h2, h2, hv]
        · rw [if_neg h2]
          by_cases h3 : stored.contains y = true
          · rw [if_pos h3]
          · rw [if_neg h3]; exact hm y h1 h2 (by simpa using h3)
    rw [em] at F'
    refine wpAny_mono (turn I i t v m nx h tk (by omega) hoff hJ F' N') (fun f s₂ q => ?_) fun _ _ e => e
    have up : UnrEnd h₀ env.locals { s with heap := h, toks := tk } I (itR (0 + ((i + 1 : Nat) : Int)) ((n : Int) - ((i + 1 : Nat) : Int))) (fun m' nx' => (∃ v', m' acc = some v' ∧ J (i + 1) v' nx') ∧ ∀ z, z ≠ x → z ≠ acc → stored.contains z = false → m' z = m₀ z) s₂ →
        UnrEnd h₀ env.locals { s with heap := h, toks := tk } I (itR (0 + ((i + 1 : Nat) : Int)) ((n : Int) - ((i + 1 : Nat) : Int))) (RangeRest prog w A E h₀ env x body Q s I 0 n k (i + 1)) s₂ := by
      rintro ⟨h', tk', m', nx', e', F₂, N₂, off', hJ', hm'⟩
      exact ⟨h', tk', m', nx', e', F₂, N₂, off', ih (i + 1) m' nx' (by omega) off' hJ' hm'⟩
    cases f with
    | ret v => exact q
    | brk => exact q
    | next => exact up q
    | cont => exact up q
end
noncomputable def away (I : Addr) (l : List (Addr × Obj)) : List (Addr × Obj) := l.filter fun p => decide (p.1 ≠ I)
theorem mem_away {I : Addr} {l : List (Addr × Obj)} {p : Addr × Obj} (h : p ∈ l) (hn : p.1 ≠ I) : p ∈ away I l := List.mem_filter.mpr ⟨h, by simpa using hn⟩
theorem away_off {I : Addr} {l : List (Addr × Obj)} : ∀ p ∈ away I l, p.1 ≠ I := fun p hp => by simpa using (List.mem_filter.mp hp).2
theorem away_sub {I : Addr} {it : Obj} {l : List (Addr × Obj)} (hI : (I, it) ∈ l) : ∀ p ∈ (I, it) :: away I l, p ∈ l := fun p hp => by
  rcases List.mem_cons.mp hp with rfl | hp
  · exact hI
  · exact (List.mem_filter.mp hp).1
theorem tup_away {h₀ h : Heap} {L I a : Addr} {it : Obj} {vs : List Value} {n : Nat} {l : List (Addr × Obj)} (N : News h₀ L h l) (hI : (I, it) ∈ l) (hc : it.cls ≠ .type "tuple") (hm : (a, tupOf vs n) ∈ l) : (a, tupOf vs n) ∈ away I l := by
  refine mem_away hm fun e => hc ?_
  have h1 := (N _ hm).1
  have h2 := (N _ hI).1
  dsimp only at e h1 h2
  rw [e, h2] at h1
  rw [Option.some.inj h1]
theorem OctsIn.away {h₀ h : Heap} {L I : Addr} {it : Obj} {l : List (Addr × Obj)} (N : News h₀ L h l) (hI : (I, it) ∈ l) (hc : it.cls ≠ .type "tuple") : ∀ {vs : List Value} {os : List (Int × List Int)}, OctsIn l vs os → OctsIn (Mine.away I l) vs os
  | [], [], _ => trivial
  | _ :: _, _ :: _, h => by
    obtain ⟨⟨a, b, n1, n2, ws, t, e, h1, h2, h3⟩, hr⟩ := h
    exact ⟨⟨a, b, n1, n2, ws, t, e, tup_away N hI hc h1, tup_away N hI hc h2, h3⟩, OctsIn.away N hI hc hr⟩
theorem unr_away {h₀ : Heap} {L I : Addr} {it : Obj} {rest : (Str → Option Value) → List (Addr × Obj) → Prop} {s₁ : Shared} {h' : Heap} {tk : Nat} {m' : Str → Option Value} {all : List (Addr × Obj)} (F : Fr h₀ L h' m') (N : News h₀ L h' all) (hI : (I, it) ∈ all) (r : rest m' (away I all)) :
    UnrEnd h₀ L s₁ I it rest { s₁ with heap := h', toks := tk } := UnrEnd.intro F N _ (away_sub hI) away_off r
end
section
theorem ext_3 : True := by
  w_top off
  k_with_none
  k_with "own room" => ktr_room
  k_with "own all" => (first
      | assumption
      | exact ne_of_lts (by with_reducible assumption)
      | exact ne_of_all (And.right (by with_reducible assumption))
      | exact ne_of_all (And.right (And.right (by with_reducible assumption)))
      | exact ne_of_all (And.right (And.right (And.right (by with_reducible assumption))))
      | exact ne_of_all (And.right (And.right (And.right (And.right (by with_reducible assumption)))))
      | exact ne_of_all (And.right (And.right (And.right (And.right (And.right (by with_reducible assumption))))))
      | exact ne_of_all (And.right (And.right (And.right (And.right (And.right (And.right (by with_reducible assumption)))))))
      | exact ne_of_all (And.right (And.right (And.right (And.right (And.right (And.right (And.right (by with_reducible assumption)))))))))
  k_with "own sub" => (first
      | (refine' Drop.head ?zzqh; (case zzqh => k_all))
      | (refine' Drop.tail (Or.inr ?zzqa) ?zzqb; (case zzqa => k_cls); (case zzqb => lcg_sub))
      | (refine' Drop.tail (Or.inl ?zzqa) ?zzqb; (case zzqa => k_ne); (case zzqb => lcg_sub)))
  k_with "UnrEnd" => (k_dflt (refine' unr_end ?zzF ?zzN ?zzD ?_; (case zzF => k_asm); (case zzN => k_asm); (case zzD => lcg_sub)))
  k_with "own get" => assumption
  k_with "own mem" => (refine memN ?_; ktr_member)
  k_with "own off" => (first | (with_reducible assumption) | (simp only [LCg.Off3, and_true]; with_reducible assumption))
  k_with "CompEnd" => (refine LCg.CompEnd.intro (by k_asm) (by k_asm) _ (fun _ hp => hp) ?zzoff ?zzsrc ?_; (case zzoff => lcg_off); (case zzsrc => lcg_src))
  k_with "own enter" => (first
      | ktr_enter
      | (refine' code_def ?zzk1 ?zzk2 ?zzk3 ?zzk4 ?zzk5 ?zzkA ?zzkF ?zzkK ?zzk6 ?zzk7 ?zzk8 ?zzk9 ?zzkB ?_ ?zzc2 ?zzc3 ?zzc4 ?zzc5; (case zzkA => exact rfl); (case zzkF => exact rfl); (case zzkK => first | exact rfl | assumption); (case zzk1 => k_asm); (case zzk2 => k_asm); (case zzk3 => k_asm); (case zzk4 => k_asm); (case zzk5 => k_asm); (case zzk6 => k_is); (case zzk7 => k_is); (case zzk8 => ktr_room); (case zzk9 => first | exact BindsTo.of_eq rfl | exact binds_K (by k_in) rfl (by k_is) rfl rfl rfl); (case zzc5 => decide); (case zzkB => exact locs rfl); (case zzc2 => exact rfl); (case zzc3 => exact rfl); (case zzc4 => exact rfl); k_whole; intro zg' zL' zh' zFG' zF' zN' zB' zX' zT'; (try dsimp only); (try k_lift zB'); (try k_fold))
      | (refine' code_defC ?zzk1 ?zzk2 ?zzk3 ?zzk4 ?zzk5 ?zzkA ?zzkF ?zzkK ?zzk6 ?zzk7 ?zzk8 ?zzk9 ?zzkB ?zzkD ?_ ?zzc2 ?zzc3 ?zzc4; (case zzkA => exact rfl); (case zzkF => exact rfl); (case zzkK => first | exact rfl | assumption); (case zzk1 => k_asm); (case zzk2 => k_asm); (case zzk3 => k_asm); (case zzk4 => k_asm); (case zzk5 => k_asm); (case zzk6 => k_is); (case zzk7 => k_is); (case zzk8 => ktr_room); (case zzk9 => exact BindsTo.of_eq rfl); (case zzkB => exact rfl); (case zzkD => decide +kernel); (case zzc2 => exact rfl); (case zzc3 => exact rfl); (case zzc4 => exact rfl); k_whole; intro zg' zL' zh' ztk' zcells' zFG' zF' zN' zY' zB' zX' zT' zl1; (try k_lt zl1); k_cells zY'; (try simp only [List.cons_append, List.nil_append] at zN'); (try dsimp only); (try k_lift zB'); (try k_fold)))
  k_with "eval ListComp" => (k_here; k_dflt (refine LCt.ListComp_T (F₀ := by k_asm) (by with_unfolding_all rfl) (by decide) (by rfl) (by decide) (by rfl) ?_))
  k_with "call builtin:len" => (k_here; (with_reducible show wpAny _ _ (call (Value.builtin "len") [Value.ref _]) _ _ _); k_dflt (first
      | (refine' len_led ?zzN ?zzm ?zzk ?zzf ?_; (case zzN => k_asm); (case zzm => k_mem); (case zzk => assumption); (case zzf => omega); k_whole)
      | (refine' len_tup ?zzN ?zzm ?zzk ?zzf ?_; (case zzN => k_asm); (case zzm => k_mem); (case zzk => assumption); (case zzf => omega); k_whole)))
  k_with "CompSrcT" => (k_here; k_dflt (refine' LCt.CompSrcT.range ?zzhh ?zzF ?zzN ?zzr ?zzsm ?zzrs ?zzz ?_; (case zzhh => rfl); (case zzF => k_asm); (case zzN => k_asm); (case zzr => assumption); (case zzrs => exact range_size _); (case zzsm => exact range_small (by omega)); (case zzz => (rw [sizeLine_eq]; omega)); intro zgS))
  k_with "subscriptTail" => (k_here; (with_reducible show wpAny _ _ (subscriptTail _ _ (Value.ref _) (Value.int _ _)) _ _ _); k_dflt (refine' oct_item ?zzN ?zzm ?zzo ?zzh0 ?zzh1 ?zzhf ?_; (case zzN => k_asm); (case zzm => k_mem); (case zzo => assumption); (case zzh0 => omega); (case zzh1 => omega); (case zzhf => omega); k_whole); intro zvO zhO; obtain ⟨aO, bO, n1O, n2O, wsO, tO, eO, m1O, m2O, iO, zO⟩ := zhO; subst eO)
  k_with "subscriptTail" => (k_here; (with_reducible show wpAny _ _ (subscriptTail _ _ (Value.ref _) (Value.ref _)) _ _ _); k_dflt (refine' slice_upto ?zzF ?zzN ?zzm ?zzz ?_; (case zzF => k_asm); (case zzN => k_asm); (case zzm => k_mem); (case zzz => omega); k_whole); intro zrS zkS zhS zF' zN')
  k_with "compareOp Eq ref ref" => (k_here; k_dflt (refine' eq_tups ?zzN ?zza ?zzb ?zzi ?zzj ?zzu ?_; (case zzN => k_asm); (case zza => k_mem); (case zzb => k_mem); (case zzi => exact IntsAre.take (by assumption) _); (case zzj => assumption); (case zzu => exact units_deep (by assumption)); k_whole))
  trivial
theorem off1_ne2 {D : Addr} : ∀ {l : List (Addr × Obj)}, LCg.Off1 D l → ∀ p ∈ l, p.1 ≠ D
  | [], _, _, h => by cases h
  | _ :: _, ⟨h1, h2⟩, p, h => by
    rcases List.mem_cons.mp h with rfl | h
    · exact h1
    · exact off1_ne2 h2 p h
/-- which places of the memory belong to an occurrence -/
noncomputable def mine (lev : Int) (ks : List Int) (o : Int × List Int) : Bool := decide (lev ≤ o.1) && decide (o.2.take ks.length = ks)
noncomputable def spotsUpto (os : List (Int × List Int)) (lev : Int) (ks : List Int) : Nat → List Int
  | 0 => []
  | i + 1 => spotsUpto os lev ks i ++ (if mine lev ks (os.getD i default) then [(i : Int)] else [])
theorem spots_yes {os : List (Int × List Int)} {lev : Int} {ks : List Int} {i : Nat} {ys : List Value} {t : Tok} (h : IntsAre ys (spotsUpto os lev ks i)) (h1 : lev ≤ (os.getD (0 + (i : Int)).toNat default).1) (h2 : (os.getD (0 + (i : Int)).toNat default).2.take ks.length = ks) :
    IntsAre (ys ++ [.int (0 + (i : Int)) t]) (spotsUpto os lev ks (i + 1)) := by
  have e : (0 + (i : Int)).toNat = i := by omega
  rw [e] at h1 h2
  have : mine lev ks (os.getD i default) = true := by simp only [mine, Bool.and_eq_true, decide_eq_true_eq]; exact ⟨h1, h2⟩
  rw [spotsUpto, if_pos this, Int.zero_add]
  exact IntsAre.append h (.cons _ _ .nil)
theorem spots_no2 {os : List (Int × List Int)} {lev : Int} {ks : List Int} {i : Nat} {ys : List Value} (h : IntsAre ys (spotsUpto os lev ks i)) (h2 : ¬ (os.getD (0 + (i : Int)).toNat default).2.take ks.length = ks) :
    IntsAre ys (spotsUpto os lev ks (i + 1)) := by
  have e : (0 + (i : Int)).toNat = i := by omega
  rw [e] at h2
  have : ¬ mine lev ks (os.getD i default) = true := by simp only [mine, Bool.and_eq_true, decide_eq_true_eq]; exact fun q => h2 q.2
  rw [spotsUpto, if_neg this, List.append_nil]
  exact h
theorem spots_no1 {os : List (Int × List Int)} {lev : Int} {ks : List Int} {i : Nat} {ys : List Value} (h : IntsAre ys (spotsUpto os lev ks i)) (h2 : ¬ lev ≤ (os.getD (0 + (i : Int)).toNat default).1) :
    IntsAre ys (spotsUpto os lev ks (i + 1)) := by
  have e : (0 + (i : Int)).toNat = i := by omega
  rw [e] at h2
  have : ¬ mine lev ks (os.getD i default) = true := by simp only [mine, Bool.and_eq_true, decide_eq_true_eq]; exact fun q => h2 q.1
  rw [spotsUpto, if_neg this, List.append_nil]
  exact h
theorem spots_spec {w : World} {p : Program} {loose : List Str} {mean : ExcName → Option Value} {mg mb : Str → Option Value}
  {dp un : Nat} {gd : Option (List Code)} {cn : Str} {cs : Scope} {a : Addr} {ccd : Value} {cl : List (Str × Addr)} {outer : List Env} {A₀ : Around} {base h₀ : Heap} {L : Addr} {m : Str → Option Value} {news : List (Addr × Obj)} {s : Shared} {Q E : Value → Shared → Prop}
  (B : Below A₀ base outer h₀) (F : Fr h₀ L s.heap m) (X : (Mine.hd.heap_39 w.params).In h₀) (N : News h₀ L s.heap news) (T : Top p loose mean mg mb h₀) (hk : cs.kind = .function) (hd : dp + 20 < recursionLimit) (hu : un + 128 < cLine)
  {lm ls nm nl : Nat} {vs ws : List Value} {os : List (Int × List Int)} {ks : List Int} {lev : Int} {t1 : Tok}
  (hm : (lm, listOf vs.toArray nm) ∈ news) (hv : OctsIn news vs os) (hs : (ls, tupOf ws nl) ∈ news) (hi : IntsAre ws ks) (hlen : os.length ≤ 1000) (hkl : ks.length ≤ 1000)
  (ret : ∀ r rs n h' tks, IntsAre rs (spotsUpto os lev ks os.length) → (∀ p ∈ news, p.1 ≠ r) → Fr h₀ L h' m → News h₀ L h' ((r, listOf rs.toArray n) :: news) → Q (.ref r) { s with heap := h', toks := tks }) :
  wpAny (model PySem.Challenge.rw_pc0123_01.row.prog w) (ktrTop dp un gd cn cs L a ccd cl outer) (call (.ref 180) [.ref lm, .int lev t1, .ref ls]) Q E s := by
  have hvl := OctsIn.length hv
  have hwl := IntsAre.length hi
  refine wpAny_call ?_
  k_dflt k_enter
  k_steps
  refine compT_run (fun i ys => IntsAre ys (spotsUpto os lev ks i)) .nil ?_ ?_
  · intro i ys v I oI C oC D m₂ h tk E' hin hinv hP hC hx F₁ N₁ off ne
    obtain ⟨tP, rfl⟩ := hP
    k_steps
    · refine' LCg.CompEnd.intro ?F ?N _ ?sub ?off ?src ⟨rfl, ?inv⟩
      case N => k_asm
      case F => k_asm
      case sub => exact fun p hp => .tail _ hp
      case off => lcg_off
      case src => trivial
      case inv => exact spots_yes hinv (by assumption) (by assumption)
    · refine' LCg.CompEnd.intro ?F ?N _ ?sub ?off ?src ⟨rfl, ?inv⟩
      case N => k_asm
      case F => k_asm
      case sub => exact fun p hp => .tail _ hp
      case off => lcg_off
      case src => trivial
      case inv => exact spots_no2 hinv (by assumption)
    · exact spots_no1 hinv (by assumption)
  · intro ys hys
    k_steps
    refine' ret _ _ _ _ _ hys ?R ?F ?N
    case R => refine off1_ne2 ?_; first | exact (And.right (by with_reducible assumption)) | exact (And.right (And.right (by with_reducible assumption))) | exact (And.right (And.right (And.right (by with_reducible assumption)))) | exact (And.right (And.right (And.right (And.right (by with_reducible assumption))))) | exact (And.right (And.right (And.right (And.right (And.right (by with_reducible assumption)))))) | exact (And.right (And.right (And.right (And.right (And.right (And.right (by with_reducible assumption))))))) | exact (And.right (And.right (And.right (And.right (And.right (And.right (And.right (by with_reducible assumption)))))))) | exact (And.right (And.right (And.right (And.right (And.right (And.right (And.right (And.right (by with_reducible assumption))))))))) | exact (And.right (And.right (And.right (And.right (And.right (And.right (And.right (And.right (And.right (by with_reducible assumption))))))))))
    case F => k_asm
    case N =>
      exact News_sub (by k_asm) (fun p hp => by
        rcases List.mem_cons.mp hp with rfl | hp
        · exact .head _
        · exact .tail _ (.tail _ (.tail _ (.tail _ hp))))
end
section
theorem ext_4 : True := by
  w_top off
  k_with_none
  k_with "own enter" => (first
      | ktr_enter
      | (refine' code_def ?zzk1 ?zzk2 ?zzk3 ?zzk4 ?zzk5 ?zzkA ?zzkF ?zzkK ?zzk6 ?zzk7 ?zzk8 ?zzk9 ?zzkB ?_ ?zzc2 ?zzc3 ?zzc4 ?zzc5; (case zzkA => exact rfl); (case zzkF => exact rfl); (case zzkK => first | exact rfl | assumption); (case zzk1 => k_asm); (case zzk2 => k_asm); (case zzk3 => k_asm); (case zzk4 => k_asm); (case zzk5 => k_asm); (case zzk6 => k_is); (case zzk7 => k_is); (case zzk8 => ktr_room); (case zzk9 => first | exact BindsTo.of_eq rfl | exact binds_K (by k_in) rfl (by k_is) rfl rfl rfl); (case zzc5 => decide); (case zzkB => exact locs rfl); (case zzc2 => exact rfl); (case zzc3 => exact rfl); (case zzc4 => exact rfl); k_whole; intro zg' zL' zh' zFG' zF' zN' zB' zX' zT'; (try dsimp only); (try k_lift zB'); (try k_fold))
      | (refine' code_defC ?zzk1 ?zzk2 ?zzk3 ?zzk4 ?zzk5 ?zzkA ?zzkF ?zzkK ?zzk6 ?zzk7 ?zzk8 ?zzk9 ?zzkB ?zzkD ?_ ?zzc2 ?zzc3 ?zzc4; (case zzkA => exact rfl); (case zzkF => exact rfl); (case zzkK => first | exact rfl | assumption); (case zzk1 => k_asm); (case zzk2 => k_asm); (case zzk3 => k_asm); (case zzk4 => k_asm); (case zzk5 => k_asm); (case zzk6 => k_is); (case zzk7 => k_is); (case zzk8 => ktr_room); (case zzk9 => exact BindsTo.of_eq rfl); (case zzkB => exact rfl); (case zzkD => decide +kernel); (case zzc2 => exact rfl); (case zzc3 => exact rfl); (case zzc4 => exact rfl); k_whole; intro zg' zL' zh' ztk' zcells' zFG' zF' zN' zY' zB' zX' zT' zl1; (try k_lt zl1); k_cells zY'; (try simp only [List.cons_append, List.nil_append] at zN'); (try dsimp only); (try k_lift zB'); (try k_fold)))
  k_with "own room" => ktr_room
  k_with "own all" => (first
      | assumption
      | exact ne_of_lts (by with_reducible assumption)
      | exact ne_of_all (And.right (by with_reducible assumption))
      | exact ne_of_all (And.right (And.right (by with_reducible assumption)))
      | exact ne_of_all (And.right (And.right (And.right (by with_reducible assumption))))
      | exact ne_of_all (And.right (And.right (And.right (And.right (by with_reducible assumption)))))
      | exact ne_of_all (And.right (And.right (And.right (And.right (And.right (by with_reducible assumption))))))
      | exact ne_of_all (And.right (And.right (And.right (And.right (And.right (And.right (by with_reducible assumption)))))))
      | exact ne_of_all (And.right (And.right (And.right (And.right (And.right (And.right (And.right (by with_reducible assumption)))))))))
  k_with "own sub" => (first
      | (refine' Drop.head ?zzqh; (case zzqh => k_all))
      | (refine' Drop.tail (Or.inr ?zzqa) ?zzqb; (case zzqa => k_cls); (case zzqb => lcg_sub))
      | (refine' Drop.tail (Or.inl ?zzqa) ?zzqb; (case zzqa => k_ne); (case zzqb => lcg_sub)))
  k_with "UnrEnd" => (k_dflt (refine' unr_end ?zzF ?zzN ?zzD ?_; (case zzF => k_asm); (case zzN => k_asm); (case zzD => lcg_sub)))
  k_with "own get" => assumption
  k_with "own mem" => (refine memN ?_; ktr_member)
  k_with "own off" => (first | (with_reducible assumption) | (simp only [LCg.Off3, and_true]; with_reducible assumption))
  k_with "CompEnd" => (refine LCg.CompEnd.intro (by k_asm) (by k_asm) _ (fun _ hp => hp) ?zzoff ?zzsrc ?_; (case zzoff => lcg_off); (case zzsrc => lcg_src))
  k_with "exec For" => (k_here; (rename Fr _ _ _ _ => lF'); (k_dflt (refine' For_invVF lF' ?zzk1 ?zzk2 ?_; (case zzk1 => exact rfl); (case zzk2 => exact rfl); k_whole)))
  k_with "pyIter ref" => (refine held ?_)
  k_with "UnrEnd" => (refine held ?_)
  k_with "subscriptTail" => (k_here; (with_reducible show wpAny _ _ (subscriptTail _ _ (Value.ref _) (Value.int _ _)) _ _ _); k_dflt (refine' item_led ?zzN ?zzm ?zzx ?zzh0 ?zzhf ?_; (case zzN => k_asm); (case zzm => k_mem); (case zzx => assumption); (case zzh0 => decide); (case zzhf => decide); k_whole))
  k_with "binaryOp Add ref ref" => (k_here; (with_reducible show wpAny _ _ (binaryOp _ (Value.ref _) (Value.ref _)) _ _ _); k_dflt (first
      | (refine' add_led ?zzF ?zzN ?zza ?zzb ?zzz ?_; (case zzF => k_asm); (case zzN => k_asm); (case zza => k_mem); (case zzb => k_mem); (case zzz => ((try simp only [List.length_append, List.length_replicate, List.length_cons, List.length_nil]); omega)); k_whole; intro zrA zhA zF' zN' zlA)
      | (refine' add_tup ?zzF ?zzN ?zza ?zzb ?zzz ?_; (case zzF => k_asm); (case zzN => k_asm); (case zza => k_mem); (case zzb => k_mem); (case zzz => ((try simp only [List.length_append, List.length_replicate, List.length_cons, List.length_nil]); omega)); k_whole; intro zrA zjA zhA zF' zN')))
  k_with "binaryOp Mult ref int" => (k_here; k_dflt (refine' mul_led ?zzF ?zzN ?zza ?zzh0 ?zzh1 ?_; (case zzF => k_asm); (case zzN => k_asm); (case zza => k_mem); (case zzh0 => omega); (case zzh1 => omega); k_whole; intro zrM zhM zF' zN' zlM))
  trivial
noncomputable def path (ks : List Int) (c : Int) (i : Nat) : List Int := ks ++ (if c > 0 then [0 + (i : Int) + 1] else [])
noncomputable def turnsOf (c : Int) : Nat := (max 1 c).toNat
noncomputable def mem2 (c z : Int) (ks : List Int) : Nat → List (Int × List Int)
  | 0 => []
  | i + 1 => mem2 c z ks i ++ List.replicate z.toNat (2, path ks c i)
noncomputable def memUp (lev : Int) (c a : Int) (sub : List Int → List (Int × List Int)) (ks : List Int) : Nat → List (Int × List Int)
  | 0 => []
  | i + 1 => memUp lev c a sub ks i ++ List.replicate a.toNat (lev, path ks c i) ++ sub (path ks c i)
theorem turns_eq {c : Int} (h : 0 ≤ c) : (if c > 1 then c else 1) = ((turnsOf c : Nat) : Int) := by
  unfold turnsOf
  split <;> omega
theorem turns_le {c : Int} (h : c ≤ 3) : turnsOf c ≤ 3 := by
  unfold turnsOf
  omega
noncomputable def MemJ (news : List (Addr × Obj)) (os : Nat → List (Int × List Int)) (i : Nat) (v : Value) (nx : List (Addr × Obj)) : Prop :=
  ∃ fl vs k, v = .ref fl ∧ (fl, listOf vs.toArray k) ∈ nx ∧ OctsIn nx vs (os i) ∧ (∀ p ∈ news, p ∈ nx) ∧ (∀ p ∈ news, p.1 ≠ fl)
theorem memJ_step {h₀ h : Heap} {L rA I : Addr} {it : Obj} {news rest : List (Addr × Obj)} {os : Nat → List (Int × List Int)} {i k : Nat} {vs : List Value} (N : News h₀ L h ((rA, listOf vs.toArray k) :: rest)) (hI : (I, it) ∈ rest) (hc : it.cls ≠ .type "tuple")
    (lA : ∀ p ∈ rest, p.1 < rA) (hsub : ∀ p ∈ news, p ∈ rest) (hoff : ∀ p ∈ news, p.1 ≠ I) (hO : OctsIn ((rA, listOf vs.toArray k) :: rest) vs (os (i + 1))) : MemJ news os (i + 1) (.ref rA) (away I ((rA, listOf vs.toArray k) :: rest)) :=
  ⟨rA, vs, k, rfl, mem_away (.head _) (Nat.ne_of_gt (lA _ hI)), OctsIn.away N (.tail _ hI) hc hO, fun p hp => mem_away (.tail _ (hsub p hp)) (hoff p hp), fun p hp => Nat.ne_of_lt (lA p (hsub p hp))⟩
theorem path_yes {ws : List Value} {ks : List Int} {c : Int} {i : Nat} {t : Tok} (h : IntsAre ws ks) (hc : 0 < c) : IntsAre (ws ++ [.int (0 + (i : Int) + 1) t]) (path ks c i) := by
  unfold path
  rw [if_pos hc]
  exact IntsAre.append h (.cons _ _ .nil)
theorem path_no {ws : List Value} {ks : List Int} {c : Int} {i : Nat} (h : IntsAre ws ks) (hc : ¬ 0 < c) : IntsAre (ws ++ []) (path ks c i) := by
  unfold path
  rw [if_neg hc]
  exact IntsAre.append h .nil
theorem kept {x acc st z : Str} {v1 v2 v3 v4 v5 : Option Value} {m₁ m₀ : Str → Option Value} (h1 : z ≠ x) (h2 : z ≠ acc) (h3 : [st].contains z = false) :
    (if z = acc then v1 else if z = st then v2 else if z = x then v3 else if z = acc then v4 else if [st].contains z then m₁ z else m₀ z) = m₀ z := by
  have h4 : z ≠ st := by simpa using h3
  rw [if_neg h2, if_neg h4, if_neg h1, if_neg h2, h3]
  rfl
theorem memUp_len (lev c a : Int) (sub : List Int → List (Int × List Int)) (ks : List Int) {B : Nat} (hB : ∀ k, (sub k).length ≤ B) (ha : a ≤ 2) : ∀ i, (memUp lev c a sub ks i).length ≤ (2 + B) * i
  | 0 => Nat.le_refl _
  | i + 1 => by
    have := memUp_len lev c a sub ks hB ha i
    have := hB (path ks c i)
    rw [memUp, List.length_append, List.length_append, List.length_replicate, Nat.mul_succ]
    omega
theorem hd_up {dp : Nat} (h : dp + 30 < recursionLimit) : dp + 1 + 20 < recursionLimit := by omega
theorem hu_up {un : Nat} (h : un + 160 < cLine) : un + 3 + 128 < cLine := by omega
theorem hd_up2 {dp : Nat} (h : dp + 40 < recursionLimit) : dp + 1 + 30 < recursionLimit := by omega
theorem hu_up2 {un : Nat} (h : un + 200 < cLine) : un + 3 + 160 < cLine := by omega
theorem mem2_len (c z : Int) (ks : List Int) (hz : z ≤ 4) : ∀ i, (mem2 c z ks i).length ≤ 4 * i
  | 0 => Nat.le_refl _
  | i + 1 => by
    have := mem2_len c z ks hz i
    rw [mem2, List.length_append, List.length_replicate]
    omega
theorem mem2_spec {w : World} {p : Program} {loose : List Str} {mean : ExcName → Option Value} {mg mb : Str → Option Value}
  {dp un : Nat} {gd : Option (List Code)} {cn : Str} {cs : Scope} {a : Addr} {ccd : Value} {cl : List (Str × Addr)} {outer : List Env} {A₀ : Around} {base h₀ : Heap} {L : Addr} {m : Str → Option Value} {news : List (Addr × Obj)} {s : Shared} {Q E : Value → Shared → Prop}
  (B : Below A₀ base outer h₀) (F : Fr h₀ L s.heap m) (X : (Mine.hd.heap_39 w.params).In h₀) (N : News h₀ L s.heap news) (T : Top p loose mean mg mb h₀) (hk : cs.kind = .function) (hd : dp + 20 < recursionLimit) (hu : un + 128 < cLine)
  {ll ls nl n0 ns : Nat} {lvs ws : List Value} {a2 : Addr} {ks : List Int} {c2 h2 z2 : Int} {t1 tc th tz : Tok}
  (hl : (ll, listOf lvs.toArray nl) ∈ news) (hl2 : lvs[2]? = some (.ref a2)) (ha : (a2, tupOf [.int c2 tc, .int h2 th, .int z2 tz] n0) ∈ news) (hs : (ls, tupOf ws ns) ∈ news) (hi : IntsAre ws ks) (hkl : ks.length ≤ 2)
  (hc0 : 0 ≤ c2) (hc3 : c2 ≤ 3) (hz0 : 1 ≤ z2) (hz4 : z2 ≤ 4)
  (ret : ∀ r vs n nw h' tks, (∀ p ∈ news, p ∈ nw) → OctsIn nw vs (mem2 c2 z2 ks (turnsOf c2)) → (∀ p ∈ news, p.1 ≠ r) → vs.length ≤ 12 → Fr h₀ L h' m → News h₀ L h' ((r, listOf vs.toArray n) :: nw) → Q (.ref r) { s with heap := h', toks := tks }) :
  wpAny (model PySem.Challenge.rw_pc0123_01.row.prog w) (ktrTop dp un gd cn cs L a ccd cl outer) (call (.ref 175) [.ref ll, .int 2 t1, .ref ls]) Q E s := by
  have hwl := IntsAre.length hi
  refine wpAny_call ?_
  k_dflt k_enter
  k_steps
  refine unheld ?_
  refine' acc_loop "turn" "found" ["here"] (MemJ news (mem2 c2 z2 ks)) ?xa ?hh ?hr ?hb ?hn ?F ?N ?h0 ?hj ?turn ?done
  case xa => decide
  case hh => rfl
  case hr => assumption
  case hb => exact turns_eq hc0
  case hn => exact Nat.le_trans (turns_le hc3) (by decide)
  case F => k_asm
  case N => k_asm
  case h0 => exact rfl
  case hj => exact ⟨_, [], _, rfl, by k_mem, trivial, fun p hp => .tail _ hp, ne_of_lts (by with_reducible assumption)⟩
  case turn =>
    intro I i t v m₁ nx h tk hin hoff hJ F₁ N₁
    obtain ⟨fl, vs, k, rfl, hfl, hO, hsub, hne⟩ := hJ
    have hs' := hsub _ hs
    have hvl := OctsIn.length hO
    have hml := mem2_len c2 z2 ks hz4 i
    have htl := turns_le (c := c2) hc3
    clear hs ha hl hl2
    k_steps
    · refine unheld ?_
      refine' unr_away ?F ?N ?hI ⟨⟨_, ?v, ?J⟩, ?keep⟩
      case F => k_asm
      case N => k_asm
      case hI => k_mem
      case v => exact rfl
      case keep => (intro z z1 z2 z3; (have z4 : z ≠ "here" := by simpa using z3); simp only [z1, z2, z3, z4, if_false, Bool.false_eq_true])
      refine' memJ_step ?N ?hI ?hc ?lA ?hs ?ho ?hO
      case N => k_asm
      case hI => k_mem
      case hc => k_cls
      case lA => assumption
      case hs => intro p hp; have hq := hsub p hp; repeat (first | exact hq | refine List.mem_cons_of_mem _ ?_)
      case ho => exact fun p hp => hoff p (hsub p hp)
      case hO =>
        refine OctsIn.append (OctsIn.mono (by intro p hp; repeat (first | exact hp | refine List.mem_cons_of_mem _ ?_)) hO) (OctsIn.rep ?_ _)
        exact ⟨_, _, _, _, _, _, rfl, by k_mem, by k_mem, path_yes hi (by assumption), by simp only [List.length_append, List.length_cons, List.length_nil]; omega⟩
    · refine unheld ?_
      refine' unr_away ?F2 ?N2 ?hI2 ⟨⟨_, ?v2, ?J2⟩, ?keep2⟩
      case F2 => k_asm
      case N2 => k_asm
      case hI2 => k_mem
      case v2 => exact rfl
      case keep2 => (intro z z1 z2 z3; (have z4 : z ≠ "here" := by simpa using z3); simp only [z1, z2, z3, z4, if_false, Bool.false_eq_true])
      refine' memJ_step ?N2 ?hI2 ?hc2 ?lA2 ?hs2 ?ho2 ?hO2
      case N2 => k_asm
      case hI2 => k_mem
      case hc2 => k_cls
      case lA2 => assumption
      case hs2 => intro p hp; have hq := hsub p hp; repeat (first | exact hq | refine List.mem_cons_of_mem _ ?_)
      case ho2 => exact fun p hp => hoff p (hsub p hp)
      case hO2 =>
        refine OctsIn.append (OctsIn.mono (by intro p hp; repeat (first | exact hp | refine List.mem_cons_of_mem _ ?_)) hO) (OctsIn.rep ?_ _)
        exact ⟨_, _, _, _, _, _, rfl, by k_mem, by k_mem, path_no hi (by assumption), by simp only [List.length_append, List.length_nil]; omega⟩
  case done =>
    intro v m₁ nx h tk hJ F₁ N₁
    obtain ⟨fl, vs, k, rfl, hfl, hO, hsub, hne⟩ := hJ
    k_steps
    refine' ret fl vs k nx _ _ hsub hO hne ?z ?F ?N
    case z => (have h1 := OctsIn.length hO); (have h2 := mem2_len c2 z2 ks hz4 (turnsOf c2)); (have h3 := turns_le (c := c2) hc3); omega
    case F => k_asm
    case N =>
      refine News_sub (by k_asm) (fun p hp => ?_)
      rcases List.mem_cons.mp hp with rfl | hp
      · exact hfl
      · exact hp
theorem path_le {ks : List Int} {c : Int} {i n : Nat} (h : ks.length ≤ n) : (path ks c i).length ≤ n + 1 := by
  unfold path
  rw [List.length_append]
  split
  · simp only [List.length_cons, List.length_nil]; omega
  · simp only [List.length_nil]; omega
theorem ext_5 : True := by
  k_with "call ref" => ((with_reducible show wpAny _ _ (call (Value.ref 175) _) _ _ _); (refine held ?_))
  trivial
theorem mem1_spec {w : World} {p : Program} {loose : List Str} {mean : ExcName → Option Value} {mg mb : Str → Option Value}
  {dp un : Nat} {gd : Option (List Code)} {cn : Str} {cs : Scope} {a : Addr} {ccd : Value} {cl : List (Str × Addr)} {outer : List Env} {A₀ : Around} {base h₀ : Heap} {L : Addr} {m : Str → Option Value} {news : List (Addr × Obj)} {s : Shared} {Q E : Value → Shared → Prop}
  (B : Below A₀ base outer h₀) (F : Fr h₀ L s.heap m) (X : (Mine.hd.heap_39 w.params).In h₀) (N : News h₀ L s.heap news) (T : Top p loose mean mg mb h₀) (hk : cs.kind = .function) (hd : dp + 30 < recursionLimit) (hu : un + 160 < cLine)
  {ll ls nl ns : Nat} {lvs ws : List Value} {ks : List Int} {t1 : Tok} {a2 n2 : Nat} {c2 h2 z2 : Int} {tc2 th2 tz2 : Tok} {a1 n1 : Nat} {c1 h1 z1 : Int} {tc1 th1 tz1 : Tok}
  (hl : (ll, listOf lvs.toArray nl) ∈ news) (hs : (ls, tupOf ws ns) ∈ news) (hi : IntsAre ws ks) (hkl : ks.length ≤ 1)
  (hl2 : lvs[2]? = some (.ref a2)) (ha2 : (a2, tupOf [.int c2 tc2, .int h2 th2, .int z2 tz2] n2) ∈ news) (hc20 : 0 ≤ c2) (hc23 : c2 ≤ 3) (hz20 : 1 ≤ z2) (hz24 : z2 ≤ 4) (hl1 : lvs[1]? = some (.ref a1)) (ha1 : (a1, tupOf [.int c1 tc1, .int h1 th1, .int z1 tz1] n1) ∈ news) (hc10 : 0 ≤ c1) (hc13 : c1 ≤ 3) (hh10 : 0 ≤ h1) (hh12 : h1 ≤ 2)
  (ret : ∀ r vs n nw h' tks, (∀ p ∈ news, p ∈ nw) → OctsIn nw vs ((memUp 1 c1 h1 (fun q => mem2 c2 z2 q (turnsOf c2)) ks) (turnsOf c1)) → (∀ p ∈ news, p.1 ≠ r) → vs.length ≤ 42 → Fr h₀ L h' m → News h₀ L h' ((r, listOf vs.toArray n) :: nw) → Q (.ref r) { s with heap := h', toks := tks }) :
  wpAny (model PySem.Challenge.rw_pc0123_01.row.prog w) (ktrTop dp un gd cn cs L a ccd cl outer) (call (.ref 175) [.ref ll, .int 1 t1, .ref ls]) Q E s := by
  have hwl := IntsAre.length hi
  refine wpAny_call ?_
  k_dflt k_enter
  k_steps
  refine unheld ?_
  refine' acc_loop "turn" "found" ["here"] (MemJ news (memUp 1 c1 h1 (fun q => mem2 c2 z2 q (turnsOf c2)) ks)) ?xa ?hh ?hr ?hb ?hn ?F ?N ?h0 ?hj ?turn ?done
  case xa => decide
  case hh => rfl
  case hr => assumption
  case hb => exact turns_eq hc10
  case hn => exact Nat.le_trans (turns_le hc13) (by decide)
  case F => k_asm
  case N => k_asm
  case h0 => exact rfl
  case hj => exact ⟨_, [], _, rfl, by k_mem, trivial, fun p hp => .tail _ hp, ne_of_lts (by with_reducible assumption)⟩
  case turn =>
    intro I i t v m₁ nx h tk hin hoff hJ F₁ N₁
    obtain ⟨fl, vs, k, rfl, hfl, hO, hsub, hne⟩ := hJ
    have hs' := hsub _ hs
    have hl' := hsub _ hl
    have ha2' := hsub _ ha2
    have ha1' := hsub _ ha1
    have hvl := OctsIn.length hO
    have hml := memUp_len 1 c1 h1 (fun q => mem2 c2 z2 q (turnsOf c2)) ks (B := 12) (fun q => Nat.le_trans (mem2_len c2 z2 q hz24 (turnsOf c2)) (by have := turns_le (c := c2) hc23; omega)) hh12 i
    have htl := turns_le (c := c1) hc13
    clear hs  ha1 ha2 hl
    k_steps
    · refine unheld ?_
      k_dflt (refine' mem2_spec ?cB1 ?cF1 ?cX1 ?cN1 ?cT1 ?chk1 ?chd1 ?chu1 ?chl1 hl2 ?cha21 ?chs1 ?chi1 ?chkl1 hc20 hc23 hz20 hz24 ?cret1)
      case cB1 => k_asm
      case cF1 => k_asm
      case cX1 => k_asm
      case cN1 => k_asm
      case cT1 => k_asm
      case chk1 => exact rfl
      case chd1 => exact hd_up hd
      case chu1 => exact hu_up hu
      case chl1 => k_mem
      case cha21 => k_mem
      case chs1 => k_mem
      case chi1 => exact path_yes (i := i) hi (by assumption)
      case chkl1 => (exact path_le hkl)
      case cret1 =>
       intro rC vC nC nwC hC tkC hsC hOC hnC hzC F' N'
       have mA := hsC _ (List.Mem.head _)
       have lA' := memUp_len 1 c1 h1 (fun q => mem2 c2 z2 q (turnsOf c2)) ks (B := 12) (fun q => Nat.le_trans (mem2_len c2 z2 q hz24 (turnsOf c2)) (by have := turns_le (c := c2) hc23; omega)) hh12 i
       k_steps
       refine unheld ?_
       refine' unr_away ?F1 ?N1 ?hI1 ⟨⟨_, ?v1, ?J1⟩, ?keep1⟩
       case F1 => k_asm
       case N1 => k_asm
       case hI1 => exact .tail _ (.tail _ (hsC _ (by k_mem)))
       case v1 => exact rfl
       case keep1 => (intro z z1 z2 z3; (have z4 : z ≠ "here" := by simpa using z3); simp only [z1, z2, z3, z4, if_false, Bool.false_eq_true])
       refine' memJ_step ?N1 ?hI1 ?hc1 ?lA1 ?hs1 ?ho1 ?hO1
       case N1 => k_asm
       case hI1 => exact .tail _ (hsC _ (by k_mem))
       case hc1 => k_cls
       case lA1 => assumption
       case hs1 => exact fun p hp => .tail _ (hsC _ (by have hq := hsub p hp; repeat (first | exact hq | refine List.mem_cons_of_mem _ ?_)))
       case ho1 => exact fun p hp => hoff p (hsub p hp)
       case hO1 =>
        refine OctsIn.append (OctsIn.append (OctsIn.mono (fun p hp => .tail _ (.tail _ (hsC _ (by repeat (first | exact hp | refine List.mem_cons_of_mem _ ?_))))) hO) (OctsIn.rep ?_ _)) (OctsIn.mono (fun p hp => .tail _ (.tail _ hp)) hOC)
        exact ⟨_, _, _, _, _, _, rfl, .tail _ (.tail _ (hsC _ (by k_mem))), .tail _ (.tail _ (hsC _ (by k_mem))), path_yes (i := i) hi (by assumption), by simp only [List.length_append, List.length_cons, List.length_nil]; omega⟩
    · refine unheld ?_
      k_dflt (refine' mem2_spec ?cB2 ?cF2 ?cX2 ?cN2 ?cT2 ?chk2 ?chd2 ?chu2 ?chl2 hl2 ?cha22 ?chs2 ?chi2 ?chkl2 hc20 hc23 hz20 hz24 ?cret2)
      case cB2 => k_asm
      case cF2 => k_asm
      case cX2 => k_asm
      case cN2 => k_asm
      case cT2 => k_asm
      case chk2 => exact rfl
      case chd2 => exact hd_up hd
      case chu2 => exact hu_up hu
      case chl2 => k_mem
      case cha22 => k_mem
      case chs2 => k_mem
      case chi2 => exact path_no (i := i) hi (by assumption)
      case chkl2 => (exact path_le hkl)
      case cret2 =>
       intro rC vC nC nwC hC tkC hsC hOC hnC hzC F' N'
       have mA := hsC _ (List.Mem.head _)
       have lA' := memUp_len 1 c1 h1 (fun q => mem2 c2 z2 q (turnsOf c2)) ks (B := 12) (fun q => Nat.le_trans (mem2_len c2 z2 q hz24 (turnsOf c2)) (by have := turns_le (c := c2) hc23; omega)) hh12 i
       k_steps
       refine unheld ?_
       refine' unr_away ?F2 ?N2 ?hI2 ⟨⟨_, ?v2, ?J2⟩, ?keep2⟩
       case F2 => k_asm
       case N2 => k_asm
       case hI2 => exact .tail _ (.tail _ (hsC _ (by k_mem)))
       case v2 => exact rfl
       case keep2 => (intro z z1 z2 z3; (have z4 : z ≠ "here" := by simpa using z3); simp only [z1, z2, z3, z4, if_false, Bool.false_eq_true])
       refine' memJ_step ?N2 ?hI2 ?hc2 ?lA2 ?hs2 ?ho2 ?hO2
       case N2 => k_asm
       case hI2 => exact .tail _ (hsC _ (by k_mem))
       case hc2 => k_cls
       case lA2 => assumption
       case hs2 => exact fun p hp => .tail _ (hsC _ (by have hq := hsub p hp; repeat (first | exact hq | refine List.mem_cons_of_mem _ ?_)))
       case ho2 => exact fun p hp => hoff p (hsub p hp)
       case hO2 =>
        refine OctsIn.append (OctsIn.append (OctsIn.mono (fun p hp => .tail _ (.tail _ (hsC _ (by repeat (first | exact hp | refine List.mem_cons_of_mem _ ?_))))) hO) (OctsIn.rep ?_ _)) (OctsIn.mono (fun p hp => .tail _ (.tail _ hp)) hOC)
        exact ⟨_, _, _, _, _, _, rfl, .tail _ (.tail _ (hsC _ (by k_mem))), .tail _ (.tail _ (hsC _ (by k_mem))), path_no (i := i) hi (by assumption), by simp only [List.length_append, List.length_cons, List.length_nil]; omega⟩
  case done =>
    intro v m₁ nx h tk hJ F₁ N₁
    obtain ⟨fl, vs, k, rfl, hfl, hO, hsub, hne⟩ := hJ
    k_steps
    refine' ret fl vs k nx _ _ hsub hO hne ?z ?F ?N
    case z => (have q1 := OctsIn.length hO); (have q2 := memUp_len 1 c1 h1 (fun q => mem2 c2 z2 q (turnsOf c2)) ks (B := 12) (fun q => Nat.le_trans (mem2_len c2 z2 q hz24 (turnsOf c2)) (by have := turns_le (c := c2) hc23; omega)) hh12 (turnsOf c1)); (have q3 := turns_le (c := c1) hc13); omega
    case F => k_asm
    case N =>
      refine News_sub (by k_asm) (fun p hp => ?_)
      rcases List.mem_cons.mp hp with rfl | hp
      · exact hfl
      · exact hp
theorem mem0_spec {w : World} {p : Program} {loose : List Str} {mean : ExcName → Option Value} {mg mb : Str → Option Value}
  {dp un : Nat} {gd : Option (List Code)} {cn : Str} {cs : Scope} {a : Addr} {ccd : Value} {cl : List (Str × Addr)} {outer : List Env} {A₀ : Around} {base h₀ : Heap} {L : Addr} {m : Str → Option Value} {news : List (Addr × Obj)} {s : Shared} {Q E : Value → Shared → Prop}
  (B : Below A₀ base outer h₀) (F : Fr h₀ L s.heap m) (X : (Mine.hd.heap_39 w.params).In h₀) (N : News h₀ L s.heap news) (T : Top p loose mean mg mb h₀) (hk : cs.kind = .function) (hd : dp + 40 < recursionLimit) (hu : un + 200 < cLine)
  {ll ls nl ns : Nat} {lvs ws : List Value} {ks : List Int} {t1 : Tok} {a2 n2 : Nat} {c2 h2 z2 : Int} {tc2 th2 tz2 : Tok} {a1 n1 : Nat} {c1 h1 z1 : Int} {tc1 th1 tz1 : Tok} {a0 n0 : Nat} {c0 h0 z0 : Int} {tc0 th0 tz0 : Tok}
  (hl : (ll, listOf lvs.toArray nl) ∈ news) (hs : (ls, tupOf ws ns) ∈ news) (hi : IntsAre ws ks) (hkl : ks.length ≤ 0)
  (hl2 : lvs[2]? = some (.ref a2)) (ha2 : (a2, tupOf [.int c2 tc2, .int h2 th2, .int z2 tz2] n2) ∈ news) (hc20 : 0 ≤ c2) (hc23 : c2 ≤ 3) (hz20 : 1 ≤ z2) (hz24 : z2 ≤ 4) (hl1 : lvs[1]? = some (.ref a1)) (ha1 : (a1, tupOf [.int c1 tc1, .int h1 th1, .int z1 tz1] n1) ∈ news) (hc10 : 0 ≤ c1) (hc13 : c1 ≤ 3) (hh10 : 0 ≤ h1) (hh12 : h1 ≤ 2) (hl0 : lvs[0]? = some (.ref a0)) (ha0 : (a0, tupOf [.int c0 tc0, .int h0 th0, .int z0 tz0] n0) ∈ news) (hc00 : 0 ≤ c0) (hc03 : c0 ≤ 3) (hh00 : 0 ≤ h0) (hh02 : h0 ≤ 2)
  (ret : ∀ r vs n nw h' tks, (∀ p ∈ news, p ∈ nw) → OctsIn nw vs ((memUp 0 c0 h0 (fun q => memUp 1 c1 h1 (fun q => mem2 c2 z2 q (turnsOf c2)) q (turnsOf c1)) ks) (turnsOf c0)) → (∀ p ∈ news, p.1 ≠ r) → vs.length ≤ 132 → Fr h₀ L h' m → News h₀ L h' ((r, listOf vs.toArray n) :: nw) → Q (.ref r) { s with heap := h', toks := tks }) :
  wpAny (model PySem.Challenge.rw_pc0123_01.row.prog w) (ktrTop dp un gd cn cs L a ccd cl outer) (call (.ref 175) [.ref ll, .int 0 t1, .ref ls]) Q E s := by
  have hwl := IntsAre.length hi
  refine wpAny_call ?_
  k_dflt k_enter
  k_steps
  refine unheld ?_
  refine' acc_loop "turn" "found" ["here"] (MemJ news (memUp 0 c0 h0 (fun q => memUp 1 c1 h1 (fun q => mem2 c2 z2 q (turnsOf c2)) q (turnsOf c1)) ks)) ?xa ?hh ?hr ?hb ?hn ?F ?N ?h0 ?hj ?turn ?done
  case xa => decide
  case hh => rfl
  case hr => assumption
  case hb => exact turns_eq hc00
  case hn => exact Nat.le_trans (turns_le hc03) (by decide)
  case F => k_asm
  case N => k_asm
  case h0 => exact rfl
  case hj => exact ⟨_, [], _, rfl, by k_mem, trivial, fun p hp => .tail _ hp, ne_of_lts (by with_reducible assumption)⟩
  case turn =>
    intro I i t v m₁ nx h tk hin hoff hJ F₁ N₁
    obtain ⟨fl, vs, k, rfl, hfl, hO, hsub, hne⟩ := hJ
    have hs' := hsub _ hs
    have hl' := hsub _ hl
    have ha2' := hsub _ ha2
    have ha1' := hsub _ ha1
    have hvl := OctsIn.length hO
    have hml := memUp_len 0 c0 h0 (fun q => memUp 1 c1 h1 (fun q => mem2 c2 z2 q (turnsOf c2)) q (turnsOf c1)) ks (B := 42) (fun q => Nat.le_trans (memUp_len 1 c1 h1 _ q (B := 12) (fun q => Nat.le_trans (mem2_len c2 z2 q hz24 (turnsOf c2)) (by have := turns_le (c := c2) hc23; omega)) hh12 (turnsOf c1)) (by have := turns_le (c := c1) hc13; omega)) hh02 i
    have htl := turns_le (c := c0) hc03
    clear hs ha0 ha1 ha2 hl
    k_steps
    · refine unheld ?_
      k_dflt (refine' mem1_spec ?cB1 ?cF1 ?cX1 ?cN1 ?cT1 ?chk1 ?chd1 ?chu1 ?chl1 ?chs1 ?chi1 ?chkl1 hl2 ?cha21 hc20 hc23 hz20 hz24 hl1 ?cha11 hc10 hc13 hh10 hh12 ?cret1)
      case cB1 => k_asm
      case cF1 => k_asm
      case cX1 => k_asm
      case cN1 => k_asm
      case cT1 => k_asm
      case chk1 => exact rfl
      case chd1 => exact hd_up2 hd
      case chu1 => exact hu_up2 hu
      case chl1 => k_mem
      case cha21 => k_mem
      case cha11 => k_mem
      case chs1 => k_mem
      case chi1 => exact path_yes (i := i) hi (by assumption)
      case chkl1 => (exact path_le hkl)
      case cret1 =>
       intro rC vC nC nwC hC tkC hsC hOC hnC hzC F' N'
       have mA := hsC _ (List.Mem.head _)
       have lA' := memUp_len 0 c0 h0 (fun q => memUp 1 c1 h1 (fun q => mem2 c2 z2 q (turnsOf c2)) q (turnsOf c1)) ks (B := 42) (fun q => Nat.le_trans (memUp_len 1 c1 h1 _ q (B := 12) (fun q => Nat.le_trans (mem2_len c2 z2 q hz24 (turnsOf c2)) (by have := turns_le (c := c2) hc23; omega)) hh12 (turnsOf c1)) (by have := turns_le (c := c1) hc13; omega)) hh02 i
       k_steps
       refine unheld ?_
       refine' unr_away ?F1 ?N1 ?hI1 ⟨⟨_, ?v1, ?J1⟩, ?keep1⟩
       case F1 => k_asm
       case N1 => k_asm
       case hI1 => exact .tail _ (.tail _ (hsC _ (by k_mem)))
       case v1 => exact rfl
       case keep1 => (intro z z1 z2 z3; (have z4 : z ≠ "here" := by simpa using z3); simp only [z1, z2, z3, z4, if_false, Bool.false_eq_true])
       refine' memJ_step ?N1 ?hI1 ?hc1 ?lA1 ?hs1 ?ho1 ?hO1
       case N1 => k_asm
       case hI1 => exact .tail _ (hsC _ (by k_mem))
       case hc1 => k_cls
       case lA1 => assumption
       case hs1 => exact fun p hp => .tail _ (hsC _ (by have hq := hsub p hp; repeat (first | exact hq | refine List.mem_cons_of_mem _ ?_)))
       case ho1 => exact fun p hp => hoff p (hsub p hp)
       case hO1 =>
        refine OctsIn.append (OctsIn.append (OctsIn.mono (fun p hp => .tail _ (.tail _ (hsC _ (by repeat (first | exact hp | refine List.mem_cons_of_mem _ ?_))))) hO) (OctsIn.rep ?_ _)) (OctsIn.mono (fun p hp => .tail _ (.tail _ hp)) hOC)
        exact ⟨_, _, _, _, _, _, rfl, .tail _ (.tail _ (hsC _ (by k_mem))), .tail _ (.tail _ (hsC _ (by k_mem))), path_yes (i := i) hi (by assumption), by simp only [List.length_append, List.length_cons, List.length_nil]; omega⟩
    · refine unheld ?_
      k_dflt (refine' mem1_spec ?cB2 ?cF2 ?cX2 ?cN2 ?cT2 ?chk2 ?chd2 ?chu2 ?chl2 ?chs2 ?chi2 ?chkl2 hl2 ?cha22 hc20 hc23 hz20 hz24 hl1 ?cha12 hc10 hc13 hh10 hh12 ?cret2)
      case cB2 => k_asm
      case cF2 => k_asm
      case cX2 => k_asm
      case cN2 => k_asm
      case cT2 => k_asm
      case chk2 => exact rfl
      case chd2 => exact hd_up2 hd
      case chu2 => exact hu_up2 hu
      case chl2 => k_mem
      case cha22 => k_mem
      case cha12 => k_mem
      case chs2 => k_mem
      case chi2 => exact path_no (i := i) hi (by assumption)
      case chkl2 => (exact path_le hkl)
      case cret2 =>
       intro rC vC nC nwC hC tkC hsC hOC hnC hzC F' N'
       have mA := hsC _ (List.Mem.head _)
       have lA' := memUp_len 0 c0 h0 (fun q => memUp 1 c1 h1 (fun q => mem2 c2 z2 q (turnsOf c2)) q (turnsOf c1)) ks (B := 42) (fun q => Nat.le_trans (memUp_len 1 c1 h1 _ q (B := 12) (fun q => Nat.le_trans (mem2_len c2 z2 q hz24 (turnsOf c2)) (by have := turns_le (c := c2) hc23; omega)) hh12 (turnsOf c1)) (by have := turns_le (c := c1) hc13; omega)) hh02 i
       k_steps
       refine unheld ?_
       refine' unr_away ?F2 ?N2 ?hI2 ⟨⟨_, ?v2, ?J2⟩, ?keep2⟩
       case F2 => k_asm
       case N2 => k_asm
       case hI2 => exact .tail _ (.tail _ (hsC _ (by k_mem)))
       case v2 => exact rfl
       case keep2 => (intro z z1 z2 z3; (have z4 : z ≠ "here" := by simpa using z3); simp only [z1, z2, z3, z4, if_false, Bool.false_eq_true])
       refine' memJ_step ?N2 ?hI2 ?hc2 ?lA2 ?hs2 ?ho2 ?hO2
       case N2 => k_asm
       case hI2 => exact .tail _ (hsC _ (by k_mem))
       case hc2 => k_cls
       case lA2 => assumption
       case hs2 => exact fun p hp => .tail _ (hsC _ (by have hq := hsub p hp; repeat (first | exact hq | refine List.mem_cons_of_mem _ ?_)))
       case ho2 => exact fun p hp => hoff p (hsub p hp)
       case hO2 =>
        refine OctsIn.append (OctsIn.append (OctsIn.mono (fun p hp => .tail _ (.tail _ (hsC _ (by repeat (first | exact hp | refine List.mem_cons_of_mem _ ?_))))) hO) (OctsIn.rep ?_ _)) (OctsIn.mono (fun p hp => .tail _ (.tail _ hp)) hOC)
        exact ⟨_, _, _, _, _, _, rfl, .tail _ (.tail _ (hsC _ (by k_mem))), .tail _ (.tail _ (hsC _ (by k_mem))), path_no (i := i) hi (by assumption), by simp only [List.length_append, List.length_cons, List.length_nil]; omega⟩
  case done =>
    intro v m₁ nx h tk hJ F₁ N₁
    obtain ⟨fl, vs, k, rfl, hfl, hO, hsub, hne⟩ := hJ
    k_steps
    refine' ret fl vs k nx _ _ hsub hO hne ?z ?F ?N
    case z => (have q1 := OctsIn.length hO); (have q2 := memUp_len 0 c0 h0 (fun q => memUp 1 c1 h1 (fun q => mem2 c2 z2 q (turnsOf c2)) q (turnsOf c1)) ks (B := 42) (fun q => Nat.le_trans (memUp_len 1 c1 h1 _ q (B := 12) (fun q => Nat.le_trans (mem2_len c2 z2 q hz24 (turnsOf c2)) (by have := turns_le (c := c2) hc23; omega)) hh12 (turnsOf c1)) (by have := turns_le (c := c1) hc13; omega)) hh02 (turnsOf c0)); (have q3 := turns_le (c := c0) hc03); omega
    case F => k_asm
    case N =>
      refine News_sub (by k_asm) (fun p hp => ?_)
      rcases List.mem_cons.mp hp with rfl | hp
      · exact hfl
      · exact hp
end
section
theorem ext_6 : True := by
  w_top off
  k_with_none
  trivial
abbrev excMro : List Value := [.ref 47, .type "Exception", .type "BaseException", .type "object"]
abbrev excObj (t : Addr) : Obj := { cls := .ref 60, data := .fields #[.ref t, .none, .none, .none, .bool false, .none] }
section
variable {M : Model} {A : Around} {E : Value → Shared → Prop} {h : Heap} {g : Array GenState} {d : Drawn} {t : Nat} {os : OsState}
variable {nm q : Str} {N : Addr} {bs : List Value} {hdct : Bool} {sn : List Str} {sub : List Value} {ab : Bool} {col : Option Bool} {dd : Option Addr} {k0 k1 k2 k3 k5 : Option Value}
theorem rf_check_new {rest : List Value} {Q : Unit → Shared → Prop} (hC : h.get? 60 = some (excClassObj nm q 60 N bs excMro hdct sn sub ab col dd k0 k1 k2 k3 k5 "Exception.__new__"))
    (hq : Q () ⟨h, g, d, t, os⟩) : wpAny M A (checkBuiltinCall "Exception.__new__" ⟨.ref 60 :: rest, []⟩) Q E ⟨h, g, d, t, os⟩ := by
  have F := PySem.F.excBase_Exception
  have hcont : (Value.ref 60 :: excMro).contains (.type "Exception") = true := by decide
  have hstar := F.noStar
  simp only [checkBuiltinCall, F.newKind, F.newSplit, F.newRow]
  repeat (first | refine wpAny_loadPart_at hC ?_ | (refine wpAny_isSubtype_exc hC ?_; rw [hcont]) | refine wpAny_staticBase_exc hC ?_ | refine wpAny_madeBy_exc hC ?_ | simp only [bne_self_eq_false, Bool.false_eq_true, if_false] | wp_step)
  exact hq
theorem rf_check_init {e : Addr} {oe : Obj} {rest : List Value} {Q : Unit → Shared → Prop} (hC : h.get? 60 = some (excClassObj nm q 60 N bs excMro hdct sn sub ab col dd k0 k1 k2 k3 k5 "Exception.__new__"))
    (he : h.get? e = some oe) (hcls : oe.cls = .ref 60) (hq : Q () ⟨h, g, d, t, os⟩) :
    wpAny M A (checkBuiltinCall "Exception.__init__" ⟨.ref e :: rest, []⟩) Q E ⟨h, g, d, t, os⟩ := by
  have F := PySem.F.excBase_Exception
  have hcB : (Value.ref 60 :: excMro).contains (.type "Exception") = true := by decide
  have hshort := F.noStar
  simp only [checkBuiltinCall, F.initKind, F.initSplit, F.initRow]
  repeat (first | (with_reducible refine wpAny_loadPart_at he ?_; rw [hcls]) | with_reducible refine wpAny_loadPart_at hC ?_ | (with_reducible refine wpAny_isSubtype_exc hC ?_; rw [hcB]) | wp_step)
  refine wpAny_onRaise ?_
  rw [show ∀ (a b : String) (n : Nat), Bind.check ⟨.positional, "*", "Exception", .self, [⟨"args", .varPos, false⟩]⟩ a b n (List.map (fun x => x.fst) ({ pos := Value.ref e :: rest } : Args).kw) = pure () from
    fun a b n => check_star_args _ _ _ _ _ _]
  exact wpAny_pure hq
end
section
variable {prog : Program} {w : World} {A : Around} {E : Value → Shared → Prop} {h : Heap} {g : Array GenState} {d : Drawn} {t : Nat} {os : OsState}
variable {nm q : Str} {N : Addr} {bs : List Value} {hdct : Bool} {sn : List Str} {sub : List Value} {ab : Bool} {col : Option Bool} {dd : Option Addr} {k0 k1 k2 k3 k5 : Option Value}
theorem rf_new {R : Result → Shared → Prop} {rest : List Value} (hC : h.get? 60 = some (excClassObj nm q 60 N bs excMro hdct sn sub ab col dd k0 k1 k2 k3 k5 "Exception.__new__"))
    (hq : R (.ok (.ret (.ref (h.objs.size + 1)))) ⟨(h.push { cls := .type "tuple", data := .seq rest.toArray }).push (excObj h.objs.size), g, d, t, os⟩) (hrest : rest.length ≤ sizeLine) :
    codeAny (model prog w) A (.builtin "Exception.__new__" ⟨.ref 60 :: rest, []⟩) R ⟨h, g, d, t, os⟩ := by
  have F := PySem.F.excBase_Exception
  have hends := F.ends
  have hcB : (Value.ref 60 :: excMro).contains (.type "Exception") = true := by decide
  have hcA : (Value.ref 60 :: excMro).contains (.type "AttributeError") = false := by decide
  have hcN : (Value.ref 60 :: excMro).contains (.type "NameError") = false := by decide
  refine codeAny_builtinAt F.entry ?_
  unfold Builtin.«BaseException.__new__»
  refine _root_.PySem.wpAt_bind ?_
  show _root_.PySem.wpAt _ _ _ (stack >>= _) _ _ _
  refine _root_.PySem.wpAt_bind (_root_.PySem.wpAt_stack fun p below => _root_.PySem.wpAt_of_wpAny ?_)
  wp_walk
  refine _root_.PySem.wpAt_of_wpAny ?_
  rw [F.owner]
  repeat (first | with_reducible refine wpAny_madeHere_exc F.canon hC ?_ | with_reducible refine wpAny_loadPart_at hC ?_ | (with_reducible refine wpAny_isSubtype_exc hC ?_; first | rw [hcB] | rw [hcA] | rw [hcN]) | wp_step)
  show R _ _
  rw [Heap.size_push]
  exact hq
theorem rf_type_call {rest : List Value} {Q : Fin → Shared → Prop} (hC : h.get? 60 = some (excClassObj nm q 60 N bs excMro hdct sn sub ab col dd k0 k1 k2 k3 k5 "Exception.__new__"))
    (hlk : ∀ h', (∀ b o, h.get? b = some o → h'.get? b = some o) → Looks (model prog w) h' (typeLookup (.ref 60) "__init__") (some (.ref 37)))
    {oI : Obj} (hfI : h.get? 37 = some oI) (hfc : oI.cls = .type "function")
    (hq : wpAny (model prog w) A (call (.ref 37) (.ref (h.objs.size + 1) :: rest)) (fun r s' => r = .none ∧ Q (.done (.ret (.ref (h.objs.size + 1)))) s') E ⟨(h.push { cls := .type "tuple", data := .seq rest.toArray }).push (excObj h.objs.size), g, d, t, os⟩) (hrest : rest.length ≤ sizeLine) :
    wpAny (model prog w) A (Builtin.«type.__call__» ⟨.ref 60 :: rest, []⟩) Q E ⟨h, g, d, t, os⟩ := by
  have F := PySem.F.excBase_Exception
  repeat (first | with_reducible refine wpAny_loadPart_at hC ?_ | with_reducible refine wpAny_madeBy_exc hC ?_ | wp_step)
  refine codeAny_call_builtin_code (Code.quiet_builtin _ F.quiet) (rf_check_new hC ?_)
  refine rf_new hC ?_ hrest
  show wpAny _ _ _ _ _ _
  have k : ∀ b o, h.get? b = some o → ((h.push { cls := .type "tuple", data := .seq rest.toArray }).push (excObj h.objs.size)).get? b = some o := fun b o e => Heap.get?_push_of_some _ (Heap.get?_push_of_some _ e)
  have hC₁ := k _ _ hC
  have hfI₁ := k _ _ hfI
  have hget : ((h.push { cls := .type "tuple", data := .seq rest.toArray }).push (excObj h.objs.size)).get? (h.objs.size + 1) = some (excObj h.objs.size) := by heap_get
  have hcC : (Value.ref 60 :: excMro).contains (.ref 60) = true := by decide
  unfold isInstance
  repeat (first | with_reducible refine wpAny_loadPart_at hget ?_ | (with_reducible refine wpAny_isSubtype_exc hC₁ ?_; rw [hcC]) | wp_step)
  show wpAny _ _ (typeLookup (.ref 60) _) _ _ _
  refine (hlk _ k).here ?_
  refine wpAny_holding (wpAny_bind ?_)
  unfold bindSpecial
  refine wpAny_bind (wpAny_typeOf (T := "function") ⟨_, hfI₁, hfc⟩ ?_)
  rw [if_pos (by decide)]
  refine wpAny_pure (wpAny_bind (wpAny_mono hq (fun r s' hr => ?_) fun _ _ x => x))
  obtain ⟨rfl, hQ⟩ := hr
  wp_walk
  exact hQ
theorem rf_call {rest : List Value} {Q : Value → Shared → Prop} (hC : h.get? 60 = some (excClassObj nm q 60 N bs excMro hdct sn sub ab col dd k0 k1 k2 k3 k5 "Exception.__new__"))
    (hlk : ∀ h', (∀ b o, h.get? b = some o → h'.get? b = some o) → Looks (model prog w) h' (typeLookup (.ref 60) "__init__") (some (.ref 37)))
    {oI : Obj} (hfI : h.get? 37 = some oI) (hfc : oI.cls = .type "function")
    (hq : wpAny (model prog w) (A.under (.builtin "type.__call__" ⟨.ref 60 :: rest, []⟩)) (call (.ref 37) (.ref (h.objs.size + 1) :: rest)) (fun r s' => r = .none ∧ Q (.ref (h.objs.size + 1)) s') E ⟨(h.push { cls := .type "tuple", data := .seq rest.toArray }).push (excObj h.objs.size), g, d, t, os⟩) (hrest : rest.length ≤ sizeLine) :
    wpAny (model prog w) A (call (.ref 60) rest) Q E ⟨h, g, d, t, os⟩ := by
  have f1 := tc_lookup
  have f2 := tc_bind (.ref 60)
  have hT : (⟨h, g, d, t, os⟩ : Shared).TypeIs (.ref 60) "type" := ⟨_, hC, rfl⟩
  refine wpAny_call (codeAny_of_tree ?_)
  show wpAny _ _ (callAny (.ref 60) _) _ _ _
  repeat (any_goals (first | assumption | with_reducible refine wpAny_loadPart_at hC ?_ | wp_step))
  refine ⟨rfl, ?_⟩
  exact codeAny_call_builtin_at (Code.quiet_builtin _ (by decide +kernel)) entry_typeCall (wpAny_check_type_call_sub hC (rf_type_call hC hlk hfI hfc hq hrest))
end
section
variable {M : Model} {A : Around} {E : Value → Shared → Prop} {env : Env}
variable {nm q : Str} {N : Addr} {bs : List Value} {hdct : Bool} {sn : List Str} {sub : List Value} {ab : Bool} {col : Option Bool} {dd : Option Addr} {k0 k1 k2 k3 k5 : Option Value}
theorem rf_raiseStmt {s : Shared} {x : Sem Value} {Q : Flow → Shared → Prop} (hh : A.handled = none)
    (h : wpAny M A x (fun v s₁ => ∃ e d t sl, v = .ref e ∧ s₁.heap.get? 60 = some (excClassObj nm q 60 N bs excMro hdct sn sub ab col dd k0 k1 k2 k3 k5 "Exception.__new__") ∧
      s₁.heap.get? e = some ⟨.ref 60, d, .fields #[.ref t, .none, .none, .none, .bool false, .none], sl⟩ ∧ E (.ref e) s₁) E s) :
    wpAny M A (raiseStmt env (some x) none) Q E s := by
  have hcB : (Value.ref 60 :: excMro).contains (.type "BaseException") = true := by decide
  unfold raiseStmt
  refine wpAny_bind (wpAny_mono h (fun v s₁ h₁ => ?_) fun _ _ x => x)
  obtain ⟨e, ed, t, sl, rfl, hC, he, hE⟩ := h₁
  obtain ⟨hp, g, d, tk, os⟩ := s₁
  repeat (first | with_reducible refine wpAny_loadPart_at he ?_ | with_reducible refine wpAny_loadPart_at hC ?_ | (with_reducible refine wpAny_isSubtype_exc hC ?_; rw [hcB]) | wp_step)
  exact wpAny_raiseNew_none hh hE
theorem rf_raise {s : Shared} {c : PySem.Expr} {pos : Pos} {Q : Flow → Shared → Prop} (hh : A.handled = none)
    (h : wpAny M A (eval c env) (fun v s₁ => ∃ e d t sl, v = .ref e ∧ s₁.heap.get? 60 = some (excClassObj nm q 60 N bs excMro hdct sn sub ab col dd k0 k1 k2 k3 k5 "Exception.__new__") ∧
      s₁.heap.get? e = some ⟨.ref 60, d, .fields #[.ref t, .none, .none, .none, .bool false, .none], sl⟩ ∧ E (.ref e) s₁) E s) :
    wpAny M A (exec (.Raise (some c) none pos) env) Q E s := by
  rw [arm_exec_Raise]
  refine wpAny_bind (wpAny_standAt (rf_raiseStmt hh (nm := nm) (q := q) (N := N) (bs := bs) (hdct := hdct) (sn := sn) (sub := sub) (ab := ab) (col := col) (dd := dd) (k0 := k0) (k1 := k1) (k2 := k2) (k3 := k3) (k5 := k5) ?_))
  first
    | exact wpAny_bind (wpAny_mono h (fun v s₃ h₃ => wpAny_bind (wpAny_standAt (wpAny_pure h₃))) fun _ _ x => x)
    | exact h
end
section
variable {prog : Program} {w : World} {A : Around} {E : Value → Shared → Prop} {h : Heap} {g : Array GenState} {d : Drawn} {t : Nat} {os : OsState}
variable {nm q : Str} {N : Addr} {bs : List Value} {hdct : Bool} {sn : List Str} {sub : List Value} {ab : Bool} {col : Option Bool} {dd : Option Addr} {k0 k1 k2 k3 k5 : Option Value}
theorem rf_init {e t0 : Addr} {v : Value} {Q : Value → Shared → Prop} (hC : h.get? 60 = some (excClassObj nm q 60 N bs excMro hdct sn sub ab col dd k0 k1 k2 k3 k5 "Exception.__new__")) (he : h.get? e = some (excObj t0))
    (hq : ∀ h', (∀ b o, b ≠ e → h.get? b = some o → h'.get? b = some o) → h'.get? e = some (excObj h.objs.size) → h'.get? h.objs.size = some { cls := .type "tuple", data := .seq [v].toArray } → Q .none ⟨h', g, d, t, os⟩) :
    wpAny (model prog w) A (call (.builtin "Exception.__init__") [.ref e, v]) Q E ⟨h, g, d, t, os⟩ := by
  have F := PySem.F.excBase_Exception
  refine wpAny_call (codeAny_call_builtin F.init.plain F.initEntry (rf_check_init hC he rfl ?_))
  wp_walk
  show Q .none ⟨(h.push { cls := .type "tuple", data := .seq #[v] }).update e (Obj.mapFields fun x => x.setIfInBounds 0 (.ref h.objs.size)), g, d, t, os⟩
  have hlt : e < h.objs.size := Heap.lt_size he
  refine hq _ (fun b o hb ho => ?_) ?_ ?_
  · rw [Heap.get?_update_other _ _ (Ne.symm hb)]
    exact Heap.get?_push_of_some _ ho
  · exact Heap.get?_update_self _ (Heap.get?_push_of_some _ he) rfl
  · rw [Heap.get?_update_other _ _ (Nat.ne_of_lt hlt)]
    exact Heap.get?_push_size _ rfl
end
end
section
open Builtin Builtin.ObjectAttr
section
variable {prog : Program} {w : World} {A : Around} {E : Value → Shared → Prop}
theorem rf_osa {s : Shared} {R : Result → Shared → Prop} {x : Addr} {ox : Obj} {od : Option Obj} {name : Str} {tk : Tok} {v : Value} (X : (Mine.hd.heap_39 w.params).In s.heap) (I : InstAt s.heap x ox 60 od) (ha : findIn (Mine.hd.heap_39 w.params) (.ref 60) name = some none)
    (h : ∀ b, wpAny (model prog w) A.in1 (storeInOwnDict (.ref x) (.ref 60) (.str name tk) name v b)
      (fun fin s' => match fin with | .done f => R (.ok f) s' | .again c' => c'.quiet = true ∧ codeAny (model prog w) A c' R s') (fun e s' => R (.error e) s') s) :
    codeAny (model prog w) A (.call (.builtin "object.__setattr__") ⟨[.ref x, .str name tk, v], []⟩) R s := by
  have SF := PySem.F.store_object
  have sub : Looks (model prog w) s.heap (isInstance (.ref x) (.type "object")) true := I.type.andThen (looks_mroIn X (by k_is))
  refine codeAny_call_builtin SF.slot.plain SF.entry (@check_slot (model prog w) _ _ s "object.__setattr__" "object" "__setattr__" (.ref x) [.str name tk, v] [] _ SF.kind SF.split sub (SF.args (.ref x) (.str name tk) v) ?_)
  have hm : Looks (model prog w) s.heap (mroOf (.ref 60)) (.ref 60 :: excMro) := by
    refine' Looks.andThen (looks_clsIn X ?hc) ?n
    case hc => k_is
    case n => exact .now
  have L3 : Looks (model prog w) s.heap (storeTaker? none) none := .now
  rw [osa_eq, refuse_eq]
  refine wpAny_bind (wpAny_bind (I.type.here (wpAny_bind (hm.here ?_))))
  rw [refuseLoop_ref, refuseLoop_ref, (PySem.F.store_Exception).passes]
  refine wpAny_pure (wpAny_bind (I.type.here (wpAny_bind ((looks_findIn X ha).here (wpAny_bind (L3.here ?_))))))
  exact h _
/-- a store of a new name into a RunFault -/
theorem rf_set {s : Shared} {x : Addr} {d0 : Option Addr} {vs : Array Value} {mA : Str → Option Value} {ns : List Str} {name : Str} {v : Value} {Q : Unit → Shared → Prop} (X : (Mine.hd.heap_39 w.params).In s.heap)
    (hx : s.heap.get? x = some ⟨.ref 60, d0, .fields vs, #[]⟩) (hd0 : (d0 = none ∧ ∀ n, mA n = none) ∨ ∃ d, d0 = some d ∧ d ≠ x ∧ s.heap.Ns1 d mA) (ha : findIn (Mine.hd.heap_39 w.params) (.ref 60) name = some none) (hw : PySem.Within mA ns) (hsz : ns.length ≤ 100)
    (hq : ∀ h' tk' dx, h'.get? x = some ⟨.ref 60, some dx, .fields vs, #[]⟩ → h'.Ns1 dx (fun y => if y = name then some v else mA y) → dx ≠ x → (d0 = none → s.heap.get? dx = none) → (∀ d, d0 = some d → dx = d) →
      (∀ b o, b ≠ x → b ≠ dx → s.heap.get? b = some o → h'.get? b = some o) → Q () { s with heap := h', toks := tk' }) :
    wpAny (model prog w) A (setAttr (.ref x) name v) Q E s := by
  have I : ∃ od, InstAt s.heap x ⟨.ref 60, d0, .fields vs, #[]⟩ 60 od := by
    rcases hd0 with ⟨rfl, _⟩ | ⟨d, rfl, _, o, _, _, ho, _⟩
    · exact ⟨none, hx, rfl, rfl, trivial⟩
    · exact ⟨some o, hx, rfl, rfl, ho⟩
  obtain ⟨od, I⟩ := I
  refine set_plain X I (by k_is) (rf_osa (s := { s with toks := s.toks + 1 }) X I ha fun b => ?_)
  obtain ⟨h, g, d, t, os⟩ := s
  dsimp only at hx hd0 hq ⊢
  unfold storeInOwnDict ownDictForStores instanceDict
  have hcd : ∃ cd, Looks (model prog w) h (classData 60) cd ∧ cd.hasDict = true := by
    refine' ⟨_, looks_clsIn X ?hc, ?hd⟩
    case hc => k_is
    case hd => rfl
  obtain ⟨cd, hL, hdc⟩ := hcd
  refine wpAny_bind (wpAny_pure (wpAny_bind (wpAny_bind (wpAny_loadPart hx (wpAny_bind (hL.here ?_))))))
  rw [hdc]
  rcases hd0 with ⟨rfl, hmA⟩ | ⟨dx, rfl, hne, hns⟩
  · show wpAny _ _ (if (!true || !typeHasDict (.ref 60)) = true then _ else _) _ _ _
    rw [if_neg (by simp [typeHasDict])]
    have hx₁ : (h.push { cls := .type "dict", data := .dict #[] }).get? x = some ⟨.ref 60, none, .fields vs, #[]⟩ := Heap.get?_push_of_some _ hx
    have hxs : x ≠ h.objs.size := Nat.ne_of_lt (Heap.lt_size hx)
    refine wpAny_bind (wpAny_alloc ?_)
    refine wpAny_bind (wpAny_update hx₁ ?_)
    refine wpAny_pure ?_
    have hgd : ((h.push { cls := .type "dict", data := .dict #[] }).update x fun o => { cls := o.cls, dict := some h.objs.size, data := o.data, slots := o.slots }).get? h.objs.size
        = some { cls := .type "dict", data := .dict #[] } :=
      (Heap.get?_update_ne _ _ _ _ hxs.symm).trans (Heap.get?_push_at rfl rfl)
    have hnd : ((h.push { cls := .type "dict", data := .dict #[] }).update x fun o => { cls := o.cls, dict := some h.objs.size, data := o.data, slots := o.slots }).Ns h.objs.size (fun _ => none) :=
      ⟨_, #[], _, hgd, rfl, fun e he => absurd he (by simp), fun _ => rfl⟩
    show wpAny _ _ (storeInDict h.objs.size (.str name t) name v) _ _ _
    unfold storeInDict newKeyGuard
    refine wpAny_bind (wpAny_pure (wpAny_bind (wpAny_nsSet1 (Heap.Ns1.of_empty hnd) fun h' hn' hs => ?_)))
    obtain ⟨oD, esD, epD, hoD, hdD, hcD⟩ := hn'.count (PySem.Within.cons name v PySem.Within.nil)
    refine wpAny_bind (wpAny_lookBehind hoD (by rw [hdD]; exact pastItsLine_dict (Nat.le_trans hcD (by rw [List.length_cons, List.length_nil, sizeLine_eq]; omega))) ?_)
    have hx' : h'.get? x = some ⟨.ref 60, some h.objs.size, .fields vs, #[]⟩ := (hs.2 x hxs).trans (Heap.get?_update_self _ hx₁ rfl)
    refine wpAny_pure (hq h' _ h.objs.size hx' ?_ hxs.symm (fun _ => Heap.get?_none_of_le (Nat.le_refl _)) (fun _ e => nomatch e) fun b o hbx hbd hb => ?_)
    · obtain ⟨o', es, ep, e1, e2, e3, eu, e4⟩ := hn'
      exact ⟨o', es, ep, e1, e2, e3, eu, fun y => by rw [e4 y]; by_cases hy : y = name <;> simp [hy, hmA]⟩
    · exact (hs.2 b hbd).trans ((Heap.get?_update_ne _ _ _ _ hbx).trans (Heap.get?_push_of_some _ hb))
  · refine wpAny_pure ?_
    show wpAny _ _ (storeInDict dx (.str name t) name v) _ _ _
    unfold storeInDict newKeyGuard
    refine wpAny_bind (wpAny_pure (wpAny_bind (wpAny_nsSet1 hns fun h' hn' hs => ?_)))
    obtain ⟨oD, esD, epD, hoD, hdD, hcD⟩ := hn'.count (PySem.Within.cons name v hw)
    refine wpAny_bind (wpAny_lookBehind hoD (by rw [hdD]; exact pastItsLine_dict (Nat.le_trans hcD (by rw [List.length_cons, sizeLine_eq]; omega))) ?_)
    refine wpAny_pure (hq h' _ dx ((hs.2 x hne.symm).trans hx) hn' hne (fun e => nomatch e) (fun d e => (Option.some.inj e)) fun b o hbx hbd hb => (hs.2 b hbd).trans hb)
end
end
section
theorem ext_7 : True := by
  w_top off
  k_with_none
  k_with "own room" => ktr_room
  k_with "own all" => (first
      | assumption
      | exact ne_of_lts (by with_reducible assumption)
      | exact ne_of_all (And.right (by with_reducible assumption))
      | exact ne_of_all (And.right (And.right (by with_reducible assumption)))
      | exact ne_of_all (And.right (And.right (And.right (by with_reducible assumption))))
      | exact ne_of_all (And.right (And.right (And.right (And.right (by with_reducible assumption)))))
      | exact ne_of_all (And.right (And.right (And.right (And.right (And.right (by with_reducible assumption))))))
      | exact ne_of_all (And.right (And.right (And.right (And.right (And.right (And.right (by with_reducible assumption)))))))
      | exact ne_of_all (And.right (And.right (And.right (And.right (And.right (And.right (And.right (by with_reducible assumption)))))))))
  k_with "own sub" => (first
      | (refine' Drop.head ?zzqh; (case zzqh => k_all))
      | (refine' Drop.tail (Or.inr ?zzqa) ?zzqb; (case zzqa => k_cls); (case zzqb => lcg_sub))
      | (refine' Drop.tail (Or.inl ?zzqa) ?zzqb; (case zzqa => k_ne); (case zzqb => lcg_sub)))
  k_with "UnrEnd" => (k_dflt (refine' unr_end ?zzF ?zzN ?zzD ?_; (case zzF => k_asm); (case zzN => k_asm); (case zzD => lcg_sub)))
  k_with "own get" => assumption
  k_with "own mem" => (refine memN ?_; ktr_member)
  k_with "own off" => (first | (with_reducible assumption) | (simp only [LCg.Off3, and_true]; with_reducible assumption))
  k_with "CompEnd" => (refine LCg.CompEnd.intro (by k_asm) (by k_asm) _ (fun _ hp => hp) ?zzoff ?zzsrc ?_; (case zzoff => lcg_off); (case zzsrc => lcg_src))
  k_with "own enter" => (first
      | ktr_enter
      | (refine' code_def ?zzk1 ?zzk2 ?zzk3 ?zzk4 ?zzk5 ?zzkA ?zzkF ?zzkK ?zzk6 ?zzk7 ?zzk8 ?zzk9 ?zzkB ?_ ?zzc2 ?zzc3 ?zzc4 ?zzc5; (case zzkA => exact rfl); (case zzkF => exact rfl); (case zzkK => first | exact rfl | assumption); (case zzk1 => k_asm); (case zzk2 => k_asm); (case zzk3 => k_asm); (case zzk4 => k_asm); (case zzk5 => k_asm); (case zzk6 => k_is); (case zzk7 => k_is); (case zzk8 => ktr_room); (case zzk9 => first | exact BindsTo.of_eq rfl | exact binds_K (by k_in) rfl (by k_is) rfl rfl rfl); (case zzc5 => decide); (case zzkB => exact locs rfl); (case zzc2 => exact rfl); (case zzc3 => exact rfl); (case zzc4 => exact rfl); k_whole; intro zg' zL' zh' zFG' zF' zN' zB' zX' zT'; (try dsimp only); (try k_lift zB'); (try k_fold))
      | (refine' code_defC ?zzk1 ?zzk2 ?zzk3 ?zzk4 ?zzk5 ?zzkA ?zzkF ?zzkK ?zzk6 ?zzk7 ?zzk8 ?zzk9 ?zzkB ?zzkD ?_ ?zzc2 ?zzc3 ?zzc4; (case zzkA => exact rfl); (case zzkF => exact rfl); (case zzkK => first | exact rfl | assumption); (case zzk1 => k_asm); (case zzk2 => k_asm); (case zzk3 => k_asm); (case zzk4 => k_asm); (case zzk5 => k_asm); (case zzk6 => k_is); (case zzk7 => k_is); (case zzk8 => ktr_room); (case zzk9 => exact BindsTo.of_eq rfl); (case zzkB => exact rfl); (case zzkD => decide +kernel); (case zzc2 => exact rfl); (case zzc3 => exact rfl); (case zzc4 => exact rfl); k_whole; intro zg' zL' zh' ztk' zcells' zFG' zF' zN' zY' zB' zX' zT' zl1; (try k_lt zl1); k_cells zY'; (try simp only [List.cons_append, List.nil_append] at zN'); (try dsimp only); (try k_lift zB'); (try k_fold)))
  trivial
theorem meta_exc : typeOf (.type "Exception") = pure (.type "type") := by kernel_rfl
section
variable {prog : Program} {w : World} {A : Around} {E : Value → Shared → Prop} {s : Shared} {h₀ : Heap} {L : Addr} {m : Str → Option Value} {news : List (Addr × Obj)}
theorem fr_but2 {h h' : Heap} {S : Addr → Prop} (F : Fr h₀ L h m) (hk : ∀ b o, ¬ S b → h.get? b = some o → h'.get? b = some o) (hL : ¬ S L) (hI : ∀ b, S b → h₀.get? b = none) : Fr h₀ L h' m :=
  ⟨F.ns.at' fun o e => hk L o hL e, fun b o e => hk b o (fun q => by rw [hI b q] at e; cases e) (F.keep b o e), F.above⟩
theorem rf_callK {v : Value} {Q : Value → Shared → Prop} (F : Fr h₀ L s.heap m) (N : News h₀ L s.heap news) (X : (Mine.hd.heap_39 w.params).In h₀)
    (h : ∀ e t h', Fr h₀ L h' m → News h₀ L h' ((e, excObj t) :: (t, tupOf [v] 0) :: news) → (∀ p ∈ news, p.1 < t) → t < e →
      wpAny (model prog w) (A.under (.builtin "type.__call__" ⟨[.ref 60, v], []⟩)) (call (.ref 37) [.ref e, v]) (fun r s' => r = .none ∧ Q (.ref e) s') E { s with heap := h' }) :
    wpAny (model prog w) A (call (.ref 60) [v]) Q E s := by
  have XS := X.keeps F.keep
  obtain ⟨hp, g, d, tk, os⟩ := s
  refine rf_call (XS _ _ (by k_is)) (fun h' k => looks_findIn (XS.keeps k) (by k_is)) (XS _ _ (by k_is)) rfl ?_ (by rw [sizeLine_eq]; exact Nat.le_of_ble_eq_true rfl)
  have N1 := (N.push F { cls := .type "tuple", data := .seq [v].toArray }).push (F.push _) (excObj hp.objs.size)
  rw [Heap.size_push] at N1
  exact h _ _ _ ((F.push _).push _) N1 (fun p hp => Heap.lt_size (N p hp).1) (Nat.lt_succ_self _)
theorem rf_initK {e t0 : Addr} {v : Value} {g : Obj → List (Addr × Obj)} {Q : Value → Shared → Prop} (F : Fr h₀ L s.heap m) (N : News h₀ L s.heap news) (X : (Mine.hd.heap_39 w.params).In h₀) (U : UpdF e (excObj t0) news g)
    (h : ∀ t' h', Fr h₀ L h' m → News h₀ L h' (g (excObj t')) → Q .none { s with heap := h' }) :
    wpAny (model prog w) A (call (.builtin "Exception.__init__") [.ref e, v]) Q E s := by
  have XS := X.keeps F.keep
  obtain ⟨pre, post, hl, hg, h1, h2⟩ := U.split
  subst hl
  have z := N (e, excObj t0) (List.mem_append.mpr (.inr (.head _)))
  obtain ⟨hp, gg, d, tk, os⟩ := s
  refine rf_init (XS _ _ (by k_is)) z.1 fun h' hk he ht => ?_
  refine h hp.objs.size h' (fr_but2 (S := fun b => b = e) F (fun b o hb => hk b o hb) (fun q => z.2.1 q.symm) (fun b hb => by rw [hb]; exact z.2.2)) ?_
  rw [hg]
  intro p hp'
  rcases List.mem_append.mp hp' with q | q
  · have P := N p (List.mem_append.mpr (.inl q)); exact ⟨hk _ _ (h1 p q) P.1, P.2⟩
  · rcases List.mem_cons.mp q with rfl | q
    · exact ⟨he, z.2⟩
    · have P := N p (List.mem_append.mpr (.inr (.tail _ q))); exact ⟨hk _ _ (h2 p q) P.1, P.2⟩
noncomputable def ExcDict (d0 : Option Addr) (mA : Str → Option Value) (h : Heap) (e : Addr) (h₀ : Heap) (L : Addr) (news : List (Addr × Obj)) : Prop :=
  (d0 = none ∧ ∀ n, mA n = none) ∨ ∃ d, d0 = some d ∧ d ≠ e ∧ h.Ns1 d mA ∧ d ≠ L ∧ h₀.get? d = none ∧ ∀ p ∈ news, p.1 ≠ d
theorem rf_setK {e : Addr} {d0 : Option Addr} {vs : Array Value} {mA : Str → Option Value} {ns : List Str} {name : Str} {v : Value} {g : Obj → List (Addr × Obj)} {Q : Unit → Shared → Prop} (F : Fr h₀ L s.heap m) (N : News h₀ L s.heap news) (X : (Mine.hd.heap_39 w.params).In h₀)
    (U : UpdF e ⟨.ref 60, d0, .fields vs, #[]⟩ news g) (D : ExcDict d0 mA s.heap e h₀ L news) (hw : PySem.Within mA ns) (ha : findIn (Mine.hd.heap_39 w.params) (.ref 60) name = some none) (hsz : ns.length ≤ 100)
    (h : ∀ dx h' tk', Fr h₀ L h' m → News h₀ L h' (g ⟨.ref 60, some dx, .fields vs, #[]⟩) → ExcDict (some dx) (fun y => if y = name then some v else mA y) h' e h₀ L (g ⟨.ref 60, some dx, .fields vs, #[]⟩) → Q () { s with heap := h', toks := tk' }) :
    wpAny (model prog w) A (setAttr (.ref e) name v) Q E s := by
  have XS := X.keeps F.keep
  obtain ⟨pre, post, hl, hg, h1, h2⟩ := U.split
  subst hl
  have z := N (e, ⟨.ref 60, d0, .fields vs, #[]⟩) (List.mem_append.mpr (.inr (.head _)))
  refine rf_set XS z.1 (D.imp id fun ⟨d, a, b, c, _⟩ => ⟨d, a, b, c⟩) ha hw hsz fun h' tk' dx hx hn hne hnew hold hk => ?_
  have hdx : dx ≠ L ∧ h₀.get? dx = none ∧ ∀ p ∈ pre ++ (e, (⟨.ref 60, d0, .fields vs, #[]⟩ : Obj)) :: post, p.1 ≠ dx := by
    rcases D with ⟨d1, _⟩ | ⟨d, d1, _, _, d2, d3, d4⟩
    · have hn0 := hnew d1
      refine ⟨fun q => ?_, ?_, fun p hp q => ?_⟩
      · obtain ⟨o, _, _, ho, _⟩ := F.ns
        rw [← q, hn0] at ho; cases ho
      · cases q : h₀.get? dx with
        | none => rfl
        | some o => have := F.keep _ _ q; rw [hn0] at this; cases this
      · have := (N p hp).1; rw [q, hn0] at this; cases this
    · obtain rfl := hold d d1
      exact ⟨d2, d3, d4⟩
  obtain ⟨k1, k2, k3⟩ := hdx
  have N' : News h₀ L h' (g ⟨.ref 60, some dx, .fields vs, #[]⟩) := by
    rw [hg]
    intro p hp'
    rcases List.mem_append.mp hp' with q | q
    · have P := N p (List.mem_append.mpr (.inl q)); exact ⟨hk _ _ (h1 p q) (k3 p (List.mem_append.mpr (.inl q))) P.1, P.2⟩
    · rcases List.mem_cons.mp q with rfl | q
      · exact ⟨hx, z.2⟩
      · have P := N p (List.mem_append.mpr (.inr (.tail _ q))); exact ⟨hk _ _ (h2 p q) (k3 p (List.mem_append.mpr (.inr (.tail _ q)))) P.1, P.2⟩
  refine h dx h' tk' (fr_but2 (S := fun b => b = e ∨ b = dx) F (fun b o hb => hk b o (fun q => hb (.inl q)) (fun q => hb (.inr q))) (fun q => q.elim (fun q => z.2.1 q.symm) fun q => k1 q.symm) (fun b hb => hb.elim (fun hb => by rw [hb]; exact z.2.2) fun hb => by rw [hb]; exact k2)) N' ?_
  refine .inr ⟨dx, rfl, hne, hn, k1, k2, ?_⟩
  rw [hg]
  intro p hp
  rcases List.mem_append.mp hp with q | q
  · exact k3 p (List.mem_append.mpr (.inl q))
  · rcases List.mem_cons.mp q with rfl | q
    · exact hne.symm
    · exact k3 p (List.mem_append.mpr (.inr (.tail _ q)))
end
theorem depth_under_type {A : Around} {a b : Value} : (A.under (.builtin "type.__call__" ⟨[.ref 60, b], []⟩)).depth = A.depth + 1 := rfl
theorem ext_8 : True := by
  k_with "getMethod type:Exception" => (k_here; refine' method_type ?zzF ?zzX ?zzm (by decide +kernel) ?zze ?zzh ?_; (case zzF => k_asm); (case zzX => k_asm); (case zzm => exact meta_exc); (case zze => k_dflt k_is); (case zzh => k_handed))
  k_with "call builtin:Exception.__init__" => (k_here; k_dflt (refine' rf_initK ?zzF ?zzN ?zzX ?zzU ?_; (case zzF => k_asm); (case zzN => k_asm); (case zzX => k_asm); (case zzU => k_updF); k_whole); intro ztI zhI zF' zN'; (try dsimp only at zN'))
  k_with "setAttr ref" => (k_here; k_dflt (first
      | (refine' rf_setK ?zzF ?zzN ?zzX ?zzU ?zzD ?zzw ?zza ?zzz ?_; (case zzF => k_asm); (case zzN => k_asm); (case zzX => k_asm); (case zzU => k_updF); (case zzD => exact Or.inl ⟨rfl, fun _ => rfl⟩); (case zzw => exact PySem.Within.nil); (case zza => k_is); (case zzz => decide); k_whole)
      | (refine' rf_setK ?zzF ?zzN ?zzX ?zzU ?zzD ?zzw ?zza ?zzz ?_; (case zzF => k_asm); (case zzN => k_asm); (case zzX => k_asm); (case zzU => k_updF); (case zzD => assumption); (case zzw => exact PySem.Within.cons _ _ PySem.Within.nil); (case zza => k_is); (case zzz => decide); k_whole)); intro zdS zhS ztS zF' zN' zdX; (try dsimp only at zN' zdX))
  trivial
theorem rf_made {w : World} {p : Program} {loose : List Str} {mean : ExcName → Option Value} {mg mb : Str → Option Value}
  {dp un : Nat} {gd : Option (List Code)} {cn : Str} {cs : Scope} {a : Addr} {ccd : Value} {cl : List (Str × Addr)} {outer : List Env} {A₀ : Around} {base h₀ : Heap} {L : Addr} {m : Str → Option Value} {news : List (Addr × Obj)} {s : Shared} {Q E : Value → Shared → Prop}
  (B : Below A₀ base outer h₀) (F : Fr h₀ L s.heap m) (X : (Mine.hd.heap_39 w.params).In h₀) (N : News h₀ L s.heap news) (T : Top p loose mean mg mb h₀) (hk : cs.kind = .function) (hd : dp + 20 < recursionLimit) (hu : un + 128 < cLine)
  {v : Value}
  (ret : ∀ e dx t' h' tk, Fr h₀ L h' m → News h₀ L h' ((e, (⟨.ref 60, some dx, .fields #[.ref t', .none, .none, .none, .bool false, .none], #[]⟩ : Obj)) :: news) → (∀ p ∈ news, p.1 ≠ e) → Q (.ref e) { s with heap := h', toks := tk }) :
  wpAny (model PySem.Challenge.rw_pc0123_01.row.prog w) (ktrTop dp un gd cn cs L a ccd cl outer) (call (.ref 60) [v]) Q E s := by
  refine rf_callK F N X ?_
  intro e t h' F' N' l1 l2
  have l3 : ∀ p ∈ news, p.1 < e := fun p hp => Nat.lt_trans (l1 p hp) l2
  have l4 := ltN l2
  refine wpAny_call ?_
  k_dflt k_enter
  k_steps
  refine' ret _ _ _ _ _ ?F ?N (ne_of_lts l3)
  case F => k_asm
  case N =>
    refine News_sub (by k_asm) (fun p hp => ?_)
    rcases List.mem_cons.mp hp with rfl | hp
    · exact .head _
    · exact .tail _ (.tail _ hp)
end
section
theorem ext_9 : True := by
  w_top off
  k_with_none
  k_with "own room" => ktr_room
  k_with "own all" => (first
      | assumption
      | exact ne_of_lts (by with_reducible assumption)
      | exact ne_of_all (And.right (by with_reducible assumption))
      | exact ne_of_all (And.right (And.right (by with_reducible assumption)))
      | exact ne_of_all (And.right (And.right (And.right (by with_reducible assumption))))
      | exact ne_of_all (And.right (And.right (And.right (And.right (by with_reducible assumption)))))
      | exact ne_of_all (And.right (And.right (And.right (And.right (And.right (by with_reducible assumption))))))
      | exact ne_of_all (And.right (And.right (And.right (And.right (And.right (And.right (by with_reducible assumption)))))))
      | exact ne_of_all (And.right (And.right (And.right (And.right (And.right (And.right (And.right (by with_reducible assumption)))))))))
  k_with "own sub" => (first
      | (refine' Drop.head ?zzqh; (case zzqh => k_all))
      | (refine' Drop.tail (Or.inr ?zzqa) ?zzqb; (case zzqa => k_cls); (case zzqb => lcg_sub))
      | (refine' Drop.tail (Or.inl ?zzqa) ?zzqb; (case zzqa => k_ne); (case zzqb => lcg_sub)))
  k_with "UnrEnd" => (k_dflt (refine' unr_end ?zzF ?zzN ?zzD ?_; (case zzF => k_asm); (case zzN => k_asm); (case zzD => lcg_sub)))
  k_with "own get" => assumption
  k_with "own mem" => (refine memN ?_; ktr_member)
  k_with "own off" => (first | (with_reducible assumption) | (simp only [LCg.Off3, and_true]; with_reducible assumption))
  k_with "CompEnd" => (refine LCg.CompEnd.intro (by k_asm) (by k_asm) _ (fun _ hp => hp) ?zzoff ?zzsrc ?_; (case zzoff => lcg_off); (case zzsrc => lcg_src))
  k_with "own enter" => (first
      | ktr_enter
      | (refine' code_def ?zzk1 ?zzk2 ?zzk3 ?zzk4 ?zzk5 ?zzkA ?zzkF ?zzkK ?zzk6 ?zzk7 ?zzk8 ?zzk9 ?zzkB ?_ ?zzc2 ?zzc3 ?zzc4 ?zzc5; (case zzkA => exact rfl); (case zzkF => exact rfl); (case zzkK => first | exact rfl | assumption); (case zzk1 => k_asm); (case zzk2 => k_asm); (case zzk3 => k_asm); (case zzk4 => k_asm); (case zzk5 => k_asm); (case zzk6 => k_is); (case zzk7 => k_is); (case zzk8 => ktr_room); (case zzk9 => first | exact BindsTo.of_eq rfl | exact binds_K (by k_in) rfl (by k_is) rfl rfl rfl); (case zzc5 => decide); (case zzkB => exact locs rfl); (case zzc2 => exact rfl); (case zzc3 => exact rfl); (case zzc4 => exact rfl); k_whole; intro zg' zL' zh' zFG' zF' zN' zB' zX' zT'; (try dsimp only); (try k_lift zB'); (try k_fold))
      | (refine' code_defC ?zzk1 ?zzk2 ?zzk3 ?zzk4 ?zzk5 ?zzkA ?zzkF ?zzkK ?zzk6 ?zzk7 ?zzk8 ?zzk9 ?zzkB ?zzkD ?_ ?zzc2 ?zzc3 ?zzc4; (case zzkA => exact rfl); (case zzkF => exact rfl); (case zzkK => first | exact rfl | assumption); (case zzk1 => k_asm); (case zzk2 => k_asm); (case zzk3 => k_asm); (case zzk4 => k_asm); (case zzk5 => k_asm); (case zzk6 => k_is); (case zzk7 => k_is); (case zzk8 => ktr_room); (case zzk9 => exact BindsTo.of_eq rfl); (case zzkB => exact rfl); (case zzkD => decide +kernel); (case zzc2 => exact rfl); (case zzc3 => exact rfl); (case zzc4 => exact rfl); k_whole; intro zg' zL' zh' ztk' zcells' zFG' zF' zN' zY' zB' zX' zT' zl1; (try k_lt zl1); k_cells zY'; (try simp only [List.cons_append, List.nil_append] at zN'); (try dsimp only); (try k_lift zB'); (try k_fold)))
  trivial
/-- an item's own table, or none -/
noncomputable def OccIn (news : List (Addr × Obj)) (ov : Value) : Option Int → Prop
  | none => ov = .none
  | some high => ∃ o d e n t, ov = .ref o ∧ (o, instObj 89 d) ∈ news ∧ (d, dictOf e n) ∈ news ∧ getL "high" e = some (some (.int high t))
/-- what lives at an item: parent, table, offset, size -/
noncomputable def ItemIn (news : List (Addr × Obj)) (x : Addr) (par : Value) (occ : Option Int) (off size : Int) : Prop :=
  ∃ d e n ov t1 t2 nm t3, (x, instObj 138 d) ∈ news ∧ (d, dictOf e n) ∈ news ∧ getL "parent" e = some (some par) ∧ getL "occurs" e = some (some ov) ∧ OccIn news ov occ ∧
    getL "offset" e = some (some (.int off t1)) ∧ getL "size" e = some (some (.int size t2)) ∧ getL "name" e = some (some (.str nm t3)) ∧ nm.length ≤ 10
theorem OccIn.mono {news news' : List (Addr × Obj)} {ov : Value} {occ : Option Int} (h : OccIn news ov occ) (hs : ∀ p ∈ news, p ∈ news') : OccIn news' ov occ := by
  cases occ with
  | none => exact h
  | some k =>
    obtain ⟨o, d, e, n, t, h1, h2, h3, h4⟩ := h
    exact ⟨o, d, e, n, t, h1, hs _ h2, hs _ h3, h4⟩
theorem ItemIn.mono {news news' : List (Addr × Obj)} {x : Addr} {par : Value} {occ : Option Int} {off size : Int} (h : ItemIn news x par occ off size) (hs : ∀ p ∈ news, p ∈ news') : ItemIn news' x par occ off size := by
  obtain ⟨d, e, n, ov, t1, t2, nm, t3, h1, h2, h3, h4, h5, h6, h7, h8, h9⟩ := h
  exact ⟨d, e, n, ov, t1, t2, nm, t3, hs _ h1, hs _ h2, h3, h4, h5.mono hs, h6, h7, h8, h9⟩
/-- an item with a table: its highest subscript and its size -/
noncomputable def TabIn (news : List (Addr × Obj)) (v : Value) (q : Int × Int) : Prop := ∃ x par off, v = .ref x ∧ ItemIn news x par (some q.1) off q.2
noncomputable def TabsIn (news : List (Addr × Obj)) : List Value → List (Int × Int) → Prop
  | [], [] => True
  | v :: vs, q :: qs => TabIn news v q ∧ TabsIn news vs qs
  | _, _ => False
theorem TabsIn.append {news : List (Addr × Obj)} : ∀ {vs ws : List Value} {os ps : List (Int × Int)}, TabsIn news vs os → TabsIn news ws ps → TabsIn news (vs ++ ws) (os ++ ps)
  | [], _, [], _, _, k => k
  | _ :: _, _, _ :: _, _, h, k => ⟨h.1, TabsIn.append h.2 k⟩
theorem TabsIn.length {news : List (Addr × Obj)} : ∀ {vs : List Value} {os : List (Int × Int)}, TabsIn news vs os → vs.length = os.length
  | [], [], _ => rfl
  | _ :: _, _ :: _, h => by rw [List.length_cons, List.length_cons, TabsIn.length h.2]
theorem TabsIn.mono {news news' : List (Addr × Obj)} (hs : ∀ p ∈ news, p ∈ news') : ∀ {vs : List Value} {os : List (Int × Int)}, TabsIn news vs os → TabsIn news' vs os
  | [], [], _ => trivial
  | _ :: _, _ :: _, ⟨⟨x, par, off, e, h⟩, k⟩ => ⟨⟨x, par, off, e, h.mono hs⟩, TabsIn.mono hs k⟩
/-- the tables among the first items of a line -/
noncomputable def tabOf (q : Option Int × Int) : List (Int × Int) := match q.1 with | none => [] | some k => [(k, q.2)]
noncomputable def tabsUpto (line : List (Option Int × Int)) : Nat → List (Int × Int)
  | 0 => []
  | i + 1 => tabsUpto line i ++ tabOf (line.getD i default)
theorem tab_yes {news : List (Addr × Obj)} {line : List (Option Int × Int)} {i : Nat} {ys : List Value} {x : Addr} {par : Value} {k off z : Int} (h : TabsIn news ys (tabsUpto line i)) (e : line.getD i default = (some k, z)) (hx : ItemIn news x par (some k) off z) :
    TabsIn news (ys ++ [.ref x]) (tabsUpto line (i + 1)) := by
  rw [tabsUpto, e]
  exact TabsIn.append h ⟨⟨x, par, off, rfl, hx⟩, trivial⟩
theorem tab_no {news : List (Addr × Obj)} {line : List (Option Int × Int)} {i : Nat} {ys : List Value} {z : Int} (h : TabsIn news ys (tabsUpto line i)) (e : line.getD i default = (none, z)) :
    TabsIn news ys (tabsUpto line (i + 1)) := by
  rw [tabsUpto, e]
  exact (List.append_nil _).symm ▸ h
theorem off1_ne {D : Addr} : ∀ {l : List (Addr × Obj)}, LCg.Off1 D l → ∀ p ∈ l, p.1 ≠ D
  | [], _, _, h => by cases h
  | _ :: _, ⟨h1, h2⟩, p, h => by
    rcases List.mem_cons.mp h with rfl | h
    · exact h1
    · exact off1_ne h2 p h
theorem ext_10 : True := by
  k_with "CompSrcT" => (refine held ?_)
  trivial
theorem tables1_spec {w : World} {p : Program} {loose : List Str} {mean : ExcName → Option Value} {mg mb : Str → Option Value}
  {dp un : Nat} {gd : Option (List Code)} {cn : Str} {cs : Scope} {a : Addr} {ccd : Value} {cl : List (Str × Addr)} {outer : List Env} {A₀ : Around} {base h₀ : Heap} {L : Addr} {m : Str → Option Value} {news : List (Addr × Obj)} {s : Shared} {Q E : Value → Shared → Prop}
  (B : Below A₀ base outer h₀) (F : Fr h₀ L s.heap m) (X : (Mine.hd.heap_39 w.params).In h₀) (N : News h₀ L s.heap news) (T : Top p loose mean mg mb h₀) (hk : cs.kind = .function) (hd : dp + 20 < recursionLimit) (hu : un + 128 < cLine)
  {x0 : Addr} {q0 : Option Int} {o0 z0 : Int}
  (hx0 : ItemIn news x0 .none q0 o0 z0)
  (ret : ∀ r rs nr h' tks, TabsIn news rs (tabsUpto [(q0, z0)] 1) → (∀ p ∈ news, p.1 ≠ r) → Fr h₀ L h' m → News h₀ L h' ((r, listOf rs.toArray nr) :: news) → Q (.ref r) { s with heap := h', toks := tks }) :
  wpAny (model PySem.Challenge.rw_pc0123_01.row.prog w) (ktrTop dp un gd cn cs L a ccd cl outer) (call (.ref 154) [.ref x0]) Q E s := by
  have g0 := hx0
  obtain ⟨d0, e0, n0, ov0, t10, t20, nm0, t30, hi0, hd0, hp0, ho0, hoc0, hof0, hsz0, hnm0, hln0⟩ := g0
  refine wpAny_call ?_
  k_dflt k_enter
  k_steps
  refine unheld ?_
  refine LCt.CompSrcT.ledger (by rfl) (by k_asm) (by k_asm) (by k_mem) (by first | size_fits | exact Nat.le_of_ble_eq_true rfl) ?_
  intro gZ
  refine compT_run (n := 1) (fun i ys => TabsIn news ys (tabsUpto [(q0, z0)] i)) trivial ?_ ?_
  · intro i ys v I oI C oC D m₂ h tk E' hin hinv hP hC hx F₁ N₁ off ne
    rcases i with _ | i
    · obtain rfl : Value.ref x0 = v := Option.some.inj (by rw [← hP]; rfl)
      cases q0 with
      | none =>
        have hoc : ov0 = .none := hoc0
        subst hoc
        k_steps
        exact tab_no hinv rfl
      | some kk =>
        obtain ⟨o, d, e, nn, t, hov, h2, h3, h4⟩ := hoc0
        subst hov
        k_steps
        exact tab_yes hinv rfl hx0
    · exact absurd hin (by show ¬ (_ : Nat) < _; simp)
  · intro ys hys
    k_steps
    refine' ret _ _ _ _ _ hys ?R ?F ?N
    case F => k_asm
    case N =>
      exact News_sub (by k_asm) (fun p hp => by
        rcases List.mem_cons.mp hp with rfl | hp
        · exact .head _
        · exact List.Mem.tail _ (by repeat (first | exact hp | refine List.Mem.tail _ ?_)))
    case R => refine off1_ne ?_; first | exact (And.right (by with_reducible assumption)) | exact (And.right (And.right (by with_reducible assumption))) | exact (And.right (And.right (And.right (by with_reducible assumption)))) | exact (And.right (And.right (And.right (And.right (by with_reducible assumption))))) | exact (And.right (And.right (And.right (And.right (And.right (by with_reducible assumption)))))) | exact (And.right (And.right (And.right (And.right (And.right (And.right (by with_reducible assumption))))))) | exact (And.right (And.right (And.right (And.right (And.right (And.right (And.right (by with_reducible assumption)))))))) | exact (And.right (And.right (And.right (And.right (And.right (And.right (And.right (And.right (by with_reducible assumption))))))))) | exact (And.right (And.right (And.right (And.right (And.right (And.right (And.right (And.right (And.right (by with_reducible assumption))))))))))
theorem tables2_spec {w : World} {p : Program} {loose : List Str} {mean : ExcName → Option Value} {mg mb : Str → Option Value}
  {dp un : Nat} {gd : Option (List Code)} {cn : Str} {cs : Scope} {a : Addr} {ccd : Value} {cl : List (Str × Addr)} {outer : List Env} {A₀ : Around} {base h₀ : Heap} {L : Addr} {m : Str → Option Value} {news : List (Addr × Obj)} {s : Shared} {Q E : Value → Shared → Prop}
  (B : Below A₀ base outer h₀) (F : Fr h₀ L s.heap m) (X : (Mine.hd.heap_39 w.params).In h₀) (N : News h₀ L s.heap news) (T : Top p loose mean mg mb h₀) (hk : cs.kind = .function) (hd : dp + 20 < recursionLimit) (hu : un + 128 < cLine)
  {x0 x1 : Addr} {q0 q1 : Option Int} {o0 z0 o1 z1 : Int}
  (hx0 : ItemIn news x0 (.ref x1) q0 o0 z0) (hx1 : ItemIn news x1 .none q1 o1 z1)
  (ret : ∀ r rs nr h' tks, TabsIn news rs (tabsUpto [(q1, z1), (q0, z0)] 2) → (∀ p ∈ news, p.1 ≠ r) → Fr h₀ L h' m → News h₀ L h' ((r, listOf rs.toArray nr) :: news) → Q (.ref r) { s with heap := h', toks := tks }) :
  wpAny (model PySem.Challenge.rw_pc0123_01.row.prog w) (ktrTop dp un gd cn cs L a ccd cl outer) (call (.ref 154) [.ref x0]) Q E s := by
  have g0 := hx0
  obtain ⟨d0, e0, n0, ov0, t10, t20, nm0, t30, hi0, hd0, hp0, ho0, hoc0, hof0, hsz0, hnm0, hln0⟩ := g0
  have g1 := hx1
  obtain ⟨d1, e1, n1, ov1, t11, t21, nm1, t31, hi1, hd1, hp1, ho1, hoc1, hof1, hsz1, hnm1, hln1⟩ := g1
  refine wpAny_call ?_
  k_dflt k_enter
  k_steps
  refine unheld ?_
  refine LCt.CompSrcT.ledger (by rfl) (by k_asm) (by k_asm) (by k_mem) (by first | size_fits | exact Nat.le_of_ble_eq_true rfl) ?_
  intro gZ
  refine compT_run (n := 2) (fun i ys => TabsIn news ys (tabsUpto [(q1, z1), (q0, z0)] i)) trivial ?_ ?_
  · intro i ys v I oI C oC D m₂ h tk E' hin hinv hP hC hx F₁ N₁ off ne
    rcases i with _ | _ | i
    · obtain rfl : Value.ref x1 = v := Option.some.inj (by rw [← hP]; rfl)
      cases q1 with
      | none =>
        have hoc : ov1 = .none := hoc1
        subst hoc
        k_steps
        exact tab_no hinv rfl
      | some kk =>
        obtain ⟨o, d, e, nn, t, hov, h2, h3, h4⟩ := hoc1
        subst hov
        k_steps
        exact tab_yes hinv rfl hx1
    · obtain rfl : Value.ref x0 = v := Option.some.inj (by rw [← hP]; rfl)
      cases q0 with
      | none =>
        have hoc : ov0 = .none := hoc0
        subst hoc
        k_steps
        exact tab_no hinv rfl
      | some kk =>
        obtain ⟨o, d, e, nn, t, hov, h2, h3, h4⟩ := hoc0
        subst hov
        k_steps
        exact tab_yes hinv rfl hx0
    · exact absurd hin (by show ¬ (_ : Nat) < _; simp)
  · intro ys hys
    k_steps
    refine' ret _ _ _ _ _ hys ?R ?F ?N
    case F => k_asm
    case N =>
      exact News_sub (by k_asm) (fun p hp => by
        rcases List.mem_cons.mp hp with rfl | hp
        · exact .head _
        · exact List.Mem.tail _ (by repeat (first | exact hp | refine List.Mem.tail _ ?_)))
    case R => refine off1_ne ?_; first | exact (And.right (by with_reducible assumption)) | exact (And.right (And.right (by with_reducible assumption))) | exact (And.right (And.right (And.right (by with_reducible assumption)))) | exact (And.right (And.right (And.right (And.right (by with_reducible assumption))))) | exact (And.right (And.right (And.right (And.right (And.right (by with_reducible assumption)))))) | exact (And.right (And.right (And.right (And.right (And.right (And.right (by with_reducible assumption))))))) | exact (And.right (And.right (And.right (And.right (And.right (And.right (And.right (by with_reducible assumption)))))))) | exact (And.right (And.right (And.right (And.right (And.right (And.right (And.right (And.right (by with_reducible assumption))))))))) | exact (And.right (And.right (And.right (And.right (And.right (And.right (And.right (And.right (And.right (by with_reducible assumption))))))))))
theorem tables3_spec {w : World} {p : Program} {loose : List Str} {mean : ExcName → Option Value} {mg mb : Str → Option Value}
  {dp un : Nat} {gd : Option (List Code)} {cn : Str} {cs : Scope} {a : Addr} {ccd : Value} {cl : List (Str × Addr)} {outer : List Env} {A₀ : Around} {base h₀ : Heap} {L : Addr} {m : Str → Option Value} {news : List (Addr × Obj)} {s : Shared} {Q E : Value → Shared → Prop}
  (B : Below A₀ base outer h₀) (F : Fr h₀ L s.heap m) (X : (Mine.hd.heap_39 w.params).In h₀) (N : News h₀ L s.heap news) (T : Top p loose mean mg mb h₀) (hk : cs.kind = .function) (hd : dp + 20 < recursionLimit) (hu : un + 128 < cLine)
  {x0 x1 x2 : Addr} {q0 q1 q2 : Option Int} {o0 z0 o1 z1 o2 z2 : Int}
  (hx0 : ItemIn news x0 (.ref x1) q0 o0 z0) (hx1 : ItemIn news x1 (.ref x2) q1 o1 z1) (hx2 : ItemIn news x2 .none q2 o2 z2)
  (ret : ∀ r rs nr h' tks, TabsIn news rs (tabsUpto [(q2, z2), (q1, z1), (q0, z0)] 3) → (∀ p ∈ news, p.1 ≠ r) → Fr h₀ L h' m → News h₀ L h' ((r, listOf rs.toArray nr) :: news) → Q (.ref r) { s with heap := h', toks := tks }) :
  wpAny (model PySem.Challenge.rw_pc0123_01.row.prog w) (ktrTop dp un gd cn cs L a ccd cl outer) (call (.ref 154) [.ref x0]) Q E s := by
  have g0 := hx0
  obtain ⟨d0, e0, n0, ov0, t10, t20, nm0, t30, hi0, hd0, hp0, ho0, hoc0, hof0, hsz0, hnm0, hln0⟩ := g0
  have g1 := hx1
  obtain ⟨d1, e1, n1, ov1, t11, t21, nm1, t31, hi1, hd1, hp1, ho1, hoc1, hof1, hsz1, hnm1, hln1⟩ := g1
  have g2 := hx2
  obtain ⟨d2, e2, n2, ov2, t12, t22, nm2, t32, hi2, hd2, hp2, ho2, hoc2, hof2, hsz2, hnm2, hln2⟩ := g2
  refine wpAny_call ?_
  k_dflt k_enter
  k_steps
  refine unheld ?_
  refine LCt.CompSrcT.ledger (by rfl) (by k_asm) (by k_asm) (by k_mem) (by first | size_fits | exact Nat.le_of_ble_eq_true rfl) ?_
  intro gZ
  refine compT_run (n := 3) (fun i ys => TabsIn news ys (tabsUpto [(q2, z2), (q1, z1), (q0, z0)] i)) trivial ?_ ?_
  · intro i ys v I oI C oC D m₂ h tk E' hin hinv hP hC hx F₁ N₁ off ne
    rcases i with _ | _ | _ | i
    · obtain rfl : Value.ref x2 = v := Option.some.inj (by rw [← hP]; rfl)
      cases q2 with
      | none =>
        have hoc : ov2 = .none := hoc2
        subst hoc
        k_steps
        exact tab_no hinv rfl
      | some kk =>
        obtain ⟨o, d, e, nn, t, hov, h2, h3, h4⟩ := hoc2
        subst hov
        k_steps
        exact tab_yes hinv rfl hx2
    · obtain rfl : Value.ref x1 = v := Option.some.inj (by rw [← hP]; rfl)
      cases q1 with
      | none =>
        have hoc : ov1 = .none := hoc1
        subst hoc
        k_steps
        exact tab_no hinv rfl
      | some kk =>
        obtain ⟨o, d, e, nn, t, hov, h2, h3, h4⟩ := hoc1
        subst hov
        k_steps
        exact tab_yes hinv rfl hx1
    · obtain rfl : Value.ref x0 = v := Option.some.inj (by rw [← hP]; rfl)
      cases q0 with
      | none =>
        have hoc : ov0 = .none := hoc0
        subst hoc
        k_steps
        exact tab_no hinv rfl
      | some kk =>
        obtain ⟨o, d, e, nn, t, hov, h2, h3, h4⟩ := hoc0
        subst hov
        k_steps
        exact tab_yes hinv rfl hx0
    · exact absurd hin (by show ¬ (_ : Nat) < _; simp)
  · intro ys hys
    k_steps
    refine' ret _ _ _ _ _ hys ?R ?F ?N
    case F => k_asm
    case N =>
      exact News_sub (by k_asm) (fun p hp => by
        rcases List.mem_cons.mp hp with rfl | hp
        · exact .head _
        · exact List.Mem.tail _ (by repeat (first | exact hp | refine List.Mem.tail _ ?_)))
    case R => refine off1_ne ?_; first | exact (And.right (by with_reducible assumption)) | exact (And.right (And.right (by with_reducible assumption))) | exact (And.right (And.right (And.right (by with_reducible assumption)))) | exact (And.right (And.right (And.right (And.right (by with_reducible assumption))))) | exact (And.right (And.right (And.right (And.right (And.right (by with_reducible assumption)))))) | exact (And.right (And.right (And.right (And.right (And.right (And.right (by with_reducible assumption))))))) | exact (And.right (And.right (And.right (And.right (And.right (And.right (And.right (by with_reducible assumption)))))))) | exact (And.right (And.right (And.right (And.right (And.right (And.right (And.right (And.right (by with_reducible assumption))))))))) | exact (And.right (And.right (And.right (And.right (And.right (And.right (And.right (And.right (And.right (by with_reducible assumption))))))))))
/-- the items around an item, the item itself ahead -/
noncomputable def LineIn (news : List (Addr × Obj)) : Addr → List (Option Int × Int) → Prop
  | _, [] => False
  | x, [q] => ∃ o, ItemIn news x .none q.1 o q.2
  | x, q :: q' :: r => ∃ x' o, ItemIn news x (.ref x') q.1 o q.2 ∧ LineIn news x' (q' :: r)
theorem LineIn.mono {news news' : List (Addr × Obj)} (hs : ∀ p ∈ news, p ∈ news') : ∀ {x : Addr} {l : List (Option Int × Int)}, LineIn news x l → LineIn news' x l
  | _, [_], ⟨o, h⟩ => ⟨o, h.mono hs⟩
  | _, _ :: _ :: _, ⟨x', o, h, k⟩ => ⟨x', o, h.mono hs, LineIn.mono hs k⟩
theorem tables_spec {w : World} {p : Program} {loose : List Str} {mean : ExcName → Option Value} {mg mb : Str → Option Value}
  {dp un : Nat} {gd : Option (List Code)} {cn : Str} {cs : Scope} {a : Addr} {ccd : Value} {cl : List (Str × Addr)} {outer : List Env} {A₀ : Around} {base h₀ : Heap} {L : Addr} {m : Str → Option Value} {news : List (Addr × Obj)} {s : Shared} {Q E : Value → Shared → Prop}
  (B : Below A₀ base outer h₀) (F : Fr h₀ L s.heap m) (X : (Mine.hd.heap_39 w.params).In h₀) (N : News h₀ L s.heap news) (T : Top p loose mean mg mb h₀) (hk : cs.kind = .function) (hd : dp + 20 < recursionLimit) (hu : un + 128 < cLine)
  {x : Addr} {line : List (Option Int × Int)} (hl : LineIn news x line) (h3 : line.length ≤ 3)
  (ret : ∀ r rs nr h' tks, TabsIn news rs (tabsUpto line.reverse line.length) → (∀ p ∈ news, p.1 ≠ r) → Fr h₀ L h' m → News h₀ L h' ((r, listOf rs.toArray nr) :: news) → Q (.ref r) { s with heap := h', toks := tks }) :
  wpAny (model PySem.Challenge.rw_pc0123_01.row.prog w) (ktrTop dp un gd cn cs L a ccd cl outer) (call (.ref 154) [.ref x]) Q E s := by
  match line, hl, h3, ret with
  | [_], ⟨_, h⟩, _, ret => exact tables1_spec B F X N T hk hd hu h ret
  | [_, _], ⟨_, _, h, _, h2⟩, _, ret => exact tables2_spec B F X N T hk hd hu h h2 ret
  | [_, _, _], ⟨_, _, h, _, _, h2, _, h3⟩, _, ret => exact tables3_spec B F X N T hk hd hu h h2 h3 ret
  | _ :: _ :: _ :: _ :: _, _, h3, _ => simp at h3
end
section
section
variable {M : Model} {A : Around} {E : Value → Shared → Prop} {s' : Shared} {base g : Heap} {outer : List Env} {L a e : Addr} {m : Str → Option Value} {name : Str} {scope : Scope} {cd : Value} {Q : Unit → Shared → Prop} {news : List (Addr × Obj)}
/-- an exception just made, with or without a dict, leaves the frame that raised it -/
theorem leave_ownS {oe : Obj} {vs : Array Value} {tp : Value} (K : Below A base outer g) (F : Fr g L s'.heap m) (N : News g L s'.heap ((e, oe) :: news)) (hne : ∀ p ∈ news, p.1 ≠ e)
    (hd : oe.data = .fields vs) (h1 : vs[1]? = some .none) (h0 : vs[0]? = some tp)
    (hQ : ∀ h', RaisedSN base g outer e oe.cls news h' → g.UpToSlots h' → Q () { s' with heap := h' }) (hk : scope.kind = .function := by rfl) :
    wpAny M (A.deeper (envOf name scope L a cd)) (leaving (envOf name scope L a cd) (.ref e)) Q E s' := by
  have K' := K.push (name := name) (a := a) (cd := cd) F hk
  have Ne := N _ (List.Mem.head _)
  have N' : News g L s'.heap news := fun q hq => N q (List.Mem.tail _ hq)
  have hin : ∀ env ∈ (envOf name scope L a cd :: outer), ∀ b, env.frame = some b → b ∈ e :: (envOf name scope L a cd :: outer).filterMap (·.frame) := fun env he b hb => List.Mem.tail _ (List.mem_filterMap.mpr ⟨env, he, hb⟩)
  have st : base.StaysIn (hideAll s'.heap (e :: (envOf name scope L a cd :: outer).filterMap (·.frame))) := fun b o q => hideAll_get _ (K'.stays b o q) fun hm => by
    rcases List.mem_cons.mp hm with z | hm
    · rw [z, fresh_of_stays K.stays Ne.2.2] at q; cases q
    · rw [(K'.frames.mem hm).1] at q; cases q
  have sg : ∀ b o, g.get? b = some o → b ∉ outer.filterMap (·.frame) → (hideAll s'.heap (e :: (envOf name scope L a cd :: outer).filterMap (·.frame))).get? b = some o := fun b o q nm => hideAll_get _ (F.keep b o q) fun hm => by
    rcases List.mem_cons.mp hm with z | hm
    · have z2 := Ne.2.2
      dsimp only at z2
      rw [z, z2] at q; cases q
    · rcases kts_mem hm with z | z
      · rw [z, kts_self F] at q
        cases q
      · exact nm z
  have hl : ∀ q ∈ news, (hideAll s'.heap (e :: (envOf name scope L a cd :: outer).filterMap (·.frame))).get? q.1 = some q.2 ∧ g.get? q.1 = none ∧ base.get? q.1 = none := fun q hq => by
    refine ⟨hideAll_get _ (N' q hq).1 fun hm => ?_, (N' q hq).2.2, fresh_of_stays K.stays (N' q hq).2.2⟩
    rcases List.mem_cons.mp hm with z | hm
    · exact hne q hq z
    obtain ⟨env, he, hf⟩ := List.mem_filterMap.mp hm
    rcases List.mem_cons.mp he with rfl | he
    · exact (N' q hq).2.1 (Option.some.inj hf).symm
    · obtain ⟨o, ho, _⟩ := (K.frames.mem (List.mem_filterMap.mpr ⟨env, he, hf⟩)).2
      rw [(N' q hq).2.2] at ho; cases ho
  have hen : (hideAll s'.heap (e :: (envOf name scope L a cd :: outer).filterMap (·.frame))).get? e = none := hideAll_none _ (List.Mem.head _)
  refine wpAny_leaving_firstW (a0 := tp) K'.stack (funFrames_hide K'.frames hin) rfl Ne.1 (fun b o hb => of_hideAll _ hb) hen hd h1 h0 fun h' hL => ?_
  obtain ⟨k1, ⟨_, _, k2⟩, k3, k4⟩ := hL
  exact hQ h' ⟨_, tp, st, sg, hl, k1, hen, k2, k3⟩ ((Heap.UpToSlots.of_keeps F.keep).trans k4)
end
section
variable {prog : Program} {w : World} {A₀ : Around} {E : Value → Shared → Prop} {s' : Shared} {base g g₀ G : Heap} {outer : List Env} {L a e C : Addr} {m : Str → Option Value} {name : Str} {scope : Scope} {cd : Value}
  {n : Str} {b₀ : Stmt} {suite : List Stmt} {pos np : Pos} {rest : List ExceptHandler} {Q : Flow → Shared → Prop} {news : List (Addr × Obj)} {KF : Frag}
  {p : Program} {loose : List Str} {mean : ExcName → Option Value} {mg mb : Str → Option Value} {x : Str} {X T' : String}
theorem caught_SNO0 (R : RaisedSN base G (envOf name scope L a cd :: outer) e (.ref C) news s'.heap) (F : Fr g L G m) (K : Below A₀ base outer g) (hsm : G.UpToSlots s'.heap) (XB : KF.In base) (TB : Top p loose mean mg mb base)
    (D : KtsDicts (outer.filterMap (·.frame)) g) (T0 : KtsTurn (outer.filterMap (·.frame)) g₀ g)
    (ex : nsIn KF mainGlobals x = some (some (.ref C)))
    (hcls : ∀ h : Heap, KF.In h → ∃ nm qn N bs bm hdct sn sub ab col dd k0 k1 k2 k3 k5 newId, h.get? C = some (excClassObj nm qn C N bs bm hdct sn sub ab col dd k0 k1 k2 k3 k5 newId) ∧ bm.contains (.type "BaseException") = true)
    (k : ∀ h' g', KtsTurn (outer.filterMap (·.frame)) g₀ g' → Fr g' L h' m → News g' L h' news → Below A₀ base outer g' → KF.In g' → Top p loose mean mg mb g' → KtsDicts (outer.filterMap (·.frame)) g' →
      wpAny (model prog w) ((A₀.deeper (envOf name scope L a cd)).mark (some (.ref e))) (execs (b₀ :: suite) (envOf name scope L a cd)) Q E { s' with heap := h' })
    (hk : scope.kind = .function := by rfl) (hx : (envOf name scope L a cd).kindOf x = some .globalImplicit := by rfl) (hd : (x == ("__debug__" : Str)) = false := by decide)
    (hE : PassesOwnAt (model prog w) ((A₀.deeper (envOf name scope L a cd)).mark (some (.ref e))) (A₀.deeper (envOf name scope L a cd)) (envOf name scope L a cd) E := by passes_own) :
    wpAny (model prog w) (A₀.deeper (envOf name scope L a cd)) (noteFrame (.ref e) (envOf name scope L a cd))
      (fun _ s₂ => wpAny (model prog w) (A₀.deeper (envOf name scope L a cd)) (setFlight (.ref e) none) (fun _ s₃ =>
        wpAny (model prog w) (A₀.deeper (envOf name scope L a cd)) (handleBy (.ref e) (envOf name scope L a cd) (.ExceptHandler (some (.Name x np)) none (b₀ :: suite) pos :: rest)) Q E s₃) E s₂) E s' := by
  obtain ⟨B, a0, hB, hBG, hl, hfl⟩ := R
  have hL : B.get? L = none := by
    obtain ⟨_, ⟨L', _, hf, hn', _⟩, _⟩ := hfl.2.2.1
    obtain rfl : L = L' := Option.some.inj hf
    exact hn'
  refine wpAny_looks_onW (Around.frames_deeper K.stack) rfl hfl fun h₄ hheld₄ hsm₄ => ?_
  refine wpAny_landsW hheld₄ fun h₅ hheld hsm₅' => ?_
  have hsm₅ := hsm₄.trans hsm₅'
  obtain ⟨g₅, T₅, F₅, K₅⟩ := kts_ground K F hBG hheld.1 (hsm.trans hsm₅)
  have X₅ : KF.In g₅ := XB.keeps K₅.stays
  have P₅ : TopRead p loose mg mb g₅ := topRead_of (TB.keeps K₅.stays)
  obtain ⟨ob, hob, hobc⟩ := hheld.there
  obtain ⟨nm, q', N, bs, bm, hdct, sn, sub, ab, col, dd, k0, k1, k2, k3, k5, newId, hC, hbase⟩ := hcls _ X₅
  have hC₅ := F₅.keep _ _ hC
  refine wpAny_handleBy_cons (codeAny_handlers_test (name_K F₅ X₅ P₅ ex ?_ hk hx hd)) (by intro q; cases q)
  refine wpAny_excMatches_sub_self hC₅ hob hobc hbase (codeAny_handlers_suite ?_)
  refine lands_againW hheld fun h₆ hfl₆ hsm₆ => ?_
  obtain ⟨g₆, T₆, F₆, K₆⟩ := kts_ground K F hBG hfl₆.1 ((hsm.trans hsm₅).trans hsm₆)
  have Nl : News g₆ L h₆ news := fun q hq => ⟨hfl₆.1 _ _ (hl q hq).1, (fun z => by have := (hl q hq).1; rw [z, hL] at this; cases this), T₆.none_ _ (kts_none F.keep (hl q hq).2.1)⟩
  have X₆ : KF.In g₆ := XB.keeps K₆.stays
  have P₆ : Top p loose mean mg mb g₆ := TB.keeps K₆.stays
  have D₆ : KtsDicts (outer.filterMap (·.frame)) g₆ := D.turn T₆
  exact wpAny_passesOwnAt hE (k h₆ g₆ (T0.trans T₆) F₆ Nl K₆ X₆ P₆ D₆)
end
theorem kts_memX {env : Env} {L b : Addr} {outer : List Env} (hf' : env.frame = some L) (hm : b ∈ (env :: outer).filterMap (·.frame)) : b = L ∨ b ∈ outer.filterMap (·.frame) := by
  obtain ⟨env', he, hf⟩ := List.mem_filterMap.mp hm
  rcases List.mem_cons.mp he with rfl | he
  · exact .inl (Option.some.inj (hf'.symm.trans hf)).symm
  · exact .inr (List.mem_filterMap.mpr ⟨env', he, hf⟩)
section
variable {prog : Program} {w : World} {A₀ A : Around} {s : Shared} {base h₀ g₀ : Heap} {outer : List Env} {L : Addr} {m : Str → Option Value} {env : Env} {news : List (Addr × Obj)} {K : Frag} {p : Program} {loose : List Str} {mean : ExcName → Option Value} {mg mb : Str → Option Value}
    {R : Result → Shared → Prop} {name qual : Str} {params : Arguments} {body : List Stmt} {scope : Scope} {dV kV doc pm cdv ct oc : Value} {an od : Option Addr} {osl : Array (Option Value)} {f : Addr} {args : Args} {binds : List (Str × Value)}
theorem kts_enterX (B : Below A₀ base outer h₀) (F : Fr h₀ L s.heap m) (N : News h₀ L s.heap news) (hA : A.frames = some (env :: outer)) (hf0 : env.frame = some L) (hck : env.scope.kind = .function) :
    ∃ oL es ep, (hideAll s.heap (news.map (·.1))).get? L = some oL ∧ oL.data = .dict es ep ∧ (∀ h', h'.get? L = some oL → Heap.Ns h' L m) ∧ (∀ (sl : Array (Option Value)) h', h'.get? L = some { oL with slots := sl } → Heap.Ns h' L m) ∧
      h₀.StaysIn (hideAll s.heap (news.map (·.1))) ∧ Below A base (env :: outer) (hideAll s.heap (news.map (·.1))) := by
  have nm : ∀ b o, h₀.get? b = some o → b ∉ news.map (·.1) := fun b o e q => by
    obtain ⟨p, hp, rfl⟩ := List.mem_map.mp q
    rw [(N p hp).2.2] at e; cases e
  have st : h₀.StaysIn (hideAll s.heap (news.map (·.1))) := fun b o e => hideAll_get _ (F.keep b o e) (nm b o e)
  obtain ⟨oL, es, ep, hL, hLd, hLk, hLf⟩ := F.ns
  have nL : L ∉ news.map (·.1) := fun q => by
    obtain ⟨p, hp, e⟩ := List.mem_map.mp q
    exact (N p hp).2.1 e
  have hLg := hideAll_get (news.map (·.1)) hL nL
  have B₁ := pushX B F hf0 hck
  exact ⟨oL, es, ep, hLg, hLd, fun h' e => ⟨oL, es, ep, e, hLd, hLk, hLf⟩, fun sl h' e => ⟨_, es, ep, e, hLd, hLk, hLf⟩, st, ⟨hA, fun b o e => st b o (B.stays b o e), funFrames_hideAll B₁.frames fun env' he b hb hf => by
    cases he with
    | head => exact nL ((Option.some.inj (hf0.symm.trans hf) : L = b) ▸ hb)
    | tail _ he =>
      obtain ⟨L₁, o₁, hf₁, ho₁⟩ := funFrames_in B.frames env' he
      rw [hf₁] at hf
      exact nm L₁ o₁ ho₁ ((Option.some.inj hf : L₁ = b) ▸ hb)⟩⟩
theorem code_defX (B : Below A₀ base [] h₀) (F : Fr h₀ L s.heap m) (X₀ : K.In h₀) (N : News h₀ L s.heap news) (T : Top p loose mean mg mb h₀) (hA : A.frames = some [env]) (hf0 : env.frame = some L) (hck : env.scope.kind = .function)
    (ho : K.lookup f = some ⟨oc, od, .func (fnOf name qual params body scope dV kV doc pm an cdv ct), osl⟩) (hcd : codeIn K cdv qual = true) (hroom : A.depth < recursionLimit)
    (hbind : BindsTo s (fnOf name qual params body scope dV kV doc pm an cdv ct) args binds) (hloc : ∀ y ∈ binds, scope.names.lookup y.1 = some .local)
    (h : ∀ g L' h₁, Fr h₀ L g m → Fr g L' h₁ (fun y => binds.reverse.lookup y) → News g L' h₁ news → Below A base [env] g → K.In g → Top p loose mean mg mb g → KtsDicts ([env].filterMap (·.frame)) g →
      wpAny (model prog w) (A.deeper (envOf qual scope L' f cdv)) (execs body (envOf qual scope L' f cdv))
        (fun fl s' => LeaveS0 ([env].filterMap (·.frame)) h₀ L m g R (match fl with | .ret v => v | _ => .none) s')
        (fun e s' => wpAny (model prog w) (A.deeper (envOf qual scope L' f cdv)) (leaving (envOf qual scope L' f cdv) e) (fun _ s'' => R (.error e) s'') (fun e' s'' => R (.error e') s'') s')
        { s with heap := h₁, toks := s.toks + binds.length })
    (hco : scope.isCoroutine = false) (hgen : scope.isGenerator = false) (hk : scope.kind = .function)
    (hcell : ∀ x ∈ scope.names, x.2 ≠ .cell) : codeAny (model prog w) A (.call (.ref f) args) R s := by
  have X := X₀.keeps F.keep
  refine codeAny_call_def (fd := fnOf name qual params body scope dV kV doc pm an cdv ct) (body := body) (binds := binds) hroom (X _ _ ho) rfl (T.nolimit.keeps F.keep) (codeRec_of X hcd) rfl hbind hcell hloc (fun h₁ hns hk₁ => ?_) hco hgen hk
  obtain ⟨oL, es, ep, hLg, hLd, hN, hNs, st, B₂⟩ := kts_enterX B F N hA hf0 hck
  refine wpAny_mono (h _ s.heap.objs.size h₁ ⟨hN _ hLg, st, F.above⟩ ⟨hns, fun b o e => hk₁ b o (of_hideAll _ e), Nat.le_of_eq (hideAll_size _ _)⟩
    (fun p hp => ⟨hk₁ _ _ (N p hp).1, Nat.ne_of_lt (Heap.lt_size (N p hp).1), hideAll_none _ (List.mem_map_of_mem hp)⟩) B₂ (X₀.keeps st) (T.keeps st) (fun b hb => by
      rcases kts_memX hf0 hb with rfl | z
      · exact ⟨oL, es, ep, hLg, hLd⟩
      · simp at z)) (fun fl s' hl => ?_) fun _ _ y => y
  obtain ⟨g', L', m', news', T', F', N', k⟩ := hl
  have nL₀ : h₀.get? L = none := kts_self F
  obtain ⟨sl, hs⟩ := T'.up hLg
  refine k ⟨hNs sl _ (F'.keep _ _ hs), fun b o e => F'.keep b o (T'.other b o (st b o e) (fun q => by
    rcases kts_memX hf0 q with z | z
    · rw [z, nL₀] at e
      cases e
    · simp at z)), F.above⟩ fun p hp => ⟨(N' p hp).1, fun q => ?_, ?_⟩
  · have := (N' p hp).2.2; rw [q, hs] at this; cases this
  · cases q : h₀.get? p.1 with
    | none => rfl
    | some o =>
      obtain ⟨sl', hs'⟩ := T'.up (st _ _ q)
      have := (N' p hp).2.2
      rw [hs'] at this
      cases this
end
end
section
theorem ext_11 : True := by
  w_top off
  k_with_none
  k_with "own room" => ktr_room
  k_with "own all" => (first
      | assumption
      | exact ne_of_lts (by with_reducible assumption)
      | exact ne_of_all (And.right (by with_reducible assumption))
      | exact ne_of_all (And.right (And.right (by with_reducible assumption)))
      | exact ne_of_all (And.right (And.right (And.right (by with_reducible assumption))))
      | exact ne_of_all (And.right (And.right (And.right (And.right (by with_reducible assumption)))))
      | exact ne_of_all (And.right (And.right (And.right (And.right (And.right (by with_reducible assumption))))))
      | exact ne_of_all (And.right (And.right (And.right (And.right (And.right (And.right (by with_reducible assumption)))))))
      | exact ne_of_all (And.right (And.right (And.right (And.right (And.right (And.right (And.right (by with_reducible assumption)))))))))
  k_with "own sub" => (first
      | (refine' Drop.head ?zzqh; (case zzqh => k_all))
      | (refine' Drop.tail (Or.inr ?zzqa) ?zzqb; (case zzqa => k_cls); (case zzqb => lcg_sub))
      | (refine' Drop.tail (Or.inl ?zzqa) ?zzqb; (case zzqa => k_ne); (case zzqb => lcg_sub)))
  k_with "UnrEnd" => (k_dflt (refine' unr_end ?zzF ?zzN ?zzD ?_; (case zzF => k_asm); (case zzN => k_asm); (case zzD => lcg_sub)))
  k_with "own get" => assumption
  k_with "own mem" => (refine memN ?_; ktr_member)
  k_with "own off" => (first | (with_reducible assumption) | (simp only [LCg.Off3, and_true]; with_reducible assumption))
  k_with "CompEnd" => (refine LCg.CompEnd.intro (by k_asm) (by k_asm) _ (fun _ hp => hp) ?zzoff ?zzsrc ?_; (case zzoff => lcg_off); (case zzsrc => lcg_src))
  k_with "own enter" => (first
      | ktr_enter
      | (refine' code_def ?zzk1 ?zzk2 ?zzk3 ?zzk4 ?zzk5 ?zzkA ?zzkF ?zzkK ?zzk6 ?zzk7 ?zzk8 ?zzk9 ?zzkB ?_ ?zzc2 ?zzc3 ?zzc4 ?zzc5; (case zzkA => exact rfl); (case zzkF => exact rfl); (case zzkK => first | exact rfl | assumption); (case zzk1 => k_asm); (case zzk2 => k_asm); (case zzk3 => k_asm); (case zzk4 => k_asm); (case zzk5 => k_asm); (case zzk6 => k_is); (case zzk7 => k_is); (case zzk8 => ktr_room); (case zzk9 => first | exact BindsTo.of_eq rfl | exact binds_K (by k_in) rfl (by k_is) rfl rfl rfl); (case zzc5 => decide); (case zzkB => exact locs rfl); (case zzc2 => exact rfl); (case zzc3 => exact rfl); (case zzc4 => exact rfl); k_whole; intro zg' zL' zh' zFG' zF' zN' zB' zX' zT'; (try dsimp only); (try k_lift zB'); (try k_fold))
      | (refine' code_defC ?zzk1 ?zzk2 ?zzk3 ?zzk4 ?zzk5 ?zzkA ?zzkF ?zzkK ?zzk6 ?zzk7 ?zzk8 ?zzk9 ?zzkB ?zzkD ?_ ?zzc2 ?zzc3 ?zzc4; (case zzkA => exact rfl); (case zzkF => exact rfl); (case zzkK => first | exact rfl | assumption); (case zzk1 => k_asm); (case zzk2 => k_asm); (case zzk3 => k_asm); (case zzk4 => k_asm); (case zzk5 => k_asm); (case zzk6 => k_is); (case zzk7 => k_is); (case zzk8 => ktr_room); (case zzk9 => exact BindsTo.of_eq rfl); (case zzkB => exact rfl); (case zzkD => decide +kernel); (case zzc2 => exact rfl); (case zzc3 => exact rfl); (case zzc4 => exact rfl); k_whole; intro zg' zL' zh' ztk' zcells' zFG' zF' zN' zY' zB' zX' zT' zl1; (try k_lt zl1); k_cells zY'; (try simp only [List.cons_append, List.nil_append] at zN'); (try dsimp only); (try k_lift zB'); (try k_fold)))
  trivial
section
variable {prog : Program} {w : World} {A : Around} {E : Value → Shared → Prop} {s : Shared} {env : Env} {h₀ : Heap} {target : PySem.Expr} {body : List Stmt} {Q : Flow → Shared → Prop}
/-- a loop over a zip of two lists, one name that grows -/
theorem zip_run (x1 x2 acc : Str) (J : List Value → List Value → Value → Prop) {I : Nat} {keep news : List (Addr × Obj)} {m₀ : Str → Option Value} (hI : ∀ p ∈ news, p.1 < I) (hk : SubL keep news)
    (turn : ∀ x xs y ys v (a : Str → Option Value) (T : Addr) h tk o1 o2 o3 o4 o5, J (x :: xs) (y :: ys) v → IsTup h T #[x, y] → Fr h₀ env.locals h (fun z => if z = acc then some v else if z = x1 then a z else if z = x2 then a z else m₀ z) →
      (∀ p ∈ news, p.1 < I) → News h₀ env.locals h (((I + 4 : Nat), o1) :: ((I + 2 : Nat), o2) :: ((I + 3 : Nat), o3) :: (I, o4) :: ((I + 1 : Nat), o5) :: news) →
      wpAny (model prog w) A (assign target env (.ref T)) (fun _ s₂ => wpAny (model prog w) A (execs body env) (UnrPostW h₀ env.locals { s with heap := h, toks := tk } [((I + 4 : Nat), o1), ((I + 2 : Nat), o2), ((I + 3 : Nat), o3), (I, o4), ((I + 1 : Nat), o5)]
        (fun m' n' => n' = news ∧ (∃ v', m' acc = some v' ∧ J xs ys v') ∧ ∀ z, z ≠ acc → z ≠ x1 → z ≠ x2 → m' z = m₀ z) Q) E s₂) E { s with heap := h, toks := tk })
    (done : ∀ xs ys v (a : Str → Option Value) h tk, (xs = [] ∨ ys = []) → J xs ys v → Fr h₀ env.locals h (fun z => if z = acc then some v else if z = x1 then a z else if z = x2 then a z else m₀ z) → News h₀ env.locals h news → Q .next { s with heap := h, toks := tk }) :
    ∀ (xs ys : List Value) (m : Str → Option Value), (∃ v, m acc = some v ∧ J xs ys v) → (∀ z, z ≠ acc → z ≠ x1 → z ≠ x2 → m z = m₀ z) →
      ItemsRest prog w A E h₀ env target body Q s [((I + 4 : Nat), "zip"), ((I + 2 : Nat), "tuple"), ((I + 3 : Nat), "tuple"), (I, "list_iterator"), ((I + 1 : Nat), "list_iterator")] keep (zipItems xs ys) m news := by
  have em : ∀ (m : Str → Option Value) v, m acc = some v → (∀ z, z ≠ acc → z ≠ x1 → z ≠ x2 → m z = m₀ z) → m = (fun z => if z = acc then some v else if z = x1 then m z else if z = x2 then m z else m₀ z) := by
    intro m v hv hm
    funext z
    by_cases h1 : z = acc
    · rw [if_pos h1, h1, hv]
    · rw [if_neg h1]
      by_cases h2 : z = x1
      · rw [if_pos h2]
      · rw [if_neg h2]
        by_cases h3 : z = x2
        · rw [if_pos h3]
        · rw [if_neg h3]; exact hm z h1 h2 h3
  intro xs
  induction xs with
  | nil =>
    intro ys m ⟨v, hv, hj⟩ hm
    have e : zipItems [] ys = [] := rfl
    rw [e]
    refine ItemsRest.zero fun h tk F N => done [] ys v m h tk (.inl rfl) hj ?_ N
    exact em m v hv hm ▸ F
  | cons x xs ih =>
    intro ys m ⟨v, hv, hj⟩ hm
    cases ys with
    | nil =>
      have e : zipItems (x :: xs) [] = [] := rfl
      rw [e]
      refine ItemsRest.zero fun h tk F N => done _ [] v m h tk (.inr rfl) hj ?_ N
      exact em m v hv hm ▸ F
    | cons y ys =>
      refine ItemsRest.pair (f := fun _ => x) (x := y) fun T t h tk hT F => ?_
      refine AllObj.cons fun o1 _ => AllObj.cons fun o2 _ => AllObj.cons fun o3 _ => AllObj.cons fun o4 _ => AllObj.cons fun o5 _ => AllObj.nil fun N => ?_
      have F' : Fr h₀ env.locals h (fun z => if z = acc then some v else if z = x1 then m z else if z = x2 then m z else m₀ z) := em m v hv hm ▸ F
      refine wpAny_mono (turn x xs y ys v m T h tk o1 o2 o3 o4 o5 hj hT F' hI N) (fun _ s₂ q => wpAny_mono q (fun f s₃ r => ?_) fun _ _ e => e) fun _ _ e => e
      have up : ∀ s₃, UnrEndW h₀ env.locals { s with heap := h, toks := tk } [((I + 4 : Nat), o1), ((I + 2 : Nat), o2), ((I + 3 : Nat), o3), (I, o4), ((I + 1 : Nat), o5)] (fun m' n' => n' = news ∧ (∃ v', m' acc = some v' ∧ J xs ys v') ∧ ∀ z, z ≠ acc → z ≠ x1 → z ≠ x2 → m' z = m₀ z) s₃ →
          UnrEndW h₀ env.locals { s with heap := h, toks := tk } [((I + 4 : Nat), o1), ((I + 2 : Nat), o2), ((I + 3 : Nat), o3), (I, o4), ((I + 1 : Nat), o5)] (fun m' n' => SubL keep n' ∧ ItemsRest prog w A E h₀ env target body Q s [((I + 4 : Nat), "zip"), ((I + 2 : Nat), "tuple"), ((I + 3 : Nat), "tuple"), (I, "list_iterator"), ((I + 1 : Nat), "list_iterator")] keep (zipItems xs ys) m' n') s₃ := by
        rintro s₃ ⟨h', tk', m', news', e', F₂, N₂, off', rfl, hJ', hm'⟩
        exact ⟨h', tk', m', _, e', F₂, N₂, off', hk, ih ys m' hJ' hm'⟩
      cases f with
      | ret v => exact r
      | brk => exact r
      | next => exact up _ r
      | cont => exact up _ r
theorem zip_end {L : Addr} {its news : List (Addr × Obj)} {rest : (Str → Option Value) → List (Addr × Obj) → Prop} {s₁ : Shared} {h' : Heap} {tk : Nat} {m' : Str → Option Value} {all : List (Addr × Obj)} {I : Nat} (F : Fr h₀ L h' m') (N : News h₀ L h' all)
    (hs : ∀ p ∈ its ++ news, p ∈ all) (hI : ∀ p ∈ news, p.1 < I) (hI' : ∀ q ∈ its, I ≤ q.1) (r : rest m' news) : UnrEndW h₀ L s₁ its rest { s₁ with heap := h', toks := tk } :=
  ⟨h', tk, m', news, rfl, F, fun p hp => N p (hs p hp), fun p hp q hq e => by
    have h1 : @LT.lt Nat _ p.1 I := hI p hp
    have h2 : @LE.le Nat _ I q.1 := hI' q hq
    rw [e] at h1
    exact absurd h1 (Nat.not_lt.mpr h2), r⟩
end
theorem tabsUpto_len (line : List (Option Int × Int)) : ∀ i, (tabsUpto line i).length ≤ i
  | 0 => Nat.le_refl _
  | i + 1 => by
    rw [tabsUpto, List.length_append]
    have h1 := tabsUpto_len line i
    have h2 : (tabOf (line.getD i default)).length ≤ 1 := by unfold tabOf; cases (line.getD i default).1 <;> simp
    omega
section
variable {prog : Program} {w : World} {A : Around} {E : Value → Shared → Prop} {s : Shared} {env : Env} {h₀ : Heap} {L : Addr}
theorem cls60 (w : World) : ∃ nm q N bs hdct sn sub ab col dd k0 k1 k2 k3 k5, ∀ h, (Mine.hd.heap_39 w.params).In h → h.get? 60 = some (excClassObj nm q 60 N bs excMro hdct sn sub ab col dd k0 k1 k2 k3 k5 "Exception.__new__") :=
  ⟨_, _, _, _, _, _, _, _, _, _, _, _, _, _, _, fun h X => X _ _ (by k_is)⟩
theorem rf_raiseK {c : PySem.Expr} {pos : Pos} {Q : Flow → Shared → Prop} {m0 : Str → Option Value} (X : (Mine.hd.heap_39 w.params).In h₀) (_F0 : Fr h₀ L s.heap m0) (hh : A.handled = none)
    (h : wpAny (model prog w) A (eval c env) (fun v s₁ => ∃ e d t sl m', v = .ref e ∧ Fr h₀ L s₁.heap m' ∧ s₁.heap.get? e = some ⟨.ref 60, d, .fields #[.ref t, .none, .none, .none, .bool false, .none], sl⟩ ∧ E (.ref e) s₁) E s) :
    wpAny (model prog w) A (exec (.Raise (some c) none pos) env) Q E s := by
  obtain ⟨nm, q, N, bs, hdct, sn, sub, ab, col, dd, k0, k1, k2, k3, k5, hcl⟩ := cls60 w
  refine rf_raise (nm := nm) (q := q) (N := N) (bs := bs) (hdct := hdct) (sn := sn) (sub := sub) (ab := ab) (col := col) (dd := dd) (k0 := k0) (k1 := k1) (k2 := k2) (k3 := k3) (k5 := k5) hh (wpAny_mono h (fun v s₁ q => ?_) fun _ _ x => x)
  obtain ⟨e, d, t, sl, m', hv, F, he, hE⟩ := q
  exact ⟨e, d, t, sl, hv, hcl _ (X.keeps F.keep), he, hE⟩
end
theorem tabsUpto_all {P : Int → Prop} (line : List (Option Int × Int)) (h : ∀ q ∈ line, P q.2) : ∀ i, ∀ q ∈ tabsUpto line i, P q.2
  | 0, q, hq => by simp [tabsUpto] at hq
  | i + 1, q, hq => by
    rw [tabsUpto] at hq
    rcases List.mem_append.mp hq with hq | hq
    · exact tabsUpto_all line h i q hq
    · rw [List.getD_eq_getElem?_getD] at hq
      cases hg : line[i]? with
      | none => rw [hg] at hq; exact absurd hq (by simp [tabOf, default, instInhabitedProd])
      | some y =>
        rw [hg] at hq
        have hy := h y (List.mem_of_getElem? hg)
        unfold tabOf at hq
        rcases y with ⟨_ | k, z⟩
        · exact absurd hq (by simp)
        · have : q = (k, z) := by simpa using hq
          rw [this]; exact hy
/-- what a part says -/
noncomputable def PartIn (news : List (Addr × Obj)) (pv : Value) : Option (Int × Option Int) → Prop
  | none => pv = .none
  | some (b, l) => ∃ a n t lv, pv = .ref a ∧ (a, tupOf [.int b t, lv] n) ∈ news ∧ (match l with | none => lv = .none | some k => ∃ u, lv = .int k u)
noncomputable def walkTabs : List (Int × Int) → List Int → Int → Option Int
  | (h, z) :: ts, k :: ks, off => if 1 ≤ k ∧ k ≤ h then walkTabs ts ks (off + (k - 1) * z) else none
  | [], _, off => some off
  | _ :: _, [], off => some off
noncomputable def partOf (off size : Int) : Option (Int × Option Int) → Option (Int × Int)
  | none => some (off, size)
  | some (b, l) => if b < 1 ∨ (l.getD (size - b + 1)) < 1 ∨ b + (l.getD (size - b + 1)) - 1 > size then none else some (off + b - 1, l.getD (size - b + 1))
/-- what stretch tells: none for a fault -/
noncomputable def toldSpec (ts : List (Int × Int)) (off size : Int) (ks : List Int) (part : Option (Int × Option Int)) : Option (Int × Int) :=
  if ks.length = ts.length then (walkTabs ts ks off).bind fun o => partOf o size part else none
theorem ext_12 : True := by
  k_with "call ref" => ((with_reducible show wpAny _ _ (call (Value.ref 154) _) _ _ _); (refine held ?_))
  k_with "call ref" => ((with_reducible show wpAny _ _ (call (Value.ref 60) _) _ _ _); (refine held ?_))
  k_with "call builtin:len" => (k_here; (with_reducible show wpAny _ _ (call (Value.builtin "len") [Value.ref _]) _ _ _); k_dflt (first
      | (refine' len_led ?zzN ?zzm ?zzk ?zzf ?_; (case zzN => k_asm); (case zzm => k_mem); (case zzk => assumption); (case zzf => omega); k_whole)))
  k_with "exec Raise some none" => (k_here; k_dflt (refine' rf_raiseK ?zzX ?zzF ?zzhh ?_; (case zzX => k_asm); (case zzF => k_asm); (case zzhh => rfl)))
  k_with "call type:zip" => (refine held ?_)
  k_with "exec For Tuple Call cons nil" => (k_here; (rename Fr _ _ _ _ => lF'); (with_unfolding_all refine' For_turns lF' ?_; k_whole))
  k_with "UnrEndW" => (refine held ?_)
  trivial
theorem stretch_spec {w : World} {p : Program} {loose : List Str} {mean : ExcName → Option Value} {mg mb : Str → Option Value}
  {dp un : Nat} {gd : Option (List Code)} {cn : Str} {cs : Scope} {a : Addr} {ccd : Value} {cl : List (Str × Addr)} {outer : List Env} {A₀ : Around} {base h₀ : Heap} {L : Addr} {m : Str → Option Value} {news : List (Addr × Obj)} {s : Shared} {Q E : Value → Shared → Prop}
  (B : Below A₀ base outer h₀) (F : Fr h₀ L s.heap m) (X : (Mine.hd.heap_39 w.params).In h₀) (N : News h₀ L s.heap news) (T : Top p loose mean mg mb h₀) (hk : cs.kind = .function) (hd : dp + 20 < recursionLimit) (hu : un + 128 < cLine)
  {x ls nl : Nat} {par pv : Value} {occ : Option Int} {off size : Int} {line : List (Option Int × Int)} {vs : List Value} {ks : List Int} {part : Option (Int × Option Int)}
  (hl : LineIn news x line) (h3 : line.length ≤ 3) (hx : ItemIn news x par occ off size) (hs : (ls, listOf vs.toArray nl) ∈ news) (hi : IntsAre vs ks) (hkl : vs.length ≤ 1000) (hp : PartIn news pv part) (hb : ∀ q ∈ line, -1000 < q.2 ∧ q.2 < 1000) (hd2 : dp + 30 < recursionLimit) (hu2 : un + 160 < cLine)
  (ret : ∀ a b r t1 t2 n h' tks, toldSpec (tabsUpto line.reverse line.length) off size ks part = some (a, b) → Fr h₀ L h' m → News h₀ L h' ((r, tupOf [.int a t1, .int b t2] n) :: news) → Q (.ref r) { s with heap := h', toks := tks })
  (exc : toldSpec (tabsUpto line.reverse line.length) off size ks part = none → ∀ e g h' tks, Fr h₀ L g m → RaisedSN base g (envX cn cs L a ccd cl :: outer) e (.ref 60) news h' → g.UpToSlots h' → E (.ref e) { s with heap := h', toks := tks }) :
  wpAny (model PySem.Challenge.rw_pc0123_01.row.prog w) (ktrTop dp un gd cn cs L a ccd cl outer) (call (.ref 161) [.ref x, .ref ls, pv]) Q E s := by
  have hx' := hx
  obtain ⟨d0, e0, n0, ov0, t10, t20, nm0, t30, hi0, hd0, hp0, ho0, hoc0, hof0, hsz0, hnm0, hln0⟩ := hx'
  have hbt := tabsUpto_all (P := fun z => -1000 < z ∧ z < 1000) line.reverse (fun q hq => hb q (List.mem_reverse.mp hq)) line.length
  generalize htabs : tabsUpto line.reverse line.length = tabs at *
  refine wpAny_call ?_
  k_dflt k_enter
  k_steps
  refine unheld ?_
  k_dflt (refine' tables_spec ?B0 ?F0 ?X0 ?N0 ?T0 ?hk0 ?hd0 ?hu0 ?hl0 ?h30 ?r0)
  case B0 => k_asm
  case F0 => k_asm
  case X0 => k_asm
  case N0 => k_asm
  case T0 => k_asm
  case hk0 => exact rfl
  case hd0 => exact hd_up hd2
  case hu0 => exact hu_up hu2
  case hl0 => exact hl
  case h30 => exact h3
  case r0 =>
    intro rT vT nT hT tkT ITabs oT F' N'
    rw [htabs] at ITabs
    have hvl := IntsAre.length hi
    have htl := TabsIn.length ITabs
    have hts : tabs.length ≤ 3 := by rw [← htabs]; exact Nat.le_trans (tabsUpto_len _ _) h3
    k_steps
    · refine unheld ?_
      k_dflt (refine' rf_made ?B0 ?F0 ?X0 ?N0 ?T0 ?hk0 ?hd0 ?hu0 ?r0)
      case B0 => k_asm
      case F0 => k_asm
      case X0 => k_asm
      case N0 => k_asm
      case T0 => k_asm
      case hk0 => exact rfl
      case hd0 => exact hd_up hd2
      case hu0 => exact hu_up hu2
      case r0 =>
        intro eX dX tX hX tkX F'' N'' oX
        refine ⟨eX, _, _, _, _, rfl, F'', (N'' _ (List.Mem.head _)).1, ?_⟩
        refine' leave_ownS ?LB0 F'' (News_sub N'' (news' := (eX, (⟨.ref 60, some dX, .fields #[.ref tX, .none, .none, .none, .bool false, .none], #[]⟩ : Obj)) :: news) ?LS0) ?LN0 rfl rfl rfl ?LQ0
        case LB0 => k_asm
        case LS0 => intro p hp; rcases List.mem_cons.mp hp with rfl | hp; (exact .head _); (refine List.Mem.tail _ ?_; repeat (first | exact hp | refine List.Mem.tail _ ?_))
        case LN0 => exact fun p hp => oX p (by repeat (first | exact hp | refine List.mem_cons_of_mem _ ?_))
        case LQ0 =>
          intro hR R U
          exact exc (by rw [toldSpec, if_neg (by omega)]) eX _ hR _ (by k_asm) R U
    · refine unheld ?_
      have hlen : ks.length = tabs.length := by omega
      k_dflt (refine' ktu_zip (lo1 := listOf vT.toArray nT) (lo2 := listOf vs.toArray nl) (xs := vT) (ys := vs) ?zh ?zF ?zN ?zm1 ?zc1 ?zd1 ?zm2 ?zc2 ?zd2 ?zr)
      case zh => exact rfl
      case zF => k_asm
      case zN => k_asm
      case zm1 => k_mem
      case zm2 => k_mem
      case zc1 => exact rfl
      case zd1 => exact rfl
      case zc2 => exact rfl
      case zd2 => exact rfl
      case zr =>
        intro I hI
        refine' zip_run "table" "subscript" "offset" (fun xs ys v => ∃ off' t' ts' ks', v = .int off' t' ∧ TabsIn news xs ts' ∧ IntsAre ys ks' ∧ walkTabs tabs ks off = walkTabs ts' ks' off' ∧ xs.length = ys.length ∧ ∀ q ∈ ts', -1000 < q.2 ∧ q.2 < 1000) hI ?zk ?zt ?zd vT vs _ ⟨_, ?za, off, t10, tabs, ks, rfl, ITabs, hi, rfl, by omega, hbt⟩ ?ze
        case zk => k_subL
        case za => exact rfl
        case ze => exact fun _ _ _ _ => rfl
        case zt =>
          intro x1 xs y1 ys v a1 T1 h1 tk1 o1 o2 o3 o4 o5 hJ hT1 F1 hI1 N1
          obtain ⟨off1, t1, ts1, ks1, rfl, hTs, hYs, hw, hl1, hbd⟩ := hJ
          rcases ts1 with _ | ⟨⟨hi1, z1⟩, ts1⟩
          · exact hTs.elim
          rcases hYs with _ | ⟨k1, u1, hYs⟩
          obtain ⟨⟨xA, parA, offA, rfl, hIt⟩, hTs⟩ := hTs
          obtain ⟨dA, eA, nA, ovA, t1A, t2A, nmA, t3A, hiA, hdA, hpA, hoA, hocA, hofA, hszA, hnmA, hlnA⟩ := hIt
          obtain ⟨oA, doA, eoA, noA, toA, rfl, hoiA, hodA, hhA⟩ := hocA
          dsimp only at hszA hhA
          obtain ⟨hbz1, hbz2⟩ := hbd _ (List.Mem.head _)
          dsimp only at hbz1 hbz2
          k_steps
          · refine unheld ?_
            refine' zip_end ?tF ?tN ?tS hI1 ?tI ?tr
            case tF => k_asm
            case tN => k_asm
            case tS => intro p hp; repeat (first | exact hp | refine List.Mem.tail _ ?_)
            case tI => exact List.forall_mem_cons.mpr ⟨Nat.le_add_right _ _, List.forall_mem_cons.mpr ⟨Nat.le_add_right _ _, List.forall_mem_cons.mpr ⟨Nat.le_add_right _ _, List.forall_mem_cons.mpr ⟨Nat.le_refl _, List.forall_mem_cons.mpr ⟨Nat.le_add_right _ _, List.forall_mem_nil _⟩⟩⟩⟩⟩
            case tr =>
              refine ⟨rfl, ⟨_, rfl, _, _, ts1, _, rfl, hTs, hYs, ?_, ?_, fun q hq => hbd q (List.mem_cons_of_mem _ hq)⟩, ?_⟩
              · rw [hw, walkTabs, if_pos ⟨by omega, by omega⟩]
              · simpa using hl1
              · (intro z z1 z2 z3; simp only [z1, z2, z3, if_false])
          · refine unheld ?_
            k_dflt (refine' rf_made ?B1 ?F1 ?X1 ?N1 ?T1 ?hk1 ?hd1 ?hu1 ?r1)
            case B1 => k_asm
            case F1 => k_asm
            case X1 => k_asm
            case N1 => k_asm
            case T1 => k_asm
            case hk1 => exact rfl
            case hd1 => exact hd_up hd2
            case hu1 => exact hu_up hu2
            case r1 =>
              intro eX dX tX hX tkX F'' N'' oX
              refine ⟨eX, _, _, _, _, rfl, F'', (N'' _ (List.Mem.head _)).1, ?_⟩
              refine' leave_ownS ?LB1 F'' (News_sub N'' (news' := (eX, (⟨.ref 60, some dX, .fields #[.ref tX, .none, .none, .none, .bool false, .none], #[]⟩ : Obj)) :: news) ?LS1) ?LN1 rfl rfl rfl ?LQ1
              case LB1 => k_asm
              case LS1 => intro p hp; rcases List.mem_cons.mp hp with rfl | hp; (exact .head _); (refine List.Mem.tail _ ?_; repeat (first | exact hp | refine List.Mem.tail _ ?_))
              case LN1 => exact fun p hp => oX p (by repeat (first | exact hp | refine List.mem_cons_of_mem _ ?_))
              case LQ1 =>
                intro hR R U
                exact exc (by rw [toldSpec, if_pos hlen, hw, walkTabs, if_neg (by omega)]; rfl) eX _ hR _ (by k_asm) R U
          · refine unheld ?_
            k_dflt (refine' rf_made ?B2 ?F2 ?X2 ?N2 ?T2 ?hk2 ?hd2 ?hu2 ?r2)
            case B2 => k_asm
            case F2 => k_asm
            case X2 => k_asm
            case N2 => k_asm
            case T2 => k_asm
            case hk2 => exact rfl
            case hd2 => exact hd_up hd2
            case hu2 => exact hu_up hu2
            case r2 =>
              intro eX dX tX hX tkX F'' N'' oX
              refine ⟨eX, _, _, _, _, rfl, F'', (N'' _ (List.Mem.head _)).1, ?_⟩
              refine' leave_ownS ?LB2 F'' (News_sub N'' (news' := (eX, (⟨.ref 60, some dX, .fields #[.ref tX, .none, .none, .none, .bool false, .none], #[]⟩ : Obj)) :: news) ?LS2) ?LN2 rfl rfl rfl ?LQ2
              case LB2 => k_asm
              case LS2 => intro p hp; rcases List.mem_cons.mp hp with rfl | hp; (exact .head _); (refine List.Mem.tail _ ?_; repeat (first | exact hp | refine List.Mem.tail _ ?_))
              case LN2 => exact fun p hp => oX p (by repeat (first | exact hp | refine List.mem_cons_of_mem _ ?_))
              case LQ2 =>
                intro hR R U
                exact exc (by rw [toldSpec, if_pos hlen, hw, walkTabs, if_neg (by omega)]; rfl) eX _ hR _ (by k_asm) R U
        case zd =>
          intro xs ys v a1 h1 tk1 hE hJ F1 N1
          obtain ⟨off1, t1, ts1, ks1, rfl, hTs, hYs, hw, hl1, hbd⟩ := hJ
          have hw2 : walkTabs tabs ks off = some off1 := by
            rw [hw]
            rcases hE with rfl | rfl
            · rcases ts1 with _ | ⟨_, _⟩
              · cases ks1 <;> rfl
              · exact hTs.elim
            · have : xs = [] := List.eq_nil_of_length_eq_zero (by simpa using hl1)
              subst this
              rcases ts1 with _ | ⟨_, _⟩
              · cases ks1 <;> rfl
              · exact hTs.elim
          rcases part with _ | ⟨b1, _ | l1⟩
          · have hp : pv = .none := hp
            subst hp
            k_steps
            · refine' ret off1 size _ _ _ _ _ _ ?ew10 ?eF10 ?eN10
              case ew10 => rw [toldSpec, if_pos hlen, hw2]; rfl
              case eF10 => k_asm
              case eN10 =>
                refine News_sub (by k_asm) (fun p hp => ?_)
                rcases List.mem_cons.mp hp with rfl | hp
                · exact .head _
                · refine List.Mem.tail _ ?_
                  repeat (first | exact hp | refine List.Mem.tail _ ?_)
          · obtain ⟨aP, nP, tP, lP, rfl, hmP, hlP⟩ := hp
            have hlP : lP = .none := hlP
            subst hlP
            k_steps
            · refine unheld ?_
              k_dflt (refine' rf_made ?B11 ?F11 ?X11 ?N11 ?T11 ?hk11 ?hd11 ?hu11 ?r11)
              case B11 => k_asm
              case F11 => k_asm
              case X11 => k_asm
              case N11 => k_asm
              case T11 => k_asm
              case hk11 => exact rfl
              case hd11 => exact hd_up hd2
              case hu11 => exact hu_up hu2
              case r11 =>
                intro eX dX tX hX tkX F'' N'' oX
                refine ⟨eX, _, _, _, _, rfl, F'', (N'' _ (List.Mem.head _)).1, ?_⟩
                refine' leave_ownS ?LB11 F'' (News_sub N'' (news' := (eX, (⟨.ref 60, some dX, .fields #[.ref tX, .none, .none, .none, .bool false, .none], #[]⟩ : Obj)) :: news) ?LS11) ?LN11 rfl rfl rfl ?LQ11
                case LB11 => k_asm
                case LS11 => intro p hp; rcases List.mem_cons.mp hp with rfl | hp; (exact .head _); (refine List.Mem.tail _ ?_; repeat (first | exact hp | refine List.Mem.tail _ ?_))
                case LN11 => exact fun p hp => oX p (by repeat (first | exact hp | refine List.mem_cons_of_mem _ ?_))
                case LQ11 =>
                  intro hR R U
                  exact exc (by rw [toldSpec, if_pos hlen, hw2]; rw [Option.bind_some, partOf, if_pos (by simp only [Option.getD]; omega)]) eX _ hR _ (by k_asm) R U
            · refine unheld ?_
              k_dflt (refine' rf_made ?B12 ?F12 ?X12 ?N12 ?T12 ?hk12 ?hd12 ?hu12 ?r12)
              case B12 => k_asm
              case F12 => k_asm
              case X12 => k_asm
              case N12 => k_asm
              case T12 => k_asm
              case hk12 => exact rfl
              case hd12 => exact hd_up hd2
              case hu12 => exact hu_up hu2
              case r12 =>
                intro eX dX tX hX tkX F'' N'' oX
                refine ⟨eX, _, _, _, _, rfl, F'', (N'' _ (List.Mem.head _)).1, ?_⟩
                refine' leave_ownS ?LB12 F'' (News_sub N'' (news' := (eX, (⟨.ref 60, some dX, .fields #[.ref tX, .none, .none, .none, .bool false, .none], #[]⟩ : Obj)) :: news) ?LS12) ?LN12 rfl rfl rfl ?LQ12
                case LB12 => k_asm
                case LS12 => intro p hp; rcases List.mem_cons.mp hp with rfl | hp; (exact .head _); (refine List.Mem.tail _ ?_; repeat (first | exact hp | refine List.Mem.tail _ ?_))
                case LN12 => exact fun p hp => oX p (by repeat (first | exact hp | refine List.mem_cons_of_mem _ ?_))
                case LQ12 =>
                  intro hR R U
                  exact exc (by rw [toldSpec, if_pos hlen, hw2]; rw [Option.bind_some, partOf, if_pos (by simp only [Option.getD]; omega)]) eX _ hR _ (by k_asm) R U
            · refine' ret (off1 + b1 - 1) (size - b1 + 1) _ _ _ _ _ _ ?ew13 ?eF13 ?eN13
              case ew13 => rw [toldSpec, if_pos hlen, hw2]; rw [Option.bind_some, partOf, if_neg (by simp only [Option.getD]; omega)]; rfl
              case eF13 => k_asm
              case eN13 =>
                refine News_sub (by k_asm) (fun p hp => ?_)
                rcases List.mem_cons.mp hp with rfl | hp
                · exact .head _
                · refine List.Mem.tail _ ?_
                  repeat (first | exact hp | refine List.Mem.tail _ ?_)
          · obtain ⟨aP, nP, tP, lP, rfl, hmP, hlP⟩ := hp
            obtain ⟨uP, rfl⟩ := hlP
            k_steps
            · refine unheld ?_
              k_dflt (refine' rf_made ?B14 ?F14 ?X14 ?N14 ?T14 ?hk14 ?hd14 ?hu14 ?r14)
              case B14 => k_asm
              case F14 => k_asm
              case X14 => k_asm
              case N14 => k_asm
              case T14 => k_asm
              case hk14 => exact rfl
              case hd14 => exact hd_up hd2
              case hu14 => exact hu_up hu2
              case r14 =>
                intro eX dX tX hX tkX F'' N'' oX
                refine ⟨eX, _, _, _, _, rfl, F'', (N'' _ (List.Mem.head _)).1, ?_⟩
                refine' leave_ownS ?LB14 F'' (News_sub N'' (news' := (eX, (⟨.ref 60, some dX, .fields #[.ref tX, .none, .none, .none, .bool false, .none], #[]⟩ : Obj)) :: news) ?LS14) ?LN14 rfl rfl rfl ?LQ14
                case LB14 => k_asm
                case LS14 => intro p hp; rcases List.mem_cons.mp hp with rfl | hp; (exact .head _); (refine List.Mem.tail _ ?_; repeat (first | exact hp | refine List.Mem.tail _ ?_))
                case LN14 => exact fun p hp => oX p (by repeat (first | exact hp | refine List.mem_cons_of_mem _ ?_))
                case LQ14 =>
                  intro hR R U
                  exact exc (by rw [toldSpec, if_pos hlen, hw2]; rw [Option.bind_some, partOf, if_pos (by simp only [Option.getD]; omega)]) eX _ hR _ (by k_asm) R U
            · refine unheld ?_
              k_dflt (refine' rf_made ?B15 ?F15 ?X15 ?N15 ?T15 ?hk15 ?hd15 ?hu15 ?r15)
              case B15 => k_asm
              case F15 => k_asm
              case X15 => k_asm
              case N15 => k_asm
              case T15 => k_asm
              case hk15 => exact rfl
              case hd15 => exact hd_up hd2
              case hu15 => exact hu_up hu2
              case r15 =>
                intro eX dX tX hX tkX F'' N'' oX
                refine ⟨eX, _, _, _, _, rfl, F'', (N'' _ (List.Mem.head _)).1, ?_⟩
                refine' leave_ownS ?LB15 F'' (News_sub N'' (news' := (eX, (⟨.ref 60, some dX, .fields #[.ref tX, .none, .none, .none, .bool false, .none], #[]⟩ : Obj)) :: news) ?LS15) ?LN15 rfl rfl rfl ?LQ15
                case LB15 => k_asm
                case LS15 => intro p hp; rcases List.mem_cons.mp hp with rfl | hp; (exact .head _); (refine List.Mem.tail _ ?_; repeat (first | exact hp | refine List.Mem.tail _ ?_))
                case LN15 => exact fun p hp => oX p (by repeat (first | exact hp | refine List.mem_cons_of_mem _ ?_))
                case LQ15 =>
                  intro hR R U
                  exact exc (by rw [toldSpec, if_pos hlen, hw2]; rw [Option.bind_some, partOf, if_pos (by simp only [Option.getD]; omega)]) eX _ hR _ (by k_asm) R U
            · refine unheld ?_
              k_dflt (refine' rf_made ?B16 ?F16 ?X16 ?N16 ?T16 ?hk16 ?hd16 ?hu16 ?r16)
              case B16 => k_asm
              case F16 => k_asm
              case X16 => k_asm
              case N16 => k_asm
              case T16 => k_asm
              case hk16 => exact rfl
              case hd16 => exact hd_up hd2
              case hu16 => exact hu_up hu2
              case r16 =>
                intro eX dX tX hX tkX F'' N'' oX
                refine ⟨eX, _, _, _, _, rfl, F'', (N'' _ (List.Mem.head _)).1, ?_⟩
                refine' leave_ownS ?LB16 F'' (News_sub N'' (news' := (eX, (⟨.ref 60, some dX, .fields #[.ref tX, .none, .none, .none, .bool false, .none], #[]⟩ : Obj)) :: news) ?LS16) ?LN16 rfl rfl rfl ?LQ16
                case LB16 => k_asm
                case LS16 => intro p hp; rcases List.mem_cons.mp hp with rfl | hp; (exact .head _); (refine List.Mem.tail _ ?_; repeat (first | exact hp | refine List.Mem.tail _ ?_))
                case LN16 => exact fun p hp => oX p (by repeat (first | exact hp | refine List.mem_cons_of_mem _ ?_))
                case LQ16 =>
                  intro hR R U
                  exact exc (by rw [toldSpec, if_pos hlen, hw2]; rw [Option.bind_some, partOf, if_pos (by simp only [Option.getD]; omega)]) eX _ hR _ (by k_asm) R U
            · refine' ret (off1 + b1 - 1) l1 _ _ _ _ _ _ ?ew17 ?eF17 ?eN17
              case ew17 => rw [toldSpec, if_pos hlen, hw2]; rw [Option.bind_some, partOf, if_neg (by simp only [Option.getD]; omega)]; rfl
              case eF17 => k_asm
              case eN17 =>
                refine News_sub (by k_asm) (fun p hp => ?_)
                rcases List.mem_cons.mp hp with rfl | hp
                · exact .head _
                · refine List.Mem.tail _ ?_
                  repeat (first | exact hp | refine List.Mem.tail _ ?_)
end
section
theorem ext_13 : True := by
  w_top off
  k_with_none
  k_with "own room" => ktr_room
  k_with "own all" => (first
      | assumption
      | exact ne_of_lts (by with_reducible assumption)
      | exact ne_of_all (And.right (by with_reducible assumption))
      | exact ne_of_all (And.right (And.right (by with_reducible assumption)))
      | exact ne_of_all (And.right (And.right (And.right (by with_reducible assumption))))
      | exact ne_of_all (And.right (And.right (And.right (And.right (by with_reducible assumption)))))
      | exact ne_of_all (And.right (And.right (And.right (And.right (And.right (by with_reducible assumption))))))
      | exact ne_of_all (And.right (And.right (And.right (And.right (And.right (And.right (by with_reducible assumption)))))))
      | exact ne_of_all (And.right (And.right (And.right (And.right (And.right (And.right (And.right (by with_reducible assumption)))))))))
  k_with "own sub" => (first
      | (refine' Drop.head ?zzqh; (case zzqh => k_all))
      | (refine' Drop.tail (Or.inr ?zzqa) ?zzqb; (case zzqa => k_cls); (case zzqb => lcg_sub))
      | (refine' Drop.tail (Or.inl ?zzqa) ?zzqb; (case zzqa => k_ne); (case zzqb => lcg_sub)))
  k_with "UnrEnd" => (k_dflt (refine' unr_end ?zzF ?zzN ?zzD ?_; (case zzF => k_asm); (case zzN => k_asm); (case zzD => lcg_sub)))
  k_with "own get" => assumption
  k_with "own mem" => (refine memN ?_; ktr_member)
  k_with "own off" => (first | (with_reducible assumption) | (simp only [LCg.Off3, and_true]; with_reducible assumption))
  k_with "CompEnd" => (refine LCg.CompEnd.intro (by k_asm) (by k_asm) _ (fun _ hp => hp) ?zzoff ?zzsrc ?_; (case zzoff => lcg_off); (case zzsrc => lcg_src))
  k_with "own enter" => (first
      | ktr_enter
      | (refine' code_def ?zzk1 ?zzk2 ?zzk3 ?zzk4 ?zzk5 ?zzkA ?zzkF ?zzkK ?zzk6 ?zzk7 ?zzk8 ?zzk9 ?zzkB ?_ ?zzc2 ?zzc3 ?zzc4 ?zzc5; (case zzkA => exact rfl); (case zzkF => exact rfl); (case zzkK => first | exact rfl | assumption); (case zzk1 => k_asm); (case zzk2 => k_asm); (case zzk3 => k_asm); (case zzk4 => k_asm); (case zzk5 => k_asm); (case zzk6 => k_is); (case zzk7 => k_is); (case zzk8 => ktr_room); (case zzk9 => first | exact BindsTo.of_eq rfl | exact binds_K (by k_in) rfl (by k_is) rfl rfl rfl); (case zzc5 => decide); (case zzkB => exact locs rfl); (case zzc2 => exact rfl); (case zzc3 => exact rfl); (case zzc4 => exact rfl); k_whole; intro zg' zL' zh' zFG' zF' zN' zB' zX' zT'; (try dsimp only); (try k_lift zB'); (try k_fold))
      | (refine' code_defC ?zzk1 ?zzk2 ?zzk3 ?zzk4 ?zzk5 ?zzkA ?zzkF ?zzkK ?zzk6 ?zzk7 ?zzk8 ?zzk9 ?zzkB ?zzkD ?_ ?zzc2 ?zzc3 ?zzc4; (case zzkA => exact rfl); (case zzkF => exact rfl); (case zzkK => first | exact rfl | assumption); (case zzk1 => k_asm); (case zzk2 => k_asm); (case zzk3 => k_asm); (case zzk4 => k_asm); (case zzk5 => k_asm); (case zzk6 => k_is); (case zzk7 => k_is); (case zzk8 => ktr_room); (case zzk9 => exact BindsTo.of_eq rfl); (case zzkB => exact rfl); (case zzkD => decide +kernel); (case zzc2 => exact rfl); (case zzc3 => exact rfl); (case zzc4 => exact rfl); k_whole; intro zg' zL' zh' ztk' zcells' zFG' zF' zN' zY' zB' zX' zT' zl1; (try k_lt zl1); k_cells zY'; (try simp only [List.cons_append, List.nil_append] at zN'); (try dsimp only); (try k_lift zB'); (try k_fold)))
  trivial
theorem hd_up3 {dp : Nat} (h : dp + 40 < recursionLimit) : dp + 1 + 20 < recursionLimit ∧ dp + 1 + 30 < recursionLimit := ⟨by omega, by omega⟩
theorem hu_up3 {un : Nat} (h : un + 200 < cLine) : un + 3 + 128 < cLine ∧ un + 3 + 160 < cLine := ⟨by omega, by omega⟩
theorem ext_14 : True := by
  k_with "call ref" => ((with_reducible show wpAny _ _ (call (Value.ref 161) _) _ _ _); (refine held ?_))
  k_with "noteFrame ref" => (refine held ?_)
  trivial
theorem told_spec {w : World} {p : Program} {loose : List Str} {mean : ExcName → Option Value} {mg mb : Str → Option Value}
  {dp un : Nat} {gd : Option (List Code)} {cn : Str} {cs : Scope} {a : Addr} {ccd : Value} {cl : List (Str × Addr)} {A₀ : Around} {h₀ : Heap} {L : Addr} {m : Str → Option Value} {news : List (Addr × Obj)} {s : Shared} {Q E : Value → Shared → Prop}
  (B : Below A₀ h₀ [] h₀) (F : Fr h₀ L s.heap m) (X : (Mine.hd.heap_39 w.params).In h₀) (N : News h₀ L s.heap news) (T : Top p loose mean mg mb h₀) (hk : cs.kind = .function) (hd : dp + 20 < recursionLimit) (hu : un + 128 < cLine)
  {x ls nl : Nat} {par pv : Value} {occ : Option Int} {off size : Int} {line : List (Option Int × Int)} {vs : List Value} {ks : List Int} {part : Option (Int × Option Int)}
  (hl : LineIn news x line) (h3 : line.length ≤ 3) (hx : ItemIn news x par occ off size) (hs : (ls, listOf vs.toArray nl) ∈ news) (hi : IntsAre vs ks) (hkl : vs.length ≤ 1000) (hp : PartIn news pv part) (hb : ∀ q ∈ line, -1000 < q.2 ∧ q.2 < 1000) (hd2 : dp + 40 < recursionLimit) (hu2 : un + 200 < cLine)
  (ret : ∀ a b r t1 t2 n h' tks, toldSpec (tabsUpto line.reverse line.length) off size ks part = some (a, b) → Fr h₀ L h' m → News h₀ L h' ((r, tupOf [.int a t1, .int b t2] n) :: news) → Q (.ref r) { s with heap := h', toks := tks })
  (non : ∀ h' tks, toldSpec (tabsUpto line.reverse line.length) off size ks part = none → Fr h₀ L h' m → News h₀ L h' news → Q .none { s with heap := h', toks := tks }) :
  wpAny (model PySem.Challenge.rw_pc0123_01.row.prog w) (ktrTop dp un gd cn cs L a ccd cl []) (call (.ref 187) [.ref x, .ref ls, pv]) Q E s := by
  refine wpAny_call ?_
  k_dflt (refine' code_defX ?k1 ?k2 ?k3 ?k4 ?k5 ?kA ?kF ?kK ?k6 ?k7 ?k8 ?k9 ?kB ?_ ?c2 ?c3 ?c4 ?c5; (case kA => exact rfl); (case kF => exact rfl); (case kK => first | exact rfl | assumption); (case k1 => k_asm); (case k2 => k_asm); (case k3 => k_asm); (case k4 => k_asm); (case k5 => k_asm); (case k6 => k_is); (case k7 => k_is); (case k8 => ktr_room); (case k9 => first | exact BindsTo.of_eq rfl | exact binds_K (by k_in) rfl (by k_is) rfl rfl rfl); (case c5 => decide); (case kB => exact locs rfl); (case c2 => exact rfl); (case c3 => exact rfl); (case c4 => exact rfl); k_whole)
  intro g' L' h' FG' F' N' B' X' T' D'
  (try dsimp only)
  (try k_lift B')
  (try k_fold)
  k_steps
  refine unheld ?_
  k_dflt (refine' stretch_spec ?B0 ?F0 ?X0 ?N0 ?T0 ?hk0 ?hd0 ?hu0 ?hl0 h3 ?hx0 ?hs0 hi hkl ?hp0 hb ?hd0b ?hu0b ?r0 ?e0)
  case B0 => k_asm
  case F0 => k_asm
  case X0 => k_asm
  case N0 => k_asm
  case T0 => k_asm
  case hk0 => exact rfl
  case hd0 => exact (hd_up3 hd2).1
  case hu0 => exact (hu_up3 hu2).1
  case hd0b => exact (hd_up3 hd2).2
  case hu0b => exact (hu_up3 hu2).2
  case hl0 => exact hl
  case hx0 => exact hx
  case hs0 => exact hs
  case hp0 => exact hp
  case r0 =>
    intro aR bR rR t1 t2 nR hR tkR why FR NR
    k_steps
    exact ret _ _ _ _ _ _ _ _ why (by k_asm) (by k_asm)
  case e0 =>
    intro why eR gR hR tkR FR RR UR
    k_steps
    refine unheld ?_
    k_dflt (refine' caught_SNO0 (C := 60) ?R ?F ?K ?U ?XB ?TB ?D ?T0 ?ex ?q ?kk)
    case R => exact RR
    case F => exact FR
    case K => k_asm
    case U => exact UR
    case XB => exact X
    case TB => exact T
    case D => exact D'
    case T0 => exact KtsTurn.refl
    case ex => k_is
    case q =>
      intro h hX
      obtain ⟨nm, q, N, bs, hdct, sn, sub, ab, col, dd, k0, k1, k2, k3, k5, hcl⟩ := cls60 w
      exact ⟨nm, q, N, bs, excMro, hdct, sn, sub, ab, col, dd, k0, k1, k2, k3, k5, _, hcl h hX, by decide⟩
    case kk =>
      intro h2 g2 T2 F2 N2 K2 X2 P2 D2
      k_steps
      exact non _ _ why (by k_asm) (by k_asm)
end
section
noncomputable def lastS : List Stmt → Stmt
  | [] => .Pass ⟨0, 0, 0, 0⟩
  | [s] => s
  | _ :: r => lastS r
noncomputable def bodyS : Stmt → List Stmt
  | .FunctionDef _ _ b _ _ _ _ _ _ _ => b
  | .For _ _ b _ _ => b
  | _ => []
noncomputable def scopeS : Stmt → Scope
  | .FunctionDef _ _ _ _ _ _ sc _ _ _ => sc
  | _ => { kind := .function, names := [], isGenerator := false, isCoroutine := false }
noncomputable def lawD : Stmt := lastS PySem.Challenge.pw_pc0123_01.main.body
noncomputable def lawB : List Stmt := bodyS lawD
noncomputable def lawS : Scope := scopeS lawD
noncomputable def nthS : List Stmt → Nat → Stmt
  | [], _ => .Pass ⟨0, 0, 0, 0⟩
  | s :: _, 0 => s
  | _ :: r, n + 1 => nthS r n
noncomputable def turnB : List Stmt := bodyS (nthS lawB 6)
noncomputable def itemB : List Stmt := bodyS (nthS lawB 5)
end
section
open PySem PySem.W PyProof.Rows PySem.Calls PySem.Spec PyProof.Rows.LCg
/-- one turn of a comprehension over tuples of three with a test, by what holds of it -/
noncomputable def Turn3 (prog : Program) (w : World) (A : Around) (h₀ : Heap) (L : Addr) (m : Str → Option Value) (env : Env) (ct elt : PySem.Expr) (x x₂ x₃ : Str) (scope : Scope) (cl : List (Str × Addr)) (s : Shared) (news : List (Addr × Obj)) (its : Array Value) (Inv : Nat → List Value → Prop) : Prop :=
  ∀ i ys v, its[i]? = some v → Inv i ys → ∃ (t : Addr) (v₁ v₂ v₃ : Value) (nt : Nat), v = .ref t ∧ (t, tupOf [v₁, v₂, v₃] nt) ∈ news ∧
    ∀ I oI C oC D m₂ h tk (E' : Value → Shared → Prop), NsObj oC m₂ → m₂ x = some v₁ → m₂ x₂ = some v₂ → m₂ x₃ = some v₃ → Fr h₀ L h m → News h₀ L h ((I, oI) :: (C, oC) :: (D, lst ys) :: news) → Off3 I C D news → ((@Ne Nat I C) ∧ (@Ne Nat I D) ∧ (@Ne Nat C D)) →
      wpAny (model prog w) A (isTrue ct (compEnvC scope cl C env) (eval ct (compEnvC scope cl C env))) (fun ok s' => if ok = true then
        wpAny (model prog w) A (eval elt (compEnvC scope cl C env)) (CompEnd h₀ L m { s with heap := h, toks := tk } I oI C oC D (lst ys) (fun _ => True) (fun y news' => news' = news ∧ Inv (i + 1) (ys ++ [y]))) E' s'
        else CompEnd h₀ L m { s with heap := h, toks := tk } I oI C oC D (lst ys) (fun _ => True) (fun _ news' => news' = news ∧ Inv (i + 1) ys) Value.none s') E' { s with heap := h, toks := tk }
section
variable {prog : Program} {w : World} {A : Around} {E : Value → Shared → Prop} {s : Shared} {h₀ : Heap} {L : Addr} {m : Str → Option Value} {env : Env}
theorem block3 {ct elt iter : PySem.Expr} {x x₂ x₃ : Str} {px px₂ px₃ tp : Pos} {tk} {scope : Scope} {cl : List (Str × Addr)} {pos : Pos} {s₂ : Shared} {I ax : Addr} {its : Array Value} {kk : Nat} {news : List (Addr × Obj)} {Inv : Nat → List Value → Prop}
    {RR : Value → Addr → Result → Shared → Prop}
    (hne : ax ≠ I) (hsz : its.size ≤ sizeLine) (hmem : (ax, ({ cls := .type "list", data := .seq its kk } : Obj)) ∈ news)
    (hcell : ∀ y ∈ scope.names, y.2 ≠ .cell) (hkind : scope.kind = .function) (hx : scope.names.lookup x = some .local) (hx₂ : scope.names.lookup x₂ = some .local) (hx₃ : scope.names.lookup x₃ = some .local) (h12 : x ≠ x₂) (h13 : x ≠ x₃) (h23 : x₂ ≠ x₃) (hh : A.handled = none)
    (hst : s₂.heap.IsListIter I ax 0 ∧ s₂.heap.IsList ax its) (hIlt : I < s₂.heap.objs.size) (haxlt : ax < s₂.heap.objs.size)
    (F : Fr h₀ L s₂.heap m) (N : News h₀ L s₂.heap news) (hIL : L ≠ I) (hI₀ : h₀.get? I = none) (off : ∀ p ∈ news, p.1 ≠ I)
    (hI0 : Inv 0 []) (R : Turn3 prog w A h₀ L m env ct elt x x₂ x₃ scope cl s₂ news its Inv)
    (hRR : ∀ D C h tk m' ys, Fr h₀ L h m → News h₀ L h ((D, lst ys) :: news) → Off1 D news → h.Ns C m' → h₀.get? C = none → h₀.get? D = none → C ≠ L → D ≠ L → C ≠ D → (∀ p ∈ news, p.1 ≠ C) → Inv its.size ys → RR (.ref D) C (.ok .next) { s₂ with heap := h, toks := tk }) :
    wpAny (model prog w) A (newList []) (fun acc s₃ => wpAny (model prog w) A (newFunctionEnv scope env.globals cl [] env.qual none .none (some env)) (fun cenv s₄ =>
      codeAny (model prog w) A (.compStart (.ListComp elt [⟨.Tuple [.Name x px, .Name x₂ px₂, .Name x₃ px₃] tk tp, iter, [ct], 0⟩] scope pos) 0 (.ref I) acc { cenv with scope := relabel scope env }) (RR acc cenv.locals) s₄) E s₃) E s₂ := by
  have W := Walks.list (prog := prog) (w := w) (A := A) hh I ax hne its
  refine wpAny_newObj_type (wpAny_newFunctionEnv hcell (by intro y hy; simp at hy) (fun h₁ hns₁ hsb₁ => ?_) hkind)
  dsimp only at hns₁ hsb₁ ⊢
  generalize hH2 : s₂.heap.push { cls := .type "list", dict := none, data := .seq ([] : List Value).toArray } = H2 at hns₁ hsb₁ ⊢
  have hC : H2.objs.size = s₂.heap.objs.size + 1 := by rw [← hH2, Heap.size_push]
  have hDC : s₂.heap.objs.size ≠ H2.objs.size := by rw [hC]; exact Nat.ne_of_lt (Nat.lt_succ_self _)
  have below : ∀ b, b < s₂.heap.objs.size → b ≠ H2.objs.size ∧ b ≠ s₂.heap.objs.size := fun b hb => ⟨by rw [hC]; exact Nat.ne_of_lt (Nat.lt_succ_of_lt hb), Nat.ne_of_lt hb⟩
  have hCax : ax ≠ H2.objs.size := (below ax haxlt).1
  have hDax : ax ≠ s₂.heap.objs.size := (below ax haxlt).2
  have old : ∀ b o, s₂.heap.get? b = some o → h₁.get? b = some o := fun b o e => hsb₁.extBut b o (below b (Heap.lt_size e)).1 (Heap.get?_push_of_some _ (hH2 ▸ Heap.get?_push_of_some _ e))
  have hacc : h₁.get? s₂.heap.objs.size = some (lst []) := hsb₁.extBut _ _ hDC (Heap.get?_push_of_some _ (hH2 ▸ Heap.get?_push_size _ rfl))
  have hst₁ : h₁.IsListIter I ax 0 ∧ h₁.IsList ax its := W.frame _ _ _ hst fun b _ o e => old b o e
  have fresh : ∀ a, s₂.heap.objs.size ≤ a → s₂.heap.get? a = none := fun a ha => by
    cases e : s₂.heap.get? a with
    | none => rfl
    | some o' => exact absurd (Heap.lt_size e) (Nat.not_lt.mpr ha)
  have fresh₀ : ∀ a, s₂.heap.objs.size ≤ a → h₀.get? a = none := fun a ha => by
    cases e : h₀.get? a with
    | none => rfl
    | some o' => have := F.keep a o' e; rw [fresh a ha] at this; cases this
  have hD₀ : h₀.get? s₂.heap.objs.size = none := fresh₀ _ (Nat.le_refl _)
  have hC₀ : h₀.get? H2.objs.size = none := fresh₀ _ (by rw [hC]; exact Nat.le_succ _)
  have hLlt : L < s₂.heap.objs.size := F.ns.lt
  have hDL : s₂.heap.objs.size ≠ L := Ne.symm (below L hLlt).2
  have hCL : H2.objs.size ≠ L := Ne.symm (below L hLlt).1
  have hCI : I ≠ H2.objs.size := (below I hIlt).1
  have hDI : I ≠ s₂.heap.objs.size := (below I hIlt).2
  have off3 : ∀ p ∈ news, p.1 ≠ I ∧ p.1 ≠ H2.objs.size ∧ p.1 ≠ s₂.heap.objs.size := fun p hp => ⟨off p hp, (below _ (Heap.lt_size (N p hp).1)).1, (below _ (Heap.lt_size (N p hp).1)).2⟩
  have off₀ : Off3 I H2.objs.size s₂.heap.objs.size news := Off3.of off3
  have inFp : ∀ b, b ∈ [I, ax] → b = I ∨ b = ax := fun b hb => by simpa using hb
  have loop : ∀ s₃ : Shared, s₃ = { s₂ with heap := h₁, toks := s₂.toks + ([] : List (Str × Value)).length } →
      codeAny (model prog w) A (.compLoop (.ListComp elt [⟨.Tuple [.Name x px, .Name x₂ px₂, .Name x₃ px₃] tk tp, iter, [ct], 0⟩] scope pos) 0 (.ref I) (.ref s₂.heap.objs.size) (compEnvC scope cl H2.objs.size env))
        (RR (.ref s₂.heap.objs.size) H2.objs.size) s₃ := by
    rintro s₃ rfl
    refine kct_loop
      (fun k s' => ∃ h' tk i ys m', s' = { s₂ with heap := h', toks := tk } ∧ i ≤ its.size ∧ k = its.size + 1 - i ∧ ys.length ≤ i ∧ (h'.IsListIter I ax i ∧ h'.IsList ax its) ∧ Fr h₀ L h' m ∧ h'.Ns H2.objs.size m' ∧ News h₀ L h' ((s₂.heap.objs.size, lst ys) :: news) ∧ Inv i ys) ?_ (its.size + 1)
      ⟨h₁, _, 0, [], _, rfl, Nat.zero_le _, rfl, Nat.le_refl _, hst₁, F.keeps old, hns₁, fun p hp => ?_, hI0⟩
    · rintro k s' ⟨h', tk, i, ys, m', rfl, hi, rfl, hyl, hst', F', hn', N', hinv⟩
      by_cases hlt : i < its.size
      · refine W.item i _ _ _ hlt hst' fun v h₂ tk₂ hPv hst₂ hk₂ => ?_
        obtain ⟨t, v₁, v₂, v₃, nt, rfl, hmt, R''⟩ := R i ys v hPv hinv
        have N₂ : News h₀ L h₂ ((s₂.heap.objs.size, lst ys) :: news) := news_but N' hk₂ fun p hp => by
          rcases List.mem_cons.mp hp with rfl | hp
          · exact Ne.symm hDI
          · exact (off3 p hp).1
        have ht : IsTup h₂ t #[v₁, v₂, v₃] := ⟨_, (N₂ _ (List.mem_cons_of_mem _ hmt)).1, rfl, nt, rfl⟩
        refine wpAny_letOwnedTupleGo_listiter hst₂.1 ?_
        refine assign_Tuple_tuple hh ht rfl rfl fun h₅ he => ?_
        have he' : ∀ b o, h₂.get? b = some o → h₅.get? b = some o := fun b o e => he b o (Nat.ne_of_lt (Heap.lt_size e)) e
        refine assignInOrder_cons (wpAny_assign_Name (wpAny_storeName_local (lookup_relabel_local hx) ((hn'.at' fun o e => hk₂ _ o (by simpa using Ne.symm hCI) e).at' fun o e => he' _ o e) (fun h₆ hn₆ hs₆ => ?_) (by simp [compEnvC, relabel, hkind])))
        refine assignInOrder_cons (wpAny_assign_Name (wpAny_storeName_local (lookup_relabel_local hx₂) hn₆ (fun h₇ hn₇ hs₇ => ?_) (by simp [compEnvC, relabel, hkind])))
        refine assignInOrder_cons (wpAny_assign_Name (wpAny_storeName_local (lookup_relabel_local hx₃) hn₇ (fun h₃ hn₃ hs₃ => ?_) (by simp [compEnvC, relabel, hkind])))
        refine assignInOrder_nil ?_
        have old3 : ∀ b o, b ≠ H2.objs.size → h₂.get? b = some o → h₃.get? b = some o := fun b o hb e => hs₃.extBut b o hb (hs₇.extBut b o hb (hs₆.extBut b o hb (he' b o e)))
        have hst₃ : h₃.IsListIter I ax (i + 1) ∧ h₃.IsList ax its := W.frame _ _ _ hst₂ fun b hb o e => old3 b o ((inFp b hb).elim (fun q => q ▸ hCI) (fun q => q ▸ hCax)) e
        obtain ⟨oI, heI⟩ : ∃ o, h₃.get? I = some o := by obtain ⟨o, e, _⟩ := hst₃.1; exact ⟨o, e⟩
        obtain ⟨oC, heC, hoC⟩ := ns_obj hn₃
        have F₃ : Fr h₀ L h₃ m := ((((fr_but F' hk₂ hIL hI₀).keeps he').change hs₆ hCL hC₀).change hs₇ hCL hC₀).change hs₃ hCL hC₀
        have N₃ : News h₀ L h₃ ((I, oI) :: (H2.objs.size, oC) :: (s₂.heap.objs.size, lst ys) :: news) := fun p hp => by
          rcases List.mem_cons.mp hp with rfl | hp
          · exact ⟨heI, Ne.symm hIL, hI₀⟩
          · rcases List.mem_cons.mp hp with rfl | hp
            · exact ⟨heC, hCL, hC₀⟩
            · have z := N₂ p hp
              refine ⟨old3 _ _ ?_ z.1, z.2⟩
              rcases List.mem_cons.mp hp with rfl | hp
              · exact hDC
              · exact (off3 p hp).2.1
        refine wpAny_mono (R'' I oI H2.objs.size oC s₂.heap.objs.size _ h₃ _ _ hoC (by simp [h12, h13]) (by simp [h23]) (by simp) F₃ N₃ off₀ ⟨hCI, hDI, Ne.symm hDC⟩) (fun okb s₄ h₄ => ?_) fun _ _ e => e
        cases okb with
        | true =>
          simp only [if_true] at h₄ ⊢
          refine wpAny_mono h₄ (fun y s₅ h₅ => ?_) fun _ _ e => e
          obtain ⟨h₈, tk₄, news₄, rfl, F₄, N₄, off₄, hS₄, rfl, R₄⟩ := h₅
          have zI := (N₄ (I, oI) List.mem_cons_self).1
          have zC := (N₄ (H2.objs.size, oC) (List.mem_cons_of_mem _ List.mem_cons_self)).1
          have zD := (N₄ (s₂.heap.objs.size, lst ys) (List.mem_cons_of_mem _ (List.mem_cons_of_mem _ List.mem_cons_self))).1
          have N₄' : News h₀ L h₈ news₄ := fun p hp => N₄ p (List.mem_cons_of_mem _ (List.mem_cons_of_mem _ (List.mem_cons_of_mem _ hp)))
          have hst₄ : h₈.IsListIter I ax (i + 1) ∧ h₈.IsList ax its := list_st _ _ _ _ _ hst₃ heI zI F₄.keep N₄' (.inr ⟨_, hmem, rfl, _, rfl⟩)
          refine append_at (hsz := by show ys.toArray.size ≤ sizeLine; rw [List.size_toArray]; exact Nat.le_trans (Nat.le_trans hyl hi) hsz) zD fun h₅ hs₅ hD₅ => ?_
          refine ⟨its.size + 1 - (i + 1), by omega, h₅, tk₄, i + 1, ys ++ [y], _, rfl, hlt, rfl, by rw [List.length_append, List.length_singleton]; exact Nat.succ_le_succ hyl, W.frame _ _ _ hst₄ fun b hb o e => hs₅.extBut b o ((inFp b hb).elim (fun q => q ▸ hDI) (fun q => q ▸ hDax)) e, F₄.change hs₅ hDL hD₀,
            (hoC.ns zC).sameBut hs₅ (Ne.symm hDC), fun p hp => ?_, R₄⟩
          rcases List.mem_cons.mp hp with rfl | hp
          · exact ⟨hD₅.trans (congrArg some (lst_snoc ys y)), hDL, hD₀⟩
          · exact ⟨hs₅.extBut _ _ (off3 p hp).2.2 (N₄' p hp).1, (N₄' p hp).2⟩
        | false =>
          simp only [Bool.false_eq_true, if_false] at h₄ ⊢
          obtain ⟨h₅, tk₄, news₄, rfl, F₄, N₄, off₄, hS₄, rfl, R₄⟩ := h₄
          have zI := (N₄ (I, oI) List.mem_cons_self).1
          have zC := (N₄ (H2.objs.size, oC) (List.mem_cons_of_mem _ List.mem_cons_self)).1
          have N₄' : News h₀ L h₅ news₄ := fun p hp => N₄ p (List.mem_cons_of_mem _ (List.mem_cons_of_mem _ (List.mem_cons_of_mem _ hp)))
          have hst₄ : h₅.IsListIter I ax (i + 1) ∧ h₅.IsList ax its := list_st _ _ _ _ _ hst₃ heI zI F₄.keep N₄' (.inr ⟨_, hmem, rfl, _, rfl⟩)
          refine ⟨its.size + 1 - (i + 1), by omega, h₅, tk₄, i + 1, ys, _, rfl, hlt, rfl, Nat.le_succ_of_le hyl, hst₄, F₄, hoC.ns zC, fun p hp => ?_, R₄⟩
          rcases List.mem_cons.mp hp with rfl | hp
          · exact N₄ _ (List.mem_cons_of_mem _ (List.mem_cons_of_mem _ List.mem_cons_self))
          · exact N₄' p hp
      · obtain rfl : i = its.size := Nat.le_antisymm hi (Nat.not_lt.mp hlt)
        refine W.done _ _ _ hst' fun h₂ tk₂ hk₂ => ?_
        exact hRR _ _ h₂ tk₂ _ ys (fr_but F' hk₂ hIL hI₀) (news_but N' hk₂ fun p hp => by
          rcases List.mem_cons.mp hp with rfl | hp
          · exact Ne.symm hDI
          · exact (off3 p hp).1) off₀.one (hn'.at' fun o e => hk₂ _ o (by simpa using Ne.symm hCI) e) hC₀ hD₀ hCL hDL (Ne.symm hDC) (fun p hp => (off3 p hp).2.1) hinv
    · rcases List.mem_cons.mp hp with rfl | hp
      · exact ⟨hacc, hDL, hD₀⟩
      · exact ⟨old _ _ (N p hp).1, (N p hp).2⟩
  exact codeAny_compStart_list (loop _ rfl) (W.self 0 _ _ _ hst₁ (loop _ rfl))
noncomputable def Src3 (prog : Program) (w : World) (A : Around) (h₀ : Heap) (L : Addr) (m : Str → Option Value) (env : Env) (ct elt : PySem.Expr) (x x₂ x₃ : Str) (scope : Scope) (cl : List (Str × Addr)) (Fin : Shared → List Value → List (Addr × Obj) → Prop) (xv : Value) (s₁ : Shared) : Prop :=
  ∃ ax its k news Inv, xv = .ref ax ∧ A.handled = none ∧ Fr h₀ L s₁.heap m ∧ News h₀ L s₁.heap news ∧ (ax, ({ cls := .type "list", data := .seq its k } : Obj)) ∈ news ∧ its.size ≤ sizeLine ∧ Inv 0 [] ∧
    (∀ s₂ : Shared, (∃ h, s₂ = { s₁ with heap := h }) → Turn3 prog w A h₀ L m env ct elt x x₂ x₃ scope cl s₂ news its Inv) ∧
    ∀ s₂ : Shared, (∃ h, s₂ = { s₁ with heap := h }) → ∀ ys, Inv its.size ys → Fin s₂ ys news
theorem ListComp_3 {ct elt iter : PySem.Expr} {x x₂ x₃ : Str} {px px₂ px₃ tp : Pos} {tk} {scope : Scope} {cl : List (Str × Addr)} {pos : Pos} {Q : Value → Shared → Prop} (F₀ : Fr h₀ L s.heap m)
    (hclos : closureFor scope env = pure cl) (hcell : ∀ y ∈ scope.names, y.2 ≠ .cell) (hkind : scope.kind = .function)
    (hnames : ∀ y ∈ scope.names, y.2 = .local → scope.names.lookup y.1 = some .local) (hx : scope.names.lookup x = some .local) (hx₂ : scope.names.lookup x₂ = some .local) (hx₃ : scope.names.lookup x₃ = some .local) (h12 : x ≠ x₂) (h13 : x ≠ x₃) (h23 : x₂ ≠ x₃)
    (h : wpAny (model prog w) A (eval iter env) (Src3 prog w A h₀ L m env ct elt x x₂ x₃ scope cl (fun s₂ => FinE h₀ L m s₂ Q)) E s)
    (hs : ∀ x, foldedSetIterable iter env x = pure x := by intro _; rfl) :
    wpAny (model prog w) A (eval (.ListComp elt [⟨.Tuple [.Name x px, .Name x₂ px₂, .Name x₃ px₃] tk tp, iter, [ct], 0⟩] scope pos) env) Q E s := by
  rw [eval_ListComp]
  refine wpAny_comprehension_free (use := none) rfl hs hclos hkind hnames (wpAny_mono h (fun xv s₁ h₁ => ?_) fun _ _ e => e)
  obtain ⟨ax, its, k, news, Inv, rfl, hh, F, N, hmem, hsz, hI0, R, hfin⟩ := h₁
  have hl : s₁.heap.IsList ax its := ⟨_, (N _ hmem).1, rfl, k, rfl⟩
  have hlt : ax < s₁.heap.objs.size := Heap.lt_size (N _ hmem).1
  refine wpAny_pyIter_list hl ?_
  have up : ∀ b o, s₁.heap.get? b = some o → (s₁.heap.push { cls := .type "list_iterator", data := .fields #[.ref ax, .int 0 0] }).get? b = some o := fun b o e => Heap.get?_push_of_some _ e
  refine block3 (I := s₁.heap.objs.size) (Nat.ne_of_lt hlt) hsz hmem hcell hkind hx hx₂ hx₃ h12 h13 h23 hh ⟨⟨_, Heap.get?_push_size _ rfl, rfl, rfl⟩, hl.push _⟩ (by show _ < (s₁.heap.push _).objs.size; rw [Heap.size_push]; exact Nat.lt_succ_self _) (by show _ < (s₁.heap.push _).objs.size; rw [Heap.size_push]; exact Nat.lt_succ_of_lt hlt)
    (F.keeps up) (N.grown up) (Nat.ne_of_lt F.ns.lt) (next_is_new F) (fun p hp => Nat.ne_of_lt (Heap.lt_size (N p hp).1)) hI0 (R _ ⟨_, rfl⟩) ?_
  intro D C h tk m' ys F' N' o1 hn hC₀ hD₀ hCL hDL hCD offC hinv
  refine ⟨m', hn, fun h'' hs'' => hfin s₁ ⟨s₁.heap, rfl⟩ ys hinv D h'' tk (F'.change hs'' hCL hC₀) (fun p hp => ?_) o1⟩
  refine ⟨hs''.extBut _ _ ?_ (N' p hp).1, (N' p hp).2⟩
  rcases List.mem_cons.mp hp with rfl | hp
  · exact Ne.symm hCD
  · exact offC p hp
theorem Assign_ListComp_3 {ct elt iter : PySem.Expr} {x x₂ x₃ y : Str} {px px₂ px₃ tp py : Pos} {tk} {scope : Scope} {cl : List (Str × Addr)} {pos spos : Pos} {Q : Flow → Shared → Prop} (F₀ : Fr h₀ L s.heap m) (hLe : env.locals = L)
    (hsw : swapsWith (.ListComp elt [⟨.Tuple [.Name x px, .Name x₂ px₂, .Name x₃ px₃] tk tp, iter, [ct], 0⟩] scope pos) (some (.Name y py)) spos.line env = pure true)
    (hclos : closureFor scope env = pure cl) (hcell : ∀ z ∈ scope.names, z.2 ≠ .cell) (hkind : scope.kind = .function)
    (hnames : ∀ z ∈ scope.names, z.2 = .local → scope.names.lookup z.1 = some .local) (hx : scope.names.lookup x = some .local) (hx₂ : scope.names.lookup x₂ = some .local) (hx₃ : scope.names.lookup x₃ = some .local) (h12 : x ≠ x₂) (h13 : x ≠ x₃) (h23 : x₂ ≠ x₃)
    (hy : env.kindOf y = some .local) (hp : (env.scope.kind == .class || (env.scope.kind == .module && env.locals != env.globals)) = false)
    (h : wpAny (model prog w) A (eval iter env) (Src3 prog w A h₀ L m env ct elt x x₂ x₃ scope cl (fun s₂ => FinA h₀ L m s₂ y Q)) E s)
    (hs : ∀ x, foldedSetIterable iter env x = pure x := by intro _; rfl) :
    wpAny (model prog w) A (exec (.Assign [.Name y py] (.ListComp elt [⟨.Tuple [.Name x px, .Name x₂ px₂, .Name x₃ px₃] tk tp, iter, [ct], 0⟩] scope pos) spos) env) Q E s := by
  subst hLe
  rw [exec_Assign_Name_used _ _ _ _ hsw]
  refine wpAny_bind (wpAny_standAt (wpAny_bind ?_))
  show wpAny _ A (do let _ ← comprehension (.ListComp elt [⟨.Tuple [.Name x px, .Name x₂ px₂, .Name x₃ px₃] tk tp, iter, [ct], 0⟩] scope pos) scope env _ (newList []) false (eval iter env) (some (assign (.Name y py) env))) _ _ s
  refine wpAny_bind (wpAny_mono (wpAny_comprehension_free (use := some (assign (.Name y py) env)) (Q := fun _ s' => Q .next s') rfl hs hclos hkind hnames
    (wpAny_mono h (fun xv s₁ h₁ => ?_) fun _ _ e => e)) (fun _ s' hq => wpAny_pure (wpAny_pure hq)) fun _ _ e => e)
  obtain ⟨ax, its, k, news, Inv, rfl, hh, F, N, hmem, hsz, hI0, R, hfin⟩ := h₁
  have hl : s₁.heap.IsList ax its := ⟨_, (N _ hmem).1, rfl, k, rfl⟩
  have hlt : ax < s₁.heap.objs.size := Heap.lt_size (N _ hmem).1
  refine wpAny_pyIter_list hl ?_
  have up : ∀ b o, s₁.heap.get? b = some o → (s₁.heap.push { cls := .type "list_iterator", data := .fields #[.ref ax, .int 0 0] }).get? b = some o := fun b o e => Heap.get?_push_of_some _ e
  refine block3 (I := s₁.heap.objs.size) (Nat.ne_of_lt hlt) hsz hmem hcell hkind hx hx₂ hx₃ h12 h13 h23 hh ⟨⟨_, Heap.get?_push_size _ rfl, rfl, rfl⟩, hl.push _⟩ (by show _ < (s₁.heap.push _).objs.size; rw [Heap.size_push]; exact Nat.lt_succ_self _) (by show _ < (s₁.heap.push _).objs.size; rw [Heap.size_push]; exact Nat.lt_succ_of_lt hlt)
    (F.keeps up) (N.grown up) (Nat.ne_of_lt F.ns.lt) (next_is_new F) (fun p hp => Nat.ne_of_lt (Heap.lt_size (N p hp).1)) hI0 (R _ ⟨_, rfl⟩) ?_
  intro D C h' tk m' ys F' N' o1 hn hC₀ hD₀ hCL hDL hCD offC hinv
  show wpAny _ A (assign (.Name y py) env (.ref D)) _ _ _
  refine wpAny_assign_Name (wpAny_storeName_local hy F'.ns (fun h₂ hn₂ hs₂ => ?_) hp)
  have hL₀ : h₀.get? env.locals = none := Heap.get?_none_of_le F'.above
  have F₂ : Fr h₀ env.locals h₂ (fun z => if z = y then some (.ref D) else m z) := ⟨hn₂, fun b o e => hs₂.extBut b o (fun q => by rw [q, hL₀] at e; cases e) (F'.keep b o e), F'.above⟩
  refine ⟨m', hn.sameBut hs₂ hCL, fun h'' hs'' => hfin s₁ ⟨s₁.heap, rfl⟩ ys hinv D h'' _ (F₂.change hs'' hCL hC₀) (fun p hp => ?_) o1⟩
  have z : h₂.get? p.1 = some p.2 := hs₂.extBut _ _ (N' p hp).2.1 (N' p hp).1
  refine ⟨hs''.extBut _ _ ?_ z, (N' p hp).2⟩
  rcases List.mem_cons.mp hp with rfl | hp
  · exact Ne.symm hCD
  · exact offC p hp
end
end
section
section
variable {prog : Program} {w : World} {A : Around} {E : Value → Shared → Prop} {s : Shared} {h₀ : Heap} {L : Addr} {news : List (Addr × Obj)}
theorem shaped_lst (ns : List Int) : SeqAt.shaped (.list (ns.map PyData.int)) = true := by
  simp [SeqAt.shaped, PyData.canLay0, PyData.depth, ke_canLayAll0, ke_depthAll]
theorem eq_lists {a b : Addr} {vs ws : List Value} {ns ms : List Int} {n k : Nat} {Q : Value → Shared → Prop} (N : News h₀ L s.heap news) (ha : (a, listOf vs.toArray n) ∈ news) (hb : (b, listOf ws.toArray k) ∈ news)
    (hi : IntsAre vs ns) (hj : IntsAre ws ms) (hu : A.units + 64 < cLine) (h : Q (.bool (decide (ns = ms))) s) :
    wpAny (model prog w) A (compareOp .Eq (.ref a) (.ref b)) Q E s := by
  refine eq_dataH (reads_list_at (N _ ha).1 rfl rfl (reads_ints hi)) (reads_list_at (N _ hb).1 rfl rfl (reads_ints hj)) (shaped_lst _) (shaped_lst _) hu ?_
  rw [PyData.eqv, ked_eqvAll]
  exact h
theorem ne_lists {a b : Addr} {vs ws : List Value} {ns ms : List Int} {n k : Nat} {Q : Value → Shared → Prop} (N : News h₀ L s.heap news) (ha : (a, listOf vs.toArray n) ∈ news) (hb : (b, listOf ws.toArray k) ∈ news)
    (hi : IntsAre vs ns) (hj : IntsAre ws ms) (hu : A.units + 64 < cLine) (h : Q (.bool (!decide (ns = ms))) s) :
    wpAny (model prog w) A (compareOp .NotEq (.ref a) (.ref b)) Q E s := by
  refine ne_dataH (reads_list_at (N _ ha).1 rfl rfl (reads_ints hi)) (reads_list_at (N _ hb).1 rfl rfl (reads_ints hj)) (shaped_lst _) (shaped_lst _) hu ?_
  rw [PyData.eqv, ked_eqvAll]
  exact h
theorem ne_tups {a b : Addr} {vs ws : List Value} {ns ms : List Int} {n k : Nat} {Q : Value → Shared → Prop} (N : News h₀ L s.heap news) (ha : (a, tupOf vs n) ∈ news) (hb : (b, tupOf ws k) ∈ news)
    (hi : IntsAre vs ns) (hj : IntsAre ws ms) (hu : A.units + 64 < cLine) (h : Q (.bool (!decide (ns = ms))) s) :
    wpAny (model prog w) A (compareOp .NotEq (.ref a) (.ref b)) Q E s := by
  refine ne_dataH (reads_tuple_at (N _ ha).1 rfl rfl (reads_ints hi)) (reads_tuple_at (N _ hb).1 rfl rfl (reads_ints hj)) (shaped_tup _) (shaped_tup _) hu ?_
  rw [PyData.eqv, ked_eqvAll]
  exact h
theorem hu_up4 {un : Nat} (h : un + 300 < cLine) : un + 64 < cLine := by omega
end
end
section
theorem ext_15 : True := by
  w_top off
  k_with_none
  k_with "own room" => ktr_room
  k_with "own all" => (first
      | assumption
      | exact ne_of_lts (by with_reducible assumption)
      | exact ne_of_all (And.right (by with_reducible assumption))
      | exact ne_of_all (And.right (And.right (by with_reducible assumption)))
      | exact ne_of_all (And.right (And.right (And.right (by with_reducible assumption))))
      | exact ne_of_all (And.right (And.right (And.right (And.right (by with_reducible assumption)))))
      | exact ne_of_all (And.right (And.right (And.right (And.right (And.right (by with_reducible assumption))))))
      | exact ne_of_all (And.right (And.right (And.right (And.right (And.right (And.right (by with_reducible assumption)))))))
      | exact ne_of_all (And.right (And.right (And.right (And.right (And.right (And.right (And.right (by with_reducible assumption)))))))))
  k_with "own sub" => (first
      | (refine' Drop.head ?zzqh; (case zzqh => k_all))
      | (refine' Drop.tail (Or.inr ?zzqa) ?zzqb; (case zzqa => k_cls); (case zzqb => lcg_sub))
      | (refine' Drop.tail (Or.inl ?zzqa) ?zzqb; (case zzqa => k_ne); (case zzqb => lcg_sub)))
  k_with "UnrEnd" => (k_dflt (refine' unr_end ?zzF ?zzN ?zzD ?_; (case zzF => k_asm); (case zzN => k_asm); (case zzD => lcg_sub)))
  k_with "own get" => assumption
  k_with "own mem" => (refine memN ?_; ktr_member)
  k_with "own off" => (first | (with_reducible assumption) | (simp only [LCg.Off3, and_true]; with_reducible assumption))
  k_with "CompEnd" => (refine LCg.CompEnd.intro (by k_asm) (by k_asm) _ (fun _ hp => hp) ?zzoff ?zzsrc ?_; (case zzoff => lcg_off); (case zzsrc => lcg_src))
  k_with "own enter" => (first
      | ktr_enter
      | (refine' code_def ?zzk1 ?zzk2 ?zzk3 ?zzk4 ?zzk5 ?zzkA ?zzkF ?zzkK ?zzk6 ?zzk7 ?zzk8 ?zzk9 ?zzkB ?_ ?zzc2 ?zzc3 ?zzc4 ?zzc5; (case zzkA => exact rfl); (case zzkF => exact rfl); (case zzkK => first | exact rfl | assumption); (case zzk1 => k_asm); (case zzk2 => k_asm); (case zzk3 => k_asm); (case zzk4 => k_asm); (case zzk5 => k_asm); (case zzk6 => k_is); (case zzk7 => k_is); (case zzk8 => ktr_room); (case zzk9 => first | exact BindsTo.of_eq rfl | exact binds_K (by k_in) rfl (by k_is) rfl rfl rfl); (case zzc5 => decide); (case zzkB => exact locs rfl); (case zzc2 => exact rfl); (case zzc3 => exact rfl); (case zzc4 => exact rfl); k_whole; intro zg' zL' zh' zFG' zF' zN' zB' zX' zT'; (try dsimp only); (try k_lift zB'); (try k_fold))
      | (refine' code_defC ?zzk1 ?zzk2 ?zzk3 ?zzk4 ?zzk5 ?zzkA ?zzkF ?zzkK ?zzk6 ?zzk7 ?zzk8 ?zzk9 ?zzkB ?zzkD ?_ ?zzc2 ?zzc3 ?zzc4; (case zzkA => exact rfl); (case zzkF => exact rfl); (case zzkK => first | exact rfl | assumption); (case zzk1 => k_asm); (case zzk2 => k_asm); (case zzk3 => k_asm); (case zzk4 => k_asm); (case zzk5 => k_asm); (case zzk6 => k_is); (case zzk7 => k_is); (case zzk8 => ktr_room); (case zzk9 => exact BindsTo.of_eq rfl); (case zzkB => exact rfl); (case zzkD => decide +kernel); (case zzc2 => exact rfl); (case zzc3 => exact rfl); (case zzc4 => exact rfl); k_whole; intro zg' zL' zh' ztk' zcells' zFG' zF' zN' zY' zB' zX' zT' zl1; (try k_lt zl1); k_cells zY'; (try simp only [List.cons_append, List.nil_append] at zN'); (try dsimp only); (try k_lift zB'); (try k_fold)))
  k_with "compareOp NotEq ref ref" => (k_here; k_dflt (first
      | (refine' ne_lists ?zzN ?zza ?zzb ?zzi ?zzj ?zzu ?_; (case zzN => k_asm); (case zza => k_mem); (case zzb => k_mem); (case zzi => first | assumption | exact .nil); (case zzj => first | assumption | exact .nil); (case zzu => exact hu_up4 (by assumption)); k_whole)
      | (refine' ne_tups ?zzN ?zza ?zzb ?zzi ?zzj ?zzu ?_; (case zzN => k_asm); (case zza => k_mem); (case zzb => k_mem); (case zzi => exact .cons _ _ (.cons _ _ .nil)); (case zzj => exact .cons _ _ (.cons _ _ .nil)); (case zzu => exact hu_up4 (by assumption)); k_whole)))
  k_with "compareOp Eq ref ref" => (k_here; k_dflt (refine' eq_lists ?zzN ?zza ?zzb ?zzi ?zzj ?zzu ?_; (case zzN => k_asm); (case zza => k_mem); (case zzb => k_mem); (case zzi => first | assumption | exact .nil); (case zzj => first | assumption | exact .nil); (case zzu => exact hu_up4 (by assumption)); k_whole))
  k_with "eval Name" => (k_here; k_dflt (refine' nameX_L ?zzF ?zzv ?_ ?zza ?zzb; (case zzF => k_asm); (case zzv => first | assumption | (dsimp only; rw [if_neg (by decide)]; assumption) | (dsimp only; rw [if_neg (by decide), if_neg (by decide)]; assumption)); (case zza => rfl); (case zzb => rfl); k_whole))
  k_with "call ref" => ((with_reducible show wpAny _ _ (call (Value.ref 168) _) _ _ _); (refine held ?_))
  k_with "call ref" => ((with_reducible show wpAny _ _ (call (Value.ref 175) _) _ _ _); (refine held ?_))
  k_with "call ref" => ((with_reducible show wpAny _ _ (call (Value.ref 180) _) _ _ _); (refine held ?_))
  k_with "call ref" => ((with_reducible show wpAny _ _ (call (Value.ref 187) _) _ _ _); (refine held ?_))
  trivial
theorem hd_up4 {dp : Nat} (h : dp + 60 < recursionLimit) : dp + 10 < recursionLimit := by omega
theorem turn_0 {w : World} {p : Program} {loose : List Str} {mean : ExcName → Option Value} {mg mb : Str → Option Value}
  {dp un : Nat} {gd : Option (List Code)} {a : Addr} {ccd : Value} {A₀ : Around} {h₀ : Heap} {L cA t c : Addr} {m : Str → Option Value} {rest : List (Addr × Obj)} {s : Shared} {oc : Obj}
  {i : Int} {ti : Tok} {n1 n2 : Nat} {vs : List Value} {ns : List Int} {Q : Flow → Shared → Prop} {E : Value → Shared → Prop}
  (B : Below A₀ h₀ [] h₀) (F : Fr h₀ L s.heap m) (X : (Mine.hd.heap_39 w.params).In h₀) (T : Top p loose mean mg mb h₀) (hd : dp + 60 < recursionLimit) (hu : un + 300 < cLine)
  (N : News h₀ L s.heap ((t, listOf [.ref c, .int i ti].toArray n1) :: (c, listOf vs.toArray n2) :: rest))
  (htc : @Ne Nat t c) (hrt : ∀ q ∈ rest, q.1 ≠ t) (hrc : ∀ q ∈ rest, q.1 ≠ c) (hI : IntsAre vs ns) (hlen : 0 < ns.length) (hlen2 : ns.length ≤ 60) (hi : 0 ≤ i) (hi2 : i < 900) (hcell : (cA, oc) ∈ rest) (hoc : oc.data = .cell (some (.ref t)))
  (ret : ∀ r tk h' tks vs' ns' n1' n2' ti', 0 ≤ r → r < 3 → ns'.length = ns.length → IntsAre vs' ns' → Fr h₀ L h' (fun y => if y = "level" then some (.int r tk) else m y) →
    News h₀ L h' ((t, listOf [.ref c, .int (i+1) ti'].toArray n1') :: (c, listOf vs'.toArray n2') :: rest) → Q .next { s with heap := h', toks := tks }) :
  wpAny (model PySem.Challenge.rw_pc0123_01.row.prog w) (ktrTop dp un gd "law" lawS L a ccd [("tape", cA)] []) (exec (nthS turnB 0) (envX "law" lawS L a ccd [("tape", cA)])) Q E s := by
  dsimp only [turnB, itemB, lawB, lawS, lawD, PySem.Challenge.pw_pc0123_01, lastS, bodyS, nthS, scopeS]
  k_steps
  refine unheld ?_
  k_dflt (refine' draw_spec ?dB1 ?dF1 ?dX1 ?dN1 ?dT1 rfl ?dtc1 ?drt1 ?drc1 hI hlen hlen2 hi (by omega) ?dl1 ?dm1 ?dd1 ?du1 ?dr1)
  case dB1 => k_asm
  case dF1 => k_asm
  case dX1 => k_asm
  case dN1 => k_asm
  case dT1 => k_asm
  case dtc1 => exact htc
  case drt1 => exact hrt
  case drc1 => exact hrc
  case dl1 => omega
  case dm1 => omega
  case dd1 => exact hd_up4 hd
  case du1 => exact hu_up4 hu
  case dr1 =>
    intro r0 tk0 h0 tks0 vs0 ns0 n10 n20 ti0 hr0 hr1 hnl hI0 F0 N0
    k_steps
    exact ret _ _ _ _ _ _ _ _ _ hr0 hr1 hnl hI0 (by k_asm) (by k_asm)
end
section
theorem ext_16 : True := by
  w_top off
  k_with_none
  k_with "own room" => ktr_room
  k_with "own all" => (first
      | assumption
      | exact ne_of_lts (by with_reducible assumption)
      | exact ne_of_all (And.right (by with_reducible assumption))
      | exact ne_of_all (And.right (And.right (by with_reducible assumption)))
      | exact ne_of_all (And.right (And.right (And.right (by with_reducible assumption))))
      | exact ne_of_all (And.right (And.right (And.right (And.right (by with_reducible assumption)))))
      | exact ne_of_all (And.right (And.right (And.right (And.right (And.right (by with_reducible assumption))))))
      | exact ne_of_all (And.right (And.right (And.right (And.right (And.right (And.right (by with_reducible assumption)))))))
      | exact ne_of_all (And.right (And.right (And.right (And.right (And.right (And.right (And.right (by with_reducible assumption)))))))))
  k_with "own sub" => (first
      | (refine' Drop.head ?zzqh; (case zzqh => k_all))
      | (refine' Drop.tail (Or.inr ?zzqa) ?zzqb; (case zzqa => k_cls); (case zzqb => lcg_sub))
      | (refine' Drop.tail (Or.inl ?zzqa) ?zzqb; (case zzqa => k_ne); (case zzqb => lcg_sub)))
  k_with "UnrEnd" => (k_dflt (refine' unr_end ?zzF ?zzN ?zzD ?_; (case zzF => k_asm); (case zzN => k_asm); (case zzD => lcg_sub)))
  k_with "own get" => assumption
  k_with "own mem" => (refine memN ?_; ktr_member)
  k_with "own off" => (first | (with_reducible assumption) | (simp only [LCg.Off3, and_true]; with_reducible assumption))
  k_with "CompEnd" => (refine LCg.CompEnd.intro (by k_asm) (by k_asm) _ (fun _ hp => hp) ?zzoff ?zzsrc ?_; (case zzoff => lcg_off); (case zzsrc => lcg_src))
  k_with "own enter" => (first
      | ktr_enter
      | (refine' code_def ?zzk1 ?zzk2 ?zzk3 ?zzk4 ?zzk5 ?zzkA ?zzkF ?zzkK ?zzk6 ?zzk7 ?zzk8 ?zzk9 ?zzkB ?_ ?zzc2 ?zzc3 ?zzc4 ?zzc5; (case zzkA => exact rfl); (case zzkF => exact rfl); (case zzkK => first | exact rfl | assumption); (case zzk1 => k_asm); (case zzk2 => k_asm); (case zzk3 => k_asm); (case zzk4 => k_asm); (case zzk5 => k_asm); (case zzk6 => k_is); (case zzk7 => k_is); (case zzk8 => ktr_room); (case zzk9 => first | exact BindsTo.of_eq rfl | exact binds_K (by k_in) rfl (by k_is) rfl rfl rfl); (case zzc5 => decide); (case zzkB => exact locs rfl); (case zzc2 => exact rfl); (case zzc3 => exact rfl); (case zzc4 => exact rfl); k_whole; intro zg' zL' zh' zFG' zF' zN' zB' zX' zT'; (try dsimp only); (try k_lift zB'); (try k_fold))
      | (refine' code_defC ?zzk1 ?zzk2 ?zzk3 ?zzk4 ?zzk5 ?zzkA ?zzkF ?zzkK ?zzk6 ?zzk7 ?zzk8 ?zzk9 ?zzkB ?zzkD ?_ ?zzc2 ?zzc3 ?zzc4; (case zzkA => exact rfl); (case zzkF => exact rfl); (case zzkK => first | exact rfl | assumption); (case zzk1 => k_asm); (case zzk2 => k_asm); (case zzk3 => k_asm); (case zzk4 => k_asm); (case zzk5 => k_asm); (case zzk6 => k_is); (case zzk7 => k_is); (case zzk8 => ktr_room); (case zzk9 => exact BindsTo.of_eq rfl); (case zzkB => exact rfl); (case zzkD => decide +kernel); (case zzc2 => exact rfl); (case zzc3 => exact rfl); (case zzc4 => exact rfl); k_whole; intro zg' zL' zh' ztk' zcells' zFG' zF' zN' zY' zB' zX' zT' zl1; (try k_lt zl1); k_cells zY'; (try simp only [List.cons_append, List.nil_append] at zN'); (try dsimp only); (try k_lift zB'); (try k_fold)))
  k_with "compareOp NotEq ref ref" => (k_here; k_dflt (first
      | (refine' ne_lists ?zzN ?zza ?zzb ?zzi ?zzj ?zzu ?_; (case zzN => k_asm); (case zza => k_mem); (case zzb => k_mem); (case zzi => first | assumption | exact .nil); (case zzj => first | assumption | exact .nil); (case zzu => exact hu_up4 (by assumption)); k_whole)
      | (refine' ne_tups ?zzN ?zza ?zzb ?zzi ?zzj ?zzu ?_; (case zzN => k_asm); (case zza => k_mem); (case zzb => k_mem); (case zzi => exact .cons _ _ (.cons _ _ .nil)); (case zzj => exact .cons _ _ (.cons _ _ .nil)); (case zzu => exact hu_up4 (by assumption)); k_whole)))
  k_with "compareOp Eq ref ref" => (k_here; k_dflt (refine' eq_lists ?zzN ?zza ?zzb ?zzi ?zzj ?zzu ?_; (case zzN => k_asm); (case zza => k_mem); (case zzb => k_mem); (case zzi => first | assumption | exact .nil); (case zzj => first | assumption | exact .nil); (case zzu => exact hu_up4 (by assumption)); k_whole))
  k_with "eval Name" => (k_here; k_dflt (refine' nameX_L ?zzF ?zzv ?_ ?zza ?zzb; (case zzF => k_asm); (case zzv => first | assumption | (dsimp only; rw [if_neg (by decide)]; assumption) | (dsimp only; rw [if_neg (by decide), if_neg (by decide)]; assumption)); (case zza => rfl); (case zzb => rfl); k_whole))
  k_with "call ref" => ((with_reducible show wpAny _ _ (call (Value.ref 168) _) _ _ _); (refine held ?_))
  k_with "call ref" => ((with_reducible show wpAny _ _ (call (Value.ref 175) _) _ _ _); (refine held ?_))
  k_with "call ref" => ((with_reducible show wpAny _ _ (call (Value.ref 180) _) _ _ _); (refine held ?_))
  k_with "call ref" => ((with_reducible show wpAny _ _ (call (Value.ref 187) _) _ _ _); (refine held ?_))
  trivial
/-- the levels as the law drew them -/
noncomputable def LevIn (news : List (Addr × Obj)) (v : Value) (q : Int × Int × Int) : Prop := ∃ a k t1 t2 t3, v = .ref a ∧ (a, tupOf [.int q.1 t1, .int q.2.1 t2, .int q.2.2 t3] k) ∈ news
noncomputable def LevsIn (news : List (Addr × Obj)) : List Value → List (Int × Int × Int) → Prop
  | [], [] => True
  | v :: vs, q :: qs => LevIn news v q ∧ LevsIn news vs qs
  | _, _ => False
theorem LevsIn.mono {news news' : List (Addr × Obj)} (hs : ∀ p ∈ news, p ∈ news') : ∀ {vs : List Value} {qs : List (Int × Int × Int)}, LevsIn news vs qs → LevsIn news' vs qs
  | [], [], _ => trivial
  | _ :: _, _ :: _, ⟨⟨a, k, t1, t2, t3, e, h⟩, r⟩ => ⟨⟨a, k, t1, t2, t3, e, hs _ h⟩, LevsIn.mono hs r⟩
theorem LevsIn.length {news : List (Addr × Obj)} : ∀ {vs : List Value} {qs : List (Int × Int × Int)}, LevsIn news vs qs → vs.length = qs.length
  | [], [], _ => rfl
  | _ :: _, _ :: _, h => by rw [List.length_cons, List.length_cons, LevsIn.length h.2]
theorem LevsIn.get {news : List (Addr × Obj)} : ∀ {vs : List Value} {qs : List (Int × Int × Int)} {i : Nat} {v : Value}, LevsIn news vs qs → vs[i]? = some v → LevIn news v (qs.getD i default)
  | [], [], _, _, _, e => by simp at e
  | _ :: _, _ :: _, 0, _, h, e => by
    have := Option.some.inj (by simpa using e)
    exact this ▸ h.1
  | _ :: _, _ :: _, i + 1, _, h, e => by simpa using LevsIn.get (i := i) h.2 (by simpa using e)
theorem pick_up (l : List Value) (k : Nat) : kms_pick l none (some ((k : Int) + 1)) = l.take (k + 1) := by
  unfold kms_pick kms_lo kms_hi
  have h1 : ¬ ((k : Int) + 1 < 0) := by omega
  have h2 : ((k : Int) + 1).toNat = k + 1 := by omega
  simp only [h1, h2, if_false, List.drop_zero, Nat.sub_zero]
  exact kmk_take_min l (k + 1)
theorem take_get {l : List Value} {n i : Nat} {v : Value} (h : (l.take n)[i]? = some v) : l[i]? = some v := by
  rw [List.getElem?_take] at h
  split at h
  · exact h
  · cases h
noncomputable def countsUpto (cs : List (Int × Int × Int)) : Nat → List Int
  | 0 => []
  | i + 1 => countsUpto cs i ++ (if 0 < (cs.getD i default).1 then [(cs.getD i default).1] else [])
theorem counts_yes {cs : List (Int × Int × Int)} {i : Nat} {ys : List Value} {t : Tok} {n : Int} (h : IntsAre ys (countsUpto cs i)) (e : n = (cs.getD i default).1) (h1 : 0 < n) : IntsAre (ys ++ [.int n t]) (countsUpto cs (i + 1)) := by
  subst e
  rw [countsUpto, if_pos h1]
  exact IntsAre.append h (.cons _ _ .nil)
theorem counts_no {cs : List (Int × Int × Int)} {i : Nat} {ys : List Value} (h : IntsAre ys (countsUpto cs i)) (h1 : ¬ 0 < (cs.getD i default).1) : IntsAre ys (countsUpto cs (i + 1)) := by
  rw [countsUpto, if_neg h1, List.append_nil]
  exact h
theorem ext_17 : True := by
  k_with "exec Assign cons ListComp" => (k_here; k_dflt (refine Assign_ListComp_3 (F₀ := by k_asm) (by rfl) (by with_unfolding_all rfl) (by with_unfolding_all rfl) (by decide) (by rfl) (by decide) (by rfl) (by rfl) (by rfl) (by decide) (by decide) (by decide) (by rfl) (by rfl) ?_))
  k_with "subscriptTail Name Slice ref ref" => (refine held ?_)
  trivial
theorem turn_1 {w : World} {p : Program} {loose : List Str} {mean : ExcName → Option Value} {mg mb : Str → Option Value}
  {dp un : Nat} {gd : Option (List Code)} {a : Addr} {ccd : Value} {A₀ : Around} {h₀ : Heap} {L cA t c : Addr} {m : Str → Option Value} {rest : List (Addr × Obj)} {s : Shared} {oc : Obj}
  {i : Int} {ti : Tok} {n1 n2 : Nat} {vs : List Value} {ns : List Int} {Q : Flow → Shared → Prop} {E : Value → Shared → Prop}
  (B : Below A₀ h₀ [] h₀) (F : Fr h₀ L s.heap m) (X : (Mine.hd.heap_39 w.params).In h₀) (T : Top p loose mean mg mb h₀) (hd : dp + 60 < recursionLimit) (hu : un + 300 < cLine)
  (N : News h₀ L s.heap ((t, listOf [.ref c, .int i ti].toArray n1) :: (c, listOf vs.toArray n2) :: rest))
  (htc : @Ne Nat t c) (hrt : ∀ q ∈ rest, q.1 ≠ t) (hrc : ∀ q ∈ rest, q.1 ≠ c) (hI : IntsAre vs ns) (hlen : 0 < ns.length) (hlen2 : ns.length ≤ 60) (hi : 0 ≤ i) (hi2 : i < 900) (hcell : (cA, oc) ∈ rest) (hoc : oc.data = .cell (some (.ref t)))
  {ll nl k : Nat} {lvs : List Value} {cs : List (Int × Int × Int)} {tl : Tok}
  (hm1 : m "level" = some (.int (k : Int) tl)) (hk : k < 3) (hm2 : m "levels" = some (.ref ll)) (hll : (ll, listOf lvs.toArray nl) ∈ rest) (hlv : LevsIn rest lvs cs) (hl3 : lvs.length = 3)
  (ret : ∀ r rs n h' tks, IntsAre rs (countsUpto cs (k + 1)) → Fr h₀ L h' (fun y => if y = "counts" then some (.ref r) else m y) → @Ne Nat r t → @Ne Nat r c → (∀ q ∈ rest, q.1 ≠ r) →
    News h₀ L h' ((t, listOf [.ref c, .int i ti].toArray n1) :: (c, listOf vs.toArray n2) :: (r, listOf rs.toArray n) :: rest) → Q .next { s with heap := h', toks := tks }) :
  wpAny (model PySem.Challenge.rw_pc0123_01.row.prog w) (ktrTop dp un gd "law" lawS L a ccd [("tape", cA)] []) (exec (nthS turnB 1) (envX "law" lawS L a ccd [("tape", cA)])) Q E s := by
  dsimp only [turnB, itemB, lawB, lawS, lawD, PySem.Challenge.pw_pc0123_01, lastS, bodyS, nthS, scopeS]
  k_steps
  refine unheld ?_
  k_dflt (refine' kms_slice_lit (zs := lvs.take (k+1)) ?sF1 ?sN1 ?sl1 ?sp1 ?sq1 ?se1 ?sh1 ?ss1 ?st1 ?sz1)
  case sF1 => k_asm
  case sN1 => k_asm
  case sl1 => kmk_list
  case sp1 => kmk_part
  case sq1 => kmk_part
  case se1 => (exact pick_up lvs k)
  case ss1 => with_unfolding_all rfl
  case st1 => kmk_pure
  case sz1 => (rw [sizeLine_eq, List.size_toArray]; omega)
  case sh1 =>
    intro D9 h9 F9 N9 l9
    have hkn : k + 1 ≤ lvs.length := by omega
    refine ⟨D9, _, _, _, fun i ys => IntsAre ys (countsUpto cs i), rfl, rfl, F9, N9, List.Mem.head _, ?_, .nil, ?_, ?_⟩
    · rw [sizeLine_eq, List.size_toArray, List.length_take]; omega
    · intro s₂ _ i ys v hv hI
      have hv2 : lvs[i]? = some v := by
        rw [List.getElem?_toArray] at hv
        exact take_get hv
      obtain ⟨aL, kL, tL1, tL2, tL3, rfl, hmL⟩ := hlv.get hv2
      refine ⟨aL, _, _, _, kL, rfl, List.Mem.tail _ (List.Mem.tail _ (List.Mem.tail _ hmL)), ?_⟩
      intro I oI C oC D m₂ h tk E' hC hx1 hx2 hx3 F1 N1 off ne
      k_steps
      · exact counts_yes hI rfl (by assumption)
      · exact counts_no hI (by assumption)
    · intro s₂ hs2 ys hys D h tk FD ND oD
      obtain ⟨g2, rfl⟩ := hs2
      have o1 := off1_ne oD
      refine' ret D ys ys.length h tk ?_ FD ?_ ?_ ?_ ?_
      · rw [List.size_toArray, List.length_take, Nat.min_eq_left hkn] at hys; exact hys
      · exact fun q => o1 (t, _) (List.Mem.tail _ (List.Mem.head _)) q.symm
      · exact fun q => o1 (c, _) (List.Mem.tail _ (List.Mem.tail _ (List.Mem.head _))) q.symm
      · exact fun p hp => o1 p (List.Mem.tail _ (List.Mem.tail _ (List.Mem.tail _ hp)))
      · refine News_sub ND ?_
        intro p hp
        rcases List.mem_cons.mp hp with rfl | hp
        · exact .tail _ (.tail _ (.head _))
        rcases List.mem_cons.mp hp with rfl | hp
        · exact .tail _ (.tail _ (.tail _ (.head _)))
        rcases List.mem_cons.mp hp with rfl | hp
        · exact (List.Mem.head _ : (D, LCg.lst ys) ∈ (D, LCg.lst ys) :: _)
        · exact .tail _ (.tail _ (.tail _ (.tail _ hp)))
end
section
theorem ext_18 : True := by
  w_top off
  k_with_none
  k_with "own room" => ktr_room
  k_with "own all" => (first
      | assumption
      | exact ne_of_lts (by with_reducible assumption)
      | exact ne_of_all (And.right (by with_reducible assumption))
      | exact ne_of_all (And.right (And.right (by with_reducible assumption)))
      | exact ne_of_all (And.right (And.right (And.right (by with_reducible assumption))))
      | exact ne_of_all (And.right (And.right (And.right (And.right (by with_reducible assumption)))))
      | exact ne_of_all (And.right (And.right (And.right (And.right (And.right (by with_reducible assumption))))))
      | exact ne_of_all (And.right (And.right (And.right (And.right (And.right (And.right (by with_reducible assumption)))))))
      | exact ne_of_all (And.right (And.right (And.right (And.right (And.right (And.right (And.right (by with_reducible assumption)))))))))
  k_with "own sub" => (first
      | (refine' Drop.head ?zzqh; (case zzqh => k_all))
      | (refine' Drop.tail (Or.inr ?zzqa) ?zzqb; (case zzqa => k_cls); (case zzqb => lcg_sub))
      | (refine' Drop.tail (Or.inl ?zzqa) ?zzqb; (case zzqa => k_ne); (case zzqb => lcg_sub)))
  k_with "UnrEnd" => (k_dflt (refine' unr_end ?zzF ?zzN ?zzD ?_; (case zzF => k_asm); (case zzN => k_asm); (case zzD => lcg_sub)))
  k_with "own get" => assumption
  k_with "own mem" => (refine memN ?_; ktr_member)
  k_with "own off" => (first | (with_reducible assumption) | (simp only [LCg.Off3, and_true]; with_reducible assumption))
  k_with "CompEnd" => (refine LCg.CompEnd.intro (by k_asm) (by k_asm) _ (fun _ hp => hp) ?zzoff ?zzsrc ?_; (case zzoff => lcg_off); (case zzsrc => lcg_src))
  k_with "own enter" => (first
      | ktr_enter
      | (refine' code_def ?zzk1 ?zzk2 ?zzk3 ?zzk4 ?zzk5 ?zzkA ?zzkF ?zzkK ?zzk6 ?zzk7 ?zzk8 ?zzk9 ?zzkB ?_ ?zzc2 ?zzc3 ?zzc4 ?zzc5; (case zzkA => exact rfl); (case zzkF => exact rfl); (case zzkK => first | exact rfl | assumption); (case zzk1 => k_asm); (case zzk2 => k_asm); (case zzk3 => k_asm); (case zzk4 => k_asm); (case zzk5 => k_asm); (case zzk6 => k_is); (case zzk7 => k_is); (case zzk8 => ktr_room); (case zzk9 => first | exact BindsTo.of_eq rfl | exact binds_K (by k_in) rfl (by k_is) rfl rfl rfl); (case zzc5 => decide); (case zzkB => exact locs rfl); (case zzc2 => exact rfl); (case zzc3 => exact rfl); (case zzc4 => exact rfl); k_whole; intro zg' zL' zh' zFG' zF' zN' zB' zX' zT'; (try dsimp only); (try k_lift zB'); (try k_fold))
      | (refine' code_defC ?zzk1 ?zzk2 ?zzk3 ?zzk4 ?zzk5 ?zzkA ?zzkF ?zzkK ?zzk6 ?zzk7 ?zzk8 ?zzk9 ?zzkB ?zzkD ?_ ?zzc2 ?zzc3 ?zzc4; (case zzkA => exact rfl); (case zzkF => exact rfl); (case zzkK => first | exact rfl | assumption); (case zzk1 => k_asm); (case zzk2 => k_asm); (case zzk3 => k_asm); (case zzk4 => k_asm); (case zzk5 => k_asm); (case zzk6 => k_is); (case zzk7 => k_is); (case zzk8 => ktr_room); (case zzk9 => exact BindsTo.of_eq rfl); (case zzkB => exact rfl); (case zzkD => decide +kernel); (case zzc2 => exact rfl); (case zzc3 => exact rfl); (case zzc4 => exact rfl); k_whole; intro zg' zL' zh' ztk' zcells' zFG' zF' zN' zY' zB' zX' zT' zl1; (try k_lt zl1); k_cells zY'; (try simp only [List.cons_append, List.nil_append] at zN'); (try dsimp only); (try k_lift zB'); (try k_fold)))
  k_with "compareOp NotEq ref ref" => (k_here; k_dflt (first
      | (refine' ne_lists ?zzN ?zza ?zzb ?zzi ?zzj ?zzu ?_; (case zzN => k_asm); (case zza => k_mem); (case zzb => k_mem); (case zzi => first | assumption | exact .nil); (case zzj => first | assumption | exact .nil); (case zzu => exact hu_up4 (by assumption)); k_whole)
      | (refine' ne_tups ?zzN ?zza ?zzb ?zzi ?zzj ?zzu ?_; (case zzN => k_asm); (case zza => k_mem); (case zzb => k_mem); (case zzi => exact .cons _ _ (.cons _ _ .nil)); (case zzj => exact .cons _ _ (.cons _ _ .nil)); (case zzu => exact hu_up4 (by assumption)); k_whole)))
  k_with "compareOp Eq ref ref" => (k_here; k_dflt (refine' eq_lists ?zzN ?zza ?zzb ?zzi ?zzj ?zzu ?_; (case zzN => k_asm); (case zza => k_mem); (case zzb => k_mem); (case zzi => first | assumption | exact .nil); (case zzj => first | assumption | exact .nil); (case zzu => exact hu_up4 (by assumption)); k_whole))
  k_with "eval Name" => (k_here; k_dflt (refine' nameX_L ?zzF ?zzv ?_ ?zza ?zzb; (case zzF => k_asm); (case zzv => first | assumption | (dsimp only; rw [if_neg (by decide)]; assumption) | (dsimp only; rw [if_neg (by decide), if_neg (by decide)]; assumption)); (case zza => rfl); (case zzb => rfl); k_whole))
  k_with "call ref" => ((with_reducible show wpAny _ _ (call (Value.ref 168) _) _ _ _); (refine held ?_))
  k_with "call ref" => ((with_reducible show wpAny _ _ (call (Value.ref 175) _) _ _ _); (refine held ?_))
  k_with "call ref" => ((with_reducible show wpAny _ _ (call (Value.ref 180) _) _ _ _); (refine held ?_))
  k_with "call ref" => ((with_reducible show wpAny _ _ (call (Value.ref 187) _) _ _ _); (refine held ?_))
  trivial
section
variable {prog : Program} {w : World} {A : Around} {s : Shared} {h₀ : Heap} {L : Addr} {m : Str → Option Value} {env : Env} {elt : PySem.Expr} {x : Str} {scope : Scope} {cl : List (Str × Addr)} {S : List (Addr × Obj) → Prop} {P : Nat → Value → Prop} {Fin : List Value → List (Addr × Obj) → Prop} {news₀ : List (Addr × Obj)}
/-- a comprehension whose turns change the ledger, by an invariant -/
theorem compU_run {n : Nat} (Inv : Nat → List Value → List (Addr × Obj) → Prop) (h0 : Inv 0 [] news₀)
    (step : ∀ i ys news v I oI C oC D m₂ h tk (E' : Value → Shared → Prop), i < n → Inv i ys news → P i v → LCg.NsObj oC m₂ → m₂ x = some v → Fr h₀ L h m → News h₀ L h ((I, oI) :: (C, oC) :: (D, LCg.lst ys) :: news) → (∀ p ∈ news, p.1 ≠ I ∧ p.1 ≠ C ∧ p.1 ≠ D) → ((@Ne Nat I C) ∧ (@Ne Nat I D) ∧ (@Ne Nat C D)) →
      wpAny (model prog w) A (eval elt (compEnvC scope cl C env)) (LCg.CompEnd h₀ L m { s with heap := h, toks := tk } I oI C oC D (LCg.lst ys) S (fun y news' => Inv (i + 1) (ys ++ [y]) news')) E' { s with heap := h, toks := tk })
    (fin : ∀ ys news, Inv n ys news → Fin ys news) : LCg.CompRest prog w A h₀ L m env elt x scope cl s S P Fin n 0 [] news₀ := by
  suffices H : ∀ k i ys news, i + k = n → Inv i ys news → LCg.CompRest prog w A h₀ L m env elt x scope cl s S P Fin k i ys news from H n 0 [] news₀ (by omega) h0
  intro k
  induction k with
  | zero => intro i ys news e hi; exact LCg.CompRest.zero (fin ys news (by rw [← e]; exact hi))
  | succ k ih =>
    intro i ys news e hi
    refine LCg.CompRest.succ fun v I oI C oC D m₂ h tk E' hP hC hx F N off ne => ?_
    refine wpAny_mono (step i ys news v I oI C oC D m₂ h tk E' (by omega) hi hP hC hx F N off.mem ne) (fun y s₂ q => compEnd_mono q ?_) fun _ _ e => e
    intro y n r
    exact ih (i + 1) _ _ (by omega) r
end
/-- the tape ahead of the rest of the ledger -/
noncomputable def TapeIn (t c : Addr) (b : Int) (rest news : List (Addr × Obj)) : Prop := ∃ i ti n1 n2 vs ns, news = (t, listOf [.ref c, .int i ti].toArray n1) :: (c, listOf vs.toArray n2) :: rest ∧ IntsAre vs ns ∧ 0 < ns.length ∧ ns.length ≤ 60 ∧ 0 ≤ i ∧ i ≤ b
theorem ints_get {vs : List Value} {ns : List Int} {i : Nat} {v : Value} (h : IntsAre vs ns) (e : vs[i]? = some v) : ∃ t, v = .int (ns.getD i 0) t := by
  induction h generalizing i with
  | nil => simp at e
  | cons n t _ ih =>
    cases i with
    | zero => exact ⟨t, (Option.some.inj (by simpa using e)).symm⟩
    | succ i => obtain ⟨t', r⟩ := ih (i := i) (by simpa using e); exact ⟨t', by simpa using r⟩
theorem drt_comp {t I C D : Addr} {oI oC oD : Obj} {rest : List (Addr × Obj)} {P : Prop} (_h : P) (h : t ≠ I ∧ t ≠ C ∧ t ≠ D) (hr : ∀ q ∈ rest, q.1 ≠ t) : ∀ q ∈ (I, oI) :: (C, oC) :: (D, oD) :: rest, q.1 ≠ t := by
  intro q hq
  rcases List.mem_cons.mp hq with rfl | hq
  · exact h.1.symm
  rcases List.mem_cons.mp hq with rfl | hq
  · exact h.2.1.symm
  rcases List.mem_cons.mp hq with rfl | hq
  · exact h.2.2.symm
  · exact hr q hq
theorem ext_19 : True := by
  k_with "exec Assign cons ListComp" => (k_here; k_dflt (refine LCg.Assign_ListComp_U (F₀ := by k_asm) (by rfl) (by with_unfolding_all rfl) (by with_unfolding_all rfl) (by decide) (by rfl) (by decide) (by rfl) (by rfl) (by rfl) ?_))
  k_with "CompSrc" => (refine held ?_)
  k_with "CompEnd" => (refine held ?_)
  trivial
theorem turn_2 {w : World} {p : Program} {loose : List Str} {mean : ExcName → Option Value} {mg mb : Str → Option Value}
  {dp un : Nat} {gd : Option (List Code)} {a : Addr} {ccd : Value} {A₀ : Around} {h₀ : Heap} {L cA t c : Addr} {m : Str → Option Value} {rest : List (Addr × Obj)} {s : Shared} {oc : Obj}
  {i : Int} {ti : Tok} {n1 n2 : Nat} {vs : List Value} {ns : List Int} {Q : Flow → Shared → Prop} {E : Value → Shared → Prop}
  (B : Below A₀ h₀ [] h₀) (F : Fr h₀ L s.heap m) (X : (Mine.hd.heap_39 w.params).In h₀) (T : Top p loose mean mg mb h₀) (hd : dp + 60 < recursionLimit) (hu : un + 300 < cLine)
  (N : News h₀ L s.heap ((t, listOf [.ref c, .int i ti].toArray n1) :: (c, listOf vs.toArray n2) :: rest))
  (htc : @Ne Nat t c) (hrt : ∀ q ∈ rest, q.1 ≠ t) (hrc : ∀ q ∈ rest, q.1 ≠ c) (hI : IntsAre vs ns) (hlen : 0 < ns.length) (hlen2 : ns.length ≤ 60) (hi : 0 ≤ i) (hi2 : i < 900) (hcell : (cA, oc) ∈ rest) (hoc : oc.data = .cell (some (.ref t)))
  {lc nc : Nat} {cvs : List Value} {cns : List Int}
  (hm1 : m "counts" = some (.ref lc)) (hcs : (lc, listOf cvs.toArray nc) ∈ rest) (hci : IntsAre cvs cns) (hpos : ∀ q ∈ cns, 0 < q ∧ q < 1000) (hc3 : cns.length ≤ 3)
  (ret : ∀ r rs ks n h' tks nw, IntsAre rs ks → ks.length = cns.length → Fr h₀ L h' (fun y => if y = "subscripts" then some (.ref r) else m y) → @Ne Nat r t → @Ne Nat r c → (∀ q ∈ rest, q.1 ≠ r) →
    TapeIn t c (i + 3) ((r, listOf rs.toArray n) :: rest) nw → News h₀ L h' nw → Q .next { s with heap := h', toks := tks }) :
  wpAny (model PySem.Challenge.rw_pc0123_01.row.prog w) (ktrTop dp un gd "law" lawS L a ccd [("tape", cA)] []) (exec (nthS turnB 2) (envX "law" lawS L a ccd [("tape", cA)])) Q E s := by
  dsimp only [turnB, itemB, lawB, lawS, lawD, PySem.Challenge.pw_pc0123_01, lastS, bodyS, nthS, scopeS]
  have hcl := IntsAre.length hci
  k_steps
  refine unheld ?_
  refine LCg.CompSrc.ledger (by rfl) (by k_asm) (by k_asm) (by k_mem) (by rw [sizeLine_eq, List.size_toArray]; omega) ?_
  intro gZ
  refine compU_run (n := cvs.toArray.size) (fun j ys news => ∃ ks, IntsAre ys ks ∧ ks.length = j ∧ TapeIn t c (i + j) rest news) ?_ ?_ ?_
  · exact ⟨[], .nil, rfl, i, ti, n1, n2, vs, ns, rfl, hI, hlen, hlen2, hi, by omega⟩
  · intro j ys news v I oI C oC D m₂ h tk E' hj hinv hP hC hx F1 N1 off ne
    obtain ⟨ks, hys, hkl, iJ, tJ, n1J, n2J, vsJ, nsJ, rfl, hIJ, hlJ, hlJ2, hiJ, hbJ⟩ := hinv
    rw [List.size_toArray] at hj
    obtain ⟨tv, rfl⟩ := ints_get hci (by simpa using hP)
    have offT := off (t, _) (List.Mem.head _)
    have offC := off (c, _) (List.Mem.tail _ (List.Mem.head _))
    have hq := hpos (cns.getD j 0) (by rw [List.getD_eq_getElem?_getD, List.getElem?_eq_getElem (by omega)]; exact List.getElem_mem _)
    k_steps
    refine unheld ?_
    k_dflt (refine' draw_spec ?dB1 ?dF1 ?dX1 ?dN1 ?dT1 rfl ?dtc1 ?drt1 ?drc1 hIJ hlJ hlJ2 hiJ (by omega) ?dl1 ?dm1 ?dd1 ?du1 ?dr1)
    case dB1 => k_asm
    case dF1 => k_asm
    case dX1 => k_asm
    case dN1 => exact News_sub (news' := (t, listOf [.ref c, .int iJ tJ].toArray n1J) :: (c, listOf vsJ.toArray n2J) :: (I, oI) :: (C, oC) :: (D, LCg.lst ys) :: rest) (by k_asm) (by (intro p hp; (repeat (rcases List.mem_cons.mp hp with rfl | hp; (solve | (repeat (first | exact List.Mem.head _ | refine List.Mem.tail _ ?_))))); (repeat (first | exact hp | refine List.Mem.tail _ ?_))))
    case dT1 => k_asm
    case dtc1 => exact htc
    case drt1 => exact drt_comp htc (off (t, _) (List.Mem.head _)) hrt
    case drc1 => exact drt_comp htc (off (c, _) (List.Mem.tail _ (List.Mem.head _))) hrc
    case dl1 => exact hq.1
    case dm1 => exact hq.2
    case dd1 => exact hd_up4 hd
    case du1 => exact hu_up4 hu
    case dr1 =>
      intro r0 tk0 h0 tks0 vs0 ns0 n10 n20 ti0 hr0 hr1 hnl hI0 F0 N0
      k_steps
      refine unheld ?_
      refine' LCg.CompEnd.intro ?eF ?eN ((t, listOf [.ref c, .int (iJ + 1) ti0].toArray n10) :: (c, listOf vs0.toArray n20) :: rest) ?eS ?eO ?eR ?eI
      case eF => k_asm
      case eN => k_asm
      case eS => (intro p hp; (repeat (rcases List.mem_cons.mp hp with rfl | hp; (solve | (repeat (first | exact List.Mem.head _ | refine List.Mem.tail _ ?_))))); (repeat (first | exact hp | refine List.Mem.tail _ ?_)))
      case eO => exact LCg.Off3.of (fun p hp => by
          rcases List.mem_cons.mp hp with rfl | hp
          · exact offT
          rcases List.mem_cons.mp hp with rfl | hp
          · exact offC
          · exact off p (List.Mem.tail _ (List.Mem.tail _ hp)))
      case eR => exact .inr ⟨_, List.Mem.tail _ (List.Mem.tail _ hcs), rfl, _, rfl⟩
      case eI => exact ⟨ks ++ [1 + r0], IntsAre.append hys (.cons _ _ .nil), by rw [List.length_append, hkl]; rfl, iJ + 1, ti0, n10, n20, vs0, ns0, rfl, hI0, by omega, by omega, by omega, by omega⟩
  · intro ys news ⟨ks, hys, hkl, hT⟩
    intro D h tk FD ND oD
    have o1 := off1_ne oD
    obtain ⟨iJ, tJ, n1J, n2J, vsJ, nsJ, rfl, hIJ, hlJ, hlJ2, hiJ, hbJ⟩ := hT
    rw [List.size_toArray] at hkl hbJ
    refine ret D ys ks ys.length h tk ((t, listOf [.ref c, .int iJ tJ].toArray n1J) :: (c, listOf vsJ.toArray n2J) :: (D, LCg.lst ys) :: rest) hys (by omega) FD ?_ ?_ ?_ ⟨iJ, tJ, n1J, n2J, vsJ, nsJ, rfl, hIJ, hlJ, hlJ2, hiJ, by omega⟩ ?_
    · exact fun q => o1 (t, _) (List.Mem.head _) q.symm
    · exact fun q => o1 (c, _) (List.Mem.tail _ (List.Mem.head _)) q.symm
    · exact fun p hp => o1 p (List.Mem.tail _ (List.Mem.tail _ hp))
    · exact News_sub ND (by (intro p hp; (repeat (rcases List.mem_cons.mp hp with rfl | hp; (solve | (repeat (first | exact List.Mem.head _ | refine List.Mem.tail _ ?_))))); (repeat (first | exact hp | refine List.Mem.tail _ ?_))))
end
section
theorem ext_20 : True := by
  w_top off
  k_with_none
  k_with "own room" => ktr_room
  k_with "own all" => (first
      | assumption
      | exact ne_of_lts (by with_reducible assumption)
      | exact ne_of_all (And.right (by with_reducible assumption))
      | exact ne_of_all (And.right (And.right (by with_reducible assumption)))
      | exact ne_of_all (And.right (And.right (And.right (by with_reducible assumption))))
      | exact ne_of_all (And.right (And.right (And.right (And.right (by with_reducible assumption)))))
      | exact ne_of_all (And.right (And.right (And.right (And.right (And.right (by with_reducible assumption))))))
      | exact ne_of_all (And.right (And.right (And.right (And.right (And.right (And.right (by with_reducible assumption)))))))
      | exact ne_of_all (And.right (And.right (And.right (And.right (And.right (And.right (And.right (by with_reducible assumption)))))))))
  k_with "own sub" => (first
      | (refine' Drop.head ?zzqh; (case zzqh => k_all))
      | (refine' Drop.tail (Or.inr ?zzqa) ?zzqb; (case zzqa => k_cls); (case zzqb => lcg_sub))
      | (refine' Drop.tail (Or.inl ?zzqa) ?zzqb; (case zzqa => k_ne); (case zzqb => lcg_sub)))
  k_with "UnrEnd" => (k_dflt (refine' unr_end ?zzF ?zzN ?zzD ?_; (case zzF => k_asm); (case zzN => k_asm); (case zzD => lcg_sub)))
  k_with "own get" => assumption
  k_with "own mem" => (refine memN ?_; ktr_member)
  k_with "own off" => (first | (with_reducible assumption) | (simp only [LCg.Off3, and_true]; with_reducible assumption))
  k_with "CompEnd" => (refine LCg.CompEnd.intro (by k_asm) (by k_asm) _ (fun _ hp => hp) ?zzoff ?zzsrc ?_; (case zzoff => lcg_off); (case zzsrc => lcg_src))
  k_with "own enter" => (first
      | ktr_enter
      | (refine' code_def ?zzk1 ?zzk2 ?zzk3 ?zzk4 ?zzk5 ?zzkA ?zzkF ?zzkK ?zzk6 ?zzk7 ?zzk8 ?zzk9 ?zzkB ?_ ?zzc2 ?zzc3 ?zzc4 ?zzc5; (case zzkA => exact rfl); (case zzkF => exact rfl); (case zzkK => first | exact rfl | assumption); (case zzk1 => k_asm); (case zzk2 => k_asm); (case zzk3 => k_asm); (case zzk4 => k_asm); (case zzk5 => k_asm); (case zzk6 => k_is); (case zzk7 => k_is); (case zzk8 => ktr_room); (case zzk9 => first | exact BindsTo.of_eq rfl | exact binds_K (by k_in) rfl (by k_is) rfl rfl rfl); (case zzc5 => decide); (case zzkB => exact locs rfl); (case zzc2 => exact rfl); (case zzc3 => exact rfl); (case zzc4 => exact rfl); k_whole; intro zg' zL' zh' zFG' zF' zN' zB' zX' zT'; (try dsimp only); (try k_lift zB'); (try k_fold))
      | (refine' code_defC ?zzk1 ?zzk2 ?zzk3 ?zzk4 ?zzk5 ?zzkA ?zzkF ?zzkK ?zzk6 ?zzk7 ?zzk8 ?zzk9 ?zzkB ?zzkD ?_ ?zzc2 ?zzc3 ?zzc4; (case zzkA => exact rfl); (case zzkF => exact rfl); (case zzkK => first | exact rfl | assumption); (case zzk1 => k_asm); (case zzk2 => k_asm); (case zzk3 => k_asm); (case zzk4 => k_asm); (case zzk5 => k_asm); (case zzk6 => k_is); (case zzk7 => k_is); (case zzk8 => ktr_room); (case zzk9 => exact BindsTo.of_eq rfl); (case zzkB => exact rfl); (case zzkD => decide +kernel); (case zzc2 => exact rfl); (case zzc3 => exact rfl); (case zzc4 => exact rfl); k_whole; intro zg' zL' zh' ztk' zcells' zFG' zF' zN' zY' zB' zX' zT' zl1; (try k_lt zl1); k_cells zY'; (try simp only [List.cons_append, List.nil_append] at zN'); (try dsimp only); (try k_lift zB'); (try k_fold)))
  k_with "call builtin:len" => (k_here; (with_reducible show wpAny _ _ (call (Value.builtin "len") [Value.ref _]) _ _ _); k_dflt (first
      | (refine' len_led ?zzN ?zzm ?zzk ?zzf ?_; (case zzN => k_asm); (case zzm => k_mem); (case zzk => assumption); (case zzf => omega); k_whole)))
  k_with "compareOp NotEq ref ref" => (k_here; k_dflt (first
      | (refine' ne_lists ?zzN ?zza ?zzb ?zzi ?zzj ?zzu ?_; (case zzN => k_asm); (case zza => k_mem); (case zzb => k_mem); (case zzi => first | assumption | exact .nil); (case zzj => first | assumption | exact .nil); (case zzu => exact hu_up4 (by assumption)); k_whole)
      | (refine' ne_tups ?zzN ?zza ?zzb ?zzi ?zzj ?zzu ?_; (case zzN => k_asm); (case zza => k_mem); (case zzb => k_mem); (case zzi => exact .cons _ _ (.cons _ _ .nil)); (case zzj => exact .cons _ _ (.cons _ _ .nil)); (case zzu => exact hu_up4 (by assumption)); k_whole)))
  k_with "compareOp Eq ref ref" => (k_here; k_dflt (refine' eq_lists ?zzN ?zza ?zzb ?zzi ?zzj ?zzu ?_; (case zzN => k_asm); (case zza => k_mem); (case zzb => k_mem); (case zzi => first | assumption | exact .nil); (case zzj => first | assumption | exact .nil); (case zzu => exact hu_up4 (by assumption)); k_whole))
  k_with "eval Name" => (k_here; k_dflt (refine' nameX_L ?zzF ?zzv ?_ ?zza ?zzb; (case zzF => k_asm); (case zzv => first | assumption | (dsimp only; rw [if_neg (by decide)]; assumption) | (dsimp only; rw [if_neg (by decide), if_neg (by decide)]; assumption)); (case zza => rfl); (case zzb => rfl); k_whole))
  k_with "call ref" => ((with_reducible show wpAny _ _ (call (Value.ref 168) _) _ _ _); (refine held ?_))
  k_with "call ref" => ((with_reducible show wpAny _ _ (call (Value.ref 175) _) _ _ _); (refine held ?_))
  k_with "call ref" => ((with_reducible show wpAny _ _ (call (Value.ref 180) _) _ _ _); (refine held ?_))
  k_with "call ref" => ((with_reducible show wpAny _ _ (call (Value.ref 187) _) _ _ _); (refine held ?_))
  trivial
theorem turn_3 {w : World} {p : Program} {loose : List Str} {mean : ExcName → Option Value} {mg mb : Str → Option Value}
  {dp un : Nat} {gd : Option (List Code)} {a : Addr} {ccd : Value} {A₀ : Around} {h₀ : Heap} {L cA t c : Addr} {m : Str → Option Value} {rest : List (Addr × Obj)} {s : Shared} {oc : Obj}
  {i : Int} {ti : Tok} {n1 n2 : Nat} {vs : List Value} {ns : List Int} {Q : Flow → Shared → Prop} {E : Value → Shared → Prop}
  (B : Below A₀ h₀ [] h₀) (F : Fr h₀ L s.heap m) (X : (Mine.hd.heap_39 w.params).In h₀) (T : Top p loose mean mg mb h₀) (hd : dp + 60 < recursionLimit) (hu : un + 300 < cLine)
  (N : News h₀ L s.heap ((t, listOf [.ref c, .int i ti].toArray n1) :: (c, listOf vs.toArray n2) :: rest))
  (htc : @Ne Nat t c) (hrt : ∀ q ∈ rest, q.1 ≠ t) (hrc : ∀ q ∈ rest, q.1 ≠ c) (hI : IntsAre vs ns) (hlen : 0 < ns.length) (hlen2 : ns.length ≤ 60) (hi : 0 ≤ i) (hi2 : i < 900) (hcell : (cA, oc) ∈ rest) (hoc : oc.data = .cell (some (.ref t)))
  (ret : ∀ r tk h' tks vs' ns' n1' n2' ti', 0 ≤ r → r < 6 → ns'.length = ns.length → IntsAre vs' ns' → Fr h₀ L h' (fun y => if y = "spoil" then some (.int r tk) else m y) →
    News h₀ L h' ((t, listOf [.ref c, .int (i+1) ti'].toArray n1') :: (c, listOf vs'.toArray n2') :: rest) → Q .next { s with heap := h', toks := tks }) :
  wpAny (model PySem.Challenge.rw_pc0123_01.row.prog w) (ktrTop dp un gd "law" lawS L a ccd [("tape", cA)] []) (exec (nthS turnB 3) (envX "law" lawS L a ccd [("tape", cA)])) Q E s := by
  dsimp only [turnB, itemB, lawB, lawS, lawD, PySem.Challenge.pw_pc0123_01, lastS, bodyS, nthS, scopeS]
  k_steps
  refine unheld ?_
  k_dflt (refine' draw_spec ?dB1 ?dF1 ?dX1 ?dN1 ?dT1 rfl ?dtc1 ?drt1 ?drc1 hI hlen hlen2 hi (by omega) ?dl1 ?dm1 ?dd1 ?du1 ?dr1)
  case dB1 => k_asm
  case dF1 => k_asm
  case dX1 => k_asm
  case dN1 => k_asm
  case dT1 => k_asm
  case dtc1 => exact htc
  case drt1 => exact hrt
  case drc1 => exact hrc
  case dl1 => omega
  case dm1 => omega
  case dd1 => exact hd_up4 hd
  case du1 => exact hu_up4 hu
  case dr1 =>
    intro r0 tk0 h0 tks0 vs0 ns0 n10 n20 ti0 hr0 hr1 hnl hI0 F0 N0
    k_steps
    exact ret _ _ _ _ _ _ _ _ _ hr0 hr1 hnl hI0 (by k_asm) (by k_asm)
theorem ints_set {vs : List Value} {ns : List Int} (h : IntsAre vs ns) (k : Nat) (n : Int) (t : Tok) : IntsAre (vs.set k (.int n t)) (ns.set k n) := by
  induction h generalizing k with
  | nil => exact .nil
  | cons a u _ ih =>
    cases k with
    | zero => exact .cons _ _ (by assumption)
    | succ k => exact .cons _ _ (ih k)
theorem tape_in {t c : Addr} {b i : Int} {ti : Tok} {n1 n2 : Nat} {vs : List Value} {ns : List Int} {rest : List (Addr × Obj)} (h1 : IntsAre vs ns) (h2 : 0 < ns.length) (h3 : ns.length ≤ 60) (h4 : 0 ≤ i) (h5 : i ≤ b) :
    TapeIn t c b rest ((t, listOf [.ref c, .int i ti].toArray n1) :: (c, listOf vs.toArray n2) :: rest) := ⟨i, ti, n1, n2, vs, ns, rfl, h1, h2, h3, h4, h5⟩
theorem turn_4 {w : World} {p : Program} {loose : List Str} {mean : ExcName → Option Value} {mg mb : Str → Option Value}
  {dp un : Nat} {gd : Option (List Code)} {a : Addr} {ccd : Value} {A₀ : Around} {h₀ : Heap} {L cA t c : Addr} {m : Str → Option Value} {rest : List (Addr × Obj)} {s : Shared} {oc : Obj}
  {i : Int} {ti : Tok} {n1 n2 n3 ls : Nat} {svs : List Value} {vs : List Value} {ns : List Int} {Q : Flow → Shared → Prop} {E : Value → Shared → Prop}
  (B : Below A₀ h₀ [] h₀) (F : Fr h₀ L s.heap m) (X : (Mine.hd.heap_39 w.params).In h₀) (T : Top p loose mean mg mb h₀) (hd : dp + 60 < recursionLimit) (hu : un + 300 < cLine)
  (N : News h₀ L s.heap ((t, listOf [.ref c, .int i ti].toArray n1) :: (c, listOf vs.toArray n2) :: (ls, listOf svs.toArray n3) :: rest))
  (htc : @Ne Nat t c) (hrt : ∀ q ∈ rest, q.1 ≠ t) (hrc : ∀ q ∈ rest, q.1 ≠ c) (hI : IntsAre vs ns) (hlen : 0 < ns.length) (hlen2 : ns.length ≤ 60) (hi : 0 ≤ i) (hi2 : i < 900) (hcell : (cA, oc) ∈ rest) (hoc : oc.data = .cell (some (.ref t)))
  {lc nc : Nat} {cvs : List Value} {cns ks : List Int} {sp : Int} {tsp : Tok}
  (hlt : @Ne Nat ls t) (hlc : @Ne Nat ls c) (hrl : ∀ q ∈ rest, q.1 ≠ ls)
  (hm0 : m "spoil" = some (.int sp tsp)) (hsp : 0 ≤ sp) (hsp6 : sp < 6) (hm1 : m "counts" = some (.ref lc)) (hm2 : m "subscripts" = some (.ref ls)) (hcs : (lc, listOf cvs.toArray nc) ∈ rest) (hci : IntsAre cvs cns) (hc3 : cns.length ≤ 3)
  (hsi : IntsAre svs ks) (hkl : ks.length = cns.length)
  (ret : ∀ r rs ks' n h' tks m' nw, Fr h₀ L h' m' → m' "subscripts" = some (.ref r) → TapeIn t c (i + 1) ((r, listOf rs.toArray n) :: rest) nw → News h₀ L h' nw → IntsAre rs ks' → ks'.length ≤ 4 → (∀ z : Str, z ≠ "subscripts" → z ≠ "spot" → m' z = m z) → @Ne Nat r t → @Ne Nat r c → (∀ q ∈ rest, q.1 ≠ r) → Q .next { s with heap := h', toks := tks }) :
  wpAny (model PySem.Challenge.rw_pc0123_01.row.prog w) (ktrTop dp un gd "law" lawS L a ccd [("tape", cA)] []) (exec (nthS turnB 4) (envX "law" lawS L a ccd [("tape", cA)])) Q E s := by
  dsimp only [turnB, itemB, lawB, lawS, lawD, PySem.Challenge.pw_pc0123_01, lastS, bodyS, nthS, scopeS]
  have hcl := IntsAre.length hci
  have hsl := IntsAre.length hsi
  k_steps
  · exact ret _ _ _ _ _ _ _ _ (by k_asm) (by first | exact rfl | exact hm2) (tape_in hI hlen hlen2 hi (by omega)) (News_sub (by k_asm) (by (intro p hp; (repeat (rcases List.mem_cons.mp hp with rfl | hp; (solve | (repeat (first | exact List.Mem.head _ | refine List.Mem.tail _ ?_))))); (repeat (first | exact hp | refine List.Mem.tail _ ?_))))) (by first | assumption | exact ints_set hsi _ _ _) (by (try simp only [List.length_append, List.length_drop, List.length_cons, List.length_nil, List.length_set]); omega) (by intro z z1 z2; first | rfl | (simp only [z1, z2, if_false])) (by first | exact hlt | k_ne) (by first | exact hlc | k_ne) (by first | exact hrl | k_all)
  · exact ret _ _ _ _ _ _ _ _ (by k_asm) (by first | exact rfl | exact hm2) (tape_in hI hlen hlen2 hi (by omega)) (News_sub (by k_asm) (by (intro p hp; (repeat (rcases List.mem_cons.mp hp with rfl | hp; (solve | (repeat (first | exact List.Mem.head _ | refine List.Mem.tail _ ?_))))); (repeat (first | exact hp | refine List.Mem.tail _ ?_))))) (by first | assumption | exact ints_set hsi _ _ _) (by (try simp only [List.length_append, List.length_drop, List.length_cons, List.length_nil, List.length_set]); omega) (by intro z z1 z2; first | rfl | (simp only [z1, z2, if_false])) (by first | exact hlt | k_ne) (by first | exact hlc | k_ne) (by first | exact hrl | k_all)
  · exact ret _ _ _ _ _ _ _ _ (by k_asm) (by first | exact rfl | exact hm2) (tape_in hI hlen hlen2 hi (by omega)) (News_sub (by k_asm) (by (intro p hp; (repeat (rcases List.mem_cons.mp hp with rfl | hp; (solve | (repeat (first | exact List.Mem.head _ | refine List.Mem.tail _ ?_))))); (repeat (first | exact hp | refine List.Mem.tail _ ?_))))) (by first | assumption | exact ints_set hsi _ _ _) (by (try simp only [List.length_append, List.length_drop, List.length_cons, List.length_nil, List.length_set]); omega) (by intro z z1 z2; first | rfl | (simp only [z1, z2, if_false])) (by first | exact hlt | k_ne) (by first | exact hlc | k_ne) (by first | exact hrl | k_all)
  · have hcn : cns ≠ [] := by simpa using (by assumption : decide (cns = []) = false)
    have hcn2 : 0 < cns.length := List.length_pos_iff.mpr hcn
    refine unheld ?_
    k_dflt (refine' draw_spec ?dB2 ?dF2 ?dX2 ?dN2 ?dT2 rfl ?dtc2 ?drt2 ?drc2 hI hlen hlen2 hi (by omega) ?dl2 ?dm2 ?dd2 ?du2 ?dr2)
    case dB2 => k_asm
    case dF2 => k_asm
    case dX2 => k_asm
    case dN2 => exact News_sub (news' := (t, listOf [.ref c, .int i ti].toArray n1) :: (c, listOf vs.toArray n2) :: (ls, listOf svs.toArray n3) :: rest) (by k_asm) (by (intro p hp; (repeat (rcases List.mem_cons.mp hp with rfl | hp; (solve | (repeat (first | exact List.Mem.head _ | refine List.Mem.tail _ ?_))))); (repeat (first | exact hp | refine List.Mem.tail _ ?_))))
    case dT2 => k_asm
    case dtc2 => exact htc
    case drt2 => exact List.forall_mem_cons.mpr ⟨hlt, hrt⟩
    case drc2 => exact List.forall_mem_cons.mpr ⟨hlc, hrc⟩
    case dl2 => omega
    case dm2 => omega
    case dd2 => exact hd_up4 hd
    case du2 => exact hu_up4 hu
    case dr2 =>
      intro r0 tk0 h0 tks0 vs0 ns0 n10 n20 ti0 hr0 hr1 hnl hI0 F0 N0
      k_steps
      exact ret _ _ _ _ _ _ _ _ (by k_asm) (by first | exact rfl | exact hm2) (tape_in hI0 (by omega) (by omega) (i := i + 1) (by omega) (by omega)) (News_sub (by k_asm) (by (intro p hp; (repeat (rcases List.mem_cons.mp hp with rfl | hp; (solve | (repeat (first | exact List.Mem.head _ | refine List.Mem.tail _ ?_))))); (repeat (first | exact hp | refine List.Mem.tail _ ?_))))) (by first | assumption | exact ints_set hsi _ _ _) (by (try simp only [List.length_append, List.length_drop, List.length_cons, List.length_nil, List.length_set]); omega) (by intro z z1 z2; first | rfl | (simp only [z1, z2, if_false])) (by first | exact hlt | k_ne) (by first | exact hlc | k_ne) (by first | exact hrl | k_all)
  · exact ret _ _ _ _ _ _ _ _ (by k_asm) (by first | exact rfl | exact hm2) (tape_in hI hlen hlen2 hi (by omega)) (News_sub (by k_asm) (by (intro p hp; (repeat (rcases List.mem_cons.mp hp with rfl | hp; (solve | (repeat (first | exact List.Mem.head _ | refine List.Mem.tail _ ?_))))); (repeat (first | exact hp | refine List.Mem.tail _ ?_))))) (by first | assumption | exact ints_set hsi _ _ _) (by (try simp only [List.length_append, List.length_drop, List.length_cons, List.length_nil, List.length_set]); omega) (by intro z z1 z2; first | rfl | (simp only [z1, z2, if_false])) (by first | exact hlt | k_ne) (by first | exact hlc | k_ne) (by first | exact hrl | k_all)
  · exact ret _ _ _ _ _ _ _ _ (by k_asm) (by first | exact rfl | exact hm2) (tape_in hI hlen hlen2 hi (by omega)) (News_sub (by k_asm) (by (intro p hp; (repeat (rcases List.mem_cons.mp hp with rfl | hp; (solve | (repeat (first | exact List.Mem.head _ | refine List.Mem.tail _ ?_))))); (repeat (first | exact hp | refine List.Mem.tail _ ?_))))) (by first | assumption | exact ints_set hsi _ _ _) (by (try simp only [List.length_append, List.length_drop, List.length_cons, List.length_nil, List.length_set]); omega) (by intro z z1 z2; first | rfl | (simp only [z1, z2, if_false])) (by first | exact hlt | k_ne) (by first | exact hlc | k_ne) (by first | exact hrl | k_all)
end
section
theorem ext_21 : True := by
  w_top off
  k_with_none
  k_with "own room" => ktr_room
  k_with "own all" => (first
      | assumption
      | exact ne_of_lts (by with_reducible assumption)
      | exact ne_of_all (And.right (by with_reducible assumption))
      | exact ne_of_all (And.right (And.right (by with_reducible assumption)))
      | exact ne_of_all (And.right (And.right (And.right (by with_reducible assumption))))
      | exact ne_of_all (And.right (And.right (And.right (And.right (by with_reducible assumption)))))
      | exact ne_of_all (And.right (And.right (And.right (And.right (And.right (by with_reducible assumption))))))
      | exact ne_of_all (And.right (And.right (And.right (And.right (And.right (And.right (by with_reducible assumption)))))))
      | exact ne_of_all (And.right (And.right (And.right (And.right (And.right (And.right (And.right (by with_reducible assumption)))))))))
  k_with "own sub" => (first
      | (refine' Drop.head ?zzqh; (case zzqh => k_all))
      | (refine' Drop.tail (Or.inr ?zzqa) ?zzqb; (case zzqa => k_cls); (case zzqb => lcg_sub))
      | (refine' Drop.tail (Or.inl ?zzqa) ?zzqb; (case zzqa => k_ne); (case zzqb => lcg_sub)))
  k_with "UnrEnd" => (k_dflt (refine' unr_end ?zzF ?zzN ?zzD ?_; (case zzF => k_asm); (case zzN => k_asm); (case zzD => lcg_sub)))
  k_with "own get" => assumption
  k_with "own mem" => (refine memN ?_; ktr_member)
  k_with "own off" => (first | (with_reducible assumption) | (simp only [LCg.Off3, and_true]; with_reducible assumption))
  k_with "CompEnd" => (refine LCg.CompEnd.intro (by k_asm) (by k_asm) _ (fun _ hp => hp) ?zzoff ?zzsrc ?_; (case zzoff => lcg_off); (case zzsrc => lcg_src))
  k_with "own enter" => (first
      | ktr_enter
      | (refine' code_def ?zzk1 ?zzk2 ?zzk3 ?zzk4 ?zzk5 ?zzkA ?zzkF ?zzkK ?zzk6 ?zzk7 ?zzk8 ?zzk9 ?zzkB ?_ ?zzc2 ?zzc3 ?zzc4 ?zzc5; (case zzkA => exact rfl); (case zzkF => exact rfl); (case zzkK => first | exact rfl | assumption); (case zzk1 => k_asm); (case zzk2 => k_asm); (case zzk3 => k_asm); (case zzk4 => k_asm); (case zzk5 => k_asm); (case zzk6 => k_is); (case zzk7 => k_is); (case zzk8 => ktr_room); (case zzk9 => first | exact BindsTo.of_eq rfl | exact binds_K (by k_in) rfl (by k_is) rfl rfl rfl); (case zzc5 => decide); (case zzkB => exact locs rfl); (case zzc2 => exact rfl); (case zzc3 => exact rfl); (case zzc4 => exact rfl); k_whole; intro zg' zL' zh' zFG' zF' zN' zB' zX' zT'; (try dsimp only); (try k_lift zB'); (try k_fold))
      | (refine' code_defC ?zzk1 ?zzk2 ?zzk3 ?zzk4 ?zzk5 ?zzkA ?zzkF ?zzkK ?zzk6 ?zzk7 ?zzk8 ?zzk9 ?zzkB ?zzkD ?_ ?zzc2 ?zzc3 ?zzc4; (case zzkA => exact rfl); (case zzkF => exact rfl); (case zzkK => first | exact rfl | assumption); (case zzk1 => k_asm); (case zzk2 => k_asm); (case zzk3 => k_asm); (case zzk4 => k_asm); (case zzk5 => k_asm); (case zzk6 => k_is); (case zzk7 => k_is); (case zzk8 => ktr_room); (case zzk9 => exact BindsTo.of_eq rfl); (case zzkB => exact rfl); (case zzkD => decide +kernel); (case zzc2 => exact rfl); (case zzc3 => exact rfl); (case zzc4 => exact rfl); k_whole; intro zg' zL' zh' ztk' zcells' zFG' zF' zN' zY' zB' zX' zT' zl1; (try k_lt zl1); k_cells zY'; (try simp only [List.cons_append, List.nil_append] at zN'); (try dsimp only); (try k_lift zB'); (try k_fold)))
  k_with "call builtin:len" => (k_here; (with_reducible show wpAny _ _ (call (Value.builtin "len") [Value.ref _]) _ _ _); k_dflt (first
      | (refine' len_led ?zzN ?zzm ?zzk ?zzf ?_; (case zzN => k_asm); (case zzm => k_mem); (case zzk => assumption); (case zzf => omega); k_whole)))
  k_with "compareOp NotEq ref ref" => (k_here; k_dflt (first
      | (refine' ne_lists ?zzN ?zza ?zzb ?zzi ?zzj ?zzu ?_; (case zzN => k_asm); (case zza => k_mem); (case zzb => k_mem); (case zzi => first | assumption | exact .nil); (case zzj => first | assumption | exact .nil); (case zzu => exact hu_up4 (by assumption)); k_whole)
      | (refine' ne_tups ?zzN ?zza ?zzb ?zzi ?zzj ?zzu ?_; (case zzN => k_asm); (case zza => k_mem); (case zzb => k_mem); (case zzi => exact .cons _ _ (.cons _ _ .nil)); (case zzj => exact .cons _ _ (.cons _ _ .nil)); (case zzu => exact hu_up4 (by assumption)); k_whole)))
  k_with "compareOp Eq ref ref" => (k_here; k_dflt (refine' eq_lists ?zzN ?zza ?zzb ?zzi ?zzj ?zzu ?_; (case zzN => k_asm); (case zza => k_mem); (case zzb => k_mem); (case zzi => first | assumption | exact .nil); (case zzj => first | assumption | exact .nil); (case zzu => exact hu_up4 (by assumption)); k_whole))
  k_with "eval Name" => (k_here; k_dflt (refine' nameX_L ?zzF ?zzv ?_ ?zza ?zzb; (case zzF => k_asm); (case zzv => first | assumption | (dsimp only; rw [if_neg (by decide)]; assumption) | (dsimp only; rw [if_neg (by decide), if_neg (by decide)]; assumption)); (case zza => rfl); (case zzb => rfl); k_whole))
  k_with "call ref" => ((with_reducible show wpAny _ _ (call (Value.ref 168) _) _ _ _); (refine held ?_))
  k_with "call ref" => ((with_reducible show wpAny _ _ (call (Value.ref 175) _) _ _ _); (refine held ?_))
  k_with "call ref" => ((with_reducible show wpAny _ _ (call (Value.ref 180) _) _ _ _); (refine held ?_))
  k_with "call ref" => ((with_reducible show wpAny _ _ (call (Value.ref 187) _) _ _ _); (refine held ?_))
  trivial
theorem hd_up5 {dp : Nat} (h : dp + 60 < recursionLimit) : dp + 20 < recursionLimit := by omega
theorem hu_up5 {un : Nat} (h : un + 300 < cLine) : un + 128 < cLine := by omega
theorem ext_22 : True := by
  k_with "call type:tuple" => (k_here; (with_reducible show wpAny _ _ (call (Value.type _) [Value.ref _]) _ _ _); k_dflt (refine' kde_tupleOf ?zzk1 ?zzk2 ?zzk3 ?zzk4 ?zzk5 ?_; (case zzk1 => k_asm); (case zzk2 => k_asm); (case zzk3 => exact News.isList (by k_asm) (by k_mem)); (case zzk4 => (rw [List.size_toArray]; omega)); (case zzk5 => exact rfl); k_whole); intro zD' zh' zF' zN' zl1; (try k_lt zl1))
  trivial
theorem turn_5 {w : World} {p : Program} {loose : List Str} {mean : ExcName → Option Value} {mg mb : Str → Option Value}
  {dp un : Nat} {gd : Option (List Code)} {a : Addr} {ccd : Value} {A₀ : Around} {h₀ : Heap} {L cA t c : Addr} {m : Str → Option Value} {rest : List (Addr × Obj)} {s : Shared} {oc : Obj}
  {i : Int} {ti : Tok} {n1 n2 : Nat} {vs : List Value} {ns : List Int} {Q : Flow → Shared → Prop} {E : Value → Shared → Prop}
  (B : Below A₀ h₀ [] h₀) (F : Fr h₀ L s.heap m) (X : (Mine.hd.heap_39 w.params).In h₀) (T : Top p loose mean mg mb h₀) (hd : dp + 60 < recursionLimit) (hu : un + 300 < cLine)
  (N : News h₀ L s.heap ((t, listOf [.ref c, .int i ti].toArray n1) :: (c, listOf vs.toArray n2) :: rest))
  (htc : @Ne Nat t c) (hrt : ∀ q ∈ rest, q.1 ≠ t) (hrc : ∀ q ∈ rest, q.1 ≠ c) (hI : IntsAre vs ns) (hlen : 0 < ns.length) (hlen2 : ns.length ≤ 60) (hi : 0 ≤ i) (hi2 : i < 900) (hcell : (cA, oc) ∈ rest) (hoc : oc.data = .cell (some (.ref t)))
  {lc nc ls nsl lm nm k : Nat} {cvs svs mvs : List Value} {cns ks : List Int} {os : List (Int × List Int)} {tl : Tok}
  (hm0 : m "level" = some (.int (k : Int) tl)) (hm1 : m "counts" = some (.ref lc)) (hm2 : m "subscripts" = some (.ref ls)) (hm3 : m "memory" = some (.ref lm)) (hcs : (lc, listOf cvs.toArray nc) ∈ rest) (hci : IntsAre cvs cns) (hc3 : cns.length ≤ 3)
  (hss : (ls, listOf svs.toArray nsl) ∈ rest) (hsi : IntsAre svs ks) (hkl : ks.length ≤ 4) (hmm : (lm, listOf mvs.toArray nm) ∈ rest) (hmo : OctsIn rest mvs os) (hol : os.length ≤ 1000)
  (ret : ∀ r rs n h' tks, Fr h₀ L h' (fun y => if y = "spots" then some (.ref r) else m y) → News h₀ L h' ((t, listOf [.ref c, .int i ti].toArray n1) :: (c, listOf vs.toArray n2) :: (r, listOf rs.toArray n) :: rest) →
    IntsAre rs (if ks.length = cns.length then spotsUpto os k ks os.length else []) → @Ne Nat r t → @Ne Nat r c → (∀ q ∈ rest, q.1 ≠ r) → Q .next { s with heap := h', toks := tks }) :
  wpAny (model PySem.Challenge.rw_pc0123_01.row.prog w) (ktrTop dp un gd "law" lawS L a ccd [("tape", cA)] []) (exec (nthS turnB 5) (envX "law" lawS L a ccd [("tape", cA)])) Q E s := by
  dsimp only [turnB, itemB, lawB, lawS, lawD, PySem.Challenge.pw_pc0123_01, lastS, bodyS, nthS, scopeS]
  have hcl := IntsAre.length hci
  have hsl := IntsAre.length hsi
  k_steps
  · have hle : ks.length = cns.length := by omega
    refine unheld ?_
    k_dflt (refine' spots_spec ?sB ?sF ?sX ?sN ?sT rfl ?sd ?su ?sm ?sv ?ss ?si hol ?sk ?sr)
    case sB => k_asm
    case sF => k_asm
    case sX => k_asm
    case sN => k_asm
    case sT => k_asm
    case sd => exact hd_up5 hd
    case su => exact hu_up5 hu
    case sm => k_mem
    case sv => exact OctsIn.mono (by (intro p hp; (repeat (rcases List.mem_cons.mp hp with rfl | hp; (solve | (repeat (first | exact List.Mem.head _ | refine List.Mem.tail _ ?_))))); (repeat (first | exact hp | refine List.Mem.tail _ ?_)))) hmo
    case ss => exact List.Mem.head _
    case si => exact hsi
    case sk => omega
    case sr =>
      intro r0 rs0 n0 h0 tk0 hr0 hn0 F0 N0
      k_steps
      exact ret _ _ _ _ _ (by k_asm) (News_sub (by k_asm) (by (intro p hp; (repeat (rcases List.mem_cons.mp hp with rfl | hp; (solve | (repeat (first | exact List.Mem.head _ | refine List.Mem.tail _ ?_))))); (repeat (first | exact hp | refine List.Mem.tail _ ?_))))) (by rw [if_pos hle]; exact hr0) (hn0 (t, listOf [.ref c, .int i ti].toArray n1) (by repeat (first | exact List.Mem.head _ | refine List.Mem.tail _ ?_))).symm (hn0 (c, listOf vs.toArray n2) (by repeat (first | exact List.Mem.head _ | refine List.Mem.tail _ ?_))).symm (fun p hp => hn0 p (by repeat (first | exact hp | refine List.Mem.tail _ ?_)))
  · have hle : ¬ ks.length = cns.length := by omega
    exact ret _ [] _ _ _ (by k_asm) (News_sub (by k_asm) (by (intro p hp; (repeat (rcases List.mem_cons.mp hp with rfl | hp; (solve | (repeat (first | exact List.Mem.head _ | refine List.Mem.tail _ ?_))))); (repeat (first | exact hp | refine List.Mem.tail _ ?_))))) (by rw [if_neg hle]; exact .nil) (by k_ne) (by k_ne) (by k_all)
end
section
theorem ext_23 : True := by
  w_top off
  k_with_none
  k_with "own room" => ktr_room
  k_with "own all" => (first
      | assumption
      | exact ne_of_lts (by with_reducible assumption)
      | exact ne_of_all (And.right (by with_reducible assumption))
      | exact ne_of_all (And.right (And.right (by with_reducible assumption)))
      | exact ne_of_all (And.right (And.right (And.right (by with_reducible assumption))))
      | exact ne_of_all (And.right (And.right (And.right (And.right (by with_reducible assumption)))))
      | exact ne_of_all (And.right (And.right (And.right (And.right (And.right (by with_reducible assumption))))))
      | exact ne_of_all (And.right (And.right (And.right (And.right (And.right (And.right (by with_reducible assumption)))))))
      | exact ne_of_all (And.right (And.right (And.right (And.right (And.right (And.right (And.right (by with_reducible assumption)))))))))
  k_with "own sub" => (first
      | (refine' Drop.head ?zzqh; (case zzqh => k_all))
      | (refine' Drop.tail (Or.inr ?zzqa) ?zzqb; (case zzqa => k_cls); (case zzqb => lcg_sub))
      | (refine' Drop.tail (Or.inl ?zzqa) ?zzqb; (case zzqa => k_ne); (case zzqb => lcg_sub)))
  k_with "UnrEnd" => (k_dflt (refine' unr_end ?zzF ?zzN ?zzD ?_; (case zzF => k_asm); (case zzN => k_asm); (case zzD => lcg_sub)))
  k_with "own get" => assumption
  k_with "own mem" => (refine memN ?_; ktr_member)
  k_with "own off" => (first | (with_reducible assumption) | (simp only [LCg.Off3, and_true]; with_reducible assumption))
  k_with "CompEnd" => (refine LCg.CompEnd.intro (by k_asm) (by k_asm) _ (fun _ hp => hp) ?zzoff ?zzsrc ?_; (case zzoff => lcg_off); (case zzsrc => lcg_src))
  k_with "own enter" => (first
      | ktr_enter
      | (refine' code_def ?zzk1 ?zzk2 ?zzk3 ?zzk4 ?zzk5 ?zzkA ?zzkF ?zzkK ?zzk6 ?zzk7 ?zzk8 ?zzk9 ?zzkB ?_ ?zzc2 ?zzc3 ?zzc4 ?zzc5; (case zzkA => exact rfl); (case zzkF => exact rfl); (case zzkK => first | exact rfl | assumption); (case zzk1 => k_asm); (case zzk2 => k_asm); (case zzk3 => k_asm); (case zzk4 => k_asm); (case zzk5 => k_asm); (case zzk6 => k_is); (case zzk7 => k_is); (case zzk8 => ktr_room); (case zzk9 => first | exact BindsTo.of_eq rfl | exact binds_K (by k_in) rfl (by k_is) rfl rfl rfl); (case zzc5 => decide); (case zzkB => exact locs rfl); (case zzc2 => exact rfl); (case zzc3 => exact rfl); (case zzc4 => exact rfl); k_whole; intro zg' zL' zh' zFG' zF' zN' zB' zX' zT'; (try dsimp only); (try k_lift zB'); (try k_fold))
      | (refine' code_defC ?zzk1 ?zzk2 ?zzk3 ?zzk4 ?zzk5 ?zzkA ?zzkF ?zzkK ?zzk6 ?zzk7 ?zzk8 ?zzk9 ?zzkB ?zzkD ?_ ?zzc2 ?zzc3 ?zzc4; (case zzkA => exact rfl); (case zzkF => exact rfl); (case zzkK => first | exact rfl | assumption); (case zzk1 => k_asm); (case zzk2 => k_asm); (case zzk3 => k_asm); (case zzk4 => k_asm); (case zzk5 => k_asm); (case zzk6 => k_is); (case zzk7 => k_is); (case zzk8 => ktr_room); (case zzk9 => exact BindsTo.of_eq rfl); (case zzkB => exact rfl); (case zzkD => decide +kernel); (case zzc2 => exact rfl); (case zzc3 => exact rfl); (case zzc4 => exact rfl); k_whole; intro zg' zL' zh' ztk' zcells' zFG' zF' zN' zY' zB' zX' zT' zl1; (try k_lt zl1); k_cells zY'; (try simp only [List.cons_append, List.nil_append] at zN'); (try dsimp only); (try k_lift zB'); (try k_fold)))
  k_with "call builtin:len" => (k_here; (with_reducible show wpAny _ _ (call (Value.builtin "len") [Value.ref _]) _ _ _); k_dflt (first
      | (refine' len_led ?zzN ?zzm ?zzk ?zzf ?_; (case zzN => k_asm); (case zzm => k_mem); (case zzk => assumption); (case zzf => omega); k_whole)))
  k_with "compareOp NotEq ref ref" => (k_here; k_dflt (first
      | (refine' ne_lists ?zzN ?zza ?zzb ?zzi ?zzj ?zzu ?_; (case zzN => k_asm); (case zza => k_mem); (case zzb => k_mem); (case zzi => first | assumption | exact .nil); (case zzj => first | assumption | exact .nil); (case zzu => exact hu_up4 (by assumption)); k_whole)
      | (refine' ne_tups ?zzN ?zza ?zzb ?zzi ?zzj ?zzu ?_; (case zzN => k_asm); (case zza => k_mem); (case zzb => k_mem); (case zzi => exact .cons _ _ (.cons _ _ .nil)); (case zzj => exact .cons _ _ (.cons _ _ .nil)); (case zzu => exact hu_up4 (by assumption)); k_whole)))
  k_with "compareOp Eq ref ref" => (k_here; k_dflt (refine' eq_lists ?zzN ?zza ?zzb ?zzi ?zzj ?zzu ?_; (case zzN => k_asm); (case zza => k_mem); (case zzb => k_mem); (case zzi => first | assumption | exact .nil); (case zzj => first | assumption | exact .nil); (case zzu => exact hu_up4 (by assumption)); k_whole))
  k_with "eval Name" => (k_here; k_dflt (refine' nameX_L ?zzF ?zzv ?_ ?zza ?zzb; (case zzF => k_asm); (case zzv => first | assumption | (dsimp only; rw [if_neg (by decide)]; assumption) | (dsimp only; rw [if_neg (by decide), if_neg (by decide)]; assumption)); (case zza => rfl); (case zzb => rfl); k_whole))
  k_with "call ref" => ((with_reducible show wpAny _ _ (call (Value.ref 168) _) _ _ _); (refine held ?_))
  k_with "call ref" => ((with_reducible show wpAny _ _ (call (Value.ref 175) _) _ _ _); (refine held ?_))
  k_with "call ref" => ((with_reducible show wpAny _ _ (call (Value.ref 180) _) _ _ _); (refine held ?_))
  k_with "call ref" => ((with_reducible show wpAny _ _ (call (Value.ref 187) _) _ _ _); (refine held ?_))
  trivial
/-- what is due: none or a pair -/
noncomputable def DueIn (news : List (Addr × Obj)) (v : Value) : Option (Int × Int) → Prop
  | none => v = .none
  | some (a, b) => ∃ r n t1 t2, v = .ref r ∧ (r, tupOf [.int a t1, .int b t2] n) ∈ news
theorem DueIn.mono {news news' : List (Addr × Obj)} {v : Value} {d : Option (Int × Int)} (hs : ∀ p ∈ news, p ∈ news') (h : DueIn news v d) : DueIn news' v d := by
  rcases d with _ | ⟨a, b⟩
  · exact h
  · obtain ⟨r, n, t1, t2, e, h⟩ := h
    exact ⟨r, n, t1, t2, e, hs _ h⟩
noncomputable def due6 (b : Int) (sp : List Int) : Option (Int × Int) := if sp = [] then none else some (b + sp.getD 0 0, sp.length)
section
variable {prog : Program} {w : World} {A : Around} {E : Value → Shared → Prop} {s : Shared} {h₀ : Heap} {L : Addr} {news : List (Addr × Obj)}
theorem int_led {l : Addr} {vs : List Value} {ns : List Int} {n : Nat} {k : Int} {u : Tok} {value slice : PySem.Expr} {Q : Value → Shared → Prop} (N : News h₀ L s.heap news) (hm : (l, listOf vs.toArray n) ∈ news) (hi : IntsAre vs ns) (h0 : 0 ≤ k) (hk : k.toNat < ns.length)
    (hf : k < 2 ^ 63) (h : ∀ t, Q (.int (ns.getD k.toNat 0) t) s)
    (hs : subscripted slice false (.ref l) (.int k u) = operate [.ref l, .int k u] (getItem (.ref l) (.int k u)) := by with_unfolding_all rfl) :
    wpAny (model prog w) A (subscriptTail value slice (.ref l) (.int k u)) Q E s := by
  have hl := IntsAre.length hi
  obtain ⟨t, ht⟩ := ints_get (i := k.toNat) (v := vs[k.toNat]) hi (List.getElem?_eq_getElem (by omega))
  exact item_led N hm ((List.getElem?_eq_getElem (by omega)).trans (congrArg some ht)) h0 hf (h t) hs
end
theorem pos_of {ns : List Int} (h : decide (ns = []) = false) : 0 < ns.length := List.length_pos_iff.mpr (by simpa using h)
theorem nil_of {ns : List Int} (h : decide (ns = []) = true) : ns = [] := by simpa using h
theorem ext_24 : True := by
  k_with "subscriptTail" => (k_here; (with_reducible show wpAny _ _ (subscriptTail _ _ (Value.ref _) (Value.int _ _)) _ _ _); k_dflt (refine' int_led ?zzN ?zzm ?zzi ?zza ?zzb ?zzf ?_; (case zzN => k_asm); (case zzm => k_mem); (case zzi => assumption); (case zza => omega); (case zzb => first | omega | exact pos_of (by assumption)); (case zzf => omega); k_whole); intro ztI)
  trivial
theorem turn_6 {w : World} {p : Program} {loose : List Str} {mean : ExcName → Option Value} {mg mb : Str → Option Value}
  {dp un : Nat} {gd : Option (List Code)} {a : Addr} {ccd : Value} {A₀ : Around} {h₀ : Heap} {L cA t c : Addr} {m : Str → Option Value} {rest : List (Addr × Obj)} {s : Shared} {oc : Obj}
  {i : Int} {ti : Tok} {n1 n2 : Nat} {vs : List Value} {ns : List Int} {Q : Flow → Shared → Prop} {E : Value → Shared → Prop}
  (B : Below A₀ h₀ [] h₀) (F : Fr h₀ L s.heap m) (X : (Mine.hd.heap_39 w.params).In h₀) (T : Top p loose mean mg mb h₀) (hd : dp + 60 < recursionLimit) (hu : un + 300 < cLine)
  (N : News h₀ L s.heap ((t, listOf [.ref c, .int i ti].toArray n1) :: (c, listOf vs.toArray n2) :: rest))
  (htc : @Ne Nat t c) (hrt : ∀ q ∈ rest, q.1 ≠ t) (hrc : ∀ q ∈ rest, q.1 ≠ c) (hI : IntsAre vs ns) (hlen : 0 < ns.length) (hlen2 : ns.length ≤ 60) (hi : 0 ≤ i) (hi2 : i < 900) (hcell : (cA, oc) ∈ rest) (hoc : oc.data = .cell (some (.ref t)))
  {lp np : Nat} {pvs : List Value} {ps : List Int} {b : Int} {tb : Tok}
  (hm0 : m "base" = some (.int b tb)) (hm1 : m "spots" = some (.ref lp)) (hpp : (lp, listOf pvs.toArray np) ∈ rest) (hpi : IntsAre pvs ps) (hpl : ps.length ≤ 1000)
  (ret : ∀ v h' tks new, Fr h₀ L h' (fun y => if y = "due" then some v else m y) → News h₀ L h' ((t, listOf [.ref c, .int i ti].toArray n1) :: (c, listOf vs.toArray n2) :: (new ++ rest)) →
    DueIn new v (due6 b ps) → (∀ q ∈ new, @Ne Nat q.1 t ∧ @Ne Nat q.1 c) → Q .next { s with heap := h', toks := tks }) :
  wpAny (model PySem.Challenge.rw_pc0123_01.row.prog w) (ktrTop dp un gd "law" lawS L a ccd [("tape", cA)] []) (exec (nthS turnB 6) (envX "law" lawS L a ccd [("tape", cA)])) Q E s := by
  dsimp only [turnB, itemB, lawB, lawS, lawD, PySem.Challenge.pw_pc0123_01, lastS, bodyS, nthS, scopeS]
  have hcl := IntsAre.length hpi
  k_steps
  · have hn := nil_of (by assumption)
    exact ret .none _ _ [] (by k_asm) (News_sub (by k_asm) (by (intro p hp; (repeat (rcases List.mem_cons.mp hp with rfl | hp; (solve | (repeat (first | exact List.Mem.head _ | refine List.Mem.tail _ ?_))))); (repeat (first | exact hp | refine List.Mem.tail _ ?_))))) (by rw [due6, if_pos hn]; rfl) (fun q hq => by cases hq)
  · have hp := pos_of (by assumption)
    have hn : ps ≠ [] := List.length_pos_iff.mp hp
    exact ret (.ref _) _ _ [(_, tupOf [.int (b + ps.getD 0 0) _, .int (ps.length : Int) _] 0)] (by k_asm) (News_sub (by k_asm) (by (intro p hp; (repeat (rcases List.mem_cons.mp hp with rfl | hp; (solve | (repeat (first | exact List.Mem.head _ | refine List.Mem.tail _ ?_))))); (repeat (first | exact hp | refine List.Mem.tail _ ?_))))) (by rw [due6, if_neg hn]; exact ⟨_, _, _, _, rfl, .head _⟩) (by intro q hq; rcases List.mem_singleton.mp hq with rfl; exact ⟨by k_ne, by k_ne⟩)
end
section
theorem ext_25 : True := by
  w_top off
  k_with_none
  k_with "own room" => ktr_room
  k_with "own all" => (first
      | assumption
      | exact ne_of_lts (by with_reducible assumption)
      | exact ne_of_all (And.right (by with_reducible assumption))
      | exact ne_of_all (And.right (And.right (by with_reducible assumption)))
      | exact ne_of_all (And.right (And.right (And.right (by with_reducible assumption))))
      | exact ne_of_all (And.right (And.right (And.right (And.right (by with_reducible assumption)))))
      | exact ne_of_all (And.right (And.right (And.right (And.right (And.right (by with_reducible assumption))))))
      | exact ne_of_all (And.right (And.right (And.right (And.right (And.right (And.right (by with_reducible assumption)))))))
      | exact ne_of_all (And.right (And.right (And.right (And.right (And.right (And.right (And.right (by with_reducible assumption)))))))))
  k_with "own sub" => (first
      | (refine' Drop.head ?zzqh; (case zzqh => k_all))
      | (refine' Drop.tail (Or.inr ?zzqa) ?zzqb; (case zzqa => k_cls); (case zzqb => lcg_sub))
      | (refine' Drop.tail (Or.inl ?zzqa) ?zzqb; (case zzqa => k_ne); (case zzqb => lcg_sub)))
  k_with "UnrEnd" => (k_dflt (refine' unr_end ?zzF ?zzN ?zzD ?_; (case zzF => k_asm); (case zzN => k_asm); (case zzD => lcg_sub)))
  k_with "own get" => assumption
  k_with "own mem" => (refine memN ?_; ktr_member)
  k_with "own off" => (first | (with_reducible assumption) | (simp only [LCg.Off3, and_true]; with_reducible assumption))
  k_with "CompEnd" => (refine LCg.CompEnd.intro (by k_asm) (by k_asm) _ (fun _ hp => hp) ?zzoff ?zzsrc ?_; (case zzoff => lcg_off); (case zzsrc => lcg_src))
  k_with "own enter" => (first
      | ktr_enter
      | (refine' code_def ?zzk1 ?zzk2 ?zzk3 ?zzk4 ?zzk5 ?zzkA ?zzkF ?zzkK ?zzk6 ?zzk7 ?zzk8 ?zzk9 ?zzkB ?_ ?zzc2 ?zzc3 ?zzc4 ?zzc5; (case zzkA => exact rfl); (case zzkF => exact rfl); (case zzkK => first | exact rfl | assumption); (case zzk1 => k_asm); (case zzk2 => k_asm); (case zzk3 => k_asm); (case zzk4 => k_asm); (case zzk5 => k_asm); (case zzk6 => k_is); (case zzk7 => k_is); (case zzk8 => ktr_room); (case zzk9 => first | exact BindsTo.of_eq rfl | exact binds_K (by k_in) rfl (by k_is) rfl rfl rfl); (case zzc5 => decide); (case zzkB => exact locs rfl); (case zzc2 => exact rfl); (case zzc3 => exact rfl); (case zzc4 => exact rfl); k_whole; intro zg' zL' zh' zFG' zF' zN' zB' zX' zT'; (try dsimp only); (try k_lift zB'); (try k_fold))
      | (refine' code_defC ?zzk1 ?zzk2 ?zzk3 ?zzk4 ?zzk5 ?zzkA ?zzkF ?zzkK ?zzk6 ?zzk7 ?zzk8 ?zzk9 ?zzkB ?zzkD ?_ ?zzc2 ?zzc3 ?zzc4; (case zzkA => exact rfl); (case zzkF => exact rfl); (case zzkK => first | exact rfl | assumption); (case zzk1 => k_asm); (case zzk2 => k_asm); (case zzk3 => k_asm); (case zzk4 => k_asm); (case zzk5 => k_asm); (case zzk6 => k_is); (case zzk7 => k_is); (case zzk8 => ktr_room); (case zzk9 => exact BindsTo.of_eq rfl); (case zzkB => exact rfl); (case zzkD => decide +kernel); (case zzc2 => exact rfl); (case zzc3 => exact rfl); (case zzc4 => exact rfl); k_whole; intro zg' zL' zh' ztk' zcells' zFG' zF' zN' zY' zB' zX' zT' zl1; (try k_lt zl1); k_cells zY'; (try simp only [List.cons_append, List.nil_append] at zN'); (try dsimp only); (try k_lift zB'); (try k_fold)))
  k_with "call builtin:len" => (k_here; (with_reducible show wpAny _ _ (call (Value.builtin "len") [Value.ref _]) _ _ _); k_dflt (first
      | (refine' len_led ?zzN ?zzm ?zzk ?zzf ?_; (case zzN => k_asm); (case zzm => k_mem); (case zzk => assumption); (case zzf => omega); k_whole)))
  k_with "compareOp NotEq ref ref" => (k_here; k_dflt (first
      | (refine' ne_lists ?zzN ?zza ?zzb ?zzi ?zzj ?zzu ?_; (case zzN => k_asm); (case zza => k_mem); (case zzb => k_mem); (case zzi => first | assumption | exact .nil); (case zzj => first | assumption | exact .nil); (case zzu => exact hu_up4 (by assumption)); k_whole)
      | (refine' ne_tups ?zzN ?zza ?zzb ?zzi ?zzj ?zzu ?_; (case zzN => k_asm); (case zza => k_mem); (case zzb => k_mem); (case zzi => exact .cons _ _ (.cons _ _ .nil)); (case zzj => exact .cons _ _ (.cons _ _ .nil)); (case zzu => exact hu_up4 (by assumption)); k_whole)))
  k_with "compareOp Eq ref ref" => (k_here; k_dflt (refine' eq_lists ?zzN ?zza ?zzb ?zzi ?zzj ?zzu ?_; (case zzN => k_asm); (case zza => k_mem); (case zzb => k_mem); (case zzi => first | assumption | exact .nil); (case zzj => first | assumption | exact .nil); (case zzu => exact hu_up4 (by assumption)); k_whole))
  k_with "eval Name" => (k_here; k_dflt (refine' nameX_L ?zzF ?zzv ?_ ?zza ?zzb; (case zzF => k_asm); (case zzv => first | assumption | (dsimp only; rw [if_neg (by decide)]; assumption) | (dsimp only; rw [if_neg (by decide), if_neg (by decide)]; assumption)); (case zza => rfl); (case zzb => rfl); k_whole))
  k_with "call ref" => ((with_reducible show wpAny _ _ (call (Value.ref 168) _) _ _ _); (refine held ?_))
  k_with "call ref" => ((with_reducible show wpAny _ _ (call (Value.ref 175) _) _ _ _); (refine held ?_))
  k_with "call ref" => ((with_reducible show wpAny _ _ (call (Value.ref 180) _) _ _ _); (refine held ?_))
  k_with "call ref" => ((with_reducible show wpAny _ _ (call (Value.ref 187) _) _ _ _); (refine held ?_))
  trivial
theorem hd_up6 {dp : Nat} (h : dp + 60 < recursionLimit) : dp + 40 < recursionLimit := by omega
theorem hu_up6 {un : Nat} (h : un + 300 < cLine) : un + 200 < cLine := by omega
theorem ext_26 : True := by
  k_with "subscriptTail" => (k_here; (with_reducible show wpAny _ _ (subscriptTail _ _ (Value.ref _) (Value.int _ _)) _ _ _); k_dflt (refine' item_led ?zzN ?zzm ?zzi ?zza ?zzf ?_; (case zzN => k_asm); (case zzm => k_mem); (case zzi => assumption); (case zza => omega); (case zzf => omega); k_whole))
  trivial
theorem turn_7 {w : World} {p : Program} {loose : List Str} {mean : ExcName → Option Value} {mg mb : Str → Option Value}
  {dp un : Nat} {gd : Option (List Code)} {a : Addr} {ccd : Value} {A₀ : Around} {h₀ : Heap} {L cA t c : Addr} {m : Str → Option Value} {rest : List (Addr × Obj)} {s : Shared} {oc : Obj}
  {i : Int} {ti : Tok} {n1 n2 : Nat} {vs : List Value} {ns : List Int} {Q : Flow → Shared → Prop} {E : Value → Shared → Prop}
  (B : Below A₀ h₀ [] h₀) (F : Fr h₀ L s.heap m) (X : (Mine.hd.heap_39 w.params).In h₀) (T : Top p loose mean mg mb h₀) (hd : dp + 60 < recursionLimit) (hu : un + 300 < cLine)
  (N : News h₀ L s.heap ((t, listOf [.ref c, .int i ti].toArray n1) :: (c, listOf vs.toArray n2) :: rest))
  (htc : @Ne Nat t c) (hrt : ∀ q ∈ rest, q.1 ≠ t) (hrc : ∀ q ∈ rest, q.1 ≠ c) (hI : IntsAre vs ns) (hlen : 0 < ns.length) (hlen2 : ns.length ≤ 60) (hi : 0 ≤ i) (hi2 : i < 900) (hcell : (cA, oc) ∈ rest) (hoc : oc.data = .cell (some (.ref t)))
  {li nli ls nsl x k : Nat} {xvs svs : List Value} {ks : List Int} {par dv : Value} {occ : Option Int} {off size : Int} {line : List (Option Int × Int)} {d : Option (Int × Int)} {tl : Tok} 
  (hm0 : m "level" = some (.int (k : Int) tl)) (hk3 : k < 3) (hm1 : m "items" = some (.ref li)) (hm2 : m "subscripts" = some (.ref ls)) (hm3 : m "due" = some dv) (hli : (li, listOf xvs.toArray nli) ∈ rest) (hxk : xvs[(k : Int).toNat]? = some (.ref x))
  (hss : (ls, listOf svs.toArray nsl) ∈ rest) (hsi : IntsAre svs ks) (hkl : ks.length ≤ 4) (hln : LineIn rest x line) (hl3 : line.length ≤ 3) (hit : ItemIn rest x par occ off size) (hbd : ∀ q ∈ line, -1000 < q.2 ∧ q.2 < 1000)
  (hdu : DueIn rest dv d) (hag : toldSpec (tabsUpto line.reverse line.length) off size ks none = d)
  (ret : ∀ h' tks, Fr h₀ L h' m → News h₀ L h' ((t, listOf [.ref c, .int i ti].toArray n1) :: (c, listOf vs.toArray n2) :: rest) → Q .next { s with heap := h', toks := tks }) :
  wpAny (model PySem.Challenge.rw_pc0123_01.row.prog w) (ktrTop dp un gd "law" lawS L a ccd [("tape", cA)] []) (exec (nthS turnB 7) (envX "law" lawS L a ccd [("tape", cA)])) Q E s := by
  dsimp only [turnB, itemB, lawB, lawS, lawD, PySem.Challenge.pw_pc0123_01, lastS, bodyS, nthS, scopeS]
  have hsl := IntsAre.length hsi
  k_steps
  refine unheld ?_
  k_dflt (refine' told_spec (part := none) ?tB7 ?tF7 ?tX7 ?tN7 ?tT7 rfl ?td7 ?tu7 ?tl7 hl3 ?tx7 ?ts7 hsi ?tk7 ?tp7 hbd ?te7 ?tv7 ?tr7 ?tn7)
  case tB7 => k_asm
  case tF7 => k_asm
  case tX7 => k_asm
  case tN7 => k_asm
  case tT7 => k_asm
  case td7 => exact hd_up5 hd
  case tu7 => exact hu_up5 hu
  case te7 => exact hd_up6 hd
  case tv7 => exact hu_up6 hu
  case tl7 => exact LineIn.mono (by (intro p hp; (repeat (rcases List.mem_cons.mp hp with rfl | hp; (solve | (repeat (first | exact List.Mem.head _ | refine List.Mem.tail _ ?_))))); (repeat (first | exact hp | refine List.Mem.tail _ ?_)))) hln
  case tx7 => exact ItemIn.mono hit (by (intro p hp; (repeat (rcases List.mem_cons.mp hp with rfl | hp; (solve | (repeat (first | exact List.Mem.head _ | refine List.Mem.tail _ ?_))))); (repeat (first | exact hp | refine List.Mem.tail _ ?_))))
  case ts7 => k_mem
  case tk7 => omega
  case tp7 => exact rfl
  case tr7 =>
    intro aR bR rR t1R t2R nR hR tkR why FR NR
    rw [why] at hag
    subst hag
    obtain ⟨rD, nD, t1D, t2D, rfl, hmD⟩ := hdu
    k_steps
    · exact ret _ _ (by k_asm) (News_sub (by k_asm) (by (intro p hp; (repeat (rcases List.mem_cons.mp hp with rfl | hp; (solve | (repeat (first | exact List.Mem.head _ | refine List.Mem.tail _ ?_))))); (repeat (first | exact hp | refine List.Mem.tail _ ?_)))))
    · exact absurd rfl (by assumption)
  case tn7 =>
    intro hR tkR why FR NR
    rw [why] at hag
    subst hag
    have hdu : dv = .none := hdu
    subst hdu
    k_steps
    exact ret _ _ (by k_asm) (News_sub (by k_asm) (by (intro p hp; (repeat (rcases List.mem_cons.mp hp with rfl | hp; (solve | (repeat (first | exact List.Mem.head _ | refine List.Mem.tail _ ?_))))); (repeat (first | exact hp | refine List.Mem.tail _ ?_)))))
theorem turn_11 {w : World} {p : Program} {loose : List Str} {mean : ExcName → Option Value} {mg mb : Str → Option Value}
  {dp un : Nat} {gd : Option (List Code)} {a : Addr} {ccd : Value} {A₀ : Around} {h₀ : Heap} {L cA t c : Addr} {m : Str → Option Value} {rest : List (Addr × Obj)} {s : Shared} {oc : Obj}
  {i : Int} {ti : Tok} {n1 n2 : Nat} {vs : List Value} {ns : List Int} {Q : Flow → Shared → Prop} {E : Value → Shared → Prop}
  (B : Below A₀ h₀ [] h₀) (F : Fr h₀ L s.heap m) (X : (Mine.hd.heap_39 w.params).In h₀) (T : Top p loose mean mg mb h₀) (hd : dp + 60 < recursionLimit) (hu : un + 300 < cLine)
  (N : News h₀ L s.heap ((t, listOf [.ref c, .int i ti].toArray n1) :: (c, listOf vs.toArray n2) :: rest))
  (htc : @Ne Nat t c) (hrt : ∀ q ∈ rest, q.1 ≠ t) (hrc : ∀ q ∈ rest, q.1 ≠ c) (hI : IntsAre vs ns) (hlen : 0 < ns.length) (hlen2 : ns.length ≤ 60) (hi : 0 ≤ i) (hi2 : i < 900) (hcell : (cA, oc) ∈ rest) (hoc : oc.data = .cell (some (.ref t)))
  {li nli ls nsl x k : Nat} {xvs svs : List Value} {ks : List Int} {par dv : Value} {occ : Option Int} {off size : Int} {line : List (Option Int × Int)} {d : Option (Int × Int)} {tl : Tok} {b l : Int} {tb tll : Tok} (hmb : m "begin" = some (.int b tb)) (hml : m "length" = some (.int l tll))
  (hm0 : m "level" = some (.int (k : Int) tl)) (hk3 : k < 3) (hm1 : m "items" = some (.ref li)) (hm2 : m "subscripts" = some (.ref ls)) (hm3 : m "due" = some dv) (hli : (li, listOf xvs.toArray nli) ∈ rest) (hxk : xvs[(k : Int).toNat]? = some (.ref x))
  (hss : (ls, listOf svs.toArray nsl) ∈ rest) (hsi : IntsAre svs ks) (hkl : ks.length ≤ 4) (hln : LineIn rest x line) (hl3 : line.length ≤ 3) (hit : ItemIn rest x par occ off size) (hbd : ∀ q ∈ line, -1000 < q.2 ∧ q.2 < 1000)
  (hdu : DueIn rest dv d) (hag : toldSpec (tabsUpto line.reverse line.length) off size ks (some (b, some l)) = d)
  (ret : ∀ h' tks, Fr h₀ L h' m → News h₀ L h' ((t, listOf [.ref c, .int i ti].toArray n1) :: (c, listOf vs.toArray n2) :: rest) → Q .next { s with heap := h', toks := tks }) :
  wpAny (model PySem.Challenge.rw_pc0123_01.row.prog w) (ktrTop dp un gd "law" lawS L a ccd [("tape", cA)] []) (exec (nthS turnB 11) (envX "law" lawS L a ccd [("tape", cA)])) Q E s := by
  dsimp only [turnB, itemB, lawB, lawS, lawD, PySem.Challenge.pw_pc0123_01, lastS, bodyS, nthS, scopeS]
  have hsl := IntsAre.length hsi
  k_steps
  refine unheld ?_
  k_dflt (refine' told_spec (part := (some (b, some l))) ?tB11 ?tF11 ?tX11 ?tN11 ?tT11 rfl ?td11 ?tu11 ?tl11 hl3 ?tx11 ?ts11 hsi ?tk11 ?tp11 hbd ?te11 ?tv11 ?tr11 ?tn11)
  case tB11 => k_asm
  case tF11 => k_asm
  case tX11 => k_asm
  case tN11 => k_asm
  case tT11 => k_asm
  case td11 => exact hd_up5 hd
  case tu11 => exact hu_up5 hu
  case te11 => exact hd_up6 hd
  case tv11 => exact hu_up6 hu
  case tl11 => exact LineIn.mono (by (intro p hp; (repeat (rcases List.mem_cons.mp hp with rfl | hp; (solve | (repeat (first | exact List.Mem.head _ | refine List.Mem.tail _ ?_))))); (repeat (first | exact hp | refine List.Mem.tail _ ?_)))) hln
  case tx11 => exact ItemIn.mono hit (by (intro p hp; (repeat (rcases List.mem_cons.mp hp with rfl | hp; (solve | (repeat (first | exact List.Mem.head _ | refine List.Mem.tail _ ?_))))); (repeat (first | exact hp | refine List.Mem.tail _ ?_))))
  case ts11 => k_mem
  case tk11 => omega
  case tp11 => exact ⟨_, _, _, _, rfl, List.Mem.head _, _, rfl⟩
  case tr11 =>
    intro aR bR rR t1R t2R nR hR tkR why FR NR
    rw [why] at hag
    subst hag
    obtain ⟨rD, nD, t1D, t2D, rfl, hmD⟩ := hdu
    k_steps
    · exact ret _ _ (by k_asm) (News_sub (by k_asm) (by (intro p hp; (repeat (rcases List.mem_cons.mp hp with rfl | hp; (solve | (repeat (first | exact List.Mem.head _ | refine List.Mem.tail _ ?_))))); (repeat (first | exact hp | refine List.Mem.tail _ ?_)))))
    · exact absurd rfl (by assumption)
  case tn11 =>
    intro hR tkR why FR NR
    rw [why] at hag
    subst hag
    have hdu : dv = .none := hdu
    subst hdu
    k_steps
    exact ret _ _ (by k_asm) (News_sub (by k_asm) (by (intro p hp; (repeat (rcases List.mem_cons.mp hp with rfl | hp; (solve | (repeat (first | exact List.Mem.head _ | refine List.Mem.tail _ ?_))))); (repeat (first | exact hp | refine List.Mem.tail _ ?_)))))
theorem turn_14 {w : World} {p : Program} {loose : List Str} {mean : ExcName → Option Value} {mg mb : Str → Option Value}
  {dp un : Nat} {gd : Option (List Code)} {a : Addr} {ccd : Value} {A₀ : Around} {h₀ : Heap} {L cA t c : Addr} {m : Str → Option Value} {rest : List (Addr × Obj)} {s : Shared} {oc : Obj}
  {i : Int} {ti : Tok} {n1 n2 : Nat} {vs : List Value} {ns : List Int} {Q : Flow → Shared → Prop} {E : Value → Shared → Prop}
  (B : Below A₀ h₀ [] h₀) (F : Fr h₀ L s.heap m) (X : (Mine.hd.heap_39 w.params).In h₀) (T : Top p loose mean mg mb h₀) (hd : dp + 60 < recursionLimit) (hu : un + 300 < cLine)
  (N : News h₀ L s.heap ((t, listOf [.ref c, .int i ti].toArray n1) :: (c, listOf vs.toArray n2) :: rest))
  (htc : @Ne Nat t c) (hrt : ∀ q ∈ rest, q.1 ≠ t) (hrc : ∀ q ∈ rest, q.1 ≠ c) (hI : IntsAre vs ns) (hlen : 0 < ns.length) (hlen2 : ns.length ≤ 60) (hi : 0 ≤ i) (hi2 : i < 900) (hcell : (cA, oc) ∈ rest) (hoc : oc.data = .cell (some (.ref t)))
  {li nli ls nsl x k : Nat} {xvs svs : List Value} {ks : List Int} {par dv : Value} {occ : Option Int} {off size : Int} {line : List (Option Int × Int)} {d : Option (Int × Int)} {tl : Tok} {b : Int} {tb : Tok} (hmb : m "begin" = some (.int b tb))
  (hm0 : m "level" = some (.int (k : Int) tl)) (hk3 : k < 3) (hm1 : m "items" = some (.ref li)) (hm2 : m "subscripts" = some (.ref ls)) (hm3 : m "due" = some dv) (hli : (li, listOf xvs.toArray nli) ∈ rest) (hxk : xvs[(k : Int).toNat]? = some (.ref x))
  (hss : (ls, listOf svs.toArray nsl) ∈ rest) (hsi : IntsAre svs ks) (hkl : ks.length ≤ 4) (hln : LineIn rest x line) (hl3 : line.length ≤ 3) (hit : ItemIn rest x par occ off size) (hbd : ∀ q ∈ line, -1000 < q.2 ∧ q.2 < 1000)
  (hdu : DueIn rest dv d) (hag : toldSpec (tabsUpto line.reverse line.length) off size ks (some (b, none)) = d)
  (ret : ∀ h' tks, Fr h₀ L h' m → News h₀ L h' ((t, listOf [.ref c, .int i ti].toArray n1) :: (c, listOf vs.toArray n2) :: rest) → Q .next { s with heap := h', toks := tks }) :
  wpAny (model PySem.Challenge.rw_pc0123_01.row.prog w) (ktrTop dp un gd "law" lawS L a ccd [("tape", cA)] []) (exec (nthS turnB 14) (envX "law" lawS L a ccd [("tape", cA)])) Q E s := by
  dsimp only [turnB, itemB, lawB, lawS, lawD, PySem.Challenge.pw_pc0123_01, lastS, bodyS, nthS, scopeS]
  have hsl := IntsAre.length hsi
  k_steps
  refine unheld ?_
  k_dflt (refine' told_spec (part := (some (b, none))) ?tB14 ?tF14 ?tX14 ?tN14 ?tT14 rfl ?td14 ?tu14 ?tl14 hl3 ?tx14 ?ts14 hsi ?tk14 ?tp14 hbd ?te14 ?tv14 ?tr14 ?tn14)
  case tB14 => k_asm
  case tF14 => k_asm
  case tX14 => k_asm
  case tN14 => k_asm
  case tT14 => k_asm
  case td14 => exact hd_up5 hd
  case tu14 => exact hu_up5 hu
  case te14 => exact hd_up6 hd
  case tv14 => exact hu_up6 hu
  case tl14 => exact LineIn.mono (by (intro p hp; (repeat (rcases List.mem_cons.mp hp with rfl | hp; (solve | (repeat (first | exact List.Mem.head _ | refine List.Mem.tail _ ?_))))); (repeat (first | exact hp | refine List.Mem.tail _ ?_)))) hln
  case tx14 => exact ItemIn.mono hit (by (intro p hp; (repeat (rcases List.mem_cons.mp hp with rfl | hp; (solve | (repeat (first | exact List.Mem.head _ | refine List.Mem.tail _ ?_))))); (repeat (first | exact hp | refine List.Mem.tail _ ?_))))
  case ts14 => k_mem
  case tk14 => omega
  case tp14 => exact ⟨_, _, _, _, rfl, List.Mem.head _, rfl⟩
  case tr14 =>
    intro aR bR rR t1R t2R nR hR tkR why FR NR
    rw [why] at hag
    subst hag
    obtain ⟨rD, nD, t1D, t2D, rfl, hmD⟩ := hdu
    k_steps
    · exact ret _ _ (by k_asm) (News_sub (by k_asm) (by (intro p hp; (repeat (rcases List.mem_cons.mp hp with rfl | hp; (solve | (repeat (first | exact List.Mem.head _ | refine List.Mem.tail _ ?_))))); (repeat (first | exact hp | refine List.Mem.tail _ ?_)))))
    · exact absurd rfl (by assumption)
  case tn14 =>
    intro hR tkR why FR NR
    rw [why] at hag
    subst hag
    have hdu : dv = .none := hdu
    subst hdu
    k_steps
    exact ret _ _ (by k_asm) (News_sub (by k_asm) (by (intro p hp; (repeat (rcases List.mem_cons.mp hp with rfl | hp; (solve | (repeat (first | exact List.Mem.head _ | refine List.Mem.tail _ ?_))))); (repeat (first | exact hp | refine List.Mem.tail _ ?_)))))
end
section
theorem ext_27 : True := by
  w_top off
  k_with_none
  k_with "own room" => ktr_room
  k_with "own all" => (first
      | assumption
      | exact ne_of_lts (by with_reducible assumption)
      | exact ne_of_all (And.right (by with_reducible assumption))
      | exact ne_of_all (And.right (And.right (by with_reducible assumption)))
      | exact ne_of_all (And.right (And.right (And.right (by with_reducible assumption))))
      | exact ne_of_all (And.right (And.right (And.right (And.right (by with_reducible assumption)))))
      | exact ne_of_all (And.right (And.right (And.right (And.right (And.right (by with_reducible assumption))))))
      | exact ne_of_all (And.right (And.right (And.right (And.right (And.right (And.right (by with_reducible assumption)))))))
      | exact ne_of_all (And.right (And.right (And.right (And.right (And.right (And.right (And.right (by with_reducible assumption)))))))))
  k_with "own sub" => (first
      | (refine' Drop.head ?zzqh; (case zzqh => k_all))
      | (refine' Drop.tail (Or.inr ?zzqa) ?zzqb; (case zzqa => k_cls); (case zzqb => lcg_sub))
      | (refine' Drop.tail (Or.inl ?zzqa) ?zzqb; (case zzqa => k_ne); (case zzqb => lcg_sub)))
  k_with "UnrEnd" => (k_dflt (refine' unr_end ?zzF ?zzN ?zzD ?_; (case zzF => k_asm); (case zzN => k_asm); (case zzD => lcg_sub)))
  k_with "own get" => assumption
  k_with "own mem" => (refine memN ?_; ktr_member)
  k_with "own off" => (first | (with_reducible assumption) | (simp only [LCg.Off3, and_true]; with_reducible assumption))
  k_with "CompEnd" => (refine LCg.CompEnd.intro (by k_asm) (by k_asm) _ (fun _ hp => hp) ?zzoff ?zzsrc ?_; (case zzoff => lcg_off); (case zzsrc => lcg_src))
  k_with "own enter" => (first
      | ktr_enter
      | (refine' code_def ?zzk1 ?zzk2 ?zzk3 ?zzk4 ?zzk5 ?zzkA ?zzkF ?zzkK ?zzk6 ?zzk7 ?zzk8 ?zzk9 ?zzkB ?_ ?zzc2 ?zzc3 ?zzc4 ?zzc5; (case zzkA => exact rfl); (case zzkF => exact rfl); (case zzkK => first | exact rfl | assumption); (case zzk1 => k_asm); (case zzk2 => k_asm); (case zzk3 => k_asm); (case zzk4 => k_asm); (case zzk5 => k_asm); (case zzk6 => k_is); (case zzk7 => k_is); (case zzk8 => ktr_room); (case zzk9 => first | exact BindsTo.of_eq rfl | exact binds_K (by k_in) rfl (by k_is) rfl rfl rfl); (case zzc5 => decide); (case zzkB => exact locs rfl); (case zzc2 => exact rfl); (case zzc3 => exact rfl); (case zzc4 => exact rfl); k_whole; intro zg' zL' zh' zFG' zF' zN' zB' zX' zT'; (try dsimp only); (try k_lift zB'); (try k_fold))
      | (refine' code_defC ?zzk1 ?zzk2 ?zzk3 ?zzk4 ?zzk5 ?zzkA ?zzkF ?zzkK ?zzk6 ?zzk7 ?zzk8 ?zzk9 ?zzkB ?zzkD ?_ ?zzc2 ?zzc3 ?zzc4; (case zzkA => exact rfl); (case zzkF => exact rfl); (case zzkK => first | exact rfl | assumption); (case zzk1 => k_asm); (case zzk2 => k_asm); (case zzk3 => k_asm); (case zzk4 => k_asm); (case zzk5 => k_asm); (case zzk6 => k_is); (case zzk7 => k_is); (case zzk8 => ktr_room); (case zzk9 => exact BindsTo.of_eq rfl); (case zzkB => exact rfl); (case zzkD => decide +kernel); (case zzc2 => exact rfl); (case zzc3 => exact rfl); (case zzc4 => exact rfl); k_whole; intro zg' zL' zh' ztk' zcells' zFG' zF' zN' zY' zB' zX' zT' zl1; (try k_lt zl1); k_cells zY'; (try simp only [List.cons_append, List.nil_append] at zN'); (try dsimp only); (try k_lift zB'); (try k_fold)))
  k_with "call builtin:len" => (k_here; (with_reducible show wpAny _ _ (call (Value.builtin "len") [Value.ref _]) _ _ _); k_dflt (first
      | (refine' len_led ?zzN ?zzm ?zzk ?zzf ?_; (case zzN => k_asm); (case zzm => k_mem); (case zzk => assumption); (case zzf => omega); k_whole)))
  k_with "compareOp NotEq ref ref" => (k_here; k_dflt (first
      | (refine' ne_lists ?zzN ?zza ?zzb ?zzi ?zzj ?zzu ?_; (case zzN => k_asm); (case zza => k_mem); (case zzb => k_mem); (case zzi => first | assumption | exact .nil); (case zzj => first | assumption | exact .nil); (case zzu => exact hu_up4 (by assumption)); k_whole)
      | (refine' ne_tups ?zzN ?zza ?zzb ?zzi ?zzj ?zzu ?_; (case zzN => k_asm); (case zza => k_mem); (case zzb => k_mem); (case zzi => exact .cons _ _ (.cons _ _ .nil)); (case zzj => exact .cons _ _ (.cons _ _ .nil)); (case zzu => exact hu_up4 (by assumption)); k_whole)))
  k_with "compareOp Eq ref ref" => (k_here; k_dflt (refine' eq_lists ?zzN ?zza ?zzb ?zzi ?zzj ?zzu ?_; (case zzN => k_asm); (case zza => k_mem); (case zzb => k_mem); (case zzi => first | assumption | exact .nil); (case zzj => first | assumption | exact .nil); (case zzu => exact hu_up4 (by assumption)); k_whole))
  k_with "eval Name" => (k_here; k_dflt (refine' nameX_L ?zzF ?zzv ?_ ?zza ?zzb; (case zzF => k_asm); (case zzv => first | assumption | (dsimp only; rw [if_neg (by decide)]; assumption) | (dsimp only; rw [if_neg (by decide), if_neg (by decide)]; assumption)); (case zza => rfl); (case zzb => rfl); k_whole))
  k_with "call ref" => ((with_reducible show wpAny _ _ (call (Value.ref 168) _) _ _ _); (refine held ?_))
  k_with "call ref" => ((with_reducible show wpAny _ _ (call (Value.ref 175) _) _ _ _); (refine held ?_))
  k_with "call ref" => ((with_reducible show wpAny _ _ (call (Value.ref 180) _) _ _ _); (refine held ?_))
  k_with "call ref" => ((with_reducible show wpAny _ _ (call (Value.ref 187) _) _ _ _); (refine held ?_))
  trivial
theorem turn_8 {w : World} {p : Program} {loose : List Str} {mean : ExcName → Option Value} {mg mb : Str → Option Value}
  {dp un : Nat} {gd : Option (List Code)} {a : Addr} {ccd : Value} {A₀ : Around} {h₀ : Heap} {L cA t c : Addr} {m : Str → Option Value} {rest : List (Addr × Obj)} {s : Shared} {oc : Obj}
  {i : Int} {ti : Tok} {n1 n2 : Nat} {vs : List Value} {ns : List Int} {Q : Flow → Shared → Prop} {E : Value → Shared → Prop}
  (B : Below A₀ h₀ [] h₀) (F : Fr h₀ L s.heap m) (X : (Mine.hd.heap_39 w.params).In h₀) (T : Top p loose mean mg mb h₀) (hd : dp + 60 < recursionLimit) (hu : un + 300 < cLine)
  (N : News h₀ L s.heap ((t, listOf [.ref c, .int i ti].toArray n1) :: (c, listOf vs.toArray n2) :: rest))
  (htc : @Ne Nat t c) (hrt : ∀ q ∈ rest, q.1 ≠ t) (hrc : ∀ q ∈ rest, q.1 ≠ c) (hI : IntsAre vs ns) (hlen : 0 < ns.length) (hlen2 : ns.length ≤ 60) (hi : 0 ≤ i) (hi2 : i < 900) (hcell : (cA, oc) ∈ rest) (hoc : oc.data = .cell (some (.ref t)))
  {lp np : Nat} {pvs : List Value} {ps : List Int}
  (hm1 : m "spots" = some (.ref lp)) (hpp : (lp, listOf pvs.toArray np) ∈ rest) (hpi : IntsAre pvs ps) (hpl : ps.length ≤ 900)
  (ret : ∀ bg ln tb tl h' tks nw m', Fr h₀ L h' m' → TapeIn t c (i + 2) rest nw → News h₀ L h' nw → m' "begin" = some (.int bg tb) → m' "length" = some (.int ln tl) → (∀ z : Str, z ≠ "begin" → z ≠ "length" → m' z = m z) → 0 ≤ bg → bg < 1000 → -1 ≤ ln → ln < 1000 → Q .next { s with heap := h', toks := tks }) :
  wpAny (model PySem.Challenge.rw_pc0123_01.row.prog w) (ktrTop dp un gd "law" lawS L a ccd [("tape", cA)] []) (exec (nthS turnB 8) (envX "law" lawS L a ccd [("tape", cA)])) Q E s := by
  dsimp only [turnB, itemB, lawB, lawS, lawD, PySem.Challenge.pw_pc0123_01, lastS, bodyS, nthS, scopeS]
  have hcl := IntsAre.length hpi
  k_steps
  refine unheld ?_
  k_dflt (refine' draw_spec ?dB2 ?dF2 ?dX2 ?dN2 ?dT2 rfl ?dtc2 ?drt2 ?drc2 hI hlen hlen2 hi (by omega) ?dl2 ?dm2 ?dd2 ?du2 ?dr2)
  case dB2 => k_asm
  case dF2 => k_asm
  case dX2 => k_asm
  case dN2 => k_asm
  case dT2 => k_asm
  case dtc2 => exact htc
  case drt2 => exact hrt
  case drc2 => exact hrc
  case dl2 => omega
  case dm2 => omega
  case dd2 => exact hd_up4 hd
  case du2 => exact hu_up4 hu
  case dr2 =>
    intro r0 tk0 h0 tks0 vs0 ns0 n10 n20 ti0 hr0 hr1 hnl hI0 F0 N0
    k_steps
    refine unheld ?_
    k_dflt (refine' draw_spec ?dB1 ?dF1 ?dX1 ?dN1 ?dT1 rfl ?dtc1 ?drt1 ?drc1 hI0 (by omega) (by omega) (i := i + 1) (by omega) (by omega) ?dl1 ?dm1 ?dd1 ?du1 ?dr1)
    case dB1 => k_asm
    case dF1 => k_asm
    case dX1 => k_asm
    case dN1 => exact News_sub (news' := (t, listOf [.ref c, .int (i+1) ti0].toArray n10) :: (c, listOf vs0.toArray n20) :: rest) (by k_asm) (by (intro p hp; (repeat (rcases List.mem_cons.mp hp with rfl | hp; (solve | (repeat (first | exact List.Mem.head _ | refine List.Mem.tail _ ?_))))); (repeat (first | exact hp | refine List.Mem.tail _ ?_))))
    case dT1 => k_asm
    case dtc1 => exact htc
    case drt1 => exact hrt
    case drc1 => exact hrc
    case dl1 => omega
    case dm1 => omega
    case dd1 => exact hd_up4 hd
    case du1 => exact hu_up4 hu
    case dr1 =>
      intro r1 tk1 h1 tks1 vs1 ns1 n11 n21 ti1 hr2 hr3 hnl1 hI1 F1 N1
      k_steps
      exact ret _ _ _ _ _ _ _ _ (by k_asm) (tape_in hI1 (by omega) (by omega) (i := i + 1 + 1) (by omega) (by omega)) (News_sub (by k_asm) (by (intro p hp; (repeat (rcases List.mem_cons.mp hp with rfl | hp; (solve | (repeat (first | exact List.Mem.head _ | refine List.Mem.tail _ ?_))))); (repeat (first | exact hp | refine List.Mem.tail _ ?_))))) (by exact rfl) (by exact rfl) (by intro z z1 z2; simp only [z1, z2, if_false]) (by omega) (by omega) (by omega) (by omega)
end
section
theorem ext_28 : True := by
  w_top off
  k_with_none
  k_with "own room" => ktr_room
  k_with "own all" => (first
      | assumption
      | exact ne_of_lts (by with_reducible assumption)
      | exact ne_of_all (And.right (by with_reducible assumption))
      | exact ne_of_all (And.right (And.right (by with_reducible assumption)))
      | exact ne_of_all (And.right (And.right (And.right (by with_reducible assumption))))
      | exact ne_of_all (And.right (And.right (And.right (And.right (by with_reducible assumption)))))
      | exact ne_of_all (And.right (And.right (And.right (And.right (And.right (by with_reducible assumption))))))
      | exact ne_of_all (And.right (And.right (And.right (And.right (And.right (And.right (by with_reducible assumption)))))))
      | exact ne_of_all (And.right (And.right (And.right (And.right (And.right (And.right (And.right (by with_reducible assumption)))))))))
  k_with "own sub" => (first
      | (refine' Drop.head ?zzqh; (case zzqh => k_all))
      | (refine' Drop.tail (Or.inr ?zzqa) ?zzqb; (case zzqa => k_cls); (case zzqb => lcg_sub))
      | (refine' Drop.tail (Or.inl ?zzqa) ?zzqb; (case zzqa => k_ne); (case zzqb => lcg_sub)))
  k_with "UnrEnd" => (k_dflt (refine' unr_end ?zzF ?zzN ?zzD ?_; (case zzF => k_asm); (case zzN => k_asm); (case zzD => lcg_sub)))
  k_with "own get" => assumption
  k_with "own mem" => (refine memN ?_; ktr_member)
  k_with "own off" => (first | (with_reducible assumption) | (simp only [LCg.Off3, and_true]; with_reducible assumption))
  k_with "CompEnd" => (refine LCg.CompEnd.intro (by k_asm) (by k_asm) _ (fun _ hp => hp) ?zzoff ?zzsrc ?_; (case zzoff => lcg_off); (case zzsrc => lcg_src))
  k_with "own enter" => (first
      | ktr_enter
      | (refine' code_def ?zzk1 ?zzk2 ?zzk3 ?zzk4 ?zzk5 ?zzkA ?zzkF ?zzkK ?zzk6 ?zzk7 ?zzk8 ?zzk9 ?zzkB ?_ ?zzc2 ?zzc3 ?zzc4 ?zzc5; (case zzkA => exact rfl); (case zzkF => exact rfl); (case zzkK => first | exact rfl | assumption); (case zzk1 => k_asm); (case zzk2 => k_asm); (case zzk3 => k_asm); (case zzk4 => k_asm); (case zzk5 => k_asm); (case zzk6 => k_is); (case zzk7 => k_is); (case zzk8 => ktr_room); (case zzk9 => first | exact BindsTo.of_eq rfl | exact binds_K (by k_in) rfl (by k_is) rfl rfl rfl); (case zzc5 => decide); (case zzkB => exact locs rfl); (case zzc2 => exact rfl); (case zzc3 => exact rfl); (case zzc4 => exact rfl); k_whole; intro zg' zL' zh' zFG' zF' zN' zB' zX' zT'; (try dsimp only); (try k_lift zB'); (try k_fold))
      | (refine' code_defC ?zzk1 ?zzk2 ?zzk3 ?zzk4 ?zzk5 ?zzkA ?zzkF ?zzkK ?zzk6 ?zzk7 ?zzk8 ?zzk9 ?zzkB ?zzkD ?_ ?zzc2 ?zzc3 ?zzc4; (case zzkA => exact rfl); (case zzkF => exact rfl); (case zzkK => first | exact rfl | assumption); (case zzk1 => k_asm); (case zzk2 => k_asm); (case zzk3 => k_asm); (case zzk4 => k_asm); (case zzk5 => k_asm); (case zzk6 => k_is); (case zzk7 => k_is); (case zzk8 => ktr_room); (case zzk9 => exact BindsTo.of_eq rfl); (case zzkB => exact rfl); (case zzkD => decide +kernel); (case zzc2 => exact rfl); (case zzc3 => exact rfl); (case zzc4 => exact rfl); k_whole; intro zg' zL' zh' ztk' zcells' zFG' zF' zN' zY' zB' zX' zT' zl1; (try k_lt zl1); k_cells zY'; (try simp only [List.cons_append, List.nil_append] at zN'); (try dsimp only); (try k_lift zB'); (try k_fold)))
  k_with "call builtin:len" => (k_here; (with_reducible show wpAny _ _ (call (Value.builtin "len") [Value.ref _]) _ _ _); k_dflt (first
      | (refine' len_led ?zzN ?zzm ?zzk ?zzf ?_; (case zzN => k_asm); (case zzm => k_mem); (case zzk => assumption); (case zzf => omega); k_whole)))
  k_with "compareOp NotEq ref ref" => (k_here; k_dflt (first
      | (refine' ne_lists ?zzN ?zza ?zzb ?zzi ?zzj ?zzu ?_; (case zzN => k_asm); (case zza => k_mem); (case zzb => k_mem); (case zzi => first | assumption | exact .nil); (case zzj => first | assumption | exact .nil); (case zzu => exact hu_up4 (by assumption)); k_whole)
      | (refine' ne_tups ?zzN ?zza ?zzb ?zzi ?zzj ?zzu ?_; (case zzN => k_asm); (case zza => k_mem); (case zzb => k_mem); (case zzi => exact .cons _ _ (.cons _ _ .nil)); (case zzj => exact .cons _ _ (.cons _ _ .nil)); (case zzu => exact hu_up4 (by assumption)); k_whole)))
  k_with "compareOp Eq ref ref" => (k_here; k_dflt (refine' eq_lists ?zzN ?zza ?zzb ?zzi ?zzj ?zzu ?_; (case zzN => k_asm); (case zza => k_mem); (case zzb => k_mem); (case zzi => first | assumption | exact .nil); (case zzj => first | assumption | exact .nil); (case zzu => exact hu_up4 (by assumption)); k_whole))
  k_with "eval Name" => (k_here; k_dflt (refine' nameX_L ?zzF ?zzv ?_ ?zza ?zzb; (case zzF => k_asm); (case zzv => first | assumption | (dsimp only; rw [if_neg (by decide)]; assumption) | (dsimp only; rw [if_neg (by decide), if_neg (by decide)]; assumption)); (case zza => rfl); (case zzb => rfl); k_whole))
  k_with "call ref" => ((with_reducible show wpAny _ _ (call (Value.ref 168) _) _ _ _); (refine held ?_))
  k_with "call ref" => ((with_reducible show wpAny _ _ (call (Value.ref 175) _) _ _ _); (refine held ?_))
  k_with "call ref" => ((with_reducible show wpAny _ _ (call (Value.ref 180) _) _ _ _); (refine held ?_))
  k_with "call ref" => ((with_reducible show wpAny _ _ (call (Value.ref 187) _) _ _ _); (refine held ?_))
  trivial
theorem pick_both (l : List Value) (x y : Int) (h0 : 0 ≤ x) (h1 : 0 < y) : kms_pick l (some x) (some (x + y)) = (l.drop x.toNat).take y.toNat := by
  unfold kms_pick kms_lo kms_hi
  have e1 : ¬ (x < 0) := by omega
  have e2 : ¬ (x + y < 0) := by omega
  simp only [e1, e2, if_false, kmk_drop_min]
  have e3 : (x + y).toNat = x.toNat + y.toNat := by omega
  rcases Nat.le_total l.length x.toNat with h | h
  · rw [List.drop_eq_nil_of_le h, List.take_nil, List.take_nil]
  · rw [e3, Nat.min_eq_left h, ← Nat.sub_min_sub_right, Nat.add_sub_cancel_left, ← List.length_drop, ← List.take_eq_take_min]
theorem pick_from2 (l : List Value) (x : Int) (h0 : 0 ≤ x) : kms_pick l (some x) none = l.drop x.toNat := by
  unfold kms_pick kms_lo kms_hi
  have e1 : ¬ (x < 0) := by omega
  simp only [e1, if_false, kmk_drop_min]
  rw [List.take_of_length_le]
  rw [List.length_drop]
  omega
theorem ints_drop {vs : List Value} {ns : List Int} (h : IntsAre vs ns) (k : Nat) : IntsAre (vs.drop k) (ns.drop k) := by
  induction h generalizing k with
  | nil => rw [List.drop_nil, List.drop_nil]; exact .nil
  | cons a u r ih =>
    cases k with
    | zero => exact .cons _ _ r
    | succ k => exact ih k
noncomputable def held9 (ps : List Int) (b l : Int) : List Int := if 0 < b ∧ 0 < l then (ps.drop (b - 1).toNat).take l.toNat else []
noncomputable def held12 (ps : List Int) (b : Int) : List Int := if 0 < b then ps.drop (b - 1).toNat else []
theorem ext_29 : True := by
  k_with "subscriptTail Name Slice ref ref" => (refine held ?_)
  trivial
theorem turn_9 {w : World} {p : Program} {loose : List Str} {mean : ExcName → Option Value} {mg mb : Str → Option Value}
  {dp un : Nat} {gd : Option (List Code)} {a : Addr} {ccd : Value} {A₀ : Around} {h₀ : Heap} {L cA t c : Addr} {m : Str → Option Value} {rest : List (Addr × Obj)} {s : Shared} {oc : Obj}
  {i : Int} {ti : Tok} {n1 n2 : Nat} {vs : List Value} {ns : List Int} {Q : Flow → Shared → Prop} {E : Value → Shared → Prop}
  (B : Below A₀ h₀ [] h₀) (F : Fr h₀ L s.heap m) (X : (Mine.hd.heap_39 w.params).In h₀) (T : Top p loose mean mg mb h₀) (hd : dp + 60 < recursionLimit) (hu : un + 300 < cLine)
  (N : News h₀ L s.heap ((t, listOf [.ref c, .int i ti].toArray n1) :: (c, listOf vs.toArray n2) :: rest))
  (htc : @Ne Nat t c) (hrt : ∀ q ∈ rest, q.1 ≠ t) (hrc : ∀ q ∈ rest, q.1 ≠ c) (hI : IntsAre vs ns) (hlen : 0 < ns.length) (hlen2 : ns.length ≤ 60) (hi : 0 ≤ i) (hi2 : i < 900) (hcell : (cA, oc) ∈ rest) (hoc : oc.data = .cell (some (.ref t)))
  {lp np : Nat} {pvs : List Value} {ps : List Int} {b : Int} {tb : Tok} {l : Int} {tl : Tok} (hml : m "length" = some (.int l tl)) (hl1 : l < 1000)
  (hm1 : m "spots" = some (.ref lp)) (hpp : (lp, listOf pvs.toArray np) ∈ rest) (hpi : IntsAre pvs ps) (hpl : ps.length ≤ 900) (hmb : m "begin" = some (.int b tb)) (hb1 : b < 1000)
  (ret : ∀ r rs n h' tks, Fr h₀ L h' (fun y => if y = "held" then some (.ref r) else m y) → News h₀ L h' ((t, listOf [.ref c, .int i ti].toArray n1) :: (c, listOf vs.toArray n2) :: (r, listOf rs.toArray n) :: rest) →
    IntsAre rs (held9 ps b l) → @Ne Nat r t → @Ne Nat r c → (∀ q ∈ rest, q.1 ≠ r) → Q .next { s with heap := h', toks := tks }) :
  wpAny (model PySem.Challenge.rw_pc0123_01.row.prog w) (ktrTop dp un gd "law" lawS L a ccd [("tape", cA)] []) (exec (nthS turnB 9) (envX "law" lawS L a ccd [("tape", cA)])) Q E s := by
  dsimp only [turnB, itemB, lawB, lawS, lawD, PySem.Challenge.pw_pc0123_01, lastS, bodyS, nthS, scopeS]
  have hcl := IntsAre.length hpi
  k_steps
  · refine unheld ?_
    k_dflt (refine' kms_slice_lit (zs := (pvs.drop (b - 1).toNat).take l.toNat) ?sF1 ?sN1 ?sl1 ?sp1 ?sq1 ?se1 ?sh1 ?ss1 ?st1 ?sz1)
    case sF1 => k_asm
    case sN1 => k_asm
    case sl1 => kmk_list
    case sp1 => kmk_part
    case sq1 => kmk_part
    case se1 => exact pick_both pvs (b - 1) l (by omega) (by omega)
    case ss1 => with_unfolding_all rfl
    case st1 => kmk_pure
    case sz1 => (rw [sizeLine_eq, List.size_toArray]; omega)
    case sh1 =>
      intro D9 h9 F9 N9 l9
      k_lt l9
      k_steps
      exact ret _ _ _ _ _ (by k_asm) (News_sub (by k_asm) (by (intro p hp; (repeat (rcases List.mem_cons.mp hp with rfl | hp; (solve | (repeat (first | exact List.Mem.head _ | refine List.Mem.tail _ ?_))))); (repeat (first | exact hp | refine List.Mem.tail _ ?_))))) (by rw [held9, if_pos ⟨by omega, by omega⟩]; exact IntsAre.take (ints_drop hpi _) _) (by k_ne) (by k_ne) (by k_all)
  · exact ret _ _ _ _ _ (by k_asm) (News_sub (by k_asm) (by (intro p hp; (repeat (rcases List.mem_cons.mp hp with rfl | hp; (solve | (repeat (first | exact List.Mem.head _ | refine List.Mem.tail _ ?_))))); (repeat (first | exact hp | refine List.Mem.tail _ ?_))))) (by rw [held9, if_neg (by omega)]; exact .nil) (by k_ne) (by k_ne) (by k_all)
  · exact ret _ _ _ _ _ (by k_asm) (News_sub (by k_asm) (by (intro p hp; (repeat (rcases List.mem_cons.mp hp with rfl | hp; (solve | (repeat (first | exact List.Mem.head _ | refine List.Mem.tail _ ?_))))); (repeat (first | exact hp | refine List.Mem.tail _ ?_))))) (by rw [held9, if_neg (by omega)]; exact .nil) (by k_ne) (by k_ne) (by k_all)
theorem turn_12 {w : World} {p : Program} {loose : List Str} {mean : ExcName → Option Value} {mg mb : Str → Option Value}
  {dp un : Nat} {gd : Option (List Code)} {a : Addr} {ccd : Value} {A₀ : Around} {h₀ : Heap} {L cA t c : Addr} {m : Str → Option Value} {rest : List (Addr × Obj)} {s : Shared} {oc : Obj}
  {i : Int} {ti : Tok} {n1 n2 : Nat} {vs : List Value} {ns : List Int} {Q : Flow → Shared → Prop} {E : Value → Shared → Prop}
  (B : Below A₀ h₀ [] h₀) (F : Fr h₀ L s.heap m) (X : (Mine.hd.heap_39 w.params).In h₀) (T : Top p loose mean mg mb h₀) (hd : dp + 60 < recursionLimit) (hu : un + 300 < cLine)
  (N : News h₀ L s.heap ((t, listOf [.ref c, .int i ti].toArray n1) :: (c, listOf vs.toArray n2) :: rest))
  (htc : @Ne Nat t c) (hrt : ∀ q ∈ rest, q.1 ≠ t) (hrc : ∀ q ∈ rest, q.1 ≠ c) (hI : IntsAre vs ns) (hlen : 0 < ns.length) (hlen2 : ns.length ≤ 60) (hi : 0 ≤ i) (hi2 : i < 900) (hcell : (cA, oc) ∈ rest) (hoc : oc.data = .cell (some (.ref t)))
  {lp np : Nat} {pvs : List Value} {ps : List Int} {b : Int} {tb : Tok} 
  (hm1 : m "spots" = some (.ref lp)) (hpp : (lp, listOf pvs.toArray np) ∈ rest) (hpi : IntsAre pvs ps) (hpl : ps.length ≤ 900) (hmb : m "begin" = some (.int b tb)) (hb1 : b < 1000)
  (ret : ∀ r rs n h' tks, Fr h₀ L h' (fun y => if y = "held" then some (.ref r) else m y) → News h₀ L h' ((t, listOf [.ref c, .int i ti].toArray n1) :: (c, listOf vs.toArray n2) :: (r, listOf rs.toArray n) :: rest) →
    IntsAre rs (held12 ps b) → @Ne Nat r t → @Ne Nat r c → (∀ q ∈ rest, q.1 ≠ r) → Q .next { s with heap := h', toks := tks }) :
  wpAny (model PySem.Challenge.rw_pc0123_01.row.prog w) (ktrTop dp un gd "law" lawS L a ccd [("tape", cA)] []) (exec (nthS turnB 12) (envX "law" lawS L a ccd [("tape", cA)])) Q E s := by
  dsimp only [turnB, itemB, lawB, lawS, lawD, PySem.Challenge.pw_pc0123_01, lastS, bodyS, nthS, scopeS]
  have hcl := IntsAre.length hpi
  k_steps
  · refine unheld ?_
    k_dflt (refine' kms_slice_lit (zs := pvs.drop (b - 1).toNat) ?sF2 ?sN2 ?sl2 ?sp2 ?sq2 ?se2 ?sh2 ?ss2 ?st2 ?sz2)
    case sF2 => k_asm
    case sN2 => k_asm
    case sl2 => kmk_list
    case sp2 => kmk_part
    case sq2 => kmk_part
    case se2 => exact pick_from2 pvs (b - 1) (by omega)
    case ss2 => with_unfolding_all rfl
    case st2 => kmk_pure
    case sz2 => (rw [sizeLine_eq, List.size_toArray]; omega)
    case sh2 =>
      intro D9 h9 F9 N9 l9
      k_lt l9
      k_steps
      exact ret _ _ _ _ _ (by k_asm) (News_sub (by k_asm) (by (intro p hp; (repeat (rcases List.mem_cons.mp hp with rfl | hp; (solve | (repeat (first | exact List.Mem.head _ | refine List.Mem.tail _ ?_))))); (repeat (first | exact hp | refine List.Mem.tail _ ?_))))) (by rw [held12, if_pos (by omega)]; exact ints_drop hpi _) (by k_ne) (by k_ne) (by k_all)
  · exact ret _ _ _ _ _ (by k_asm) (News_sub (by k_asm) (by (intro p hp; (repeat (rcases List.mem_cons.mp hp with rfl | hp; (solve | (repeat (first | exact List.Mem.head _ | refine List.Mem.tail _ ?_))))); (repeat (first | exact hp | refine List.Mem.tail _ ?_))))) (by rw [held12, if_neg (by omega)]; exact .nil) (by k_ne) (by k_ne) (by k_all)
end
section
theorem ext_30 : True := by
  w_top off
  k_with_none
  k_with "own room" => ktr_room
  k_with "own all" => (first
      | assumption
      | exact ne_of_lts (by with_reducible assumption)
      | exact ne_of_all (And.right (by with_reducible assumption))
      | exact ne_of_all (And.right (And.right (by with_reducible assumption)))
      | exact ne_of_all (And.right (And.right (And.right (by with_reducible assumption))))
      | exact ne_of_all (And.right (And.right (And.right (And.right (by with_reducible assumption)))))
      | exact ne_of_all (And.right (And.right (And.right (And.right (And.right (by with_reducible assumption))))))
      | exact ne_of_all (And.right (And.right (And.right (And.right (And.right (And.right (by with_reducible assumption)))))))
      | exact ne_of_all (And.right (And.right (And.right (And.right (And.right (And.right (And.right (by with_reducible assumption)))))))))
  k_with "own sub" => (first
      | (refine' Drop.head ?zzqh; (case zzqh => k_all))
      | (refine' Drop.tail (Or.inr ?zzqa) ?zzqb; (case zzqa => k_cls); (case zzqb => lcg_sub))
      | (refine' Drop.tail (Or.inl ?zzqa) ?zzqb; (case zzqa => k_ne); (case zzqb => lcg_sub)))
  k_with "UnrEnd" => (k_dflt (refine' unr_end ?zzF ?zzN ?zzD ?_; (case zzF => k_asm); (case zzN => k_asm); (case zzD => lcg_sub)))
  k_with "own get" => assumption
  k_with "own mem" => (refine memN ?_; ktr_member)
  k_with "own off" => (first | (with_reducible assumption) | (simp only [LCg.Off3, and_true]; with_reducible assumption))
  k_with "CompEnd" => (refine LCg.CompEnd.intro (by k_asm) (by k_asm) _ (fun _ hp => hp) ?zzoff ?zzsrc ?_; (case zzoff => lcg_off); (case zzsrc => lcg_src))
  k_with "own enter" => (first
      | ktr_enter
      | (refine' code_def ?zzk1 ?zzk2 ?zzk3 ?zzk4 ?zzk5 ?zzkA ?zzkF ?zzkK ?zzk6 ?zzk7 ?zzk8 ?zzk9 ?zzkB ?_ ?zzc2 ?zzc3 ?zzc4 ?zzc5; (case zzkA => exact rfl); (case zzkF => exact rfl); (case zzkK => first | exact rfl | assumption); (case zzk1 => k_asm); (case zzk2 => k_asm); (case zzk3 => k_asm); (case zzk4 => k_asm); (case zzk5 => k_asm); (case zzk6 => k_is); (case zzk7 => k_is); (case zzk8 => ktr_room); (case zzk9 => first | exact BindsTo.of_eq rfl | exact binds_K (by k_in) rfl (by k_is) rfl rfl rfl); (case zzc5 => decide); (case zzkB => exact locs rfl); (case zzc2 => exact rfl); (case zzc3 => exact rfl); (case zzc4 => exact rfl); k_whole; intro zg' zL' zh' zFG' zF' zN' zB' zX' zT'; (try dsimp only); (try k_lift zB'); (try k_fold))
      | (refine' code_defC ?zzk1 ?zzk2 ?zzk3 ?zzk4 ?zzk5 ?zzkA ?zzkF ?zzkK ?zzk6 ?zzk7 ?zzk8 ?zzk9 ?zzkB ?zzkD ?_ ?zzc2 ?zzc3 ?zzc4; (case zzkA => exact rfl); (case zzkF => exact rfl); (case zzkK => first | exact rfl | assumption); (case zzk1 => k_asm); (case zzk2 => k_asm); (case zzk3 => k_asm); (case zzk4 => k_asm); (case zzk5 => k_asm); (case zzk6 => k_is); (case zzk7 => k_is); (case zzk8 => ktr_room); (case zzk9 => exact BindsTo.of_eq rfl); (case zzkB => exact rfl); (case zzkD => decide +kernel); (case zzc2 => exact rfl); (case zzc3 => exact rfl); (case zzc4 => exact rfl); k_whole; intro zg' zL' zh' ztk' zcells' zFG' zF' zN' zY' zB' zX' zT' zl1; (try k_lt zl1); k_cells zY'; (try simp only [List.cons_append, List.nil_append] at zN'); (try dsimp only); (try k_lift zB'); (try k_fold)))
  k_with "call builtin:len" => (k_here; (with_reducible show wpAny _ _ (call (Value.builtin "len") [Value.ref _]) _ _ _); k_dflt (first
      | (refine' len_led ?zzN ?zzm ?zzk ?zzf ?_; (case zzN => k_asm); (case zzm => k_mem); (case zzk => assumption); (case zzf => omega); k_whole)))
  k_with "compareOp NotEq ref ref" => (k_here; k_dflt (first
      | (refine' ne_lists ?zzN ?zza ?zzb ?zzi ?zzj ?zzu ?_; (case zzN => k_asm); (case zza => k_mem); (case zzb => k_mem); (case zzi => first | assumption | exact .nil); (case zzj => first | assumption | exact .nil); (case zzu => exact hu_up4 (by assumption)); k_whole)
      | (refine' ne_tups ?zzN ?zza ?zzb ?zzi ?zzj ?zzu ?_; (case zzN => k_asm); (case zza => k_mem); (case zzb => k_mem); (case zzi => exact .cons _ _ (.cons _ _ .nil)); (case zzj => exact .cons _ _ (.cons _ _ .nil)); (case zzu => exact hu_up4 (by assumption)); k_whole)))
  k_with "compareOp Eq ref ref" => (k_here; k_dflt (refine' eq_lists ?zzN ?zza ?zzb ?zzi ?zzj ?zzu ?_; (case zzN => k_asm); (case zza => k_mem); (case zzb => k_mem); (case zzi => first | assumption | exact .nil); (case zzj => first | assumption | exact .nil); (case zzu => exact hu_up4 (by assumption)); k_whole))
  k_with "eval Name" => (k_here; k_dflt (refine' nameX_L ?zzF ?zzv ?_ ?zza ?zzb; (case zzF => k_asm); (case zzv => first | assumption | (dsimp only; rw [if_neg (by decide)]; assumption) | (dsimp only; rw [if_neg (by decide), if_neg (by decide)]; assumption)); (case zza => rfl); (case zzb => rfl); k_whole))
  k_with "call ref" => ((with_reducible show wpAny _ _ (call (Value.ref 168) _) _ _ _); (refine held ?_))
  k_with "call ref" => ((with_reducible show wpAny _ _ (call (Value.ref 175) _) _ _ _); (refine held ?_))
  k_with "call ref" => ((with_reducible show wpAny _ _ (call (Value.ref 180) _) _ _ _); (refine held ?_))
  k_with "call ref" => ((with_reducible show wpAny _ _ (call (Value.ref 187) _) _ _ _); (refine held ?_))
  trivial
noncomputable def due10 (b : Int) (hs : List Int) (l : Int) : Option (Int × Int) := if (hs.length : Int) = l ∧ hs ≠ [] then some (b + hs.getD 0 0, l) else none
theorem pos_of_ne {ns : List Int} (h : (!decide (ns = [])) = true) : 0 < ns.length := List.length_pos_iff.mpr (by simpa using h)
theorem nil_of_ne {ns : List Int} (h : (!decide (ns = [])) = false) : ns = [] := by simpa using h
theorem ext_31 : True := by
  k_with "subscriptTail" => (k_here; (with_reducible show wpAny _ _ (subscriptTail _ _ (Value.ref _) (Value.int _ _)) _ _ _); k_dflt (refine' int_led ?zzN ?zzm ?zzi ?zza ?zzb ?zzf ?_; (case zzN => k_asm); (case zzm => k_mem); (case zzi => assumption); (case zza => omega); (case zzb => first | omega | exact pos_of_ne (by assumption) | exact pos_of (by assumption)); (case zzf => omega); k_whole); intro ztI)
  trivial
theorem turn_10 {w : World} {p : Program} {loose : List Str} {mean : ExcName → Option Value} {mg mb : Str → Option Value}
  {dp un : Nat} {gd : Option (List Code)} {a : Addr} {ccd : Value} {A₀ : Around} {h₀ : Heap} {L cA t c : Addr} {m : Str → Option Value} {rest : List (Addr × Obj)} {s : Shared} {oc : Obj}
  {i : Int} {ti : Tok} {n1 n2 : Nat} {vs : List Value} {ns : List Int} {Q : Flow → Shared → Prop} {E : Value → Shared → Prop}
  (B : Below A₀ h₀ [] h₀) (F : Fr h₀ L s.heap m) (X : (Mine.hd.heap_39 w.params).In h₀) (T : Top p loose mean mg mb h₀) (hd : dp + 60 < recursionLimit) (hu : un + 300 < cLine)
  (N : News h₀ L s.heap ((t, listOf [.ref c, .int i ti].toArray n1) :: (c, listOf vs.toArray n2) :: rest))
  (htc : @Ne Nat t c) (hrt : ∀ q ∈ rest, q.1 ≠ t) (hrc : ∀ q ∈ rest, q.1 ≠ c) (hI : IntsAre vs ns) (hlen : 0 < ns.length) (hlen2 : ns.length ≤ 60) (hi : 0 ≤ i) (hi2 : i < 900) (hcell : (cA, oc) ∈ rest) (hoc : oc.data = .cell (some (.ref t)))
  {lp np : Nat} {pvs : List Value} {ps : List Int} {b : Int} {tb : Tok} {l : Int} {tl : Tok} (hml : m "length" = some (.int l tl))
  (hm0 : m "base" = some (.int b tb)) (hm1 : m "held" = some (.ref lp)) (hpp : (lp, listOf pvs.toArray np) ∈ rest) (hpi : IntsAre pvs ps) (hpl : ps.length ≤ 1000)
  (ret : ∀ v h' tks new, Fr h₀ L h' (fun y => if y = "due" then some v else m y) → News h₀ L h' ((t, listOf [.ref c, .int i ti].toArray n1) :: (c, listOf vs.toArray n2) :: (new ++ rest)) →
    DueIn new v (due10 b ps l) → (∀ q ∈ new, @Ne Nat q.1 t ∧ @Ne Nat q.1 c) → Q .next { s with heap := h', toks := tks }) :
  wpAny (model PySem.Challenge.rw_pc0123_01.row.prog w) (ktrTop dp un gd "law" lawS L a ccd [("tape", cA)] []) (exec (nthS turnB 10) (envX "law" lawS L a ccd [("tape", cA)])) Q E s := by
  dsimp only [turnB, itemB, lawB, lawS, lawD, PySem.Challenge.pw_pc0123_01, lastS, bodyS, nthS, scopeS]
  have hcl := IntsAre.length hpi
  k_steps
  · exact ret .none _ _ [] (by k_asm) (News_sub (by k_asm) (by (intro p hp; (repeat (rcases List.mem_cons.mp hp with rfl | hp; (solve | (repeat (first | exact List.Mem.head _ | refine List.Mem.tail _ ?_))))); (repeat (first | exact hp | refine List.Mem.tail _ ?_))))) (by rw [due10, if_neg (fun q => q.2 (nil_of (by assumption)))]; rfl) (fun q hq => by cases hq)
  · have hp := pos_of (by assumption)
    have hn : ps ≠ [] := List.length_pos_iff.mp hp
    exact ret (.ref _) _ _ [(_, tupOf [.int (b + ps.getD 0 0) _, .int l _] 0)] (by k_asm) (News_sub (by k_asm) (by (intro p hp; (repeat (rcases List.mem_cons.mp hp with rfl | hp; (solve | (repeat (first | exact List.Mem.head _ | refine List.Mem.tail _ ?_))))); (repeat (first | exact hp | refine List.Mem.tail _ ?_))))) (by rw [due10, if_pos ⟨by omega, hn⟩]; exact ⟨_, _, _, _, rfl, .head _⟩) (by intro q hq; rcases List.mem_singleton.mp hq with rfl; exact ⟨by k_ne, by k_ne⟩)
  · exact ret .none _ _ [] (by k_asm) (News_sub (by k_asm) (by (intro p hp; (repeat (rcases List.mem_cons.mp hp with rfl | hp; (solve | (repeat (first | exact List.Mem.head _ | refine List.Mem.tail _ ?_))))); (repeat (first | exact hp | refine List.Mem.tail _ ?_))))) (by rw [due10, if_neg (fun q => absurd q.1 (by assumption))]; rfl) (fun q hq => by cases hq)
theorem turn_13 {w : World} {p : Program} {loose : List Str} {mean : ExcName → Option Value} {mg mb : Str → Option Value}
  {dp un : Nat} {gd : Option (List Code)} {a : Addr} {ccd : Value} {A₀ : Around} {h₀ : Heap} {L cA t c : Addr} {m : Str → Option Value} {rest : List (Addr × Obj)} {s : Shared} {oc : Obj}
  {i : Int} {ti : Tok} {n1 n2 : Nat} {vs : List Value} {ns : List Int} {Q : Flow → Shared → Prop} {E : Value → Shared → Prop}
  (B : Below A₀ h₀ [] h₀) (F : Fr h₀ L s.heap m) (X : (Mine.hd.heap_39 w.params).In h₀) (T : Top p loose mean mg mb h₀) (hd : dp + 60 < recursionLimit) (hu : un + 300 < cLine)
  (N : News h₀ L s.heap ((t, listOf [.ref c, .int i ti].toArray n1) :: (c, listOf vs.toArray n2) :: rest))
  (htc : @Ne Nat t c) (hrt : ∀ q ∈ rest, q.1 ≠ t) (hrc : ∀ q ∈ rest, q.1 ≠ c) (hI : IntsAre vs ns) (hlen : 0 < ns.length) (hlen2 : ns.length ≤ 60) (hi : 0 ≤ i) (hi2 : i < 900) (hcell : (cA, oc) ∈ rest) (hoc : oc.data = .cell (some (.ref t)))
  {lp np : Nat} {pvs : List Value} {ps : List Int} {b : Int} {tb : Tok} 
  (hm0 : m "base" = some (.int b tb)) (hm1 : m "held" = some (.ref lp)) (hpp : (lp, listOf pvs.toArray np) ∈ rest) (hpi : IntsAre pvs ps) (hpl : ps.length ≤ 1000)
  (ret : ∀ v h' tks new, Fr h₀ L h' (fun y => if y = "due" then some v else m y) → News h₀ L h' ((t, listOf [.ref c, .int i ti].toArray n1) :: (c, listOf vs.toArray n2) :: (new ++ rest)) →
    DueIn new v (due6 b ps) → (∀ q ∈ new, @Ne Nat q.1 t ∧ @Ne Nat q.1 c) → Q .next { s with heap := h', toks := tks }) :
  wpAny (model PySem.Challenge.rw_pc0123_01.row.prog w) (ktrTop dp un gd "law" lawS L a ccd [("tape", cA)] []) (exec (nthS turnB 13) (envX "law" lawS L a ccd [("tape", cA)])) Q E s := by
  dsimp only [turnB, itemB, lawB, lawS, lawD, PySem.Challenge.pw_pc0123_01, lastS, bodyS, nthS, scopeS]
  have hcl := IntsAre.length hpi
  k_steps
  · exact ret .none _ _ [] (by k_asm) (News_sub (by k_asm) (by (intro p hp; (repeat (rcases List.mem_cons.mp hp with rfl | hp; (solve | (repeat (first | exact List.Mem.head _ | refine List.Mem.tail _ ?_))))); (repeat (first | exact hp | refine List.Mem.tail _ ?_))))) (by rw [due6, if_pos (nil_of (by assumption))]; rfl) (fun q hq => by cases hq)
  · have hp := pos_of (by assumption)
    have hn : ps ≠ [] := List.length_pos_iff.mp hp
    exact ret (.ref _) _ _ [(_, tupOf [.int (b + ps.getD 0 0) _, .int (ps.length : Int) _] 0)] (by k_asm) (News_sub (by k_asm) (by (intro p hp; (repeat (rcases List.mem_cons.mp hp with rfl | hp; (solve | (repeat (first | exact List.Mem.head _ | refine List.Mem.tail _ ?_))))); (repeat (first | exact hp | refine List.Mem.tail _ ?_))))) (by rw [due6, if_neg hn]; exact ⟨_, _, _, _, rfl, .head _⟩) (by intro q hq; rcases List.mem_singleton.mp hq with rfl; exact ⟨by k_ne, by k_ne⟩)
end
section
theorem turnB_eq : turnB = [nthS turnB 0, nthS turnB 1, nthS turnB 2, nthS turnB 3, nthS turnB 4, nthS turnB 5, nthS turnB 6, nthS turnB 7, nthS turnB 8, nthS turnB 9, nthS turnB 10, nthS turnB 11, nthS turnB 12, nthS turnB 13, nthS turnB 14] := by with_unfolding_all rfl
theorem itemB_eq : itemB = [nthS itemB 0, nthS itemB 1, nthS itemB 2, nthS itemB 3, nthS itemB 4, nthS itemB 5, nthS itemB 6] := by with_unfolding_all rfl
theorem lawB_eq : lawB = [nthS lawB 0, nthS lawB 1, nthS lawB 2, nthS lawB 3, nthS lawB 4, nthS lawB 5, nthS lawB 6, nthS lawB 7] := by with_unfolding_all rfl
end
section
theorem find_put_same (name : Str) (hsh : Int) (t : Tok) (v : Value) : ∀ es : List DictEntry, ∃ e, (putL name hsh (.str name t) v es).find? (·.key.isStr name) = some e ∧ e.val = v
  | [] => ⟨⟨hsh, .str name t, v⟩, by simp [putL, Value.isStr], rfl⟩
  | e :: r => by
    unfold putL
    by_cases h : e.key.isStr name = true
    · rw [if_pos h]
      exact ⟨_, by rw [List.find?_cons_of_pos]; exact h, rfl⟩
    · rw [if_neg h]
      obtain ⟨x, hx, hv⟩ := find_put_same name hsh t v r
      exact ⟨x, by rw [List.find?_cons_of_neg (by simpa using h)]; exact hx, hv⟩
theorem getL_of_find {name : Str} {es : List DictEntry} {e : DictEntry} (h : es.find? (·.key.isStr name) = some e) : getL name es = some (some e.val) := by
  unfold getL
  rw [h]
theorem find_of_getL {name : Str} {es : List DictEntry} {w : Value} (h : getL name es = some (some w)) : ∃ e, es.find? (·.key.isStr name) = some e ∧ e.val = w := by
  unfold getL at h
  cases hf : es.find? (·.key.isStr name) with
  | none => rw [hf] at h; dsimp only at h; split at h <;> cases h
  | some e => rw [hf] at h; exact ⟨e, rfl, Option.some.inj (Option.some.inj h)⟩
theorem getL_put_same (name : Str) (hsh : Int) (t : Tok) (v : Value) (es : List DictEntry) : getL name (putL name hsh (.str name t) v es) = some (some v) := by
  obtain ⟨e, h, hv⟩ := find_put_same name hsh t v es
  rw [getL_of_find h, hv]
theorem isStr_ne {v : Value} {a b : Str} (h : v.isStr a = true) (hn : a ≠ b) : v.isStr b = false := by
  cases v <;> simp_all [Value.isStr]
theorem find_put_other {name k : Str} (hn : name ≠ k) (hsh : Int) (t : Tok) (v : Value) : ∀ {es : List DictEntry} {e : DictEntry}, es.find? (·.key.isStr k) = some e → (putL name hsh (.str name t) v es).find? (·.key.isStr k) = some e
  | [], _, h => by simp at h
  | x :: r, e, h => by
    unfold putL
    by_cases hx : x.key.isStr name = true
    · rw [if_pos hx]
      have hk := isStr_ne hx hn
      rw [List.find?_cons_of_neg (by simpa using hk)] at h
      rw [List.find?_cons_of_neg (by simpa using hk)]
      exact h
    · rw [if_neg hx]
      by_cases hk : x.key.isStr k = true
      · rw [List.find?_cons_of_pos (by simpa using hk)] at h
        rw [List.find?_cons_of_pos (by simpa using hk)]
        exact h
      · rw [List.find?_cons_of_neg (by simpa using hk)] at h
        rw [List.find?_cons_of_neg (by simpa using hk)]
        exact find_put_other hn hsh t v h
theorem getL_put_other {name k : Str} (hn : name ≠ k) (hsh : Int) (t : Tok) (v w : Value) {es : List DictEntry} (h : getL k es = some (some w)) : getL k (putL name hsh (.str name t) v es) = some (some w) := by
  obtain ⟨e, he, hv⟩ := find_of_getL h
  rw [getL_of_find (find_put_other hn hsh t v he), hv]
theorem putL_len {name : Str} {hsh : Int} {key v : Value} : ∀ {es : List DictEntry}, (putL name hsh key v es).length ≤ es.length + 1
  | [] => by simp [putL]
  | e :: r => by
    unfold putL
    split
    · simp
    · have := putL_len (name := name) (hsh := hsh) (key := key) (v := v) (es := r)
      simp only [List.length_cons]
      omega
end
section
theorem ext_32 : True := by
  w_top off
  k_with_none
  k_with "own room" => ktr_room
  k_with "own all" => (first
      | assumption
      | exact ne_of_lts (by with_reducible assumption)
      | exact ne_of_all (And.right (by with_reducible assumption))
      | exact ne_of_all (And.right (And.right (by with_reducible assumption)))
      | exact ne_of_all (And.right (And.right (And.right (by with_reducible assumption))))
      | exact ne_of_all (And.right (And.right (And.right (And.right (by with_reducible assumption)))))
      | exact ne_of_all (And.right (And.right (And.right (And.right (And.right (by with_reducible assumption))))))
      | exact ne_of_all (And.right (And.right (And.right (And.right (And.right (And.right (by with_reducible assumption)))))))
      | exact ne_of_all (And.right (And.right (And.right (And.right (And.right (And.right (And.right (by with_reducible assumption)))))))))
  k_with "own sub" => (first
      | (refine' Drop.head ?zzqh; (case zzqh => k_all))
      | (refine' Drop.tail (Or.inr ?zzqa) ?zzqb; (case zzqa => k_cls); (case zzqb => lcg_sub))
      | (refine' Drop.tail (Or.inl ?zzqa) ?zzqb; (case zzqa => k_ne); (case zzqb => lcg_sub)))
  k_with "UnrEnd" => (k_dflt (refine' unr_end ?zzF ?zzN ?zzD ?_; (case zzF => k_asm); (case zzN => k_asm); (case zzD => lcg_sub)))
  k_with "own get" => assumption
  k_with "own mem" => (refine memN ?_; ktr_member)
  k_with "own off" => (first | (with_reducible assumption) | (simp only [LCg.Off3, and_true]; with_reducible assumption))
  k_with "CompEnd" => (refine LCg.CompEnd.intro (by k_asm) (by k_asm) _ (fun _ hp => hp) ?zzoff ?zzsrc ?_; (case zzoff => lcg_off); (case zzsrc => lcg_src))
  k_with "own enter" => (first
      | ktr_enter
      | (refine' code_def ?zzk1 ?zzk2 ?zzk3 ?zzk4 ?zzk5 ?zzkA ?zzkF ?zzkK ?zzk6 ?zzk7 ?zzk8 ?zzk9 ?zzkB ?_ ?zzc2 ?zzc3 ?zzc4 ?zzc5; (case zzkA => exact rfl); (case zzkF => exact rfl); (case zzkK => first | exact rfl | assumption); (case zzk1 => k_asm); (case zzk2 => k_asm); (case zzk3 => k_asm); (case zzk4 => k_asm); (case zzk5 => k_asm); (case zzk6 => k_is); (case zzk7 => k_is); (case zzk8 => ktr_room); (case zzk9 => first | exact BindsTo.of_eq rfl | exact binds_K (by k_in) rfl (by k_is) rfl rfl rfl); (case zzc5 => decide); (case zzkB => exact locs rfl); (case zzc2 => exact rfl); (case zzc3 => exact rfl); (case zzc4 => exact rfl); k_whole; intro zg' zL' zh' zFG' zF' zN' zB' zX' zT'; (try dsimp only); (try k_lift zB'); (try k_fold))
      | (refine' code_defC ?zzk1 ?zzk2 ?zzk3 ?zzk4 ?zzk5 ?zzkA ?zzkF ?zzkK ?zzk6 ?zzk7 ?zzk8 ?zzk9 ?zzkB ?zzkD ?_ ?zzc2 ?zzc3 ?zzc4; (case zzkA => exact rfl); (case zzkF => exact rfl); (case zzkK => first | exact rfl | assumption); (case zzk1 => k_asm); (case zzk2 => k_asm); (case zzk3 => k_asm); (case zzk4 => k_asm); (case zzk5 => k_asm); (case zzk6 => k_is); (case zzk7 => k_is); (case zzk8 => ktr_room); (case zzk9 => exact BindsTo.of_eq rfl); (case zzkB => exact rfl); (case zzkD => decide +kernel); (case zzc2 => exact rfl); (case zzc3 => exact rfl); (case zzc4 => exact rfl); k_whole; intro zg' zL' zh' ztk' zcells' zFG' zF' zN' zY' zB' zX' zT' zl1; (try k_lt zl1); k_cells zY'; (try simp only [List.cons_append, List.nil_append] at zN'); (try dsimp only); (try k_lift zB'); (try k_fold)))
  k_with "call builtin:len" => (k_here; (with_reducible show wpAny _ _ (call (Value.builtin "len") [Value.ref _]) _ _ _); k_dflt (first
      | (refine' len_led ?zzN ?zzm ?zzk ?zzf ?_; (case zzN => k_asm); (case zzm => k_mem); (case zzk => assumption); (case zzf => omega); k_whole)))
  k_with "compareOp NotEq ref ref" => (k_here; k_dflt (first
      | (refine' ne_lists ?zzN ?zza ?zzb ?zzi ?zzj ?zzu ?_; (case zzN => k_asm); (case zza => k_mem); (case zzb => k_mem); (case zzi => first | assumption | exact .nil); (case zzj => first | assumption | exact .nil); (case zzu => exact hu_up4 (by assumption)); k_whole)
      | (refine' ne_tups ?zzN ?zza ?zzb ?zzi ?zzj ?zzu ?_; (case zzN => k_asm); (case zza => k_mem); (case zzb => k_mem); (case zzi => exact .cons _ _ (.cons _ _ .nil)); (case zzj => exact .cons _ _ (.cons _ _ .nil)); (case zzu => exact hu_up4 (by assumption)); k_whole)))
  k_with "compareOp Eq ref ref" => (k_here; k_dflt (refine' eq_lists ?zzN ?zza ?zzb ?zzi ?zzj ?zzu ?_; (case zzN => k_asm); (case zza => k_mem); (case zzb => k_mem); (case zzi => first | assumption | exact .nil); (case zzj => first | assumption | exact .nil); (case zzu => exact hu_up4 (by assumption)); k_whole))
  k_with "eval Name" => (k_here; k_dflt (refine' nameX_L ?zzF ?zzv ?_ ?zza ?zzb; (case zzF => k_asm); (case zzv => first | assumption | (dsimp only; rw [if_neg (by decide)]; assumption) | (dsimp only; rw [if_neg (by decide), if_neg (by decide)]; assumption)); (case zza => rfl); (case zzb => rfl); k_whole))
  k_with "call ref" => ((with_reducible show wpAny _ _ (call (Value.ref 168) _) _ _ _); (refine held ?_))
  k_with "call ref" => ((with_reducible show wpAny _ _ (call (Value.ref 175) _) _ _ _); (refine held ?_))
  k_with "call ref" => ((with_reducible show wpAny _ _ (call (Value.ref 180) _) _ _ _); (refine held ?_))
  k_with "call ref" => ((with_reducible show wpAny _ _ (call (Value.ref 187) _) _ _ _); (refine held ?_))
  trivial
theorem ne_up {d x : Nat} {l : List (Addr × Obj)} (h : AllLt d l) (hx : d < x) : ∀ p ∈ l, p.1 ≠ x := by
  intro p hp
  have : ∀ {l : List (Addr × Obj)}, AllLt d l → p ∈ l → @LT.lt Nat _ p.1 d := by
    intro l
    induction l with
    | nil => intro _ h; cases h
    | cons q r ih =>
      intro ha hm
      rcases List.mem_cons.mp hm with rfl | hm
      · exact ha.1
      · exact ih ha.2 hm
  exact Nat.ne_of_lt (Nat.lt_trans (this h hp) hx)
theorem ne_lts_up {d x : Nat} {l : List (Addr × Obj)} (h : ∀ p ∈ l, p.1 < d) (hx : @LT.lt Nat _ d x) : ∀ p ∈ l, p.1 ≠ x := fun p hp => Nat.ne_of_lt (Nat.lt_trans (h p hp) hx)
theorem item_made {w : World} {p : Program} {loose : List Str} {mean : ExcName → Option Value} {mg mb : Str → Option Value}
  {dp un : Nat} {gd : Option (List Code)} {cn : Str} {cs : Scope} {a : Addr} {ccd : Value} {cl : List (Str × Addr)} {outer : List Env} {A₀ : Around} {base h₀ : Heap} {L : Addr} {m : Str → Option Value} {news : List (Addr × Obj)} {s : Shared} {Q E : Value → Shared → Prop}
  (B : Below A₀ base outer h₀) (F : Fr h₀ L s.heap m) (X : (Mine.hd.heap_39 w.params).In h₀) (N : News h₀ L s.heap news) (T : Top p loose mean mg mb h₀) (hk : cs.kind = .function) (hd : dp + 20 < recursionLimit) (hu : un + 128 < cLine)
  {lv : Int} {t0 t3 : Tok} {nm : Str}
  (ret : ∀ (x d kd : Nat) (e : List DictEntry) n h' tks t1 t2, Fr h₀ L h' m → News h₀ L h' ((d, dictOf e n) :: (x, instObj 138 d) :: (kd, listOf [].toArray 0) :: news) → getL "parent" e = some (some .none) → getL "occurs" e = some (some .none) → getL "offset" e = some (some (.int 0 t1)) → getL "size" e = some (some (.int 0 t2)) → getL "name" e = some (some (.str nm t3)) → getL "kids" e = some (some (.ref kd)) → getL "add" e = some none → e.length ≤ 30 →
    (@Ne Nat x d ∧ @Ne Nat x kd ∧ @Ne Nat d kd) → (∀ q ∈ news, q.1 ≠ x) → (∀ q ∈ news, q.1 ≠ d) → (∀ q ∈ news, q.1 ≠ kd) → Q (.ref x) { s with heap := h', toks := tks }) :
  wpAny (model PySem.Challenge.rw_pc0123_01.row.prog w) (ktrTop dp un gd cn cs L a ccd cl outer) (call (.ref 138) [.int lv t0, .str nm t3]) Q E s := by
  k_steps
  exact ret _ _ _ _ _ _ _ _ _ (by k_asm) (News_sub (by k_asm) (by (intro p hp; (repeat (rcases List.mem_cons.mp hp with rfl | hp; (solve | (repeat (first | exact List.Mem.head _ | refine List.Mem.tail _ ?_))))); (repeat (first | exact hp | refine List.Mem.tail _ ?_))))) rfl rfl rfl rfl rfl rfl rfl (Nat.le_of_ble_eq_true rfl) ⟨by k_ne, by k_ne, by k_ne⟩ (ne_lts_up (by with_reducible assumption) (by with_reducible assumption)) (by k_all) (by k_all)
theorem ext_33 : True := by
  k_with "call ref" => ((with_reducible show wpAny _ _ (call (Value.ref 138) _) _ _ _); (refine held ?_))
  trivial
theorem item_0_0 {w : World} {p : Program} {loose : List Str} {mean : ExcName → Option Value} {mg mb : Str → Option Value}
  {dp un : Nat} {gd : Option (List Code)} {a : Addr} {ccd : Value} {A₀ : Around} {h₀ : Heap} {L cA t c : Addr} {m : Str → Option Value} {rest : List (Addr × Obj)} {s : Shared} {oc : Obj}
  {i : Int} {ti : Tok} {n1 n2 : Nat} {vs : List Value} {ns : List Int} {Q : Flow → Shared → Prop} {E : Value → Shared → Prop}
  (B : Below A₀ h₀ [] h₀) (F : Fr h₀ L s.heap m) (X : (Mine.hd.heap_39 w.params).In h₀) (T : Top p loose mean mg mb h₀) (hd : dp + 60 < recursionLimit) (hu : un + 300 < cLine)
  (N : News h₀ L s.heap ((t, listOf [.ref c, .int i ti].toArray n1) :: (c, listOf vs.toArray n2) :: rest))
  (htc : @Ne Nat t c) (hrt : ∀ q ∈ rest, q.1 ≠ t) (hrc : ∀ q ∈ rest, q.1 ≠ c) (hI : IntsAre vs ns) (hlen : 0 < ns.length) (hlen2 : ns.length ≤ 60) (hi : 0 ≤ i) (hi2 : i < 900) (hcell : (cA, oc) ∈ rest) (hoc : oc.data = .cell (some (.ref t)))
  {tl : Tok} (hm0 : m "level" = some (.int 0 tl))
  (ret : ∀ (x d kd : Nat) (e : List DictEntry) n h' tks t1 t2 nm t3, Fr h₀ L h' (fun y => if y = "item" then some (.ref x) else m y) →
    News h₀ L h' ((t, listOf [.ref c, .int i ti].toArray n1) :: (c, listOf vs.toArray n2) :: (d, dictOf e n) :: (x, instObj 138 d) :: (kd, listOf [].toArray 0) :: rest) →
    getL "parent" e = some (some .none) → getL "occurs" e = some (some .none) → getL "offset" e = some (some (.int 0 t1)) → getL "size" e = some (some (.int 0 t2)) → getL "name" e = some (some (.str nm t3)) → getL "kids" e = some (some (.ref kd)) → getL "add" e = some none → e.length ≤ 30 → nm.length ≤ 10 →
    (@Ne Nat x t ∧ @Ne Nat x c ∧ @Ne Nat d t ∧ @Ne Nat d c ∧ @Ne Nat kd t ∧ @Ne Nat kd c ∧ @Ne Nat x d ∧ @Ne Nat x kd ∧ @Ne Nat d kd) → (∀ q ∈ rest, q.1 ≠ x) → (∀ q ∈ rest, q.1 ≠ d) → (∀ q ∈ rest, q.1 ≠ kd) → Q .next { s with heap := h', toks := tks }) :
  wpAny (model PySem.Challenge.rw_pc0123_01.row.prog w) (ktrTop dp un gd "law" lawS L a ccd [("tape", cA)] []) (exec (nthS itemB 0) (envX "law" lawS L a ccd [("tape", cA)])) Q E s := by
  dsimp only [turnB, itemB, lawB, lawS, lawD, PySem.Challenge.pw_pc0123_01, lastS, bodyS, nthS, scopeS]
  k_steps
  refine unheld ?_
  k_dflt (refine' item_made ?mB ?mF ?mX ?mN ?mT rfl ?md ?mu ?mr)
  case mB => k_asm
  case mF => k_asm
  case mX => k_asm
  case mN => k_asm
  case mT => k_asm
  case md => exact hd_up5 hd
  case mu => exact hu_up5 hu
  case mr =>
    intro x d kd e n h' tks t1 t2 F1 N1 f1 f2 f3 f4 f5 f6 f7 f8 f9 gx gd gk
    k_steps
    exact ret _ _ _ _ _ _ _ _ _ _ _ (by k_asm) (News_sub (by k_asm) (by (intro p hp; (repeat (rcases List.mem_cons.mp hp with rfl | hp; (solve | (repeat (first | exact List.Mem.head _ | refine List.Mem.tail _ ?_))))); (repeat (first | exact hp | refine List.Mem.tail _ ?_))))) f1 f2 f3 f4 f5 f6 f7 f8 (by decide)
      ⟨(gx _ (.head _)).symm, (gx _ (.tail _ (.head _))).symm, (gd _ (.head _)).symm, (gd _ (.tail _ (.head _))).symm, (gk _ (.head _)).symm, (gk _ (.tail _ (.head _))).symm, f9.1, f9.2.1, f9.2.2⟩
      (fun q hq => gx q (.tail _ (.tail _ hq))) (fun q hq => gd q (.tail _ (.tail _ hq))) (fun q hq => gk q (.tail _ (.tail _ hq)))
theorem item_0_1 {w : World} {p : Program} {loose : List Str} {mean : ExcName → Option Value} {mg mb : Str → Option Value}
  {dp un : Nat} {gd : Option (List Code)} {a : Addr} {ccd : Value} {A₀ : Around} {h₀ : Heap} {L cA t c : Addr} {m : Str → Option Value} {rest : List (Addr × Obj)} {s : Shared} {oc : Obj}
  {i : Int} {ti : Tok} {n1 n2 : Nat} {vs : List Value} {ns : List Int} {Q : Flow → Shared → Prop} {E : Value → Shared → Prop}
  (B : Below A₀ h₀ [] h₀) (F : Fr h₀ L s.heap m) (X : (Mine.hd.heap_39 w.params).In h₀) (T : Top p loose mean mg mb h₀) (hd : dp + 60 < recursionLimit) (hu : un + 300 < cLine)
  (N : News h₀ L s.heap ((t, listOf [.ref c, .int i ti].toArray n1) :: (c, listOf vs.toArray n2) :: rest))
  (htc : @Ne Nat t c) (hrt : ∀ q ∈ rest, q.1 ≠ t) (hrc : ∀ q ∈ rest, q.1 ≠ c) (hI : IntsAre vs ns) (hlen : 0 < ns.length) (hlen2 : ns.length ≤ 60) (hi : 0 ≤ i) (hi2 : i < 900) (hcell : (cA, oc) ∈ rest) (hoc : oc.data = .cell (some (.ref t)))
  {tl : Tok} (hm0 : m "level" = some (.int 1 tl))
  (ret : ∀ (x d kd : Nat) (e : List DictEntry) n h' tks t1 t2 nm t3, Fr h₀ L h' (fun y => if y = "item" then some (.ref x) else m y) →
    News h₀ L h' ((t, listOf [.ref c, .int i ti].toArray n1) :: (c, listOf vs.toArray n2) :: (d, dictOf e n) :: (x, instObj 138 d) :: (kd, listOf [].toArray 0) :: rest) →
    getL "parent" e = some (some .none) → getL "occurs" e = some (some .none) → getL "offset" e = some (some (.int 0 t1)) → getL "size" e = some (some (.int 0 t2)) → getL "name" e = some (some (.str nm t3)) → getL "kids" e = some (some (.ref kd)) → getL "add" e = some none → e.length ≤ 30 → nm.length ≤ 10 →
    (@Ne Nat x t ∧ @Ne Nat x c ∧ @Ne Nat d t ∧ @Ne Nat d c ∧ @Ne Nat kd t ∧ @Ne Nat kd c ∧ @Ne Nat x d ∧ @Ne Nat x kd ∧ @Ne Nat d kd) → (∀ q ∈ rest, q.1 ≠ x) → (∀ q ∈ rest, q.1 ≠ d) → (∀ q ∈ rest, q.1 ≠ kd) → Q .next { s with heap := h', toks := tks }) :
  wpAny (model PySem.Challenge.rw_pc0123_01.row.prog w) (ktrTop dp un gd "law" lawS L a ccd [("tape", cA)] []) (exec (nthS itemB 0) (envX "law" lawS L a ccd [("tape", cA)])) Q E s := by
  dsimp only [turnB, itemB, lawB, lawS, lawD, PySem.Challenge.pw_pc0123_01, lastS, bodyS, nthS, scopeS]
  k_steps
  refine unheld ?_
  k_dflt (refine' item_made ?mB ?mF ?mX ?mN ?mT rfl ?md ?mu ?mr)
  case mB => k_asm
  case mF => k_asm
  case mX => k_asm
  case mN => k_asm
  case mT => k_asm
  case md => exact hd_up5 hd
  case mu => exact hu_up5 hu
  case mr =>
    intro x d kd e n h' tks t1 t2 F1 N1 f1 f2 f3 f4 f5 f6 f7 f8 f9 gx gd gk
    k_steps
    exact ret _ _ _ _ _ _ _ _ _ _ _ (by k_asm) (News_sub (by k_asm) (by (intro p hp; (repeat (rcases List.mem_cons.mp hp with rfl | hp; (solve | (repeat (first | exact List.Mem.head _ | refine List.Mem.tail _ ?_))))); (repeat (first | exact hp | refine List.Mem.tail _ ?_))))) f1 f2 f3 f4 f5 f6 f7 f8 (by decide)
      ⟨(gx _ (.head _)).symm, (gx _ (.tail _ (.head _))).symm, (gd _ (.head _)).symm, (gd _ (.tail _ (.head _))).symm, (gk _ (.head _)).symm, (gk _ (.tail _ (.head _))).symm, f9.1, f9.2.1, f9.2.2⟩
      (fun q hq => gx q (.tail _ (.tail _ hq))) (fun q hq => gd q (.tail _ (.tail _ hq))) (fun q hq => gk q (.tail _ (.tail _ hq)))
theorem item_0_2 {w : World} {p : Program} {loose : List Str} {mean : ExcName → Option Value} {mg mb : Str → Option Value}
  {dp un : Nat} {gd : Option (List Code)} {a : Addr} {ccd : Value} {A₀ : Around} {h₀ : Heap} {L cA t c : Addr} {m : Str → Option Value} {rest : List (Addr × Obj)} {s : Shared} {oc : Obj}
  {i : Int} {ti : Tok} {n1 n2 : Nat} {vs : List Value} {ns : List Int} {Q : Flow → Shared → Prop} {E : Value → Shared → Prop}
  (B : Below A₀ h₀ [] h₀) (F : Fr h₀ L s.heap m) (X : (Mine.hd.heap_39 w.params).In h₀) (T : Top p loose mean mg mb h₀) (hd : dp + 60 < recursionLimit) (hu : un + 300 < cLine)
  (N : News h₀ L s.heap ((t, listOf [.ref c, .int i ti].toArray n1) :: (c, listOf vs.toArray n2) :: rest))
  (htc : @Ne Nat t c) (hrt : ∀ q ∈ rest, q.1 ≠ t) (hrc : ∀ q ∈ rest, q.1 ≠ c) (hI : IntsAre vs ns) (hlen : 0 < ns.length) (hlen2 : ns.length ≤ 60) (hi : 0 ≤ i) (hi2 : i < 900) (hcell : (cA, oc) ∈ rest) (hoc : oc.data = .cell (some (.ref t)))
  {tl : Tok} (hm0 : m "level" = some (.int 2 tl))
  (ret : ∀ (x d kd : Nat) (e : List DictEntry) n h' tks t1 t2 nm t3, Fr h₀ L h' (fun y => if y = "item" then some (.ref x) else m y) →
    News h₀ L h' ((t, listOf [.ref c, .int i ti].toArray n1) :: (c, listOf vs.toArray n2) :: (d, dictOf e n) :: (x, instObj 138 d) :: (kd, listOf [].toArray 0) :: rest) →
    getL "parent" e = some (some .none) → getL "occurs" e = some (some .none) → getL "offset" e = some (some (.int 0 t1)) → getL "size" e = some (some (.int 0 t2)) → getL "name" e = some (some (.str nm t3)) → getL "kids" e = some (some (.ref kd)) → getL "add" e = some none → e.length ≤ 30 → nm.length ≤ 10 →
    (@Ne Nat x t ∧ @Ne Nat x c ∧ @Ne Nat d t ∧ @Ne Nat d c ∧ @Ne Nat kd t ∧ @Ne Nat kd c ∧ @Ne Nat x d ∧ @Ne Nat x kd ∧ @Ne Nat d kd) → (∀ q ∈ rest, q.1 ≠ x) → (∀ q ∈ rest, q.1 ≠ d) → (∀ q ∈ rest, q.1 ≠ kd) → Q .next { s with heap := h', toks := tks }) :
  wpAny (model PySem.Challenge.rw_pc0123_01.row.prog w) (ktrTop dp un gd "law" lawS L a ccd [("tape", cA)] []) (exec (nthS itemB 0) (envX "law" lawS L a ccd [("tape", cA)])) Q E s := by
  dsimp only [turnB, itemB, lawB, lawS, lawD, PySem.Challenge.pw_pc0123_01, lastS, bodyS, nthS, scopeS]
  k_steps
  refine unheld ?_
  k_dflt (refine' item_made ?mB ?mF ?mX ?mN ?mT rfl ?md ?mu ?mr)
  case mB => k_asm
  case mF => k_asm
  case mX => k_asm
  case mN => k_asm
  case mT => k_asm
  case md => exact hd_up5 hd
  case mu => exact hu_up5 hu
  case mr =>
    intro x d kd e n h' tks t1 t2 F1 N1 f1 f2 f3 f4 f5 f6 f7 f8 f9 gx gd gk
    k_steps
    exact ret _ _ _ _ _ _ _ _ _ _ _ (by k_asm) (News_sub (by k_asm) (by (intro p hp; (repeat (rcases List.mem_cons.mp hp with rfl | hp; (solve | (repeat (first | exact List.Mem.head _ | refine List.Mem.tail _ ?_))))); (repeat (first | exact hp | refine List.Mem.tail _ ?_))))) f1 f2 f3 f4 f5 f6 f7 f8 (by decide)
      ⟨(gx _ (.head _)).symm, (gx _ (.tail _ (.head _))).symm, (gd _ (.head _)).symm, (gd _ (.tail _ (.head _))).symm, (gk _ (.head _)).symm, (gk _ (.tail _ (.head _))).symm, f9.1, f9.2.1, f9.2.2⟩
      (fun q hq => gx q (.tail _ (.tail _ hq))) (fun q hq => gd q (.tail _ (.tail _ hq))) (fun q hq => gk q (.tail _ (.tail _ hq)))
end
section
theorem ext_34 : True := by
  w_top off
  k_with_none
  k_with "own room" => ktr_room
  k_with "own all" => (first
      | assumption
      | exact ne_of_lts (by with_reducible assumption)
      | exact ne_of_all (And.right (by with_reducible assumption))
      | exact ne_of_all (And.right (And.right (by with_reducible assumption)))
      | exact ne_of_all (And.right (And.right (And.right (by with_reducible assumption))))
      | exact ne_of_all (And.right (And.right (And.right (And.right (by with_reducible assumption)))))
      | exact ne_of_all (And.right (And.right (And.right (And.right (And.right (by with_reducible assumption))))))
      | exact ne_of_all (And.right (And.right (And.right (And.right (And.right (And.right (by with_reducible assumption)))))))
      | exact ne_of_all (And.right (And.right (And.right (And.right (And.right (And.right (And.right (by with_reducible assumption)))))))))
  k_with "own sub" => (first
      | (refine' Drop.head ?zzqh; (case zzqh => k_all))
      | (refine' Drop.tail (Or.inr ?zzqa) ?zzqb; (case zzqa => k_cls); (case zzqb => lcg_sub))
      | (refine' Drop.tail (Or.inl ?zzqa) ?zzqb; (case zzqa => k_ne); (case zzqb => lcg_sub)))
  k_with "UnrEnd" => (k_dflt (refine' unr_end ?zzF ?zzN ?zzD ?_; (case zzF => k_asm); (case zzN => k_asm); (case zzD => lcg_sub)))
  k_with "own get" => assumption
  k_with "own mem" => (refine memN ?_; ktr_member)
  k_with "own off" => (first | (with_reducible assumption) | (simp only [LCg.Off3, and_true]; with_reducible assumption))
  k_with "CompEnd" => (refine LCg.CompEnd.intro (by k_asm) (by k_asm) _ (fun _ hp => hp) ?zzoff ?zzsrc ?_; (case zzoff => lcg_off); (case zzsrc => lcg_src))
  k_with "own enter" => (first
      | ktr_enter
      | (refine' code_def ?zzk1 ?zzk2 ?zzk3 ?zzk4 ?zzk5 ?zzkA ?zzkF ?zzkK ?zzk6 ?zzk7 ?zzk8 ?zzk9 ?zzkB ?_ ?zzc2 ?zzc3 ?zzc4 ?zzc5; (case zzkA => exact rfl); (case zzkF => exact rfl); (case zzkK => first | exact rfl | assumption); (case zzk1 => k_asm); (case zzk2 => k_asm); (case zzk3 => k_asm); (case zzk4 => k_asm); (case zzk5 => k_asm); (case zzk6 => k_is); (case zzk7 => k_is); (case zzk8 => ktr_room); (case zzk9 => first | exact BindsTo.of_eq rfl | exact binds_K (by k_in) rfl (by k_is) rfl rfl rfl); (case zzc5 => decide); (case zzkB => exact locs rfl); (case zzc2 => exact rfl); (case zzc3 => exact rfl); (case zzc4 => exact rfl); k_whole; intro zg' zL' zh' zFG' zF' zN' zB' zX' zT'; (try dsimp only); (try k_lift zB'); (try k_fold))
      | (refine' code_defC ?zzk1 ?zzk2 ?zzk3 ?zzk4 ?zzk5 ?zzkA ?zzkF ?zzkK ?zzk6 ?zzk7 ?zzk8 ?zzk9 ?zzkB ?zzkD ?_ ?zzc2 ?zzc3 ?zzc4; (case zzkA => exact rfl); (case zzkF => exact rfl); (case zzkK => first | exact rfl | assumption); (case zzk1 => k_asm); (case zzk2 => k_asm); (case zzk3 => k_asm); (case zzk4 => k_asm); (case zzk5 => k_asm); (case zzk6 => k_is); (case zzk7 => k_is); (case zzk8 => ktr_room); (case zzk9 => exact BindsTo.of_eq rfl); (case zzkB => exact rfl); (case zzkD => decide +kernel); (case zzc2 => exact rfl); (case zzc3 => exact rfl); (case zzc4 => exact rfl); k_whole; intro zg' zL' zh' ztk' zcells' zFG' zF' zN' zY' zB' zX' zT' zl1; (try k_lt zl1); k_cells zY'; (try simp only [List.cons_append, List.nil_append] at zN'); (try dsimp only); (try k_lift zB'); (try k_fold)))
  k_with "call builtin:len" => (k_here; (with_reducible show wpAny _ _ (call (Value.builtin "len") [Value.ref _]) _ _ _); k_dflt (first
      | (refine' len_led ?zzN ?zzm ?zzk ?zzf ?_; (case zzN => k_asm); (case zzm => k_mem); (case zzk => assumption); (case zzf => omega); k_whole)))
  k_with "compareOp NotEq ref ref" => (k_here; k_dflt (first
      | (refine' ne_lists ?zzN ?zza ?zzb ?zzi ?zzj ?zzu ?_; (case zzN => k_asm); (case zza => k_mem); (case zzb => k_mem); (case zzi => first | assumption | exact .nil); (case zzj => first | assumption | exact .nil); (case zzu => exact hu_up4 (by assumption)); k_whole)
      | (refine' ne_tups ?zzN ?zza ?zzb ?zzi ?zzj ?zzu ?_; (case zzN => k_asm); (case zza => k_mem); (case zzb => k_mem); (case zzi => exact .cons _ _ (.cons _ _ .nil)); (case zzj => exact .cons _ _ (.cons _ _ .nil)); (case zzu => exact hu_up4 (by assumption)); k_whole)))
  k_with "compareOp Eq ref ref" => (k_here; k_dflt (refine' eq_lists ?zzN ?zza ?zzb ?zzi ?zzj ?zzu ?_; (case zzN => k_asm); (case zza => k_mem); (case zzb => k_mem); (case zzi => first | assumption | exact .nil); (case zzj => first | assumption | exact .nil); (case zzu => exact hu_up4 (by assumption)); k_whole))
  k_with "eval Name" => (k_here; k_dflt (refine' nameX_L ?zzF ?zzv ?_ ?zza ?zzb; (case zzF => k_asm); (case zzv => first | assumption | (dsimp only; rw [if_neg (by decide)]; assumption) | (dsimp only; rw [if_neg (by decide), if_neg (by decide)]; assumption)); (case zza => rfl); (case zzb => rfl); k_whole))
  k_with "call ref" => ((with_reducible show wpAny _ _ (call (Value.ref 168) _) _ _ _); (refine held ?_))
  k_with "call ref" => ((with_reducible show wpAny _ _ (call (Value.ref 175) _) _ _ _); (refine held ?_))
  k_with "call ref" => ((with_reducible show wpAny _ _ (call (Value.ref 180) _) _ _ _); (refine held ?_))
  k_with "call ref" => ((with_reducible show wpAny _ _ (call (Value.ref 187) _) _ _ _); (refine held ?_))
  trivial
noncomputable def onesUpto (cs : List (Int × Int × Int)) : Nat → List Int
  | 0 => []
  | i + 1 => onesUpto cs i ++ (if 0 < (cs.getD i default).1 then [1] else [])
theorem ones_yes {cs : List (Int × Int × Int)} {i : Nat} {ys : List Value} {t : Tok} (h : IntsAre ys (onesUpto cs i)) (h1 : 0 < (cs.getD i default).1) : IntsAre (ys ++ [.int 1 t]) (onesUpto cs (i + 1)) := by
  rw [onesUpto, if_pos h1]
  exact IntsAre.append h (.cons _ _ .nil)
theorem ones_no {cs : List (Int × Int × Int)} {i : Nat} {ys : List Value} (h : IntsAre ys (onesUpto cs i)) (h1 : ¬ 0 < (cs.getD i default).1) : IntsAre ys (onesUpto cs (i + 1)) := by
  rw [onesUpto, if_neg h1, List.append_nil]
  exact h
theorem ones_len (cs : List (Int × Int × Int)) : ∀ i, (onesUpto cs i).length ≤ i
  | 0 => Nat.le_refl _
  | i + 1 => by
    rw [onesUpto, List.length_append]
    have := ones_len cs i
    split <;> simp <;> omega
theorem ext_35 : True := by
  k_with "eval ListComp" => (k_here; k_dflt (refine ListComp_3 (F₀ := by k_asm) (by with_unfolding_all rfl) (by decide) (by rfl) (by decide) (by rfl) (by rfl) (by rfl) (by decide) (by decide) (by decide) ?_))
  k_with "subscriptTail Name Slice ref ref" => (refine held ?_)
  k_with "call type:tuple" => (k_here; (with_reducible show wpAny _ _ (call (Value.type _) [Value.ref _]) _ _ _); k_dflt (refine' kde_tupleOf ?zzk1 ?zzk2 ?zzk3 ?zzk4 ?zzk5 ?_; (case zzk1 => k_asm); (case zzk2 => k_asm); (case zzk3 => exact News.isList (by k_asm) (by k_mem)); (case zzk4 => (rw [List.size_toArray]; omega)); (case zzk5 => exact rfl); k_whole); intro zD' zh' zF' zN' zl1; (try k_lt zl1))
  trivial
theorem item_1 {w : World} {p : Program} {loose : List Str} {mean : ExcName → Option Value} {mg mb : Str → Option Value}
  {dp un : Nat} {gd : Option (List Code)} {a : Addr} {ccd : Value} {A₀ : Around} {h₀ : Heap} {L cA t c : Addr} {m : Str → Option Value} {rest : List (Addr × Obj)} {s : Shared} {oc : Obj}
  {i : Int} {ti : Tok} {n1 n2 : Nat} {vs : List Value} {ns : List Int} {Q : Flow → Shared → Prop} {E : Value → Shared → Prop}
  (B : Below A₀ h₀ [] h₀) (F : Fr h₀ L s.heap m) (X : (Mine.hd.heap_39 w.params).In h₀) (T : Top p loose mean mg mb h₀) (hd : dp + 60 < recursionLimit) (hu : un + 300 < cLine)
  (N : News h₀ L s.heap ((t, listOf [.ref c, .int i ti].toArray n1) :: (c, listOf vs.toArray n2) :: rest))
  (htc : @Ne Nat t c) (hrt : ∀ q ∈ rest, q.1 ≠ t) (hrc : ∀ q ∈ rest, q.1 ≠ c) (hI : IntsAre vs ns) (hlen : 0 < ns.length) (hlen2 : ns.length ≤ 60) (hi : 0 ≤ i) (hi2 : i < 900) (hcell : (cA, oc) ∈ rest) (hoc : oc.data = .cell (some (.ref t)))
  {ll nl k : Nat} {lvs : List Value} {cs : List (Int × Int × Int)} {tl : Tok}
  (hm1 : m "level" = some (.int (k : Int) tl)) (hk : k < 3) (hm2 : m "levels" = some (.ref ll)) (hll : (ll, listOf lvs.toArray nl) ∈ rest) (hlv : LevsIn rest lvs cs) (hl3 : lvs.length = 3)
  (ret : ∀ r rs n h' tks, Fr h₀ L h' (fun y => if y = "firsts" then some (.ref r) else m y) →
    News h₀ L h' ((t, listOf [.ref c, .int i ti].toArray n1) :: (c, listOf vs.toArray n2) :: (r, tupOf rs n) :: rest) → IntsAre rs (onesUpto cs (k + 1)) → @Ne Nat r t → @Ne Nat r c → (∀ q ∈ rest, q.1 ≠ r) → Q .next { s with heap := h', toks := tks }) :
  wpAny (model PySem.Challenge.rw_pc0123_01.row.prog w) (ktrTop dp un gd "law" lawS L a ccd [("tape", cA)] []) (exec (nthS itemB 1) (envX "law" lawS L a ccd [("tape", cA)])) Q E s := by
  dsimp only [turnB, itemB, lawB, lawS, lawD, PySem.Challenge.pw_pc0123_01, lastS, bodyS, nthS, scopeS]
  k_steps
  refine unheld ?_
  k_dflt (refine' kms_slice_lit (zs := lvs.take (k+1)) ?sF1 ?sN1 ?sl1 ?sp1 ?sq1 ?se1 ?sh1 ?ss1 ?st1 ?sz1)
  case sF1 => k_asm
  case sN1 => k_asm
  case sl1 => kmk_list
  case sp1 => kmk_part
  case sq1 => kmk_part
  case se1 => (exact pick_up lvs k)
  case ss1 => with_unfolding_all rfl
  case st1 => kmk_pure
  case sz1 => (rw [sizeLine_eq, List.size_toArray]; omega)
  case sh1 =>
    intro D9 h9 F9 N9 l9
    have hkn : k + 1 ≤ lvs.length := by omega
    refine ⟨D9, _, _, _, fun i ys => IntsAre ys (onesUpto cs i), rfl, rfl, F9, N9, List.Mem.head _, ?_, .nil, ?_, ?_⟩
    · rw [sizeLine_eq, List.size_toArray, List.length_take]; omega
    · intro s₂ _ i ys v hv hI
      have hv2 : lvs[i]? = some v := by
        rw [List.getElem?_toArray] at hv
        exact take_get hv
      obtain ⟨aL, kL, tL1, tL2, tL3, rfl, hmL⟩ := hlv.get hv2
      refine ⟨aL, _, _, _, kL, rfl, List.Mem.tail _ (List.Mem.tail _ (List.Mem.tail _ hmL)), ?_⟩
      intro I oI C oC D m₂ h tk E' hC hx1 hx2 hx3 F1 N1 off ne
      k_steps
      · exact ones_yes hI (by assumption)
      · exact ones_no hI (by assumption)
    · intro s₂ hs2 ys hys D h tk FD ND oD
      obtain ⟨g2, rfl⟩ := hs2
      have o1 := off1_ne oD
      rw [List.size_toArray, List.length_take, Nat.min_eq_left hkn] at hys
      have hyl := IntsAre.length hys
      have hol := ones_len cs (k + 1)
      k_steps
      exact ret _ ys _ _ _ (by k_asm) (News_sub (by k_asm) (by (intro p hp; (repeat (rcases List.mem_cons.mp hp with rfl | hp; (solve | (repeat (first | exact List.Mem.head _ | refine List.Mem.tail _ ?_))))); (repeat (first | exact hp | refine List.Mem.tail _ ?_))))) hys (by k_ne) (by k_ne) (by k_all)
end
section
theorem ext_36 : True := by
  w_top off
  k_with_none
  k_with "own room" => ktr_room
  k_with "own all" => (first
      | assumption
      | exact ne_of_lts (by with_reducible assumption)
      | exact ne_of_all (And.right (by with_reducible assumption))
      | exact ne_of_all (And.right (And.right (by with_reducible assumption)))
      | exact ne_of_all (And.right (And.right (And.right (by with_reducible assumption))))
      | exact ne_of_all (And.right (And.right (And.right (And.right (by with_reducible assumption)))))
      | exact ne_of_all (And.right (And.right (And.right (And.right (And.right (by with_reducible assumption))))))
      | exact ne_of_all (And.right (And.right (And.right (And.right (And.right (And.right (by with_reducible assumption)))))))
      | exact ne_of_all (And.right (And.right (And.right (And.right (And.right (And.right (And.right (by with_reducible assumption)))))))))
  k_with "own sub" => (first
      | (refine' Drop.head ?zzqh; (case zzqh => k_all))
      | (refine' Drop.tail (Or.inr ?zzqa) ?zzqb; (case zzqa => k_cls); (case zzqb => lcg_sub))
      | (refine' Drop.tail (Or.inl ?zzqa) ?zzqb; (case zzqa => k_ne); (case zzqb => lcg_sub)))
  k_with "UnrEnd" => (k_dflt (refine' unr_end ?zzF ?zzN ?zzD ?_; (case zzF => k_asm); (case zzN => k_asm); (case zzD => lcg_sub)))
  k_with "own get" => assumption
  k_with "own mem" => (refine memN ?_; ktr_member)
  k_with "own off" => (first | (with_reducible assumption) | (simp only [LCg.Off3, and_true]; with_reducible assumption))
  k_with "CompEnd" => (refine LCg.CompEnd.intro (by k_asm) (by k_asm) _ (fun _ hp => hp) ?zzoff ?zzsrc ?_; (case zzoff => lcg_off); (case zzsrc => lcg_src))
  k_with "own enter" => (first
      | ktr_enter
      | (refine' code_def ?zzk1 ?zzk2 ?zzk3 ?zzk4 ?zzk5 ?zzkA ?zzkF ?zzkK ?zzk6 ?zzk7 ?zzk8 ?zzk9 ?zzkB ?_ ?zzc2 ?zzc3 ?zzc4 ?zzc5; (case zzkA => exact rfl); (case zzkF => exact rfl); (case zzkK => first | exact rfl | assumption); (case zzk1 => k_asm); (case zzk2 => k_asm); (case zzk3 => k_asm); (case zzk4 => k_asm); (case zzk5 => k_asm); (case zzk6 => k_is); (case zzk7 => k_is); (case zzk8 => ktr_room); (case zzk9 => first | exact BindsTo.of_eq rfl | exact binds_K (by k_in) rfl (by k_is) rfl rfl rfl); (case zzc5 => decide); (case zzkB => exact locs rfl); (case zzc2 => exact rfl); (case zzc3 => exact rfl); (case zzc4 => exact rfl); k_whole; intro zg' zL' zh' zFG' zF' zN' zB' zX' zT'; (try dsimp only); (try k_lift zB'); (try k_fold))
      | (refine' code_defC ?zzk1 ?zzk2 ?zzk3 ?zzk4 ?zzk5 ?zzkA ?zzkF ?zzkK ?zzk6 ?zzk7 ?zzk8 ?zzk9 ?zzkB ?zzkD ?_ ?zzc2 ?zzc3 ?zzc4; (case zzkA => exact rfl); (case zzkF => exact rfl); (case zzkK => first | exact rfl | assumption); (case zzk1 => k_asm); (case zzk2 => k_asm); (case zzk3 => k_asm); (case zzk4 => k_asm); (case zzk5 => k_asm); (case zzk6 => k_is); (case zzk7 => k_is); (case zzk8 => ktr_room); (case zzk9 => exact BindsTo.of_eq rfl); (case zzkB => exact rfl); (case zzkD => decide +kernel); (case zzc2 => exact rfl); (case zzc3 => exact rfl); (case zzc4 => exact rfl); k_whole; intro zg' zL' zh' ztk' zcells' zFG' zF' zN' zY' zB' zX' zT' zl1; (try k_lt zl1); k_cells zY'; (try simp only [List.cons_append, List.nil_append] at zN'); (try dsimp only); (try k_lift zB'); (try k_fold)))
  k_with "call builtin:len" => (k_here; (with_reducible show wpAny _ _ (call (Value.builtin "len") [Value.ref _]) _ _ _); k_dflt (first
      | (refine' len_led ?zzN ?zzm ?zzk ?zzf ?_; (case zzN => k_asm); (case zzm => k_mem); (case zzk => assumption); (case zzf => omega); k_whole)))
  k_with "compareOp NotEq ref ref" => (k_here; k_dflt (first
      | (refine' ne_lists ?zzN ?zza ?zzb ?zzi ?zzj ?zzu ?_; (case zzN => k_asm); (case zza => k_mem); (case zzb => k_mem); (case zzi => first | assumption | exact .nil); (case zzj => first | assumption | exact .nil); (case zzu => exact hu_up4 (by assumption)); k_whole)
      | (refine' ne_tups ?zzN ?zza ?zzb ?zzi ?zzj ?zzu ?_; (case zzN => k_asm); (case zza => k_mem); (case zzb => k_mem); (case zzi => exact .cons _ _ (.cons _ _ .nil)); (case zzj => exact .cons _ _ (.cons _ _ .nil)); (case zzu => exact hu_up4 (by assumption)); k_whole)))
  k_with "compareOp Eq ref ref" => (k_here; k_dflt (refine' eq_lists ?zzN ?zza ?zzb ?zzi ?zzj ?zzu ?_; (case zzN => k_asm); (case zza => k_mem); (case zzb => k_mem); (case zzi => first | assumption | exact .nil); (case zzj => first | assumption | exact .nil); (case zzu => exact hu_up4 (by assumption)); k_whole))
  k_with "eval Name" => (k_here; k_dflt (refine' nameX_L ?zzF ?zzv ?_ ?zza ?zzb; (case zzF => k_asm); (case zzv => first | assumption | (dsimp only; rw [if_neg (by decide)]; assumption) | (dsimp only; rw [if_neg (by decide), if_neg (by decide)]; assumption)); (case zza => rfl); (case zzb => rfl); k_whole))
  k_with "call ref" => ((with_reducible show wpAny _ _ (call (Value.ref 168) _) _ _ _); (refine held ?_))
  k_with "call ref" => ((with_reducible show wpAny _ _ (call (Value.ref 175) _) _ _ _); (refine held ?_))
  k_with "call ref" => ((with_reducible show wpAny _ _ (call (Value.ref 180) _) _ _ _); (refine held ?_))
  k_with "call ref" => ((with_reducible show wpAny _ _ (call (Value.ref 187) _) _ _ _); (refine held ?_))
  k_with "subscriptTail" => (k_here; (with_reducible show wpAny _ _ (subscriptTail _ _ (Value.ref _) (Value.int _ _)) _ _ _); k_dflt (refine' item_led ?zzN ?zzm ?zzi ?zza ?zzf ?_; (case zzN => k_asm); (case zzm => k_mem); (case zzi => assumption); (case zza => omega); (case zzf => omega); k_whole))
  trivial
theorem isSome_of {k : Str} {es : List DictEntry} {w : Value} (h : getL k es = some (some w)) : (getL k es).isSome = true := by rw [h]; rfl
theorem isSome_put {name k : Str} {hsh : Int} {t : Tok} {v w : Value} {es : List DictEntry} (h : getL k es = some (some w)) : (getL k (putL name hsh (.str name t) v es)).isSome = true := by
  by_cases hn : name = k
  · subst hn; rw [getL_put_same]; rfl
  · rw [getL_put_other hn hsh t v w h]; rfl
theorem find_put_ne {name k : Str} (hn : name ≠ k) (hsh : Int) (t : Tok) (v : Value) : ∀ es : List DictEntry, ((putL name hsh (.str name t) v es).find? (·.key.isStr k)).map (·.val) = (es.find? (·.key.isStr k)).map (·.val)
  | [] => by
    have : (Value.str name t).isStr k = false := by simpa [Value.isStr] using hn
    simp [putL, this]
  | x :: r => by
    unfold putL
    by_cases hx : x.key.isStr name = true
    · rw [if_pos hx]
      have hk := isStr_ne hx hn
      rw [List.find?_cons_of_neg (by simpa using hk), List.find?_cons_of_neg (by simpa using hk)]
    · rw [if_neg hx]
      by_cases hk : x.key.isStr k = true
      · rw [List.find?_cons_of_pos (by simpa using hk), List.find?_cons_of_pos (by simpa using hk)]
      · rw [List.find?_cons_of_neg (by simpa using hk), List.find?_cons_of_neg (by simpa using hk)]
        exact find_put_ne hn hsh t v r
theorem any_put {name : Str} (hsh : Int) (t : Tok) (v : Value) : ∀ es : List DictEntry, (putL name hsh (.str name t) v es).any (·.refKey) = es.any (·.refKey)
  | [] => rfl
  | x :: r => by
    unfold putL
    split
    · rfl
    · rw [List.any_cons, List.any_cons, any_put hsh t v r]
theorem getL_put_ne {name k : Str} (hn : name ≠ k) (hsh : Int) (t : Tok) (v : Value) (es : List DictEntry) : getL k (putL name hsh (.str name t) v es) = getL k es := by
  have h1 := find_put_ne hn hsh t v es
  have h2 := any_put (name := name) hsh t v es
  unfold getL
  rw [h2]
  cases hf : es.find? (·.key.isStr k) with
  | none =>
    rw [hf] at h1
    cases hg : (putL name hsh (.str name t) v es).find? (·.key.isStr k) with
    | none => rfl
    | some y => rw [hg] at h1; cases h1
  | some x =>
    rw [hf] at h1
    cases hg : (putL name hsh (.str name t) v es).find? (·.key.isStr k) with
    | none => rw [hg] at h1; cases h1
    | some y => rw [hg] at h1; exact congrArg some h1
theorem put_small {name : Str} {hsh : Int} {key v : Value} {es : List DictEntry} {n : Nat} (h : es.length ≤ n) : (putL name hsh key v es).length ≤ n + 1 := Nat.le_trans putL_len (Nat.succ_le_succ h)
theorem put_small2 {name : Str} {hsh : Int} {key v : Value} {es : List DictEntry} (h : es.length ≤ 200) : (putL name hsh key v es).length ≤ 1000 := Nat.le_trans (put_small h) (by decide)
theorem put_small3 {name name2 : Str} {hsh hsh2 : Int} {key v key2 v2 : Value} {es : List DictEntry} (h : es.length ≤ 200) : (putL name hsh key v (putL name2 hsh2 key2 v2 es)).length ≤ 1000 := Nat.le_trans (put_small (put_small h)) (by decide)
theorem to200 {es : List DictEntry} (h : es.length ≤ 100) : es.length ≤ 200 := Nat.le_trans h (by decide)
theorem ext_37 : True := by
  k_with "own put" => exact rfl
  k_with "own get" => (first | assumption | exact isSome_of (by assumption) | exact isSome_put (by assumption) | exact rfl)
  k_with "setAttr ref" => (k_here; k_dflt (
      (refine' set_dict ?zzk1 ?zzk2 ?zzk3 ?zzk4 ?zzk5 ?zzk6 ?zzk7 ?zzk8 ?zzk9 ?zzk10 ?zzk11 ?zzk12 ?zzk13 ?_; (case zzk1 => k_asm); (case zzk2 => k_asm); (case zzk3 => k_asm); (case zzk4 => k_inst); (case zzk5 => exact rfl); (case zzk6 => k_is); (case zzk7 => k_is); (case zzk8 => k_is); (case zzk9 => k_is); (case zzk10 => k_get); (case zzk11 => k_put); (case zzk12 => k_upd); (case zzk13 => first | exact put_small2 (to200 (by assumption)) | exact put_small3 (to200 (by assumption)) | exact Nat.le_of_ble_eq_true rfl); k_whole; intro zh' zF' zN'; (try k_sweep))))
  k_with "call type:tuple" => (k_here; (with_reducible show wpAny _ _ (call (Value.type _) [Value.ref _]) _ _ _); k_dflt (refine' call_tuple_tup ?zzk1 ?_; (case zzk1 => kun_tup); k_whole))
  trivial
theorem item_2 {w : World} {p : Program} {loose : List Str} {mean : ExcName → Option Value} {mg mb : Str → Option Value}
  {dp un : Nat} {gd : Option (List Code)} {a : Addr} {ccd : Value} {A₀ : Around} {h₀ : Heap} {L cA t c : Addr} {m : Str → Option Value} {rest : List (Addr × Obj)} {s : Shared} {oc : Obj}
  {i : Int} {ti : Tok} {n1 n2 ne d x : Nat} {e : List DictEntry} {vs : List Value} {ns : List Int} {Q : Flow → Shared → Prop} {E : Value → Shared → Prop}
  (B : Below A₀ h₀ [] h₀) (F : Fr h₀ L s.heap m) (X : (Mine.hd.heap_39 w.params).In h₀) (T : Top p loose mean mg mb h₀) (hd : dp + 60 < recursionLimit) (hu : un + 300 < cLine)
  (N : News h₀ L s.heap ((t, listOf [.ref c, .int i ti].toArray n1) :: (c, listOf vs.toArray n2) :: (d, dictOf e ne) :: rest))
  (htc : @Ne Nat t c) (hrt : ∀ q ∈ rest, q.1 ≠ t) (hrc : ∀ q ∈ rest, q.1 ≠ c) (hI : IntsAre vs ns) (hlen : 0 < ns.length) (hlen2 : ns.length ≤ 60) (hi : 0 ≤ i) (hi2 : i < 900) (hcell : (cA, oc) ∈ rest) (hoc : oc.data = .cell (some (.ref t)))
  {ll nl k : Nat} {lvs : List Value} {cs : List (Int × Int × Int)} {tl : Tok} (hdt : @Ne Nat d t) (hdc : @Ne Nat d c) (hrd : ∀ q ∈ rest, q.1 ≠ d) (hx : (x, instObj 138 d) ∈ rest) (hm3 : m "item" = some (.ref x)) (hel : e.length ≤ 100)
  (hm1 : m "level" = some (.int (k : Int) tl)) (hk : k < 3) (hm2 : m "levels" = some (.ref ll)) (hll : (ll, listOf lvs.toArray nl) ∈ rest) (hlv : LevsIn rest lvs cs) (hl3 : lvs.length = 3)
  (hoc1 : getL "occurs" e = some (some .none))
  (ret : ∀ (e' : List DictEntry) n' new h' tks ov, Fr h₀ L h' m → News h₀ L h' ((t, listOf [.ref c, .int i ti].toArray n1) :: (c, listOf vs.toArray n2) :: (d, dictOf e' n') :: (new ++ rest)) →
    OccIn new ov (if 0 < (cs.getD k default).1 then some (cs.getD k default).1 else none) → getL "occurs" e' = some (some ov) → (∀ y : Str, y ≠ "occurs" → getL y e' = getL y e) → e'.length ≤ e.length + 1 → (∀ q ∈ new, @Ne Nat q.1 t ∧ @Ne Nat q.1 c ∧ @Ne Nat q.1 d ∧ ∀ p ∈ rest, p.1 ≠ q.1) → Q .next { s with heap := h', toks := tks }) :
  wpAny (model PySem.Challenge.rw_pc0123_01.row.prog w) (ktrTop dp un gd "law" lawS L a ccd [("tape", cA)] []) (exec (nthS itemB 2) (envX "law" lawS L a ccd [("tape", cA)])) Q E s := by
  dsimp only [turnB, itemB, lawB, lawS, lawD, PySem.Challenge.pw_pc0123_01, lastS, bodyS, nthS, scopeS]
  obtain ⟨v, hv⟩ : ∃ v, lvs[k]? = some v := ⟨_, List.getElem?_eq_getElem (by omega)⟩
  obtain ⟨aL, kL, tL1, tL2, tL3, rfl, hmL⟩ := hlv.get hv
  have hv2 : lvs[(k : Int).toNat]? = some (.ref aL) := by simpa using hv
  clear hv
  k_steps
  · refine ret _ _ [(_, instObj 89 _), (_, dictOf _ _)] _ _ (.ref _) (by k_asm) (News_sub (by k_asm) (by (intro p hp; (repeat (rcases List.mem_cons.mp hp with rfl | hp; (solve | (repeat (first | exact List.Mem.head _ | refine List.Mem.tail _ ?_))))); (repeat (first | exact hp | refine List.Mem.tail _ ?_))))) ?_ (getL_put_same _ _ _ _ _) (fun y hy => getL_put_ne (Ne.symm hy) _ _ _ _) putL_len ?_
    · rw [if_pos (by assumption)]
      exact ⟨_, _, _, _, _, rfl, List.Mem.head _, List.Mem.tail _ (List.Mem.head _), rfl⟩
    · intro q hq
      rcases List.mem_cons.mp hq with rfl | hq
      · exact ⟨by k_ne, by k_ne, by k_ne, by first | k_all | exact ne_up (by assumption) (by omega) | exact ne_up (And.right (by assumption)) (by omega) | exact ne_up (And.right (And.right (by assumption))) (by omega) | exact ne_up (And.right (And.right (And.right (by assumption)))) (by omega)⟩
      · rcases List.mem_singleton.mp hq with rfl
        exact ⟨by k_ne, by k_ne, by k_ne, by first | k_all | exact ne_up (by assumption) (by omega) | exact ne_up (And.right (by assumption)) (by omega) | exact ne_up (And.right (And.right (by assumption))) (by omega) | exact ne_up (And.right (And.right (And.right (by assumption)))) (by omega)⟩
  · refine ret _ _ [] _ _ .none (by k_asm) (News_sub (by k_asm) (by (intro p hp; (repeat (rcases List.mem_cons.mp hp with rfl | hp; (solve | (repeat (first | exact List.Mem.head _ | refine List.Mem.tail _ ?_))))); (repeat (first | exact hp | refine List.Mem.tail _ ?_))))) ?_ hoc1 (fun y hy => rfl) (Nat.le_succ _) (fun q hq => by cases hq)
    rw [if_neg (by assumption)]
    rfl
end
section
theorem ext_38 : True := by
  w_top off
  k_with_none
  k_with "own room" => ktr_room
  k_with "own all" => (first
      | assumption
      | exact ne_of_lts (by with_reducible assumption)
      | exact ne_of_all (And.right (by with_reducible assumption))
      | exact ne_of_all (And.right (And.right (by with_reducible assumption)))
      | exact ne_of_all (And.right (And.right (And.right (by with_reducible assumption))))
      | exact ne_of_all (And.right (And.right (And.right (And.right (by with_reducible assumption)))))
      | exact ne_of_all (And.right (And.right (And.right (And.right (And.right (by with_reducible assumption))))))
      | exact ne_of_all (And.right (And.right (And.right (And.right (And.right (And.right (by with_reducible assumption)))))))
      | exact ne_of_all (And.right (And.right (And.right (And.right (And.right (And.right (And.right (by with_reducible assumption)))))))))
  k_with "own sub" => (first
      | (refine' Drop.head ?zzqh; (case zzqh => k_all))
      | (refine' Drop.tail (Or.inr ?zzqa) ?zzqb; (case zzqa => k_cls); (case zzqb => lcg_sub))
      | (refine' Drop.tail (Or.inl ?zzqa) ?zzqb; (case zzqa => k_ne); (case zzqb => lcg_sub)))
  k_with "UnrEnd" => (k_dflt (refine' unr_end ?zzF ?zzN ?zzD ?_; (case zzF => k_asm); (case zzN => k_asm); (case zzD => lcg_sub)))
  k_with "own get" => assumption
  k_with "own mem" => (refine memN ?_; ktr_member)
  k_with "own off" => (first | (with_reducible assumption) | (simp only [LCg.Off3, and_true]; with_reducible assumption))
  k_with "CompEnd" => (refine LCg.CompEnd.intro (by k_asm) (by k_asm) _ (fun _ hp => hp) ?zzoff ?zzsrc ?_; (case zzoff => lcg_off); (case zzsrc => lcg_src))
  k_with "own enter" => (first
      | ktr_enter
      | (refine' code_def ?zzk1 ?zzk2 ?zzk3 ?zzk4 ?zzk5 ?zzkA ?zzkF ?zzkK ?zzk6 ?zzk7 ?zzk8 ?zzk9 ?zzkB ?_ ?zzc2 ?zzc3 ?zzc4 ?zzc5; (case zzkA => exact rfl); (case zzkF => exact rfl); (case zzkK => first | exact rfl | assumption); (case zzk1 => k_asm); (case zzk2 => k_asm); (case zzk3 => k_asm); (case zzk4 => k_asm); (case zzk5 => k_asm); (case zzk6 => k_is); (case zzk7 => k_is); (case zzk8 => ktr_room); (case zzk9 => first | exact BindsTo.of_eq rfl | exact binds_K (by k_in) rfl (by k_is) rfl rfl rfl); (case zzc5 => decide); (case zzkB => exact locs rfl); (case zzc2 => exact rfl); (case zzc3 => exact rfl); (case zzc4 => exact rfl); k_whole; intro zg' zL' zh' zFG' zF' zN' zB' zX' zT'; (try dsimp only); (try k_lift zB'); (try k_fold))
      | (refine' code_defC ?zzk1 ?zzk2 ?zzk3 ?zzk4 ?zzk5 ?zzkA ?zzkF ?zzkK ?zzk6 ?zzk7 ?zzk8 ?zzk9 ?zzkB ?zzkD ?_ ?zzc2 ?zzc3 ?zzc4; (case zzkA => exact rfl); (case zzkF => exact rfl); (case zzkK => first | exact rfl | assumption); (case zzk1 => k_asm); (case zzk2 => k_asm); (case zzk3 => k_asm); (case zzk4 => k_asm); (case zzk5 => k_asm); (case zzk6 => k_is); (case zzk7 => k_is); (case zzk8 => ktr_room); (case zzk9 => exact BindsTo.of_eq rfl); (case zzkB => exact rfl); (case zzkD => decide +kernel); (case zzc2 => exact rfl); (case zzc3 => exact rfl); (case zzc4 => exact rfl); k_whole; intro zg' zL' zh' ztk' zcells' zFG' zF' zN' zY' zB' zX' zT' zl1; (try k_lt zl1); k_cells zY'; (try simp only [List.cons_append, List.nil_append] at zN'); (try dsimp only); (try k_lift zB'); (try k_fold)))
  k_with "call builtin:len" => (k_here; (with_reducible show wpAny _ _ (call (Value.builtin "len") [Value.ref _]) _ _ _); k_dflt (first
      | (refine' len_led ?zzN ?zzm ?zzk ?zzf ?_; (case zzN => k_asm); (case zzm => k_mem); (case zzk => assumption); (case zzf => omega); k_whole)))
  k_with "compareOp NotEq ref ref" => (k_here; k_dflt (first
      | (refine' ne_lists ?zzN ?zza ?zzb ?zzi ?zzj ?zzu ?_; (case zzN => k_asm); (case zza => k_mem); (case zzb => k_mem); (case zzi => first | assumption | exact .nil); (case zzj => first | assumption | exact .nil); (case zzu => exact hu_up4 (by assumption)); k_whole)
      | (refine' ne_tups ?zzN ?zza ?zzb ?zzi ?zzj ?zzu ?_; (case zzN => k_asm); (case zza => k_mem); (case zzb => k_mem); (case zzi => exact .cons _ _ (.cons _ _ .nil)); (case zzj => exact .cons _ _ (.cons _ _ .nil)); (case zzu => exact hu_up4 (by assumption)); k_whole)))
  k_with "compareOp Eq ref ref" => (k_here; k_dflt (refine' eq_lists ?zzN ?zza ?zzb ?zzi ?zzj ?zzu ?_; (case zzN => k_asm); (case zza => k_mem); (case zzb => k_mem); (case zzi => first | assumption | exact .nil); (case zzj => first | assumption | exact .nil); (case zzu => exact hu_up4 (by assumption)); k_whole))
  k_with "eval Name" => (k_here; k_dflt (refine' nameX_L ?zzF ?zzv ?_ ?zza ?zzb; (case zzF => k_asm); (case zzv => first | assumption | (dsimp only; rw [if_neg (by decide)]; assumption) | (dsimp only; rw [if_neg (by decide), if_neg (by decide)]; assumption)); (case zza => rfl); (case zzb => rfl); k_whole))
  k_with "call ref" => ((with_reducible show wpAny _ _ (call (Value.ref 168) _) _ _ _); (refine held ?_))
  k_with "call ref" => ((with_reducible show wpAny _ _ (call (Value.ref 175) _) _ _ _); (refine held ?_))
  k_with "call ref" => ((with_reducible show wpAny _ _ (call (Value.ref 180) _) _ _ _); (refine held ?_))
  k_with "call ref" => ((with_reducible show wpAny _ _ (call (Value.ref 187) _) _ _ _); (refine held ?_))
  k_with "own put" => exact rfl
  k_with "own get" => (first | assumption | exact isSome_of (by assumption) | exact isSome_put (by assumption) | exact rfl)
  k_with "setAttr ref" => (k_here; k_dflt (
      (refine' set_dict ?zzk1 ?zzk2 ?zzk3 ?zzk4 ?zzk5 ?zzk6 ?zzk7 ?zzk8 ?zzk9 ?zzk10 ?zzk11 ?zzk12 ?zzk13 ?_; (case zzk1 => k_asm); (case zzk2 => k_asm); (case zzk3 => k_asm); (case zzk4 => k_inst); (case zzk5 => exact rfl); (case zzk6 => k_is); (case zzk7 => k_is); (case zzk8 => k_is); (case zzk9 => k_is); (case zzk10 => k_get); (case zzk11 => k_put); (case zzk12 => k_upd); (case zzk13 => first | exact put_small2 (to200 (by assumption)) | exact put_small3 (to200 (by assumption)) | exact Nat.le_of_ble_eq_true rfl); k_whole; intro zh' zF' zN'; (try k_sweep))))
  k_with "subscriptTail" => (k_here; (with_reducible show wpAny _ _ (subscriptTail _ _ (Value.ref _) (Value.int _ _)) _ _ _); k_dflt (refine' item_led ?zzN ?zzm ?zzi ?zza ?zzf ?_; (case zzN => k_asm); (case zzm => k_mem); (case zzi => assumption); (case zza => omega); (case zzf => omega); k_whole))
  trivial
theorem item_3_0 {w : World} {p : Program} {loose : List Str} {mean : ExcName → Option Value} {mg mb : Str → Option Value}
  {dp un : Nat} {gd : Option (List Code)} {a : Addr} {ccd : Value} {A₀ : Around} {h₀ : Heap} {L cA t c : Addr} {m : Str → Option Value} {rest : List (Addr × Obj)} {s : Shared} {oc : Obj}
  {i : Int} {ti : Tok} {n1 n2 ne d x : Nat} {e : List DictEntry} {vs : List Value} {ns : List Int} {Q : Flow → Shared → Prop} {E : Value → Shared → Prop}
  (B : Below A₀ h₀ [] h₀) (F : Fr h₀ L s.heap m) (X : (Mine.hd.heap_39 w.params).In h₀) (T : Top p loose mean mg mb h₀) (hd : dp + 60 < recursionLimit) (hu : un + 300 < cLine)
  (N : News h₀ L s.heap ((t, listOf [.ref c, .int i ti].toArray n1) :: (c, listOf vs.toArray n2) :: (d, dictOf e ne) :: rest))
  (htc : @Ne Nat t c) (hrt : ∀ q ∈ rest, q.1 ≠ t) (hrc : ∀ q ∈ rest, q.1 ≠ c) (hI : IntsAre vs ns) (hlen : 0 < ns.length) (hlen2 : ns.length ≤ 60) (hi : 0 ≤ i) (hi2 : i < 900) (hcell : (cA, oc) ∈ rest) (hoc : oc.data = .cell (some (.ref t)))
  {tl : Tok} (hm1 : m "level" = some (.int 0 tl)) (ret : ∀ tks, Q .next { s with toks := tks }) :
  wpAny (model PySem.Challenge.rw_pc0123_01.row.prog w) (ktrTop dp un gd "law" lawS L a ccd [("tape", cA)] []) (exec (nthS itemB 3) (envX "law" lawS L a ccd [("tape", cA)])) Q E s := by
  dsimp only [turnB, itemB, lawB, lawS, lawD, PySem.Challenge.pw_pc0123_01, lastS, bodyS, nthS, scopeS]
  k_steps
  exact ret _
theorem item_3 {w : World} {p : Program} {loose : List Str} {mean : ExcName → Option Value} {mg mb : Str → Option Value}
  {dp un : Nat} {gd : Option (List Code)} {a : Addr} {ccd : Value} {A₀ : Around} {h₀ : Heap} {L cA t c : Addr} {m : Str → Option Value} {rest : List (Addr × Obj)} {s : Shared} {oc : Obj}
  {i : Int} {ti : Tok} {n1 n2 ne d x kp nk : Nat} {e : List DictEntry} {kvs : List Value} {vs : List Value} {ns : List Int} {Q : Flow → Shared → Prop} {E : Value → Shared → Prop}
  (B : Below A₀ h₀ [] h₀) (F : Fr h₀ L s.heap m) (X : (Mine.hd.heap_39 w.params).In h₀) (T : Top p loose mean mg mb h₀) (hd : dp + 60 < recursionLimit) (hu : un + 300 < cLine)
  (N : News h₀ L s.heap ((t, listOf [.ref c, .int i ti].toArray n1) :: (c, listOf vs.toArray n2) :: (d, dictOf e ne) :: (kp, listOf kvs.toArray nk) :: rest))
  (htc : @Ne Nat t c) (hrt : ∀ q ∈ rest, q.1 ≠ t) (hrc : ∀ q ∈ rest, q.1 ≠ c) (hI : IntsAre vs ns) (hlen : 0 < ns.length) (hlen2 : ns.length ≤ 60) (hi : 0 ≤ i) (hi2 : i < 900) (hcell : (cA, oc) ∈ rest) (hoc : oc.data = .cell (some (.ref t)))
  {k li nli xp dq np : Nat} {xvs : List Value} {ep : List DictEntry} {tl : Tok} (hdt : @Ne Nat d t) (hdc : @Ne Nat d c) (hrd : ∀ q ∈ rest, q.1 ≠ d) (hx : (x, instObj 138 d) ∈ rest) (hm3 : m "item" = some (.ref x)) (hel : e.length ≤ 100)
  (hm1 : m "level" = some (.int (k : Int) tl)) (hk : k < 3) (hk0 : 0 < k) (hm2 : m "items" = some (.ref li)) (hli : (li, listOf xvs.toArray nli) ∈ rest) (hxp : xvs[k - 1]? = some (.ref xp)) (hxi : (xp, instObj 138 dq) ∈ rest) (hdp : (dq, dictOf ep np) ∈ rest)
  (hkd : getL "kids" ep = some (some (.ref kp))) (had : getL "add" ep = some none) (hpa : getL "parent" e = some (some .none)) (hkt : @Ne Nat kp t) (hkc : @Ne Nat kp c) (hkdd : @Ne Nat kp d) (hrk : ∀ q ∈ rest, q.1 ≠ kp) (hkv : kvs.length ≤ 10)
  (ret : ∀ (e' : List DictEntry) n' (ok : Obj) h' tks, Fr h₀ L h' m → News h₀ L h' ((t, listOf [.ref c, .int i ti].toArray n1) :: (c, listOf vs.toArray n2) :: (d, dictOf e' n') :: (kp, ok) :: rest) →
    getL "parent" e' = some (some (.ref xp)) → (∀ y : Str, y ≠ "parent" → getL y e' = getL y e) → e'.length ≤ e.length + 1 → Q .next { s with heap := h', toks := tks }) :
  wpAny (model PySem.Challenge.rw_pc0123_01.row.prog w) (ktrTop dp un gd "law" lawS L a ccd [("tape", cA)] []) (exec (nthS itemB 3) (envX "law" lawS L a ccd [("tape", cA)])) Q E s := by
  dsimp only [turnB, itemB, lawB, lawS, lawD, PySem.Challenge.pw_pc0123_01, lastS, bodyS, nthS, scopeS]
  have hxp2 : xvs[((k : Int) - 1).toNat]? = some (.ref xp) := by rw [show ((k : Int) - 1).toNat = k - 1 by omega]; exact hxp
  clear hxp
  k_steps
  exact ret _ _ _ _ _ (by k_asm) (News_sub (by k_asm) (by (intro p hp; (repeat (rcases List.mem_cons.mp hp with rfl | hp; (solve | (repeat (first | exact List.Mem.head _ | refine List.Mem.tail _ ?_))))); (repeat (first | exact hp | refine List.Mem.tail _ ?_))))) (getL_put_same _ _ _ _ _) (fun y hy => getL_put_ne (Ne.symm hy) _ _ _ _) putL_len
end
section
theorem ext_39 : True := by
  w_top off
  k_with_none
  k_with "own room" => ktr_room
  k_with "own all" => (first
      | assumption
      | exact ne_of_lts (by with_reducible assumption)
      | exact ne_of_all (And.right (by with_reducible assumption))
      | exact ne_of_all (And.right (And.right (by with_reducible assumption)))
      | exact ne_of_all (And.right (And.right (And.right (by with_reducible assumption))))
      | exact ne_of_all (And.right (And.right (And.right (And.right (by with_reducible assumption)))))
      | exact ne_of_all (And.right (And.right (And.right (And.right (And.right (by with_reducible assumption))))))
      | exact ne_of_all (And.right (And.right (And.right (And.right (And.right (And.right (by with_reducible assumption)))))))
      | exact ne_of_all (And.right (And.right (And.right (And.right (And.right (And.right (And.right (by with_reducible assumption)))))))))
  k_with "own sub" => (first
      | (refine' Drop.head ?zzqh; (case zzqh => k_all))
      | (refine' Drop.tail (Or.inr ?zzqa) ?zzqb; (case zzqa => k_cls); (case zzqb => lcg_sub))
      | (refine' Drop.tail (Or.inl ?zzqa) ?zzqb; (case zzqa => k_ne); (case zzqb => lcg_sub)))
  k_with "UnrEnd" => (k_dflt (refine' unr_end ?zzF ?zzN ?zzD ?_; (case zzF => k_asm); (case zzN => k_asm); (case zzD => lcg_sub)))
  k_with "own get" => assumption
  k_with "own mem" => (refine memN ?_; ktr_member)
  k_with "own off" => (first | (with_reducible assumption) | (simp only [LCg.Off3, and_true]; with_reducible assumption))
  k_with "CompEnd" => (refine LCg.CompEnd.intro (by k_asm) (by k_asm) _ (fun _ hp => hp) ?zzoff ?zzsrc ?_; (case zzoff => lcg_off); (case zzsrc => lcg_src))
  k_with "own enter" => (first
      | ktr_enter
      | (refine' code_def ?zzk1 ?zzk2 ?zzk3 ?zzk4 ?zzk5 ?zzkA ?zzkF ?zzkK ?zzk6 ?zzk7 ?zzk8 ?zzk9 ?zzkB ?_ ?zzc2 ?zzc3 ?zzc4 ?zzc5; (case zzkA => exact rfl); (case zzkF => exact rfl); (case zzkK => first | exact rfl | assumption); (case zzk1 => k_asm); (case zzk2 => k_asm); (case zzk3 => k_asm); (case zzk4 => k_asm); (case zzk5 => k_asm); (case zzk6 => k_is); (case zzk7 => k_is); (case zzk8 => ktr_room); (case zzk9 => first | exact BindsTo.of_eq rfl | exact binds_K (by k_in) rfl (by k_is) rfl rfl rfl); (case zzc5 => decide); (case zzkB => exact locs rfl); (case zzc2 => exact rfl); (case zzc3 => exact rfl); (case zzc4 => exact rfl); k_whole; intro zg' zL' zh' zFG' zF' zN' zB' zX' zT'; (try dsimp only); (try k_lift zB'); (try k_fold))
      | (refine' code_defC ?zzk1 ?zzk2 ?zzk3 ?zzk4 ?zzk5 ?zzkA ?zzkF ?zzkK ?zzk6 ?zzk7 ?zzk8 ?zzk9 ?zzkB ?zzkD ?_ ?zzc2 ?zzc3 ?zzc4; (case zzkA => exact rfl); (case zzkF => exact rfl); (case zzkK => first | exact rfl | assumption); (case zzk1 => k_asm); (case zzk2 => k_asm); (case zzk3 => k_asm); (case zzk4 => k_asm); (case zzk5 => k_asm); (case zzk6 => k_is); (case zzk7 => k_is); (case zzk8 => ktr_room); (case zzk9 => exact BindsTo.of_eq rfl); (case zzkB => exact rfl); (case zzkD => decide +kernel); (case zzc2 => exact rfl); (case zzc3 => exact rfl); (case zzc4 => exact rfl); k_whole; intro zg' zL' zh' ztk' zcells' zFG' zF' zN' zY' zB' zX' zT' zl1; (try k_lt zl1); k_cells zY'; (try simp only [List.cons_append, List.nil_append] at zN'); (try dsimp only); (try k_lift zB'); (try k_fold)))
  k_with "call builtin:len" => (k_here; (with_reducible show wpAny _ _ (call (Value.builtin "len") [Value.ref _]) _ _ _); k_dflt (first
      | (refine' len_led ?zzN ?zzm ?zzk ?zzf ?_; (case zzN => k_asm); (case zzm => k_mem); (case zzk => assumption); (case zzf => omega); k_whole)))
  k_with "compareOp NotEq ref ref" => (k_here; k_dflt (first
      | (refine' ne_lists ?zzN ?zza ?zzb ?zzi ?zzj ?zzu ?_; (case zzN => k_asm); (case zza => k_mem); (case zzb => k_mem); (case zzi => first | assumption | exact .nil); (case zzj => first | assumption | exact .nil); (case zzu => exact hu_up4 (by assumption)); k_whole)
      | (refine' ne_tups ?zzN ?zza ?zzb ?zzi ?zzj ?zzu ?_; (case zzN => k_asm); (case zza => k_mem); (case zzb => k_mem); (case zzi => exact .cons _ _ (.cons _ _ .nil)); (case zzj => exact .cons _ _ (.cons _ _ .nil)); (case zzu => exact hu_up4 (by assumption)); k_whole)))
  k_with "compareOp Eq ref ref" => (k_here; k_dflt (refine' eq_lists ?zzN ?zza ?zzb ?zzi ?zzj ?zzu ?_; (case zzN => k_asm); (case zza => k_mem); (case zzb => k_mem); (case zzi => first | assumption | exact .nil); (case zzj => first | assumption | exact .nil); (case zzu => exact hu_up4 (by assumption)); k_whole))
  k_with "eval Name" => (k_here; k_dflt (refine' nameX_L ?zzF ?zzv ?_ ?zza ?zzb; (case zzF => k_asm); (case zzv => first | assumption | (dsimp only; rw [if_neg (by decide)]; assumption) | (dsimp only; rw [if_neg (by decide), if_neg (by decide)]; assumption)); (case zza => rfl); (case zzb => rfl); k_whole))
  k_with "call ref" => ((with_reducible show wpAny _ _ (call (Value.ref 168) _) _ _ _); (refine held ?_))
  k_with "call ref" => ((with_reducible show wpAny _ _ (call (Value.ref 175) _) _ _ _); (refine held ?_))
  k_with "call ref" => ((with_reducible show wpAny _ _ (call (Value.ref 180) _) _ _ _); (refine held ?_))
  k_with "call ref" => ((with_reducible show wpAny _ _ (call (Value.ref 187) _) _ _ _); (refine held ?_))
  trivial
theorem item_4 {w : World} {p : Program} {loose : List Str} {mean : ExcName → Option Value} {mg mb : Str → Option Value}
  {dp un : Nat} {gd : Option (List Code)} {a : Addr} {ccd : Value} {A₀ : Around} {h₀ : Heap} {L cA t c : Addr} {m : Str → Option Value} {rest : List (Addr × Obj)} {s : Shared} {oc : Obj}
  {i : Int} {ti : Tok} {n1 n2 : Nat} {vs : List Value} {ns : List Int} {Q : Flow → Shared → Prop} {E : Value → Shared → Prop}
  (B : Below A₀ h₀ [] h₀) (F : Fr h₀ L s.heap m) (X : (Mine.hd.heap_39 w.params).In h₀) (T : Top p loose mean mg mb h₀) (hd : dp + 60 < recursionLimit) (hu : un + 300 < cLine)
  (N : News h₀ L s.heap ((t, listOf [.ref c, .int i ti].toArray n1) :: (c, listOf vs.toArray n2) :: rest))
  (htc : @Ne Nat t c) (hrt : ∀ q ∈ rest, q.1 ≠ t) (hrc : ∀ q ∈ rest, q.1 ≠ c) (hI : IntsAre vs ns) (hlen : 0 < ns.length) (hlen2 : ns.length ≤ 60) (hi : 0 ≤ i) (hi2 : i < 900) (hcell : (cA, oc) ∈ rest) (hoc : oc.data = .cell (some (.ref t)))
  {lf nf lm nm k : Nat} {fvs mvs : List Value} {fs : List Int} {os : List (Int × List Int)} {tl : Tok}
  (hm0 : m "level" = some (.int (k : Int) tl)) (hm1 : m "firsts" = some (.ref lf)) (hm3 : m "memory" = some (.ref lm)) (hff : (lf, tupOf fvs nf) ∈ rest) (hfi : IntsAre fvs fs) (hfl : fs.length ≤ 3)
  (hmm : (lm, listOf mvs.toArray nm) ∈ rest) (hmo : OctsIn rest mvs os) (hol : os.length ≤ 1000)
  (ret : ∀ r rs n h' tks, Fr h₀ L h' (fun y => if y = "spots" then some (.ref r) else m y) → News h₀ L h' ((t, listOf [.ref c, .int i ti].toArray n1) :: (c, listOf vs.toArray n2) :: (r, listOf rs.toArray n) :: rest) →
    IntsAre rs (spotsUpto os k fs os.length) → @Ne Nat r t → @Ne Nat r c → (∀ q ∈ rest, q.1 ≠ r) → Q .next { s with heap := h', toks := tks }) :
  wpAny (model PySem.Challenge.rw_pc0123_01.row.prog w) (ktrTop dp un gd "law" lawS L a ccd [("tape", cA)] []) (exec (nthS itemB 4) (envX "law" lawS L a ccd [("tape", cA)])) Q E s := by
  dsimp only [turnB, itemB, lawB, lawS, lawD, PySem.Challenge.pw_pc0123_01, lastS, bodyS, nthS, scopeS]
  k_steps
  refine unheld ?_
  k_dflt (refine' spots_spec ?sB ?sF ?sX ?sN ?sT rfl ?sd ?su ?sm ?sv ?ss ?si hol ?sk ?sr)
  case sB => k_asm
  case sF => k_asm
  case sX => k_asm
  case sN => k_asm
  case sT => k_asm
  case sd => exact hd_up5 hd
  case su => exact hu_up5 hu
  case sm => k_mem
  case sv => exact OctsIn.mono (by (intro p hp; (repeat (rcases List.mem_cons.mp hp with rfl | hp; (solve | (repeat (first | exact List.Mem.head _ | refine List.Mem.tail _ ?_))))); (repeat (first | exact hp | refine List.Mem.tail _ ?_)))) hmo
  case ss => k_mem
  case si => exact hfi
  case sk => omega
  case sr =>
    intro r0 rs0 n0 h0 tk0 hr0 hn0 F0 N0
    k_steps
    exact ret _ _ _ _ _ (by k_asm) (News_sub (by k_asm) (by (intro p hp; (repeat (rcases List.mem_cons.mp hp with rfl | hp; (solve | (repeat (first | exact List.Mem.head _ | refine List.Mem.tail _ ?_))))); (repeat (first | exact hp | refine List.Mem.tail _ ?_))))) hr0 (hn0 (t, listOf [.ref c, .int i ti].toArray n1) (by repeat (first | exact List.Mem.head _ | refine List.Mem.tail _ ?_))).symm (hn0 (c, listOf vs.toArray n2) (by repeat (first | exact List.Mem.head _ | refine List.Mem.tail _ ?_))).symm (fun p hp => hn0 p (by repeat (first | exact hp | refine List.Mem.tail _ ?_)))
theorem ext_40 : True := by
  k_with "own put" => exact rfl
  k_with "own get" => (first | assumption | exact isSome_of (by assumption) | exact isSome_put (by assumption) | exact rfl)
  k_with "setAttr ref" => (k_here; k_dflt (
      (refine' set_dict ?zzk1 ?zzk2 ?zzk3 ?zzk4 ?zzk5 ?zzk6 ?zzk7 ?zzk8 ?zzk9 ?zzk10 ?zzk11 ?zzk12 ?zzk13 ?_; (case zzk1 => k_asm); (case zzk2 => k_asm); (case zzk3 => k_asm); (case zzk4 => k_inst); (case zzk5 => exact rfl); (case zzk6 => k_is); (case zzk7 => k_is); (case zzk8 => k_is); (case zzk9 => k_is); (case zzk10 => k_get); (case zzk11 => k_put); (case zzk12 => k_upd); (case zzk13 => first | exact put_small2 (to200 (by assumption)) | exact put_small3 (to200 (by assumption)) | exact Nat.le_of_ble_eq_true rfl); k_whole; intro zh' zF' zN'; (try k_sweep))))
  k_with "subscriptTail" => (k_here; (with_reducible show wpAny _ _ (subscriptTail _ _ (Value.ref _) (Value.int _ _)) _ _ _); k_dflt (refine' int_led ?zzN ?zzm ?zzi ?zza ?zzb ?zzf ?_; (case zzN => k_asm); (case zzm => k_mem); (case zzi => assumption); (case zza => omega); (case zzb => first | omega | exact pos_of (by assumption)); (case zzf => omega); k_whole); intro ztI)
  trivial
theorem item_5 {w : World} {p : Program} {loose : List Str} {mean : ExcName → Option Value} {mg mb : Str → Option Value}
  {dp un : Nat} {gd : Option (List Code)} {a : Addr} {ccd : Value} {A₀ : Around} {h₀ : Heap} {L cA t c : Addr} {m : Str → Option Value} {rest : List (Addr × Obj)} {s : Shared} {oc : Obj}
  {i : Int} {ti : Tok} {n1 n2 ne d x : Nat} {e : List DictEntry} {vs : List Value} {ns : List Int} {Q : Flow → Shared → Prop} {E : Value → Shared → Prop}
  (B : Below A₀ h₀ [] h₀) (F : Fr h₀ L s.heap m) (X : (Mine.hd.heap_39 w.params).In h₀) (T : Top p loose mean mg mb h₀) (hd : dp + 60 < recursionLimit) (hu : un + 300 < cLine)
  (N : News h₀ L s.heap ((t, listOf [.ref c, .int i ti].toArray n1) :: (c, listOf vs.toArray n2) :: (d, dictOf e ne) :: rest))
  (htc : @Ne Nat t c) (hrt : ∀ q ∈ rest, q.1 ≠ t) (hrc : ∀ q ∈ rest, q.1 ≠ c) (hI : IntsAre vs ns) (hlen : 0 < ns.length) (hlen2 : ns.length ≤ 60) (hi : 0 ≤ i) (hi2 : i < 900) (hcell : (cA, oc) ∈ rest) (hoc : oc.data = .cell (some (.ref t)))
  {lp np : Nat} {pvs : List Value} {ps : List Int} {b : Int} {tb t1 t2 : Tok} (hdt : @Ne Nat d t) (hdc : @Ne Nat d c) (hrd : ∀ q ∈ rest, q.1 ≠ d) (hx : (x, instObj 138 d) ∈ rest) (hm3 : m "item" = some (.ref x)) (hel : e.length ≤ 100)
  (hm0 : m "base" = some (.int b tb)) (hm1 : m "spots" = some (.ref lp)) (hpp : (lp, listOf pvs.toArray np) ∈ rest) (hpi : IntsAre pvs ps) (hpl : ps.length ≤ 1000) (hp0 : 0 < ps.length)
  (hof : getL "offset" e = some (some (.int 0 t1))) (hsz : getL "size" e = some (some (.int 0 t2)))
  (ret : ∀ (e' : List DictEntry) n' h' tks t1 t2, Fr h₀ L h' m → News h₀ L h' ((t, listOf [.ref c, .int i ti].toArray n1) :: (c, listOf vs.toArray n2) :: (d, dictOf e' n') :: rest) →
    getL "offset" e' = some (some (.int (b + ps.getD 0 0) t1)) → getL "size" e' = some (some (.int ps.length t2)) → (∀ y : Str, y ≠ "offset" → y ≠ "size" → getL y e' = getL y e) → e'.length ≤ e.length + 2 → Q .next { s with heap := h', toks := tks }) :
  wpAny (model PySem.Challenge.rw_pc0123_01.row.prog w) (ktrTop dp un gd "law" lawS L a ccd [("tape", cA)] []) (exec (nthS itemB 5) (envX "law" lawS L a ccd [("tape", cA)])) Q E s := by
  dsimp only [turnB, itemB, lawB, lawS, lawD, PySem.Challenge.pw_pc0123_01, lastS, bodyS, nthS, scopeS]
  have hpl2 := IntsAre.length hpi
  k_steps
  exact ret _ _ _ _ _ _ (by k_asm) (News_sub (by k_asm) (by (intro p hp; (repeat (rcases List.mem_cons.mp hp with rfl | hp; (solve | (repeat (first | exact List.Mem.head _ | refine List.Mem.tail _ ?_))))); (repeat (first | exact hp | refine List.Mem.tail _ ?_))))) ((getL_put_ne (by decide) _ _ _ _).trans (getL_put_same _ _ _ _ _)) (getL_put_same _ _ _ _ _) (fun y y1 y2 => (getL_put_ne (Ne.symm y2) _ _ _ _).trans (getL_put_ne (Ne.symm y1) _ _ _ _)) (put_small putL_len)
theorem item_6 {w : World} {p : Program} {loose : List Str} {mean : ExcName → Option Value} {mg mb : Str → Option Value}
  {dp un : Nat} {gd : Option (List Code)} {a : Addr} {ccd : Value} {A₀ : Around} {h₀ : Heap} {L cA t c : Addr} {m : Str → Option Value} {rest : List (Addr × Obj)} {s : Shared} {oc : Obj}
  {i : Int} {ti : Tok} {n1 n2 li nli x : Nat} {xvs : List Value} {vs : List Value} {ns : List Int} {Q : Flow → Shared → Prop} {E : Value → Shared → Prop}
  (B : Below A₀ h₀ [] h₀) (F : Fr h₀ L s.heap m) (X : (Mine.hd.heap_39 w.params).In h₀) (T : Top p loose mean mg mb h₀) (hd : dp + 60 < recursionLimit) (hu : un + 300 < cLine)
  (N : News h₀ L s.heap ((t, listOf [.ref c, .int i ti].toArray n1) :: (c, listOf vs.toArray n2) :: (li, listOf xvs.toArray nli) :: rest))
  (htc : @Ne Nat t c) (hrt : ∀ q ∈ rest, q.1 ≠ t) (hrc : ∀ q ∈ rest, q.1 ≠ c) (hI : IntsAre vs ns) (hlen : 0 < ns.length) (hlen2 : ns.length ≤ 60) (hi : 0 ≤ i) (hi2 : i < 900) (hcell : (cA, oc) ∈ rest) (hoc : oc.data = .cell (some (.ref t)))
  (hlt : @Ne Nat li t) (hlc : @Ne Nat li c) (hrl : ∀ q ∈ rest, q.1 ≠ li) (hm1 : m "items" = some (.ref li)) (hm3 : m "item" = some (.ref x)) (hxl : xvs.length ≤ 3)
  (ret : ∀ n' h' tks, Fr h₀ L h' m → News h₀ L h' ((t, listOf [.ref c, .int i ti].toArray n1) :: (c, listOf vs.toArray n2) :: (li, listOf (xvs ++ [Value.ref x]).toArray n') :: rest) → Q .next { s with heap := h', toks := tks }) :
  wpAny (model PySem.Challenge.rw_pc0123_01.row.prog w) (ktrTop dp un gd "law" lawS L a ccd [("tape", cA)] []) (exec (nthS itemB 6) (envX "law" lawS L a ccd [("tape", cA)])) Q E s := by
  dsimp only [turnB, itemB, lawB, lawS, lawD, PySem.Challenge.pw_pc0123_01, lastS, bodyS, nthS, scopeS]
  k_steps
  rename News _ _ _ _ => N'
  exact ret _ _ _ (by k_asm) (News_sub (by simpa only [List.push_toArray] using N') (by (intro p hp; (repeat (rcases List.mem_cons.mp hp with rfl | hp; (solve | (repeat (first | exact List.Mem.head _ | refine List.Mem.tail _ ?_))))); (repeat (first | exact hp | refine List.Mem.tail _ ?_)))))
end
section
theorem set_map {h₀ h : Heap} {L : Addr} {m : Str → Option Value} {x : Str} {v : Value} (F : Fr h₀ L h (fun y => if y = x then some v else m y)) : ∃ m1 : Str → Option Value, Fr h₀ L h m1 ∧ m1 x = some v ∧ ∀ z : Str, z ≠ x → m1 z = m z :=
  ⟨_, F, if_pos rfl, fun _ hz => if_neg hz⟩
/-- the tape stands apart from the rest of the ledger, and its cell lies in it -/
noncomputable def Apart (t c cA : Nat) (oc : Obj) (rest : List (Addr × Obj)) : Prop := (∀ q ∈ rest, q.1 ≠ t) ∧ (∀ q ∈ rest, q.1 ≠ c) ∧ (cA, oc) ∈ rest
theorem Apart.cons {t c cA r : Nat} {oc o : Obj} {rest : List (Addr × Obj)} (h : Apart t c cA oc rest) (h1 : @Ne Nat r t) (h2 : @Ne Nat r c) : Apart t c cA oc ((r, o) :: rest) := by
  refine ⟨?_, ?_, .tail _ h.2.2⟩
  · intro q hq
    rcases List.mem_cons.mp hq with rfl | hq
    · exact h1
    · exact h.1 q hq
  · intro q hq
    rcases List.mem_cons.mp hq with rfl | hq
    · exact h2
    · exact h.2.1 q hq
theorem Apart.app {t c cA : Nat} {oc : Obj} {new rest : List (Addr × Obj)} (h : Apart t c cA oc rest) (h1 : ∀ q ∈ new, @Ne Nat q.1 t ∧ @Ne Nat q.1 c) : Apart t c cA oc (new ++ rest) := by
  refine ⟨?_, ?_, List.mem_append_right _ h.2.2⟩
  · intro q hq
    rcases List.mem_append.mp hq with hq | hq
    · exact (h1 q hq).1
    · exact h.1 q hq
  · intro q hq
    rcases List.mem_append.mp hq with hq | hq
    · exact (h1 q hq).2
    · exact h.2.1 q hq
theorem spotsUpto_len (os : List (Int × List Int)) (lev : Int) (ks : List Int) : ∀ i, (spotsUpto os lev ks i).length ≤ i
  | 0 => Nat.le_refl _
  | i + 1 => by
    have := spotsUpto_len os lev ks i
    rw [spotsUpto, List.length_append]
    split
    · simp only [List.length_cons, List.length_nil]; omega
    · simp only [List.length_nil]; omega
noncomputable def spotsAt (cs : List (Int × Int × Int)) (os : List (Int × List Int)) (k : Nat) (ks : List Int) : List Int := if ks.length = (countsUpto cs (k + 1)).length then spotsUpto os k ks os.length else []
theorem spotsAt_len (cs : List (Int × Int × Int)) (os : List (Int × List Int)) (k : Nat) (ks : List Int) : (spotsAt cs os k ks).length ≤ os.length := by
  unfold spotsAt
  split
  · exact spotsUpto_len _ _ _ _
  · exact Nat.zero_le _
theorem countsUpto_len (cs : List (Int × Int × Int)) : ∀ i, (countsUpto cs i).length ≤ i
  | 0 => Nat.le_refl _
  | i + 1 => by
    rw [countsUpto, List.length_append]
    have := countsUpto_len cs i
    split <;> simp <;> omega
theorem countsUpto_pos {cs : List (Int × Int × Int)} {b : Int} (h : ∀ q ∈ cs, q.1 < b) (hb : 0 < b) : ∀ i, ∀ q ∈ countsUpto cs i, 0 < q ∧ q < b
  | 0, _, hq => by cases hq
  | i + 1, q, hq => by
    rw [countsUpto] at hq
    rcases List.mem_append.mp hq with hq | hq
    · exact countsUpto_pos h hb i q hq
    · split at hq
      · rename_i hp
        rcases List.mem_singleton.mp hq with rfl
        refine ⟨hp, ?_⟩
        rw [List.getD_eq_getElem?_getD] at hp ⊢
        cases hg : cs[i]? with
        | none => exact hb
        | some y => exact h y (List.mem_of_getElem? hg)
      · cases hq
theorem held9_len (ps : List Int) (b l : Int) : (held9 ps b l).length ≤ ps.length := by
  unfold held9
  split
  · rw [List.length_take, List.length_drop]; omega
  · exact Nat.zero_le _
theorem held12_len (ps : List Int) (b : Int) : (held12 ps b).length ≤ ps.length := by
  unfold held12
  split
  · rw [List.length_drop]; omega
  · exact Nat.zero_le _
/-- what stretch tells at a level is what the memory tells -/
noncomputable def AgreesAt (cs : List (Int × Int × Int)) (os : List (Int × List Int)) (b : Int) (k : Nat) (tabs : List (Int × Int)) (off size : Int) : Prop :=
  ∀ ks : List Int, toldSpec tabs off size ks none = due6 b (spotsAt cs os k ks) ∧
    (∀ bg ln : Int, 0 ≤ bg → -1 ≤ ln → toldSpec tabs off size ks (some (bg, some ln)) = due10 b (held9 (spotsAt cs os k ks) bg ln) ln) ∧
    (∀ bg : Int, 0 ≤ bg → toldSpec tabs off size ks (some (bg, none)) = due6 b (held12 (spotsAt cs os k ks) bg))
noncomputable def LevOk (rest : List (Addr × Obj)) (cs : List (Int × Int × Int)) (os : List (Int × List Int)) (b : Int) (xvs : List Value) (k : Nat) : Prop :=
  ∃ x par occ off size line, xvs[k]? = some (.ref x) ∧ LineIn rest x line ∧ line.length ≤ 3 ∧ ItemIn rest x par occ off size ∧ (∀ q ∈ line, -1000 < q.2 ∧ q.2 < 1000) ∧ AgreesAt cs os b k (tabsUpto line.reverse line.length) off size
noncomputable def turnNames : List Str := ["counts", "subscripts", "spoil", "spot", "spots", "due", "begin", "length", "held"]
theorem turn_all {w : World} {p : Program} {loose : List Str} {mean : ExcName → Option Value} {mg mb : Str → Option Value}
  {dp un : Nat} {gd : Option (List Code)} {a : Addr} {ccd : Value} {A₀ : Around} {h₀ : Heap} {L cA t c : Addr} {m : Str → Option Value} {rest : List (Addr × Obj)} {s : Shared} {oc : Obj}
  {i : Int} {ti : Tok} {n1 n2 : Nat} {vs : List Value} {ns : List Int} {Q : Flow → Shared → Prop} {E : Value → Shared → Prop}
  (B : Below A₀ h₀ [] h₀) (F : Fr h₀ L s.heap m) (X : (Mine.hd.heap_39 w.params).In h₀) (T : Top p loose mean mg mb h₀) (hd : dp + 60 < recursionLimit) (hu : un + 300 < cLine)
  (N : News h₀ L s.heap ((t, listOf [.ref c, .int i ti].toArray n1) :: (c, listOf vs.toArray n2) :: rest))
  (htc : @Ne Nat t c) (hrt : ∀ q ∈ rest, q.1 ≠ t) (hrc : ∀ q ∈ rest, q.1 ≠ c) (hI : IntsAre vs ns) (hlen : 0 < ns.length) (hlen2 : ns.length ≤ 60) (hi : 0 ≤ i) (hi2 : i < 900) (hcell : (cA, oc) ∈ rest) (hoc : oc.data = .cell (some (.ref t)))
  {ll nl lm nm li nli : Nat} {lvs mvs xvs : List Value} {cs : List (Int × Int × Int)} {os : List (Int × List Int)} {b : Int} {tb : Tok}
  (hlls : m "levels" = some (.ref ll)) (hll : (ll, listOf lvs.toArray nl) ∈ rest) (hlv : LevsIn rest lvs cs) (hl3 : lvs.length = 3)
  (hlm : m "memory" = some (.ref lm)) (hmm : (lm, listOf mvs.toArray nm) ∈ rest) (hmo : OctsIn rest mvs os) (hol : os.length ≤ 900)
  (hlit : m "items" = some (.ref li)) (hli : (li, listOf xvs.toArray nli) ∈ rest) (hba : m "base" = some (.int b tb)) (hcs : ∀ q ∈ cs, q.1 < 1000)
  (hi3 : i < 800) (hlev : ∀ k : Nat, k < 3 → LevOk rest cs os b xvs k)
  (ret : ∀ h' tks m' nw, Fr h₀ L h' m' → (∀ z : Str, z ≠ "level" → turnNames.contains z = false → m' z = m z) → TapeIn t c (i + 8) rest nw → News h₀ L h' nw → Q .next { s with heap := h', toks := tks }) :
  wpAny (model PySem.Challenge.rw_pc0123_01.row.prog w) (ktrTop dp un gd "law" lawS L a ccd [("tape", cA)] []) (execs turnB (envX "law" lawS L a ccd [("tape", cA)])) Q E s := by
  have ap : Apart t c cA oc rest := ⟨hrt, hrc, hcell⟩
  rw [turnB_eq]
  -- level
  refine wpAny_execs_cons ?_
  refine turn_0 B F X T hd hu N htc hrt hrc hI hlen hlen2 hi hi2 hcell hoc ?_
  intro r0 tk0 h0 tks0 vs0 ns0 n10 n20 ti0 hr0 hr1 hnl0 hI0 F0 N0
  obtain ⟨k, rfl⟩ : ∃ k : Nat, r0 = k := ⟨r0.toNat, by omega⟩
  obtain ⟨m0, F0, q0, e0⟩ := set_map F0
  -- counts
  refine wpAny_execs_cons ?_
  refine turn_1 B F0 X T hd hu N0 htc ap.1 ap.2.1 hI0 (by omega) (by omega) (by omega) (by omega) ap.2.2 hoc (k := k) q0 (by omega) ((e0 _ (by decide)).trans hlls) hll hlv hl3 ?_
  intro r1 rs1 nn1 h1 tks1 hI1 F1 g1t g1c g1 N1
  obtain ⟨m1, F1, q1, e1⟩ := set_map F1
  have ap1 := ap.cons (o := listOf rs1.toArray nn1) g1t g1c
  have hcl := countsUpto_len cs (k + 1)
  -- subscripts
  refine wpAny_execs_cons ?_
  refine turn_2 B F1 X T hd hu N1 htc ap1.1 ap1.2.1 hI0 (by omega) (by omega) (by omega) (by omega) ap1.2.2 hoc q1 (List.Mem.head _) hI1 (countsUpto_pos hcs (by decide) _) (by omega) ?_
  intro r2 rs2 ks2 nn2 h2 tks2 nw2 hI2 hkl2 F2 g2t g2c g2 hT2 N2
  obtain ⟨m2, F2, q2, e2⟩ := set_map F2
  obtain ⟨i2, ti2, n12, n22, vs2, ns2, rfl, hIv2, hl21, hl22, hi20, hi21⟩ := hT2
  have ap2 := ap1.cons (o := listOf rs2.toArray nn2) g2t g2c
  -- spoil
  refine wpAny_execs_cons ?_
  refine turn_3 B F2 X T hd hu N2 htc ap2.1 ap2.2.1 hIv2 hl21 hl22 hi20 (by omega) ap2.2.2 hoc ?_
  intro r3 tk3 h3 tks3 vs3 ns3 n13 n23 ti3 hr30 hr31 hnl3 hI3 F3 N3
  obtain ⟨m3, F3, q3, e3⟩ := set_map F3
  -- the spoiling
  refine wpAny_execs_cons ?_
  refine turn_4 B F3 X T hd hu N3 htc ap1.1 ap1.2.1 hI3 (by omega) (by omega) (by omega) (by omega) ap1.2.2 hoc g2t g2c g2 q3 hr30 hr31 ((e3 _ (by decide)).trans ((e2 _ (by decide)).trans q1)) ((e3 _ (by decide)).trans q2) (List.Mem.head _) hI1 (by omega) hI2 hkl2 ?_
  intro r4 rs4 ks nn4 h4 tks4 m4 nw4 F4 q4 hT4 N4 hI4 hkl4 e4 g4t g4c g4
  obtain ⟨i4, ti4, n14, n24, vs4, ns4, rfl, hIv4, hl41, hl42, hi40, hi41⟩ := hT4
  have ap4 := ap1.cons (o := listOf rs4.toArray nn4) g4t g4c
  have k4 : ∀ z : Str, z ≠ "level" → z ≠ "counts" → z ≠ "subscripts" → z ≠ "spoil" → z ≠ "spot" → m4 z = m z := fun z z1 z2 z3 z4 z5 => (e4 z z3 z5).trans ((e3 z z4).trans ((e2 z z3).trans ((e1 z z2).trans (e0 z z1))))
  have lv4 : m4 "level" = some (.int (k : Int) tk0) := (e4 _ (by decide) (by decide)).trans ((e3 _ (by decide)).trans ((e2 _ (by decide)).trans ((e1 _ (by decide)).trans q0)))
  have ct4 : m4 "counts" = some (.ref r1) := (e4 _ (by decide) (by decide)).trans ((e3 _ (by decide)).trans ((e2 _ (by decide)).trans q1))
  obtain ⟨x, par, occ, off, size, line, hxk, hln, hln3, hit, hbd, hag⟩ := hlev k (by omega)
  obtain ⟨hagA, hagB, hagC⟩ := hag ks
  have up4 : ∀ p ∈ rest, p ∈ (r4, listOf rs4.toArray nn4) :: (r1, listOf rs1.toArray nn1) :: rest := fun p hp => .tail _ (.tail _ hp)
  -- spots
  refine wpAny_execs_cons ?_
  refine turn_5 B F4 X T hd hu N4 htc ap4.1 ap4.2.1 hIv4 hl41 hl42 hi40 (by omega) ap4.2.2 hoc lv4 ct4 q4 ((k4 _ (by decide) (by decide) (by decide) (by decide) (by decide)).trans hlm) (List.Mem.tail _ (List.Mem.head _)) hI1 (by omega) (List.Mem.head _) hI4 hkl4 (up4 _ hmm) (hmo.mono up4) (by omega) ?_
  intro r5 rs5 nn5 h5 tks5 F5 N5 hI5 g5t g5c g5
  have hI5 : IntsAre rs5 (spotsAt cs os k ks) := hI5
  have hsl := spotsAt_len cs os k ks
  generalize spotsAt cs os k ks = sp at hagA hagB hagC hI5 hsl
  obtain ⟨m5, F5, q5, e5⟩ := set_map F5
  have ap5 := ap4.cons (o := listOf rs5.toArray nn5) g5t g5c
  -- due
  refine wpAny_execs_cons ?_
  refine turn_6 B F5 X T hd hu N5 htc ap5.1 ap5.2.1 hIv4 hl41 hl42 hi40 (by omega) ap5.2.2 hoc ((e5 _ (by decide)).trans ((k4 _ (by decide) (by decide) (by decide) (by decide) (by decide)).trans hba)) q5 (List.Mem.head _) hI5 (by omega) ?_
  intro v6 h6 tks6 new6 F6 N6 hdu6 g6
  obtain ⟨m6, F6, q6, e6⟩ := set_map F6
  have ap6 := ap5.app g6
  have up6 : ∀ p ∈ rest, p ∈ new6 ++ (r5, listOf rs5.toArray nn5) :: (r4, listOf rs4.toArray nn4) :: (r1, listOf rs1.toArray nn1) :: rest := fun p hp => List.mem_append_right _ (.tail _ (up4 p hp))
  have in4 : (r4, listOf rs4.toArray nn4) ∈ new6 ++ (r5, listOf rs5.toArray nn5) :: (r4, listOf rs4.toArray nn4) :: (r1, listOf rs1.toArray nn1) :: rest := List.mem_append_right _ (.tail _ (.head _))
  have in5 : (r5, listOf rs5.toArray nn5) ∈ new6 ++ (r5, listOf rs5.toArray nn5) :: (r4, listOf rs4.toArray nn4) :: (r1, listOf rs1.toArray nn1) :: rest := List.mem_append_right _ (.head _)
  have hxk2 : xvs[(k : Int).toNat]? = some (.ref x) := by simpa using hxk
  have k6 : ∀ z : Str, z ≠ "level" → z ≠ "counts" → z ≠ "subscripts" → z ≠ "spoil" → z ≠ "spot" → z ≠ "spots" → z ≠ "due" → m6 z = m z := fun z z1 z2 z3 z4 z5 z6 z7 => (e6 z z7).trans ((e5 z z6).trans (k4 z z1 z2 z3 z4 z5))
  have lv6 : m6 "level" = some (.int (k : Int) tk0) := (e6 _ (by decide)).trans ((e5 _ (by decide)).trans lv4)
  have it6 : m6 "items" = some (.ref li) := (k6 _ (by decide) (by decide) (by decide) (by decide) (by decide) (by decide) (by decide)).trans hlit
  have su6 : m6 "subscripts" = some (.ref r4) := (e6 _ (by decide)).trans ((e5 _ (by decide)).trans q4)
  have sp6 : m6 "spots" = some (.ref r5) := (e6 _ (by decide)).trans q5
  have ba6 : m6 "base" = some (.int b tb) := (k6 _ (by decide) (by decide) (by decide) (by decide) (by decide) (by decide) (by decide)).trans hba
  generalize hR6 : new6 ++ (r5, listOf rs5.toArray nn5) :: (r4, listOf rs4.toArray nn4) :: (r1, listOf rs1.toArray nn1) :: rest = R6 at N6 ap6 up6 in4 in5
  have hdu6 : DueIn R6 v6 (due6 b sp) := hdu6.mono (fun p hp => hR6 ▸ List.mem_append_left _ hp)
  -- the first question
  refine wpAny_execs_cons ?_
  refine turn_7 B F6 X T hd hu N6 htc ap6.1 ap6.2.1 hIv4 hl41 hl42 hi40 (by omega) ap6.2.2 hoc lv6 (by omega) it6 su6 q6 (up6 _ hli) hxk2 in4 hI4 hkl4 (hln.mono up6) hln3 (hit.mono up6) hbd hdu6 hagA ?_
  intro h7 tks7 F7 N7
  -- begin, length
  refine wpAny_execs_cons ?_
  refine turn_8 B F7 X T hd hu N7 htc ap6.1 ap6.2.1 hIv4 hl41 hl42 hi40 (by omega) ap6.2.2 hoc sp6 in5 hI5 (by omega) ?_
  intro bg ln tbg tln h8 tks8 nw8 m8 F8 hT8 N8 qb8 ql8 e8 hbg0 hbg1 hln0 hln1
  obtain ⟨i8, ti8, n18, n28, vs8, ns8, rfl, hIv8, hl81, hl82, hi80, hi81⟩ := hT8
  have lv8 := (e8 _ (by decide) (by decide)).trans lv6
  have it8 := (e8 _ (by decide) (by decide)).trans it6
  have su8 := (e8 _ (by decide) (by decide)).trans su6
  have sp8 := (e8 _ (by decide) (by decide)).trans sp6
  have ba8 := (e8 _ (by decide) (by decide)).trans ba6
  -- held
  refine wpAny_execs_cons ?_
  refine turn_9 B F8 X T hd hu N8 htc ap6.1 ap6.2.1 hIv8 hl81 hl82 hi80 (by omega) ap6.2.2 hoc ql8 hln1 sp8 in5 hI5 (by omega) qb8 hbg1 ?_
  intro r9 rs9 nn9 h9 tks9 F9 N9 hI9 g9t g9c g9
  obtain ⟨m9, F9, q9, e9⟩ := set_map F9
  have ap9 := ap6.cons (o := listOf rs9.toArray nn9) g9t g9c
  have hl9 := held9_len sp bg ln
  -- due
  refine wpAny_execs_cons ?_
  refine turn_10 B F9 X T hd hu N9 htc ap9.1 ap9.2.1 hIv8 hl81 hl82 hi80 (by omega) ap9.2.2 hoc ((e9 _ (by decide)).trans ql8) ((e9 _ (by decide)).trans ba8) q9 (List.Mem.head _) hI9 (by omega) ?_
  intro v10 h10 tks10 new10 F10 N10 hdu10 g10
  obtain ⟨m10, F10, q10, e10⟩ := set_map F10
  have ap10 := ap9.app g10
  have up10 : ∀ p ∈ R6, p ∈ new10 ++ (r9, listOf rs9.toArray nn9) :: R6 := fun p hp => List.mem_append_right _ (.tail _ hp)
  have k10 : ∀ z : Str, z ≠ "due" → z ≠ "held" → m10 z = m8 z := fun z z1 z2 => (e10 z z1).trans (e9 z z2)
  generalize hR10 : new10 ++ (r9, listOf rs9.toArray nn9) :: R6 = R10 at N10 ap10 up10
  have hdu10 : DueIn R10 v10 _ := hdu10.mono (fun p hp => hR10 ▸ List.mem_append_left _ hp)
  -- the second question
  refine wpAny_execs_cons ?_
  refine turn_11 B F10 X T hd hu N10 htc ap10.1 ap10.2.1 hIv8 hl81 hl82 hi80 (by omega) ap10.2.2 hoc ((k10 _ (by decide) (by decide)).trans qb8) ((k10 _ (by decide) (by decide)).trans ql8) ((k10 _ (by decide) (by decide)).trans lv8) (by omega) ((k10 _ (by decide) (by decide)).trans it8) ((k10 _ (by decide) (by decide)).trans su8) q10 (up10 _ (up6 _ hli)) hxk2 (up10 _ in4) hI4 hkl4 (hln.mono fun p hp => up10 _ (up6 _ hp)) hln3 (hit.mono fun p hp => up10 _ (up6 _ hp)) hbd hdu10 (hagB bg ln hbg0 hln0) ?_
  intro h11 tks11 F11 N11
  -- held
  refine wpAny_execs_cons ?_
  refine turn_12 B F11 X T hd hu N11 htc ap10.1 ap10.2.1 hIv8 hl81 hl82 hi80 (by omega) ap10.2.2 hoc ((k10 _ (by decide) (by decide)).trans sp8) (up10 _ in5) hI5 (by omega) ((k10 _ (by decide) (by decide)).trans qb8) hbg1 ?_
  intro r12 rs12 nn12 h12 tks12 F12 N12 hI12 g12t g12c g12
  obtain ⟨m12, F12, q12, e12⟩ := set_map F12
  have ap12 := ap10.cons (o := listOf rs12.toArray nn12) g12t g12c
  have hl12 := held12_len sp bg
  -- due
  refine wpAny_execs_cons ?_
  refine turn_13 B F12 X T hd hu N12 htc ap12.1 ap12.2.1 hIv8 hl81 hl82 hi80 (by omega) ap12.2.2 hoc ((e12 _ (by decide)).trans ((k10 _ (by decide) (by decide)).trans ba8)) q12 (List.Mem.head _) hI12 (by omega) ?_
  intro v13 h13 tks13 new13 F13 N13 hdu13 g13
  obtain ⟨m13, F13, q13, e13⟩ := set_map F13
  have ap13 := ap12.app g13
  have up13 : ∀ p ∈ R10, p ∈ new13 ++ (r12, listOf rs12.toArray nn12) :: R10 := fun p hp => List.mem_append_right _ (.tail _ hp)
  have k13 : ∀ z : Str, z ≠ "due" → z ≠ "held" → m13 z = m8 z := fun z z1 z2 => (e13 z z1).trans ((e12 z z2).trans (k10 z z1 z2))
  generalize hR13 : new13 ++ (r12, listOf rs12.toArray nn12) :: R10 = R13 at N13 ap13 up13
  have hdu13 : DueIn R13 v13 _ := hdu13.mono (fun p hp => hR13 ▸ List.mem_append_left _ hp)
  have upR : ∀ p ∈ rest, p ∈ R13 := fun p hp => up13 _ (up10 _ (up6 _ hp))
  -- the third question
  refine wpAny_execs_cons ?_
  refine turn_14 B F13 X T hd hu N13 htc ap13.1 ap13.2.1 hIv8 hl81 hl82 hi80 (by omega) ap13.2.2 hoc ((k13 _ (by decide) (by decide)).trans qb8) ((k13 _ (by decide) (by decide)).trans lv8) (by omega) ((k13 _ (by decide) (by decide)).trans it8) ((k13 _ (by decide) (by decide)).trans su8) q13 (upR _ hli) hxk2 (up13 _ (up10 _ in4)) hI4 hkl4 (hln.mono upR) hln3 (hit.mono upR) hbd hdu13 (hagC bg hbg0) ?_
  intro h14 tks14 F14 N14
  refine wpAny_execs_nil ?_
  refine ret _ _ m13 _ F14 ?_ (tape_in (ti := ti8) (n1 := n18) (n2 := n28) hIv8 hl81 hl82 hi80 (by omega)) (News_sub N14 ?_)
  · intro z z0 hz
    simp only [turnNames, List.contains_cons, List.contains_nil, Bool.or_eq_false_iff, beq_eq_false_iff_ne, Bool.or_false] at hz
    obtain ⟨z1, z2, z3, z4, z5, z6, z7, z8, z9⟩ := hz
    exact (k13 z z6 z9).trans ((e8 z z7 z8).trans (k6 z z0 z1 z2 z3 z4 z5 z6))
  · intro p hp
    rcases List.mem_cons.mp hp with rfl | hp
    · exact .head _
    rcases List.mem_cons.mp hp with rfl | hp
    · exact .tail _ (.head _)
    · exact .tail _ (.tail _ (upR _ hp))
end
section
theorem ext_41 : True := by
  w_top off
  k_with_none
  k_with "own room" => ktr_room
  k_with "own all" => (first
      | assumption
      | exact ne_of_lts (by with_reducible assumption)
      | exact ne_of_all (And.right (by with_reducible assumption))
      | exact ne_of_all (And.right (And.right (by with_reducible assumption)))
      | exact ne_of_all (And.right (And.right (And.right (by with_reducible assumption))))
      | exact ne_of_all (And.right (And.right (And.right (And.right (by with_reducible assumption)))))
      | exact ne_of_all (And.right (And.right (And.right (And.right (And.right (by with_reducible assumption))))))
      | exact ne_of_all (And.right (And.right (And.right (And.right (And.right (And.right (by with_reducible assumption)))))))
      | exact ne_of_all (And.right (And.right (And.right (And.right (And.right (And.right (And.right (by with_reducible assumption)))))))))
  k_with "own sub" => (first
      | (refine' Drop.head ?zzqh; (case zzqh => k_all))
      | (refine' Drop.tail (Or.inr ?zzqa) ?zzqb; (case zzqa => k_cls); (case zzqb => lcg_sub))
      | (refine' Drop.tail (Or.inl ?zzqa) ?zzqb; (case zzqa => k_ne); (case zzqb => lcg_sub)))
  k_with "UnrEnd" => (k_dflt (refine' unr_end ?zzF ?zzN ?zzD ?_; (case zzF => k_asm); (case zzN => k_asm); (case zzD => lcg_sub)))
  k_with "own get" => assumption
  k_with "own mem" => (refine memN ?_; ktr_member)
  k_with "own off" => (first | (with_reducible assumption) | (simp only [LCg.Off3, and_true]; with_reducible assumption))
  k_with "CompEnd" => (refine LCg.CompEnd.intro (by k_asm) (by k_asm) _ (fun _ hp => hp) ?zzoff ?zzsrc ?_; (case zzoff => lcg_off); (case zzsrc => lcg_src))
  k_with "own enter" => (first
      | ktr_enter
      | (refine' code_def ?zzk1 ?zzk2 ?zzk3 ?zzk4 ?zzk5 ?zzkA ?zzkF ?zzkK ?zzk6 ?zzk7 ?zzk8 ?zzk9 ?zzkB ?_ ?zzc2 ?zzc3 ?zzc4 ?zzc5; (case zzkA => exact rfl); (case zzkF => exact rfl); (case zzkK => first | exact rfl | assumption); (case zzk1 => k_asm); (case zzk2 => k_asm); (case zzk3 => k_asm); (case zzk4 => k_asm); (case zzk5 => k_asm); (case zzk6 => k_is); (case zzk7 => k_is); (case zzk8 => ktr_room); (case zzk9 => first | exact BindsTo.of_eq rfl | exact binds_K (by k_in) rfl (by k_is) rfl rfl rfl); (case zzc5 => decide); (case zzkB => exact locs rfl); (case zzc2 => exact rfl); (case zzc3 => exact rfl); (case zzc4 => exact rfl); k_whole; intro zg' zL' zh' zFG' zF' zN' zB' zX' zT'; (try dsimp only); (try k_lift zB'); (try k_fold))
      | (refine' code_defC ?zzk1 ?zzk2 ?zzk3 ?zzk4 ?zzk5 ?zzkA ?zzkF ?zzkK ?zzk6 ?zzk7 ?zzk8 ?zzk9 ?zzkB ?zzkD ?_ ?zzc2 ?zzc3 ?zzc4; (case zzkA => exact rfl); (case zzkF => exact rfl); (case zzkK => first | exact rfl | assumption); (case zzk1 => k_asm); (case zzk2 => k_asm); (case zzk3 => k_asm); (case zzk4 => k_asm); (case zzk5 => k_asm); (case zzk6 => k_is); (case zzk7 => k_is); (case zzk8 => ktr_room); (case zzk9 => exact BindsTo.of_eq rfl); (case zzkB => exact rfl); (case zzkD => decide +kernel); (case zzc2 => exact rfl); (case zzc3 => exact rfl); (case zzc4 => exact rfl); k_whole; intro zg' zL' zh' ztk' zcells' zFG' zF' zN' zY' zB' zX' zT' zl1; (try k_lt zl1); k_cells zY'; (try simp only [List.cons_append, List.nil_append] at zN'); (try dsimp only); (try k_lift zB'); (try k_fold)))
  k_with "call builtin:len" => (k_here; (with_reducible show wpAny _ _ (call (Value.builtin "len") [Value.ref _]) _ _ _); k_dflt (first
      | (refine' len_led ?zzN ?zzm ?zzk ?zzf ?_; (case zzN => k_asm); (case zzm => k_mem); (case zzk => assumption); (case zzf => omega); k_whole)))
  k_with "compareOp NotEq ref ref" => (k_here; k_dflt (first
      | (refine' ne_lists ?zzN ?zza ?zzb ?zzi ?zzj ?zzu ?_; (case zzN => k_asm); (case zza => k_mem); (case zzb => k_mem); (case zzi => first | assumption | exact .nil); (case zzj => first | assumption | exact .nil); (case zzu => exact hu_up4 (by assumption)); k_whole)
      | (refine' ne_tups ?zzN ?zza ?zzb ?zzi ?zzj ?zzu ?_; (case zzN => k_asm); (case zza => k_mem); (case zzb => k_mem); (case zzi => exact .cons _ _ (.cons _ _ .nil)); (case zzj => exact .cons _ _ (.cons _ _ .nil)); (case zzu => exact hu_up4 (by assumption)); k_whole)))
  k_with "compareOp Eq ref ref" => (k_here; k_dflt (refine' eq_lists ?zzN ?zza ?zzb ?zzi ?zzj ?zzu ?_; (case zzN => k_asm); (case zza => k_mem); (case zzb => k_mem); (case zzi => first | assumption | exact .nil); (case zzj => first | assumption | exact .nil); (case zzu => exact hu_up4 (by assumption)); k_whole))
  k_with "eval Name" => (k_here; k_dflt (refine' nameX_L ?zzF ?zzv ?_ ?zza ?zzb; (case zzF => k_asm); (case zzv => first | assumption | (dsimp only; rw [if_neg (by decide)]; assumption) | (dsimp only; rw [if_neg (by decide), if_neg (by decide)]; assumption)); (case zza => rfl); (case zzb => rfl); k_whole))
  k_with "call ref" => ((with_reducible show wpAny _ _ (call (Value.ref 168) _) _ _ _); (refine held ?_))
  k_with "call ref" => ((with_reducible show wpAny _ _ (call (Value.ref 175) _) _ _ _); (refine held ?_))
  k_with "call ref" => ((with_reducible show wpAny _ _ (call (Value.ref 180) _) _ _ _); (refine held ?_))
  k_with "call ref" => ((with_reducible show wpAny _ _ (call (Value.ref 187) _) _ _ _); (refine held ?_))
  k_with "pyIter ref" => (refine held ?_)
  trivial
theorem for6 : ∃ p1 p2 p3 p4 p5, nthS lawB 6 = Stmt.For (.Name "turn" p1) (.Call (.Name "range" p2) [.Constant (.int 5) 0 p3] [] p4) turnB [] p5 := ⟨_, _, _, _, _, by with_unfolding_all rfl⟩
noncomputable def levNames : List Str := "level" :: turnNames
theorem LevOk.mono {rest rest' : List (Addr × Obj)} {cs : List (Int × Int × Int)} {os : List (Int × List Int)} {b : Int} {xvs : List Value} {k : Nat} (h : LevOk rest cs os b xvs k) (hs : ∀ p ∈ rest, p ∈ rest') : LevOk rest' cs os b xvs k := by
  obtain ⟨x, par, occ, off, size, line, h1, h2, h3, h4, h5, h6⟩ := h
  exact ⟨x, par, occ, off, size, line, h1, h2.mono hs, h3, h4.mono hs, h5, h6⟩
theorem law_6 {w : World} {p : Program} {loose : List Str} {mean : ExcName → Option Value} {mg mb : Str → Option Value}
  {dp un : Nat} {gd : Option (List Code)} {a : Addr} {ccd : Value} {A₀ : Around} {h₀ : Heap} {L cA t c : Addr} {m : Str → Option Value} {rest : List (Addr × Obj)} {s : Shared} {oc : Obj}
  {i : Int} {ti : Tok} {n1 n2 : Nat} {vs : List Value} {ns : List Int} {Q : Flow → Shared → Prop} {E : Value → Shared → Prop}
  (B : Below A₀ h₀ [] h₀) (F : Fr h₀ L s.heap m) (X : (Mine.hd.heap_39 w.params).In h₀) (T : Top p loose mean mg mb h₀) (hd : dp + 60 < recursionLimit) (hu : un + 300 < cLine)
  (N : News h₀ L s.heap ((t, listOf [.ref c, .int i ti].toArray n1) :: (c, listOf vs.toArray n2) :: rest))
  (htc : @Ne Nat t c) (hrt : ∀ q ∈ rest, q.1 ≠ t) (hrc : ∀ q ∈ rest, q.1 ≠ c) (hI : IntsAre vs ns) (hlen : 0 < ns.length) (hlen2 : ns.length ≤ 60) (hi : 0 ≤ i) (hi2 : i < 900) (hcell : (cA, oc) ∈ rest) (hoc : oc.data = .cell (some (.ref t)))
  {ll nl lm nm li nli : Nat} {lvs mvs xvs : List Value} {cs : List (Int × Int × Int)} {os : List (Int × List Int)} {b : Int} {tb : Tok}
  (hlls : m "levels" = some (.ref ll)) (hll : (ll, listOf lvs.toArray nl) ∈ rest) (hlv : LevsIn rest lvs cs) (hl3 : lvs.length = 3)
  (hlm : m "memory" = some (.ref lm)) (hmm : (lm, listOf mvs.toArray nm) ∈ rest) (hmo : OctsIn rest mvs os) (hol : os.length ≤ 900)
  (hlit : m "items" = some (.ref li)) (hli : (li, listOf xvs.toArray nli) ∈ rest) (hba : m "base" = some (.int b tb)) (hcs : ∀ q ∈ cs, q.1 < 1000)
  (hi3 : i < 700) (hlev : ∀ k : Nat, k < 3 → LevOk rest cs os b xvs k)
  (ret : ∀ h' tks m' nw, Fr h₀ L h' m' → News h₀ L h' nw → Q .next { s with heap := h', toks := tks }) :
  wpAny (model PySem.Challenge.rw_pc0123_01.row.prog w) (ktrTop dp un gd "law" lawS L a ccd [("tape", cA)] []) (exec (nthS lawB 6) (envX "law" lawS L a ccd [("tape", cA)])) Q (fun _ _ => False) s := by
  obtain ⟨p1, p2, p3, p4, p5, e6⟩ := for6
  rw [e6]
  clear e6
  k_dflt (with_unfolding_all refine' For_invVF F ?k1 ?k2 ?_; (case k1 => exact rfl); (case k2 => exact rfl); k_whole)
  k_steps
  refine unheld ?_
  refine' acc_loop (n := 5) "turn" "base" levNames (fun j v nx => v = .int b tb ∧ TapeIn t c (i + 8 * j) rest nx) ?xa ?hh ?hr ?hb ?hn ?F ?N ?h0 ?hj ?turn ?done
  case xa => decide
  case hh => rfl
  case hr => assumption
  case hb => exact (rfl : (5 : Int) = ((5 : Nat) : Int))
  case hn => decide
  case F => k_asm
  case N => exact News_sub (news' := (t, listOf [.ref c, .int i ti].toArray n1) :: (c, listOf vs.toArray n2) :: rest) (by k_asm) (by (intro p hp; (repeat (rcases List.mem_cons.mp hp with rfl | hp; (solve | (repeat (first | exact List.Mem.head _ | refine List.Mem.tail _ ?_))))); (repeat (first | exact hp | refine List.Mem.tail _ ?_))))
  case h0 => exact hba
  case hj => exact ⟨rfl, tape_in hI hlen hlen2 hi (by omega)⟩
  case turn =>
    intro I j tj v m₁ nx h tk hj hoff hJ F₁ N₁
    obtain ⟨rfl, iJ, tJ, n1J, n2J, vsJ, nsJ, rfl, hIJ, hlJ, hlJ2, hiJ, hbJ⟩ := hJ
    have offT := hoff (t, _) (List.Mem.head _)
    have offC := hoff (c, _) (List.Mem.tail _ (List.Mem.head _))
    have offR : ∀ p ∈ rest, p.1 ≠ I := fun p hp => hoff p (List.Mem.tail _ (List.Mem.tail _ hp))
    have up : ∀ p ∈ rest, p ∈ (I, itR (0 + ((j + 1 : Nat) : Int)) (((5 : Nat) : Int) - ((j + 1 : Nat) : Int))) :: rest := fun p hp => .tail _ hp
    have nm : ∀ z : Str, z ≠ "turn" → z ≠ "base" → levNames.contains z = false → ∀ v1 v2 v3 v4 : Option Value, (if z = "turn" then v1 else if z = "base" then v2 else if levNames.contains z then v3 else v4) = v4 := by
      intro z z1 z2 z3 v1 v2 v3 v4
      rw [if_neg z1, if_neg z2, if_neg (by rw [z3]; decide)]
    refine turn_all (rest := (I, itR (0 + ((j + 1 : Nat) : Int)) (((5 : Nat) : Int) - ((j + 1 : Nat) : Int))) :: rest) B F₁ X T hd hu (News_sub N₁ (by (intro p hp; (repeat (rcases List.mem_cons.mp hp with rfl | hp; (solve | (repeat (first | exact List.Mem.head _ | refine List.Mem.tail _ ?_))))); (repeat (first | exact hp | refine List.Mem.tail _ ?_))))) htc ?t1 ?t2 hIJ hlJ hlJ2 hiJ (by omega) (up _ hcell) hoc ?m1 (up _ hll) (hlv.mono up) hl3 ?m2 (up _ hmm) (hmo.mono up) hol ?m3 (up _ hli) (b := b) (tb := tb) ?m4 hcs (by omega) (fun k hk => (hlev k hk).mono up) ?_
    case t1 => 
      intro q hq
      rcases List.mem_cons.mp hq with rfl | hq
      · exact fun e => offT e.symm
      · exact hrt q hq
    case t2 => 
      intro q hq
      rcases List.mem_cons.mp hq with rfl | hq
      · exact fun e => offC e.symm
      · exact hrc q hq
    case m1 => exact (nm _ (by decide) (by decide) (by decide) _ _ _ _).trans hlls
    case m2 => exact (nm _ (by decide) (by decide) (by decide) _ _ _ _).trans hlm
    case m3 => exact (nm _ (by decide) (by decide) (by decide) _ _ _ _).trans hlit
    case m4 => exact (if_neg (by decide)).trans (if_pos rfl)
    intro h' tks m' nw F' k' hT' N'
    obtain ⟨iK, tK, n1K, n2K, vsK, nsK, rfl, hIK, hlK, hlK2, hiK, hbK⟩ := hT'
    refine UnrEnd.intro F' N' ((t, listOf [.ref c, .int iK tK].toArray n1K) :: (c, listOf vsK.toArray n2K) :: rest) (by (intro p hp; (repeat (rcases List.mem_cons.mp hp with rfl | hp; (solve | (repeat (first | exact List.Mem.head _ | refine List.Mem.tail _ ?_))))); (repeat (first | exact hp | refine List.Mem.tail _ ?_)))) ?_ ⟨⟨_, ?_, rfl, ?_⟩, ?_⟩
    · intro p hp
      rcases List.mem_cons.mp hp with rfl | hp
      · exact offT
      rcases List.mem_cons.mp hp with rfl | hp
      · exact offC
      · exact offR p hp
    · exact (k' _ (by decide) (by decide)).trans ((if_neg (by decide)).trans (if_pos rfl))
    · exact tape_in hIK hlK hlK2 hiK (by omega)
    · intro z z1 z2 z3
      have z4 := z3
      rw [levNames, List.contains_cons, Bool.or_eq_false_iff, beq_eq_false_iff_ne] at z4
      exact (k' z z4.1 z4.2).trans (nm z z1 z2 z3 _ _ _ _)
  case done =>
    intro v m₁ nx h tk hJ F₁ N₁
    k_steps
    exact ret _ _ _ _ (by k_asm) N₁
end
section
noncomputable def spotsF (lev : Int) (ks : List Int) (os : List (Int × List Int)) : List Int := spotsUpto os lev ks os.length
theorem getD_left {A B : List (Int × List Int)} {i : Nat} (h : i < A.length) : (A ++ B).getD i default = A.getD i default := by
  rw [List.getD_eq_getElem?_getD, List.getD_eq_getElem?_getD, List.getElem?_append_left h]
theorem getD_right {A B : List (Int × List Int)} {j : Nat} : (A ++ B).getD (A.length + j) default = B.getD j default := by
  rw [List.getD_eq_getElem?_getD, List.getD_eq_getElem?_getD, List.getElem?_append_right (Nat.le_add_right _ _), Nat.add_sub_cancel_left]
theorem spotsUpto_left (lev : Int) (ks : List Int) (A B : List (Int × List Int)) : ∀ i, i ≤ A.length → spotsUpto (A ++ B) lev ks i = spotsUpto A lev ks i
  | 0, _ => rfl
  | i + 1, h => by
    rw [spotsUpto, spotsUpto, spotsUpto_left lev ks A B i (by omega), getD_left (by omega)]
theorem spotsUpto_right (lev : Int) (ks : List Int) (A B : List (Int × List Int)) : ∀ j, spotsUpto (A ++ B) lev ks (A.length + j) = spotsF lev ks A ++ (spotsUpto B lev ks j).map (· + (A.length : Int))
  | 0 => by rw [spotsUpto, List.map_nil, List.append_nil, Nat.add_zero, spotsUpto_left _ _ _ _ _ (Nat.le_refl _), spotsF]
  | j + 1 => by
    rw [← Nat.add_assoc, spotsUpto, spotsUpto_right lev ks A B j, spotsUpto, getD_right, List.map_append, List.append_assoc]
    congr 2
    split
    · rw [List.map_cons, List.map_nil]; congr 1; omega
    · rfl
theorem spotsF_append (lev : Int) (ks : List Int) (A B : List (Int × List Int)) : spotsF lev ks (A ++ B) = spotsF lev ks A ++ (spotsF lev ks B).map (· + (A.length : Int)) := by
  rw [spotsF, List.length_append, spotsUpto_right]
  rfl
noncomputable def run (o : Int) : Nat → List Int
  | 0 => []
  | n + 1 => run o n ++ [o + n]
theorem run_len (o : Int) : ∀ n, (run o n).length = n
  | 0 => rfl
  | n + 1 => by rw [run, List.length_append, run_len o n]; rfl
theorem run_map (o k : Int) : ∀ n, (run o n).map (· + k) = run (o + k) n
  | 0 => rfl
  | n + 1 => by
    rw [run, List.map_append, run_map o k n, run, List.map_cons, List.map_nil]
    congr 2
    omega
theorem run_cons (o : Int) : ∀ n, run o (n + 1) = o :: run (o + 1) n
  | 0 => by rw [run, run, run]; simp
  | n + 1 => by
    rw [run, run_cons o n, run, List.cons_append]
    congr 3
    omega
theorem run_drop (o : Int) (n : Nat) : ∀ j, (run o n).drop j = run (o + j) (n - j) := by
  intro j
  induction j generalizing o n with
  | zero => simp
  | succ j ih =>
    cases n with
    | zero => simp [run]
    | succ n =>
      rw [run_cons, List.drop_succ_cons, ih]
      congr 1
      · omega
      · omega
theorem run_take (o : Int) (n : Nat) : ∀ j, (run o n).take j = run o (min j n) := by
  intro j
  induction j generalizing o n with
  | zero => simp [run]
  | succ j ih =>
    cases n with
    | zero => simp [run]
    | succ n =>
      rw [run_cons, List.take_succ_cons, ih, show min (j + 1) (n + 1) = min j n + 1 by omega, run_cons]
theorem run_head (o : Int) {n : Nat} (h : 0 < n) : (run o n).getD 0 0 = o := by
  cases n with
  | zero => omega
  | succ n => rw [run_cons]; rfl
theorem run_nil {o : Int} {n : Nat} : run o n = [] ↔ n = 0 := by
  cases n with
  | zero => simp [run]
  | succ n => simp [run]
theorem spots_all {lev : Int} {ks : List Int} {os : List (Int × List Int)} (h : ∀ o ∈ os, mine lev ks o = true) : spotsF lev ks os = run 0 os.length := by
  suffices H : ∀ n, n ≤ os.length → spotsUpto os lev ks n = run 0 n from H _ (Nat.le_refl _)
  intro n
  induction n with
  | zero => intro _; rfl
  | succ n ih =>
    intro hn
    rw [spotsUpto, ih (by omega), run, List.getD_eq_getElem?_getD, List.getElem?_eq_getElem (by omega)]
    dsimp only [Option.getD]
    rw [if_pos (h _ (List.getElem_mem _))]
    simp
theorem spots_none {lev : Int} {ks : List Int} {os : List (Int × List Int)} (h : ∀ o ∈ os, mine lev ks o = false) : spotsF lev ks os = [] := by
  suffices H : ∀ n, n ≤ os.length → spotsUpto os lev ks n = [] from H _ (Nat.le_refl _)
  intro n
  induction n with
  | zero => intro _; rfl
  | succ n ih =>
    intro hn
    rw [spotsUpto, ih (by omega), List.getD_eq_getElem?_getD, List.getElem?_eq_getElem (by omega)]
    dsimp only [Option.getD]
    rw [if_neg (by rw [h _ (List.getElem_mem _)]; decide)]
    rfl
noncomputable def blk (lev c a : Int) (sub : List Int → List (Int × List Int)) (ks : List Int) (i : Nat) : List (Int × List Int) := List.replicate a.toNat (lev, path ks c i) ++ sub (path ks c i)
theorem memUp_succ (lev c a : Int) (sub : List Int → List (Int × List Int)) (ks : List Int) (i : Nat) : memUp lev c a sub ks (i + 1) = memUp lev c a sub ks i ++ blk lev c a sub ks i := by
  rw [memUp, blk, List.append_assoc]
theorem blk_len {lev c a : Int} {sub : List Int → List (Int × List Int)} {ks : List Int} {Z : Nat} (hZ : ∀ q, (sub q).length = Z) (i : Nat) : (blk lev c a sub ks i).length = a.toNat + Z := by
  rw [blk, List.length_append, List.length_replicate, hZ]
theorem memUp_length {lev c a : Int} {sub : List Int → List (Int × List Int)} {ks : List Int} {Z : Nat} (hZ : ∀ q, (sub q).length = Z) : ∀ n, (memUp lev c a sub ks n).length = n * (a.toNat + Z)
  | 0 => by rw [memUp, Nat.zero_mul]; rfl
  | n + 1 => by rw [memUp_succ, List.length_append, memUp_length hZ n, blk_len hZ, Nat.succ_mul]
theorem memUp_one {lev lv c a : Int} {sub : List Int → List (Int × List Int)} {ks key : List Int} {Z N j : Nat} (hZ : ∀ q, (sub q).length = Z) (hj : ∀ i, i < N → i ≠ j → spotsF lv key (blk lev c a sub ks i) = []) :
    ∀ n, n ≤ N → spotsF lv key (memUp lev c a sub ks n) = if j < n then (spotsF lv key (blk lev c a sub ks j)).map (· + ((j * (a.toNat + Z) : Nat) : Int)) else []
  | 0, _ => by rw [if_neg (by omega)]; rfl
  | n + 1, h => by
    rw [memUp_succ, spotsF_append, memUp_one hZ hj n (by omega), memUp_length hZ]
    by_cases e : n = j
    · subst e
      rw [if_neg (by omega), if_pos (by omega), List.nil_append]
    · rw [hj n (by omega) e, List.map_nil, List.append_nil]
      by_cases h2 : j < n
      · rw [if_pos h2, if_pos (by omega)]
      · rw [if_neg h2, if_neg (by omega)]
noncomputable def pos : List (Int × Int × Int) → List Int → Option Int
  | [], _ => some 0
  | (c, ld, B) :: r, ks => if 0 < c then (match ks with | [] => none | s :: ks' => if 1 ≤ s ∧ s ≤ c then (pos r ks').map (· + ((s - 1) * B + ld)) else none) else (pos r ks).map (· + ld)
theorem pos_nil (ks : List Int) : pos [] ks = some 0 := rfl
theorem pos_cons (c ld B : Int) (r : List (Int × Int × Int)) (ks : List Int) : pos ((c, ld, B) :: r) ks = if 0 < c then (match ks with | [] => none | s :: ks' => if 1 ≤ s ∧ s ≤ c then (pos r ks').map (· + ((s - 1) * B + ld)) else none) else (pos r ks).map (· + ld) := rfl
noncomputable def cnt : List (Int × Int × Int) → Nat
  | [] => 0
  | (c, _, _) :: r => (if 0 < c then 1 else 0) + cnt r
noncomputable def leads : List (Int × Int × Int) → Int
  | [] => 0
  | (_, ld, _) :: r => ld + leads r
noncomputable def tabsL : List (Int × Int × Int) → List (Int × Int)
  | [] => []
  | (c, _, B) :: r => if 0 < c then (c, B) :: tabsL r else tabsL r
theorem tabsL_len : ∀ L, (tabsL L).length = cnt L
  | [] => rfl
  | (c, _, B) :: r => by
    rw [tabsL, cnt]
    split
    · rw [List.length_cons, tabsL_len r]; omega
    · rw [tabsL_len r]; omega
noncomputable def runOf (n : Nat) : Option Int → List Int
  | none => []
  | some p => run p n
noncomputable def Reg (f : List Int → List (Int × List Int)) (lev : Int) (L : List (Int × Int × Int)) (n : Nat) : Prop :=
  ∀ q r, r.length = cnt L → spotsF lev (q ++ r) (f q) = runOf n (pos L r)
noncomputable def PreF (f : List Int → List (Int × List Int)) : Prop := ∀ q, ∀ o ∈ f q, ∃ t, o.2 = q ++ t
noncomputable def LevF (f : List Int → List (Int × List Int)) (lev : Int) : Prop := ∀ q, ∀ o ∈ f q, lev ≤ o.1
theorem path_no0 {q : List Int} {c : Int} {i : Nat} (h : ¬ 0 < c) : path q c i = q := by
  rw [path, if_neg h, List.append_nil]
theorem path_yes0 {q : List Int} {c : Int} {i : Nat} (h : 0 < c) : path q c i = q ++ [(i : Int) + 1] := by
  rw [path, if_pos h]
  congr 2
  omega
theorem pre_path (q : List Int) (c : Int) (i : Nat) : ∃ t, path q c i = q ++ t := ⟨_, rfl⟩
theorem blk_pre {lev c a : Int} {sub : List Int → List (Int × List Int)} (h : PreF sub) {ks : List Int} {i : Nat} : ∀ o ∈ blk lev c a sub ks i, ∃ t, o.2 = path ks c i ++ t := by
  intro o ho
  rcases List.mem_append.mp ho with ho | ho
  · rw [List.eq_of_mem_replicate ho]; exact ⟨[], by simp⟩
  · exact h _ o ho
theorem blk_lev {lev c a : Int} {sub : List Int → List (Int × List Int)} (h : LevF sub lev) {ks : List Int} {i : Nat} : ∀ o ∈ blk lev c a sub ks i, lev ≤ o.1 := by
  intro o ho
  rcases List.mem_append.mp ho with ho | ho
  · rw [List.eq_of_mem_replicate ho]; exact Int.le_refl _
  · exact h _ o ho
theorem mem_memUp {lev c a : Int} {sub : List Int → List (Int × List Int)} {ks : List Int} {o : Int × List Int} : ∀ {n}, o ∈ memUp lev c a sub ks n → ∃ i, i < n ∧ o ∈ blk lev c a sub ks i
  | 0, h => by cases h
  | n + 1, h => by
    rw [memUp_succ] at h
    rcases List.mem_append.mp h with h | h
    · obtain ⟨i, hi, h⟩ := mem_memUp h
      exact ⟨i, by omega, h⟩
    · exact ⟨n, by omega, h⟩
theorem up_pre {lev c a : Int} {sub : List Int → List (Int × List Int)} (h : PreF sub) : PreF (fun q => memUp lev c a sub q (turnsOf c)) := by
  intro q o ho
  obtain ⟨i, _, ho⟩ := mem_memUp ho
  obtain ⟨t, e⟩ := blk_pre h o ho
  exact ⟨_, by rw [e, path, List.append_assoc]⟩
theorem up_lev {lev lv c a : Int} {sub : List Int → List (Int × List Int)} (h : LevF sub lev) (hl : lv ≤ lev) : LevF (fun q => memUp lev c a sub q (turnsOf c)) lv := by
  intro q o ho
  obtain ⟨i, _, ho⟩ := mem_memUp ho
  exact Int.le_trans hl (blk_lev h o ho)
theorem up_len {lev c a : Int} {sub : List Int → List (Int × List Int)} {Z : Nat} (hZ : ∀ q, (sub q).length = Z) : ∀ q, (memUp lev c a sub q (turnsOf c)).length = turnsOf c * (a.toNat + Z) := fun _ => memUp_length hZ _
theorem mine_yes {lev : Int} {q t : List Int} {o : Int × List Int} (h : lev ≤ o.1) (e : o.2 = q ++ t) : mine lev q o = true := by
  rw [mine, e, List.take_left, decide_eq_true h]; simp
theorem mine_no {lev : Int} {p t key : List Int} {o : Int × List Int} (e : o.2 = p ++ t) (hp : key.take p.length ≠ p) (hl : p.length ≤ key.length) : mine lev key o = false := by
  rw [mine, e]
  have : (p ++ t).take key.length ≠ key := by
    intro h
    apply hp
    rw [← h, List.take_take, Nat.min_eq_left hl, List.take_left]
  simp [this]
theorem mine_low {lev : Int} {key : List Int} {o : Int × List Int} (h : o.1 < lev) : mine lev key o = false := by
  rw [mine, decide_eq_false (by omega)]; rfl
theorem turns_pos {c : Int} (h : 0 < c) : turnsOf c = c.toNat := by unfold turnsOf; omega
theorem turns_one {c : Int} (h : ¬ 0 < c) : turnsOf c = 1 := by unfold turnsOf; omega
theorem key_ne {q r : List Int} {s x : Int} (h : x ≠ s) : (q ++ s :: r).take (q ++ [x]).length ≠ q ++ [x] := by
  rw [List.length_append, List.length_cons, List.length_nil, List.take_length_add_append]
  simp only [List.take_succ_cons, List.take_zero]
  intro e
  have := List.append_cancel_left e
  simp at this
  exact h this.symm
theorem reg_up {f : List Int → List (Int × List Int)} {lev lv c a : Int} {L : List (Int × Int × Int)} {n Z : Nat} (R : Reg f lv L n) (hl : lev < lv) (hZ : ∀ q, (f q).length = Z) (hp : PreF f) (ha : 0 ≤ a) :
    Reg (fun q => memUp lev c a f q (turnsOf c)) lv ((c, a, a + Z) :: L) n := by
  intro q r hr
  have hB : ∀ key i, spotsF lv key (blk lev c a f q i) = (spotsF lv key (f (path q c i))).map (· + a) := by
    intro key i
    rw [blk, spotsF_append, spots_none (os := List.replicate _ _), List.nil_append, List.length_replicate, Int.toNat_of_nonneg ha]
    intro o ho
    rw [List.eq_of_mem_replicate ho]
    exact mine_low hl
  have hz : ((a.toNat + Z : Nat) : Int) = a + Z := by omega
  rw [cnt] at hr
  by_cases hc : 0 < c
  · rw [if_pos hc] at hr
    cases r with
    | nil => simp at hr; omega
    | cons s r =>
      rw [List.length_cons] at hr
      have hne : ∀ i : Nat, (i : Int) + 1 ≠ s → spotsF lv (q ++ s :: r) (blk lev c a f q i) = [] := by
        intro i hi
        rw [hB, spots_none, List.map_nil]
        intro o ho
        obtain ⟨t, e⟩ := hp _ o ho
        rw [path_yes0 hc] at e
        refine mine_no e (key_ne hi) ?_
        simp only [List.length_append, List.length_cons, List.length_nil]
        omega
      rw [pos_cons, if_pos hc]
      dsimp only
      by_cases hs : 1 ≤ s ∧ s ≤ c
      · rw [if_pos hs, memUp_one hZ (j := (s - 1).toNat) (N := turnsOf c) (fun i _ hi => hne i (by omega)) _ (Nat.le_refl _), if_pos (by rw [turns_pos hc]; omega), hB, path_yes0 hc]
        have e1 : (((s - 1).toNat : Nat) : Int) + 1 = s := by omega
        rw [e1, show q ++ s :: r = (q ++ [s]) ++ r by simp, R _ _ (by omega), Int.natCast_mul, hz, Int.toNat_of_nonneg (by omega)]
        cases pos L r with
        | none => rfl
        | some p =>
          show ((run p n).map _).map _ = run (p + ((s - 1) * (a + Z) + a)) n
          rw [run_map, run_map]
          congr 1
          omega
      · rw [if_neg hs, memUp_one hZ (j := turnsOf c) (N := turnsOf c) (fun i hi _ => hne i (by rw [turns_pos hc] at hi; omega)) _ (Nat.le_refl _), if_neg (by omega)]
        rfl
  · rw [if_neg hc] at hr
    rw [turns_one hc, memUp_one hZ (j := 0) (N := 1) (fun i h1 h2 => by omega) _ (Nat.le_refl _), if_pos (by omega), hB, path_no0 hc, R _ _ (by omega), pos_cons, if_neg hc]
    cases pos L r with
    | none => rfl
    | some p =>
      show ((run p n).map _).map _ = run (p + a) n
      rw [run_map, run_map]
      congr 1
      simp
theorem reg_at {f : List Int → List (Int × List Int)} {lev c a : Int} {Z : Nat} (hZ : ∀ q, (f q).length = Z) (hp : PreF f) (hv : LevF f lev) (ha : 0 ≤ a) :
    Reg (fun q => memUp lev c a f q (turnsOf c)) lev [(c, 0, a + Z)] (a + Z).toNat := by
  intro q r hr
  have hz : ((a.toNat + Z : Nat) : Int) = a + Z := by omega
  have hy : ∀ key i, path q c i = key → spotsF lev key (blk lev c a f q i) = run 0 (a + Z).toNat := by
    intro key i hi
    rw [spots_all, blk_len hZ]
    · congr 1; omega
    · intro o ho
      obtain ⟨t, e⟩ := blk_pre hp o ho
      exact mine_yes (blk_lev hv o ho) (by rw [e, hi])
  rw [cnt, cnt] at hr
  by_cases hc : 0 < c
  · rw [if_pos hc] at hr
    match r, hr with
    | [s], _ =>
      have hne : ∀ i : Nat, (i : Int) + 1 ≠ s → spotsF lev (q ++ [s]) (blk lev c a f q i) = [] := by
        intro i hi
        rw [spots_none]
        intro o ho
        obtain ⟨t, e⟩ := blk_pre hp o ho
        rw [path_yes0 hc] at e
        refine mine_no e (key_ne hi) ?_
        simp only [List.length_append, List.length_cons, List.length_nil]
        omega
      rw [pos_cons, if_pos hc]
      dsimp only
      by_cases hs : 1 ≤ s ∧ s ≤ c
      · rw [if_pos hs, memUp_one hZ (j := (s - 1).toNat) (N := turnsOf c) (fun i _ hi => hne i (by omega)) _ (Nat.le_refl _), if_pos (by rw [turns_pos hc]; omega), hy, pos_nil, Int.natCast_mul, hz, Int.toNat_of_nonneg (by omega), run_map]
        · show _ = run (0 + ((s - 1) * (a + ↑Z) + 0)) _
          congr 1
          omega
        · rw [path_yes0 hc]; congr 2; omega
      · rw [if_neg hs, memUp_one hZ (j := turnsOf c) (N := turnsOf c) (fun i hi _ => hne i (by rw [turns_pos hc] at hi; omega)) _ (Nat.le_refl _), if_neg (by omega)]
        rfl
  · rw [if_neg hc] at hr
    match r, hr with
    | [], _ =>
      rw [turns_one hc, memUp_one hZ (j := 0) (N := 1) (fun i h1 h2 => by omega) _ (Nat.le_refl _), if_pos (by omega), hy, pos_cons, if_neg hc, pos_nil, run_map]
      · show _ = run _ _
        congr 1
        simp
      · rw [path_no0 hc]; simp
theorem mem2_eq (c z : Int) (q : List Int) : ∀ n, mem2 c z q n = memUp 2 c z (fun _ => []) q n
  | 0 => rfl
  | n + 1 => by rw [mem2, memUp, mem2_eq c z q n, List.append_nil]
theorem walk_pos : ∀ (L : List (Int × Int × Int)) (ks : List Int) (off : Int), ks.length = cnt L → walkTabs (tabsL L) ks off = (pos L ks).map (· + (off - leads L))
  | [], ks, off, _ => by
    rw [tabsL, pos_nil, leads]
    simp [walkTabs]
  | (c, ld, B) :: r, ks, off, h => by
    rw [cnt] at h
    rw [tabsL, pos_cons, leads]
    by_cases hc : 0 < c
    · rw [if_pos hc] at h
      rw [if_pos hc, if_pos hc]
      cases ks with
      | nil => simp at h; omega
      | cons s ks =>
        rw [List.length_cons] at h
        dsimp only
        rw [walkTabs]
        by_cases hs : 1 ≤ s ∧ s ≤ c
        · rw [if_pos hs, if_pos hs, walk_pos r ks _ (by omega), Option.map_map]
          congr 1
          funext p
          simp only [Function.comp]
          omega
        · rw [if_neg hs, if_neg hs]; rfl
    · rw [if_neg hc] at h
      rw [if_neg hc, if_neg hc, walk_pos r ks _ (by omega), Option.map_map]
      congr 1
      funext p
      simp only [Function.comp]
      omega
theorem pos_ones : ∀ (L : List (Int × Int × Int)), pos L (List.replicate (cnt L) 1) = some (leads L)
  | [] => rfl
  | (c, ld, B) :: r => by
    rw [pos_cons, cnt, leads]
    by_cases hc : 0 < c
    · rw [if_pos hc, if_pos hc, Nat.add_comm, List.replicate_succ]
      dsimp only
      rw [if_pos (by omega), pos_ones r]
      simp [Int.add_comm]
    · rw [if_neg hc, if_neg hc, Nat.zero_add, pos_ones r]
      simp [Int.add_comm]
end
section
theorem due6_nil (b : Int) : due6 b [] = none := rfl
theorem due10_nil (b l : Int) : due10 b [] l = none := by
  unfold due10
  rw [if_neg (fun h => h.2 rfl)]
theorem held9_nil (bg ln : Int) : held9 [] bg ln = [] := by
  unfold held9
  split <;> simp
theorem held12_nil (bg : Int) : held12 [] bg = [] := by
  unfold held12
  split <;> simp
theorem due6_run (b p : Int) {n : Nat} (h : 0 < n) : due6 b (run p n) = some (b + p, (n : Int)) := by
  unfold due6
  rw [if_neg (fun e => by rw [run_nil] at e; omega), run_head p h, run_len]
theorem due10_run (b p l : Int) {n : Nat} (h : 0 < n) (e : (n : Int) = l) : due10 b (run p n) l = some (b + p, l) := by
  unfold due10
  rw [run_len, if_pos ⟨e, fun e => by rw [run_nil] at e; omega⟩, run_head p h]
theorem due10_short (b p l : Int) {n : Nat} (e : n = 0 ∨ (n : Int) ≠ l) : due10 b (run p n) l = none := by
  unfold due10
  rw [run_len, if_neg]
  rintro ⟨h1, h2⟩
  rcases e with e | e
  · exact h2 (run_nil.mpr e)
  · exact e h1
theorem held9_run (p : Int) (n : Nat) {bg ln : Int} (h1 : 0 < bg) (h2 : 0 < ln) : held9 (run p n) bg ln = run (p + ((bg - 1).toNat : Nat)) (min ln.toNat (n - (bg - 1).toNat)) := by
  unfold held9
  rw [if_pos ⟨h1, h2⟩, run_drop, run_take]
theorem held12_run (p : Int) (n : Nat) {bg : Int} (h1 : 0 < bg) : held12 (run p n) bg = run (p + ((bg - 1).toNat : Nat)) (n - (bg - 1).toNat) := by
  unfold held12
  rw [if_pos h1, run_drop]
/-- the plain law: what stretch tells by its tables is what lies in the memory -/
theorem agrees {L : List (Int × Int × Int)} {n : Nat} (hn : 0 < n) (b : Int) (ks : List Int) {sp : List Int} (hsp : sp = if ks.length = cnt L then runOf n (pos L ks) else []) :
    toldSpec (tabsL L) (b + leads L) n ks none = due6 b sp ∧
    (∀ bg ln : Int, 0 ≤ bg → -1 ≤ ln → toldSpec (tabsL L) (b + leads L) n ks (some (bg, some ln)) = due10 b (held9 sp bg ln) ln) ∧
    (∀ bg : Int, 0 ≤ bg → toldSpec (tabsL L) (b + leads L) n ks (some (bg, none)) = due6 b (held12 sp bg)) := by
  unfold toldSpec
  rw [tabsL_len]
  by_cases hk : ks.length = cnt L
  · rw [if_pos hk] at hsp
    rw [walk_pos L ks _ hk]
    simp only [if_pos hk]
    cases hp : pos L ks with
    | none =>
      rw [hp] at hsp
      subst hsp
      refine ⟨rfl, fun bg ln _ _ => ?_, fun bg _ => ?_⟩
      · show none = due10 b (held9 [] bg ln) ln
        rw [held9_nil, due10_nil]
      · show none = due6 b (held12 [] bg)
        rw [held12_nil, due6_nil]
    | some p =>
      rw [hp] at hsp
      have hsp : sp = run p n := hsp
      subst hsp
      have e : p + (b + leads L - leads L) = b + p := by omega
      show partOf (p + (b + leads L - leads L)) n none = _ ∧ (∀ bg ln : Int, 0 ≤ bg → -1 ≤ ln → partOf (p + (b + leads L - leads L)) n (some (bg, some ln)) = _) ∧ ∀ bg : Int, 0 ≤ bg → partOf (p + (b + leads L - leads L)) n (some (bg, none)) = _
      rw [e]
      refine ⟨?_, fun bg ln h0 h1 => ?_, fun bg h0 => ?_⟩
      · rw [due6_run b p hn]; rfl
      · show (if bg < 1 ∨ ln < 1 ∨ bg + ln - 1 > n then none else some (b + p + bg - 1, ln)) = _
        by_cases hc : 0 < bg ∧ 0 < ln
        · rw [held9_run p n hc.1 hc.2]
          by_cases hd : bg + ln - 1 > n
          · rw [if_pos (by omega), due10_short]
            omega
          · rw [if_neg (by omega), due10_run]
            · congr 2
              omega
            · omega
            · omega
        · rw [if_pos (by omega)]
          unfold held9
          rw [if_neg hc, due10_nil]
      · show (if bg < 1 ∨ (n : Int) - bg + 1 < 1 ∨ bg + ((n : Int) - bg + 1) - 1 > n then none else some (b + p + bg - 1, (n : Int) - bg + 1)) = _
        by_cases hc : 0 < bg
        · rw [held12_run p n hc]
          by_cases hd : (n : Int) - bg + 1 < 1
          · rw [if_pos (by omega), show n - (bg - 1).toNat = 0 by omega]
            rfl
          · rw [if_neg (by omega), due6_run]
            · congr 2
              · omega
              · omega
            · omega
        · rw [if_pos (by omega)]
          unfold held12
          rw [if_neg hc, due6_nil]
  · rw [if_neg hk] at hsp
    subst hsp
    simp only [if_neg hk]
    refine ⟨rfl, fun bg ln _ _ => ?_, fun bg _ => ?_⟩
    · rw [held9_nil, due10_nil]
    · rw [held12_nil, due6_nil]
end
section
theorem item_0_any {w : World} {p : Program} {loose : List Str} {mean : ExcName → Option Value} {mg mb : Str → Option Value}
  {dp un : Nat} {gd : Option (List Code)} {a : Addr} {ccd : Value} {A₀ : Around} {h₀ : Heap} {L cA t c : Addr} {m : Str → Option Value} {rest : List (Addr × Obj)} {s : Shared} {oc : Obj}
  {i : Int} {ti : Tok} {n1 n2 : Nat} {vs : List Value} {ns : List Int} {Q : Flow → Shared → Prop} {E : Value → Shared → Prop}
  (B : Below A₀ h₀ [] h₀) (F : Fr h₀ L s.heap m) (X : (Mine.hd.heap_39 w.params).In h₀) (T : Top p loose mean mg mb h₀) (hd : dp + 60 < recursionLimit) (hu : un + 300 < cLine)
  (N : News h₀ L s.heap ((t, listOf [.ref c, .int i ti].toArray n1) :: (c, listOf vs.toArray n2) :: rest))
  (htc : @Ne Nat t c) (hrt : ∀ q ∈ rest, q.1 ≠ t) (hrc : ∀ q ∈ rest, q.1 ≠ c) (hI : IntsAre vs ns) (hlen : 0 < ns.length) (hlen2 : ns.length ≤ 60) (hi : 0 ≤ i) (hi2 : i < 900) (hcell : (cA, oc) ∈ rest) (hoc : oc.data = .cell (some (.ref t)))
  {tl : Tok} {k : Nat} (hm0 : m "level" = some (.int (k : Int) tl)) (hk : k < 3)
  (ret : ∀ (x d kd : Nat) (e : List DictEntry) n h' tks t1 t2 nm t3, Fr h₀ L h' (fun y => if y = "item" then some (.ref x) else m y) →
    News h₀ L h' ((t, listOf [.ref c, .int i ti].toArray n1) :: (c, listOf vs.toArray n2) :: (d, dictOf e n) :: (x, instObj 138 d) :: (kd, listOf [].toArray 0) :: rest) →
    getL "parent" e = some (some .none) → getL "occurs" e = some (some .none) → getL "offset" e = some (some (.int 0 t1)) → getL "size" e = some (some (.int 0 t2)) → getL "name" e = some (some (.str nm t3)) → nm.length ≤ 10 → getL "kids" e = some (some (.ref kd)) → getL "add" e = some none → e.length ≤ 30 →
    (@Ne Nat x t ∧ @Ne Nat x c ∧ @Ne Nat d t ∧ @Ne Nat d c ∧ @Ne Nat kd t ∧ @Ne Nat kd c ∧ @Ne Nat x d ∧ @Ne Nat x kd ∧ @Ne Nat d kd) → (∀ q ∈ rest, q.1 ≠ x) → (∀ q ∈ rest, q.1 ≠ d) → (∀ q ∈ rest, q.1 ≠ kd) → Q .next { s with heap := h', toks := tks }) :
  wpAny (model PySem.Challenge.rw_pc0123_01.row.prog w) (ktrTop dp un gd "law" lawS L a ccd [("tape", cA)] []) (exec (nthS itemB 0) (envX "law" lawS L a ccd [("tape", cA)])) Q E s := by
  match k, hk with
  | 0, _ => exact item_0_0 B F X T hd hu N htc hrt hrc hI hlen hlen2 hi hi2 hcell hoc hm0 (fun x d kd e n h' tks t1 t2 nm t3 f1 f2 f3 f4 f5 f6 f7 f8 f9 f10 f11 => ret x d kd e n h' tks t1 t2 nm t3 f1 f2 f3 f4 f5 f6 f7 f11 f8 f9 f10)
  | 1, _ => exact item_0_1 B F X T hd hu N htc hrt hrc hI hlen hlen2 hi hi2 hcell hoc hm0 (fun x d kd e n h' tks t1 t2 nm t3 f1 f2 f3 f4 f5 f6 f7 f8 f9 f10 f11 => ret x d kd e n h' tks t1 t2 nm t3 f1 f2 f3 f4 f5 f6 f7 f11 f8 f9 f10)
  | 2, _ => exact item_0_2 B F X T hd hu N htc hrt hrc hI hlen hlen2 hi hi2 hcell hoc hm0 (fun x d kd e n h' tks t1 t2 nm t3 f1 f2 f3 f4 f5 f6 f7 f8 f9 f10 f11 => ret x d kd e n h' tks t1 t2 nm t3 f1 f2 f3 f4 f5 f6 f7 f11 f8 f9 f10)
/-- an item's own table -/
noncomputable def occAt (cs : List (Int × Int × Int)) (k : Nat) : Option Int := if 0 < (cs.getD k default).1 then some (cs.getD k default).1 else none
noncomputable def parAt (xvs : List Value) : Nat → Value
  | 0 => .none
  | j + 1 => xvs.getD j .none
/-- the items made so far -/
noncomputable def ItemsOk (rest : List (Addr × Obj)) (cs : List (Int × Int × Int)) (b : Int) (ld : Nat → Int) (sz : Nat → Nat) (xvs : List Value) (n : Nat) : Prop :=
  ∀ j, j < n → ∃ x, xvs[j]? = some (.ref x) ∧ ItemIn rest x (parAt xvs j) (occAt cs j) (b + ld j) (sz j)
/-- the last item, with its kids in reach -/
noncomputable def LastOk (rest : List (Addr × Obj)) (kp : Nat) (v : Option Value) : Prop :=
  ∃ x d e n, v = some (.ref x) ∧ (x, instObj 138 d) ∈ rest ∧ (d, dictOf e n) ∈ rest ∧ getL "kids" e = some (some (.ref kp)) ∧ getL "add" e = some none
theorem ItemsOk.step {rest rest' : List (Addr × Obj)} {cs : List (Int × Int × Int)} {b : Int} {ld : Nat → Int} {sz : Nat → Nat} {xvs : List Value} {n : Nat} {x : Addr} {par : Value} (h : ItemsOk rest cs b ld sz xvs n) (hl : xvs.length = n) (hs : ∀ p ∈ rest, p ∈ rest')
    (hp : par = parAt xvs n) (hx : ItemIn rest' x par (occAt cs n) (b + ld n) (sz n)) : ItemsOk rest' cs b ld sz (xvs ++ [.ref x]) (n + 1) := by
  intro j hj
  by_cases e : j = n
  · subst e
    refine ⟨x, by rw [← hl, List.getElem?_append_right (Nat.le_refl _)]; simp, ?_⟩
    have : parAt (xvs ++ [.ref x]) j = par := by
      rw [hp]
      cases j with
      | zero => rfl
      | succ j => simp only [parAt, List.getD_eq_getElem?_getD]; rw [List.getElem?_append_left (by omega)]
    rw [this]
    exact hx
  · obtain ⟨y, h1, h2⟩ := h j (by omega)
    refine ⟨y, by rw [List.getElem?_append_left (by omega)]; exact h1, ?_⟩
    have : parAt (xvs ++ [.ref x]) j = parAt xvs j := by
      cases j with
      | zero => rfl
      | succ j => simp only [parAt, List.getD_eq_getElem?_getD]; rw [List.getElem?_append_left (by omega)]
    rw [this]
    exact h2.mono hs
noncomputable def itemNames : List Str := ["item", "firsts", "spots"]
/-- between two turns of the item loop -/
noncomputable def ItJ (t c li : Nat) (to co : Obj) (rest : List (Addr × Obj)) (cs : List (Int × Int × Int)) (b : Int) (ld : Nat → Int) (sz : Nat → Nat) : Nat → List (Addr × Obj) → Prop
  | 0, nx => ∃ nli, nx = (t, to) :: (c, co) :: (li, listOf [].toArray nli) :: rest
  | k + 1, nx => ∃ nli xvs kp nk rest', nx = (t, to) :: (c, co) :: (li, listOf xvs.toArray nli) :: (kp, listOf [].toArray nk) :: rest' ∧ (∀ p ∈ rest, p ∈ rest') ∧ xvs.length = k + 1 ∧
      (@Ne Nat kp t ∧ @Ne Nat kp c ∧ @Ne Nat kp li) ∧ (∀ q ∈ rest', @Ne Nat q.1 t ∧ @Ne Nat q.1 c ∧ @Ne Nat q.1 li ∧ @Ne Nat q.1 kp) ∧ ItemsOk rest' cs b ld sz xvs (k + 1) ∧ LastOk rest' kp xvs[k]?
theorem item_turn_0 {w : World} {p : Program} {loose : List Str} {mean : ExcName → Option Value} {mg mb : Str → Option Value}
  {dp un : Nat} {gd : Option (List Code)} {a : Addr} {ccd : Value} {A₀ : Around} {h₀ : Heap} {L cA t c : Addr} {m : Str → Option Value} {rest : List (Addr × Obj)} {s : Shared} {oc : Obj}
  {i : Int} {ti : Tok} {n1 n2 : Nat} {vs : List Value} {ns : List Int} {Q : Flow → Shared → Prop} {E : Value → Shared → Prop}
  (B : Below A₀ h₀ [] h₀) (F : Fr h₀ L s.heap m) (X : (Mine.hd.heap_39 w.params).In h₀) (T : Top p loose mean mg mb h₀) (hd : dp + 60 < recursionLimit) (hu : un + 300 < cLine)
  
  (htc : @Ne Nat t c) (hrt : ∀ q ∈ rest, q.1 ≠ t) (hrc : ∀ q ∈ rest, q.1 ≠ c) (hI : IntsAre vs ns) (hlen : 0 < ns.length) (hlen2 : ns.length ≤ 60) (hi : 0 ≤ i) (hi2 : i < 900) (hcell : (cA, oc) ∈ rest) (hoc : oc.data = .cell (some (.ref t)))
  {ll nl lm nm li nli I : Nat} {lvs mvs : List Value} {cs : List (Int × Int × Int)} {os : List (Int × List Int)} {b : Int} {tb tl : Tok} {ld : Nat → Int} {sz : Nat → Nat} {io : Obj}
  (hlev : m "level" = some (.int ((0 : Nat) : Int) tl)) (hlls : m "levels" = some (.ref ll)) (hll : (ll, listOf lvs.toArray nl) ∈ rest) (hlv : LevsIn rest lvs cs) (hl3 : lvs.length = 3)
  (hlm : m "memory" = some (.ref lm)) (hmm : (lm, listOf mvs.toArray nm) ∈ rest) (hmo : OctsIn rest mvs os) (hol : os.length ≤ 900)
  (hlit : m "items" = some (.ref li)) (hba : m "base" = some (.int b tb)) (hlit1 : @Ne Nat li t) (hlic : @Ne Nat li c) (hrli : ∀ q ∈ rest, q.1 ≠ li)
  (hsp : ∀ k : Nat, k < 3 → spotsUpto os k (onesUpto cs (k + 1)) os.length = run (ld k) (sz k)) (hsz : ∀ k, k < 3 → 0 < sz k)
  (hIn : ∀ p ∈ (t, listOf [.ref c, .int i ti].toArray n1) :: (c, listOf vs.toArray n2) :: (li, listOf [].toArray nli) :: rest, p.1 ≠ I)
  (N : News h₀ L s.heap ((I, io) :: (t, listOf [.ref c, .int i ti].toArray n1) :: (c, listOf vs.toArray n2) :: (li, listOf [].toArray nli) :: rest))
  (ret : ∀ h' tks m' nw nx, Fr h₀ L h' m' → (∀ z : Str, itemNames.contains z = false → m' z = m z) → News h₀ L h' nw → (∀ p ∈ (I, io) :: nx, p ∈ nw) → (∀ p ∈ nx, p.1 ≠ I) →
    ItJ t c li (listOf [.ref c, .int i ti].toArray n1) (listOf vs.toArray n2) rest cs b ld sz (0 + 1) nx → Q .next { s with heap := h', toks := tks }) :
  wpAny (model PySem.Challenge.rw_pc0123_01.row.prog w) (ktrTop dp un gd "law" lawS L a ccd [("tape", cA)] []) (execs itemB (envX "law" lawS L a ccd [("tape", cA)])) Q E s := by
  have hsub : ∀ p ∈ rest, p ∈ rest := fun p hp => hp
  have hr' : ∀ q ∈ rest, @Ne Nat q.1 t ∧ @Ne Nat q.1 c ∧ @Ne Nat q.1 li := fun q hq => ⟨hrt q hq, hrc q hq, hrli q hq⟩
  have hIt : @Ne Nat t I := hIn (t, _) (.head _)
  have hIc : @Ne Nat c I := hIn (c, _) (.tail _ (.head _))
  have hIl : @Ne Nat li I := hIn (li, _) (.tail _ (.tail _ (.head _)))
  have hIr : ∀ p ∈ rest, p.1 ≠ I := fun p hp => hIn p (.tail _ (.tail _ (.tail _ hp)))
  have ap0 : Apart t c cA oc ((I, io) :: (li, listOf [].toArray nli) :: rest) :=
    Apart.cons (Apart.cons ⟨fun q hq => (hr' q hq).1, fun q hq => (hr' q hq).2.1, hsub _ hcell⟩ hlit1 hlic) hIt.symm hIc.symm
  have up0 : ∀ p ∈ rest, p ∈ (I, io) :: (li, listOf [].toArray nli) :: rest := fun p hp => .tail _ (.tail _ hp)
  rw [itemB_eq]
  -- the item
  refine wpAny_execs_cons ?_
  refine item_0_any (ti := ti) (n1 := n1) (n2 := n2) (rest := (I, io) :: (li, listOf [].toArray nli) :: rest) B F X T hd hu (News_sub N (by (intro p hp; (repeat (rcases List.mem_cons.mp hp with rfl | hp; (solve | (repeat (first | exact List.Mem.head _ | refine List.Mem.tail _ ?_))))); (repeat (first | exact hp | refine List.Mem.tail _ ?_))))) htc ap0.1 ap0.2.1 hI hlen hlen2 hi hi2 ap0.2.2 hoc hlev (by omega) ?_
  intro x d kd e ne h0 tks0 t1 t2 nmx t3 F0 N0 gpar gocc goff gsiz gnam gnml gkid gadd gel gne gx gd gkd
  obtain ⟨m0, F0, q0, e0⟩ := set_map F0
  obtain ⟨gxt, gxc, gdt, gdc, gkt, gkc, gxd, gxk, gdk⟩ := gne
  have ap1 := ((ap0.cons (o := listOf [].toArray 0) gkt gkc).cons (o := instObj 138 d) gxt gxc).cons (o := dictOf e ne) gdt gdc
  -- firsts
  refine wpAny_execs_cons ?_
  refine item_1 B F0 X T hd hu N0 htc ap1.1 ap1.2.1 hI hlen hlen2 hi hi2 ap1.2.2 hoc (k := 0) ((e0 _ (by decide)).trans hlev) (by omega) ((e0 _ (by decide)).trans hlls) (.tail _ (.tail _ (.tail _ (up0 _ hll)))) (hlv.mono fun p hp => .tail _ (.tail _ (.tail _ (up0 _ hp)))) hl3 ?_
  intro r1 rs1 nn1 h1 tks1 F1 N1 hI1 g1t g1c g1
  obtain ⟨m1, F1, q1, e1⟩ := set_map F1
  have hol1 := ones_len cs (0 + 1)
  have g1d : @Ne Nat r1 d := fun h => g1 (d, dictOf e ne) (.head _) h.symm
  have g1x : @Ne Nat r1 x := fun h => g1 (x, instObj 138 d) (.tail _ (.head _)) h.symm
  have ap2 : Apart t c cA oc ((r1, tupOf rs1 nn1) :: (x, instObj 138 d) :: (kd, listOf [].toArray 0) :: (I, io) :: (li, listOf [].toArray nli) :: rest) := ((ap0.cons (o := listOf [].toArray 0) gkt gkc).cons (o := instObj 138 d) gxt gxc).cons g1t g1c
  have up2 : ∀ p ∈ rest, p ∈ (r1, tupOf rs1 nn1) :: (x, instObj 138 d) :: (kd, listOf [].toArray 0) :: (I, io) :: (li, listOf [].toArray nli) :: rest := fun p hp => .tail _ (.tail _ (.tail _ (up0 p hp)))
  have off2 : ∀ q ∈ (r1, tupOf rs1 nn1) :: (x, instObj 138 d) :: (kd, listOf [].toArray 0) :: (I, io) :: (li, listOf [].toArray nli) :: rest, q.1 ≠ d := by
    intro q hq
    rcases List.mem_cons.mp hq with rfl | hq
    · exact g1d
    rcases List.mem_cons.mp hq with rfl | hq
    · exact gxd
    rcases List.mem_cons.mp hq with rfl | hq
    · exact gdk.symm
    · exact gd q hq
  -- its table
  refine wpAny_execs_cons ?_
  refine item_2 (ti := ti) (n1 := n1) (n2 := n2) (e := e) (ne := ne) (d := d) (x := x) B F1 X T hd hu (News_sub N1 (by (intro p hp; (repeat (rcases List.mem_cons.mp hp with rfl | hp; (solve | (repeat (first | exact List.Mem.head _ | refine List.Mem.tail _ ?_))))); (repeat (first | exact hp | refine List.Mem.tail _ ?_))))) htc ap2.1 ap2.2.1 hI hlen hlen2 hi hi2 ap2.2.2 hoc gdt gdc off2 (.tail _ (.head _)) ((e1 _ (by decide)).trans q0) (by omega) (k := 0) ((e1 _ (by decide)).trans ((e0 _ (by decide)).trans hlev)) (by omega) ((e1 _ (by decide)).trans ((e0 _ (by decide)).trans hlls)) (up2 _ hll) (hlv.mono up2) hl3 gocc ?_
  intro e2 n2e new h2 tks2 ov F2 N2 hov gocc2 gsame2 gel2 gnew
  have gnI : ∀ q ∈ new, @Ne Nat q.1 I := fun q hq h => (gnew q hq).2.2.2 (I, io) (.tail _ (.tail _ (.tail _ (.head _)))) h.symm
  have gnl : ∀ q ∈ new, @Ne Nat q.1 li := fun q hq h => (gnew q hq).2.2.2 (li, _) (.tail _ (.tail _ (.tail _ (.tail _ (.head _))))) h.symm
  have gnk : ∀ q ∈ new, @Ne Nat q.1 kd := fun q hq h => (gnew q hq).2.2.2 (kd, _) (.tail _ (.tail _ (.head _))) h.symm
  have kx : x ≠ I := fun h => gx (I, io) (.head _) h.symm
  have kd1 : @Ne Nat d I := fun h => gd (I, io) (.head _) h.symm
  have kk : @Ne Nat kd I := fun h => gkd (I, io) (.head _) h.symm
  have ap3 : Apart t c cA oc (new ++ (r1, tupOf rs1 nn1) :: (x, instObj 138 d) :: (kd, listOf [].toArray 0) :: (I, io) :: (li, listOf [].toArray nli) :: rest) := ap2.app fun q hq => ⟨(gnew q hq).1, (gnew q hq).2.1⟩
  have off3 : ∀ q ∈ new ++ (r1, tupOf rs1 nn1) :: (x, instObj 138 d) :: (kd, listOf [].toArray 0) :: (I, io) :: (li, listOf [].toArray nli) :: rest, q.1 ≠ d := by
    intro q hq
    rcases List.mem_append.mp hq with hq | hq
    · exact (gnew q hq).2.2.1
    · exact off2 q hq
  have inx3 : (x, instObj 138 d) ∈ new ++ (r1, tupOf rs1 nn1) :: (x, instObj 138 d) :: (kd, listOf [].toArray 0) :: (I, io) :: (li, listOf [].toArray nli) :: rest := List.mem_append_right _ (.tail _ (.head _))
  -- its parent
  refine wpAny_execs_cons ?_
  refine item_3_0 (d := d) (x := x) B F2 X T hd hu N2 htc ap3.1 ap3.2.1 hI hlen hlen2 hi hi2 ap3.2.2 hoc ((e1 _ (by decide)).trans ((e0 _ (by decide)).trans hlev)) ?_
  intro tks3
  have gsame3 : ∀ y : Str, y ≠ "occurs" → y ≠ "parent" → getL y e2 = getL y e := fun y h _ => gsame2 y h
  have gocc3 := gocc2
  have gpar3 : getL "parent" e2 = some (some (parAt ([] : List Value) 0)) := (gsame2 _ (by decide)).trans gpar
  have gel3 : e2.length ≤ 50 := by omega
  have hov3 : OccIn new ov (occAt cs 0) := hov
  generalize hR : new ++ (r1, tupOf rs1 nn1) :: (x, instObj 138 d) :: (kd, listOf [].toArray 0) :: (I, io) :: (li, listOf [].toArray nli) :: rest = R at N2 ap3 off3 inx3
  have N3 := N2
  have F3 := F2
  have upR : ∀ p ∈ rest, p ∈ R := by
    intro p hp
    
    rw [← hR]
    exact List.mem_append_right _ (.tail _ (.tail _ (.tail _ (.tail _ (.tail _ hp)))))
  have inRx : (x, instObj 138 d) ∈ R := inx3
  have apR : Apart t c cA oc (R) := ap3
  have apRd := apR.cons (o := dictOf e2 n2e) gdt gdc
  have offR : ∀ q ∈ R, q.1 ≠ d := by
    exact off3
  have in1 : (r1, tupOf rs1 nn1) ∈ R := by
    
    rw [← hR]
    exact List.mem_append_right _ (.head _)
  -- its octets
  refine wpAny_execs_cons ?_
  refine item_4 (k := 0) B F3 X T hd hu N3 htc apRd.1 apRd.2.1 hI hlen hlen2 hi hi2 apRd.2.2 hoc ((e1 _ (by decide)).trans ((e0 _ (by decide)).trans hlev)) q1 ((e1 _ (by decide)).trans ((e0 _ (by decide)).trans hlm)) (.tail _ in1) hI1 (by omega) (.tail _ (upR _ (hsub _ hmm))) (hmo.mono fun p hp => .tail _ (upR _ (hsub _ hp))) (by omega) ?_
  intro r4 rs4 nn4 h4 tks4 F4 N4 hI4 g4t g4c g4
  rw [hsp 0 (by omega)] at hI4
  obtain ⟨m4, F4, q4, e4⟩ := set_map F4
  have g4d : @Ne Nat r4 d := fun h => g4 (d, dictOf e2 n2e) (.head _) h.symm
  have ap4 := apR.cons (o := listOf rs4.toArray nn4) g4t g4c
  have off4 : ∀ q ∈ (r4, listOf rs4.toArray nn4) :: R, q.1 ≠ d := by
    intro q hq
    rcases List.mem_cons.mp hq with rfl | hq
    · exact g4d
    · exact offR q hq
  have hsz4 := hsz 0 (by omega)
  have hsl4 : sz 0 ≤ os.length := by
    rw [← run_len (ld 0) (sz 0), ← hsp 0 (by omega)]
    exact spotsUpto_len _ _ _ _
  -- where it lies
  refine wpAny_execs_cons ?_
  refine item_5 (ti := ti) (n1 := n1) (n2 := n2) (d := d) (x := x) (e := e2) (ne := n2e) B F4 X T hd hu (News_sub N4 ?_) htc ap4.1 ap4.2.1 hI hlen hlen2 hi hi2 ap4.2.2 hoc gdt gdc off4 (.tail _ inRx) ((e4 _ (by decide)).trans ((e1 _ (by decide)).trans q0)) (by omega) ((e4 _ (by decide)).trans ((e1 _ (by decide)).trans ((e0 _ (by decide)).trans hba))) q4 (List.Mem.head _) hI4 (by rw [run_len]; omega) (by rw [run_len]; omega) ((gsame3 _ (by decide) (by decide)).trans goff) ((gsame3 _ (by decide) (by decide)).trans gsiz) ?_
  · intro p hp
    rcases List.mem_cons.mp hp with rfl | hp
    · exact .head _
    rcases List.mem_cons.mp hp with rfl | hp
    · exact .tail _ (.head _)
    rcases List.mem_cons.mp hp with rfl | hp
    · exact .tail _ (.tail _ (.tail _ (.head _)))
    rcases List.mem_cons.mp hp with rfl | hp
    · exact .tail _ (.tail _ (.head _))
    · exact .tail _ (.tail _ (.tail _ (.tail _ hp)))
  intro e5 n5e h5 tks5 t15 t25 F5 N5 goff5 gsiz5 gsame5 gel5
  rw [run_head _ hsz4] at goff5
  rw [run_len] at gsiz5
  -- appended
  refine wpAny_execs_cons ?_
  have subw : ∀ p ∈ (t, listOf [.ref c, .int i ti].toArray n1) :: (c, listOf vs.toArray n2) :: (li, listOf [].toArray nli) :: (d, dictOf e5 n5e) :: (x, instObj 138 d) :: (kd, listOf [].toArray 0) :: (I, io) :: (new ++ rest), p ∈ (t, listOf [.ref c, .int i ti].toArray n1) :: (c, listOf vs.toArray n2) :: (d, dictOf e5 n5e) :: (r4, listOf rs4.toArray nn4) :: R := by
    have toR : ∀ p ∈ R, p ∈ (t, listOf [.ref c, .int i ti].toArray n1) :: (c, listOf vs.toArray n2) :: (d, dictOf e5 n5e) :: (r4, listOf rs4.toArray nn4) :: R := fun p hp => .tail _ (.tail _ (.tail _ (.tail _ hp)))
    intro p hp
    rcases List.mem_cons.mp hp with rfl | hp
    · exact .head _
    rcases List.mem_cons.mp hp with rfl | hp
    · exact .tail _ (.head _)
    rcases List.mem_cons.mp hp with rfl | hp
    · exact toR _ (hR ▸ List.mem_append_right _ (.tail _ (.tail _ (.tail _ (.tail _ (.head _))))))
    rcases List.mem_cons.mp hp with rfl | hp
    · exact .tail _ (.tail _ (.head _))
    rcases List.mem_cons.mp hp with rfl | hp
    · exact toR _ (hR ▸ List.mem_append_right _ (.tail _ (.head _)))
    rcases List.mem_cons.mp hp with rfl | hp
    · exact toR _ (hR ▸ List.mem_append_right _ (.tail _ (.tail _ (.head _))))
    rcases List.mem_cons.mp hp with rfl | hp
    · exact toR _ (hR ▸ List.mem_append_right _ (.tail _ (.tail _ (.tail _ (.head _)))))
    rcases List.mem_append.mp hp with hp | hp
    · exact toR _ (hR ▸ List.mem_append_left _ hp)
    · exact toR _ (hR ▸ List.mem_append_right _ (.tail _ (.tail _ (.tail _ (.tail _ (.tail _ hp))))))
  have ap6 : Apart t c cA oc ((d, dictOf e5 n5e) :: (x, instObj 138 d) :: (kd, listOf [].toArray 0) :: (I, io) :: (new ++ rest)) :=
    ((((Apart.app ⟨fun q hq => (hr' q hq).1, fun q hq => (hr' q hq).2.1, hsub _ hcell⟩ fun q hq => ⟨(gnew q hq).1, (gnew q hq).2.1⟩).cons hIt.symm hIc.symm).cons gkt gkc).cons gxt gxc).cons gdt gdc
  have kdl : @Ne Nat d li := fun h => gd (li, _) (.tail _ (.head _)) h.symm
  have kxl : x ≠ li := fun h => gx (li, _) (.tail _ (.head _)) h.symm
  have kkl : @Ne Nat kd li := fun h => gkd (li, _) (.tail _ (.head _)) h.symm
  have off6 : ∀ q ∈ (d, dictOf e5 n5e) :: (x, instObj 138 d) :: (kd, listOf [].toArray 0) :: (I, io) :: (new ++ rest), q.1 ≠ li := by
    intro q hq
    rcases List.mem_cons.mp hq with rfl | hq
    · exact kdl
    rcases List.mem_cons.mp hq with rfl | hq
    · exact kxl
    rcases List.mem_cons.mp hq with rfl | hq
    · exact kkl
    rcases List.mem_cons.mp hq with rfl | hq
    · exact hIl.symm
    rcases List.mem_append.mp hq with hq | hq
    · exact gnl q hq
    · exact (hr' q hq).2.2
  refine item_6 (ti := ti) (n1 := n1) (n2 := n2) (nli := nli) (li := li) (x := x) (xvs := []) B F5 X T hd hu (News_sub N5 subw) htc ap6.1 ap6.2.1 hI hlen hlen2 hi hi2 ap6.2.2 hoc hlit1 hlic off6 ((e4 _ (by decide)).trans ((e1 _ (by decide)).trans ((e0 _ (by decide)).trans hlit))) ((e4 _ (by decide)).trans ((e1 _ (by decide)).trans q0)) (Nat.zero_le _) ?_
  intro n6 h6 tks6 F6 N6
  refine wpAny_execs_nil ?_
  have hnewI : ItemIn ((d, dictOf e5 n5e) :: (x, instObj 138 d) :: (new ++ rest)) x (parAt ([] : List Value) 0) (occAt cs 0) (b + ld 0) (sz 0) :=
    ⟨d, e5, n5e, ov, t15, t25, nmx, t3, .tail _ (.head _), .head _, (gsame5 _ (by decide) (by decide)).trans gpar3, (gsame5 _ (by decide) (by decide)).trans gocc3, hov3.mono (fun p hp => .tail _ (.tail _ (List.mem_append_left _ hp))), goff5, gsiz5, (gsame5 _ (by decide) (by decide)).trans ((gsame3 _ (by decide) (by decide)).trans gnam), gnml⟩
  refine ret _ _ m4 _ ((t, listOf [.ref c, .int i ti].toArray n1) :: (c, listOf vs.toArray n2) :: (li, listOf ([] ++ [Value.ref x]).toArray n6) :: (kd, listOf [].toArray 0) :: (d, dictOf e5 n5e) :: (x, instObj 138 d) :: (new ++ rest)) F6 ?_ N6 (by (intro p hp; (repeat (rcases List.mem_cons.mp hp with rfl | hp; (solve | (repeat (first | exact List.Mem.head _ | refine List.Mem.tail _ ?_))))); (repeat (first | exact hp | refine List.Mem.tail _ ?_)))) ?_ ⟨n6, _, kd, 0, _, rfl, ?_, ?_, ⟨gkt, gkc, kkl⟩, ?_, ?_, ?_⟩
  · intro z hz
    simp only [itemNames, List.contains_cons, List.contains_nil, Bool.or_eq_false_iff, beq_eq_false_iff_ne, Bool.or_false] at hz
    exact (e4 z hz.2.2).trans ((e1 z hz.2.1).trans (e0 z hz.1))
  · intro p hp
    rcases List.mem_cons.mp hp with rfl | hp
    · exact hIt
    rcases List.mem_cons.mp hp with rfl | hp
    · exact hIc
    rcases List.mem_cons.mp hp with rfl | hp
    · exact hIl
    rcases List.mem_cons.mp hp with rfl | hp
    · exact kk
    rcases List.mem_cons.mp hp with rfl | hp
    · exact kd1
    rcases List.mem_cons.mp hp with rfl | hp
    · exact kx
    rcases List.mem_append.mp hp with hp | hp
    · exact gnI p hp
    · exact hIr p hp
  · exact fun p hp => .tail _ (.tail _ (List.mem_append_right _ (hsub p hp)))
  · rfl
  · intro q hq
    rcases List.mem_cons.mp hq with rfl | hq
    · exact ⟨gdt, gdc, kdl, gdk⟩
    rcases List.mem_cons.mp hq with rfl | hq
    · exact ⟨gxt, gxc, kxl, gxk⟩
    rcases List.mem_append.mp hq with hq | hq
    · exact ⟨(gnew q hq).1, (gnew q hq).2.1, gnl q hq, gnk q hq⟩
    · exact ⟨(hr' q hq).1, (hr' q hq).2.1, (hr' q hq).2.2, gkd q (.tail _ (.tail _ hq))⟩
  · exact ItemsOk.step (rest := []) (xvs := []) (n := 0) (fun j hj => absurd hj (Nat.not_lt_zero _)) rfl (fun p hp => by cases hp) rfl hnewI
  · refine ⟨x, d, e5, n5e, ?_, .tail _ (.head _), .head _, (gsame5 _ (by decide) (by decide)).trans ((gsame3 _ (by decide) (by decide)).trans gkid), (gsame5 _ (by decide) (by decide)).trans ((gsame3 _ (by decide) (by decide)).trans gadd)⟩
    rfl
theorem item_turn_s {w : World} {p : Program} {loose : List Str} {mean : ExcName → Option Value} {mg mb : Str → Option Value}
  {dp un : Nat} {gd : Option (List Code)} {a : Addr} {ccd : Value} {A₀ : Around} {h₀ : Heap} {L cA t c : Addr} {m : Str → Option Value} {rest : List (Addr × Obj)} {s : Shared} {oc : Obj}
  {i : Int} {ti : Tok} {n1 n2 : Nat} {vs : List Value} {ns : List Int} {Q : Flow → Shared → Prop} {E : Value → Shared → Prop}
  (B : Below A₀ h₀ [] h₀) (F : Fr h₀ L s.heap m) (X : (Mine.hd.heap_39 w.params).In h₀) (T : Top p loose mean mg mb h₀) (hd : dp + 60 < recursionLimit) (hu : un + 300 < cLine)
  
  (htc : @Ne Nat t c) (hrt : ∀ q ∈ rest, q.1 ≠ t) (hrc : ∀ q ∈ rest, q.1 ≠ c) (hI : IntsAre vs ns) (hlen : 0 < ns.length) (hlen2 : ns.length ≤ 60) (hi : 0 ≤ i) (hi2 : i < 900) (hcell : (cA, oc) ∈ rest) (hoc : oc.data = .cell (some (.ref t)))
  {ll nl lm nm li nli I : Nat} {lvs mvs : List Value} {cs : List (Int × Int × Int)} {os : List (Int × List Int)} {b : Int} {tb tl : Tok} {ld : Nat → Int} {sz : Nat → Nat} {io : Obj} {k : Nat}
  (hlev : m "level" = some (.int (((k + 1) : Nat) : Int) tl)) (hlls : m "levels" = some (.ref ll)) (hll : (ll, listOf lvs.toArray nl) ∈ rest) (hlv : LevsIn rest lvs cs) (hl3 : lvs.length = 3)
  (hlm : m "memory" = some (.ref lm)) (hmm : (lm, listOf mvs.toArray nm) ∈ rest) (hmo : OctsIn rest mvs os) (hol : os.length ≤ 900)
  (hlit : m "items" = some (.ref li)) (hba : m "base" = some (.int b tb)) (hlit1 : @Ne Nat li t) (hlic : @Ne Nat li c) (hrli : ∀ q ∈ rest, q.1 ≠ li)
  (hsp : ∀ k : Nat, k < 3 → spotsUpto os k (onesUpto cs (k + 1)) os.length = run (ld k) (sz k)) (hsz : ∀ k, k < 3 → 0 < sz k)
  {xvs : List Value} {kp nk : Nat} {rest' : List (Addr × Obj)} (hk : k + 1 < 3) (hsub : ∀ p ∈ rest, p ∈ rest') (hxl : xvs.length = k + 1) (hkp : @Ne Nat kp t ∧ @Ne Nat kp c ∧ @Ne Nat kp li)
  (hr' : ∀ q ∈ rest', @Ne Nat q.1 t ∧ @Ne Nat q.1 c ∧ @Ne Nat q.1 li ∧ @Ne Nat q.1 kp) (hio : ItemsOk rest' cs b ld sz xvs (k + 1)) (hlast : LastOk rest' kp xvs[k]?)
  (hIn : ∀ p ∈ (t, listOf [.ref c, .int i ti].toArray n1) :: (c, listOf vs.toArray n2) :: (li, listOf xvs.toArray nli) :: (kp, listOf [].toArray nk) :: rest', p.1 ≠ I)
  (N : News h₀ L s.heap ((I, io) :: (t, listOf [.ref c, .int i ti].toArray n1) :: (c, listOf vs.toArray n2) :: (li, listOf xvs.toArray nli) :: (kp, listOf [].toArray nk) :: rest'))
  (ret : ∀ h' tks m' nw nx, Fr h₀ L h' m' → (∀ z : Str, itemNames.contains z = false → m' z = m z) → News h₀ L h' nw → (∀ p ∈ (I, io) :: nx, p ∈ nw) → (∀ p ∈ nx, p.1 ≠ I) →
    ItJ t c li (listOf [.ref c, .int i ti].toArray n1) (listOf vs.toArray n2) rest cs b ld sz ((k + 1) + 1) nx → Q .next { s with heap := h', toks := tks }) :
  wpAny (model PySem.Challenge.rw_pc0123_01.row.prog w) (ktrTop dp un gd "law" lawS L a ccd [("tape", cA)] []) (execs itemB (envX "law" lawS L a ccd [("tape", cA)])) Q E s := by
  have hIt : @Ne Nat t I := hIn (t, _) (.head _)
  have hIc : @Ne Nat c I := hIn (c, _) (.tail _ (.head _))
  have hIl : @Ne Nat li I := hIn (li, _) (.tail _ (.tail _ (.head _)))
  have hIr : ∀ p ∈ rest', p.1 ≠ I := fun p hp => hIn p (.tail _ (.tail _ (.tail _ (.tail _ hp))))
  have hIk : @Ne Nat kp I := hIn (kp, _) (.tail _ (.tail _ (.tail _ (.head _))))
  have ap0 : Apart t c cA oc ((I, io) :: (li, listOf xvs.toArray nli) :: (kp, listOf [].toArray nk) :: rest') :=
    Apart.cons (Apart.cons (Apart.cons ⟨fun q hq => (hr' q hq).1, fun q hq => (hr' q hq).2.1, hsub _ hcell⟩ hkp.1 hkp.2.1) hlit1 hlic) hIt.symm hIc.symm
  have up0 : ∀ p ∈ rest, p ∈ (I, io) :: (li, listOf xvs.toArray nli) :: (kp, listOf [].toArray nk) :: rest' := fun p hp => .tail _ (.tail _ (.tail _ (hsub p hp)))
  rw [itemB_eq]
  -- the item
  refine wpAny_execs_cons ?_
  refine item_0_any (ti := ti) (n1 := n1) (n2 := n2) (rest := (I, io) :: (li, listOf xvs.toArray nli) :: (kp, listOf [].toArray nk) :: rest') B F X T hd hu (News_sub N (by (intro p hp; (repeat (rcases List.mem_cons.mp hp with rfl | hp; (solve | (repeat (first | exact List.Mem.head _ | refine List.Mem.tail _ ?_))))); (repeat (first | exact hp | refine List.Mem.tail _ ?_))))) htc ap0.1 ap0.2.1 hI hlen hlen2 hi hi2 ap0.2.2 hoc hlev (by omega) ?_
  intro x d kd e ne h0 tks0 t1 t2 nmx t3 F0 N0 gpar gocc goff gsiz gnam gnml gkid gadd gel gne gx gd gkd
  obtain ⟨m0, F0, q0, e0⟩ := set_map F0
  obtain ⟨gxt, gxc, gdt, gdc, gkt, gkc, gxd, gxk, gdk⟩ := gne
  have ap1 := ((ap0.cons (o := listOf [].toArray 0) gkt gkc).cons (o := instObj 138 d) gxt gxc).cons (o := dictOf e ne) gdt gdc
  -- firsts
  refine wpAny_execs_cons ?_
  refine item_1 B F0 X T hd hu N0 htc ap1.1 ap1.2.1 hI hlen hlen2 hi hi2 ap1.2.2 hoc (k := (k + 1)) ((e0 _ (by decide)).trans hlev) (by omega) ((e0 _ (by decide)).trans hlls) (.tail _ (.tail _ (.tail _ (up0 _ hll)))) (hlv.mono fun p hp => .tail _ (.tail _ (.tail _ (up0 _ hp)))) hl3 ?_
  intro r1 rs1 nn1 h1 tks1 F1 N1 hI1 g1t g1c g1
  obtain ⟨m1, F1, q1, e1⟩ := set_map F1
  have hol1 := ones_len cs ((k + 1) + 1)
  have g1d : @Ne Nat r1 d := fun h => g1 (d, dictOf e ne) (.head _) h.symm
  have g1x : @Ne Nat r1 x := fun h => g1 (x, instObj 138 d) (.tail _ (.head _)) h.symm
  have ap2 : Apart t c cA oc ((r1, tupOf rs1 nn1) :: (x, instObj 138 d) :: (kd, listOf [].toArray 0) :: (I, io) :: (li, listOf xvs.toArray nli) :: (kp, listOf [].toArray nk) :: rest') := ((ap0.cons (o := listOf [].toArray 0) gkt gkc).cons (o := instObj 138 d) gxt gxc).cons g1t g1c
  have up2 : ∀ p ∈ rest, p ∈ (r1, tupOf rs1 nn1) :: (x, instObj 138 d) :: (kd, listOf [].toArray 0) :: (I, io) :: (li, listOf xvs.toArray nli) :: (kp, listOf [].toArray nk) :: rest' := fun p hp => .tail _ (.tail _ (.tail _ (up0 p hp)))
  have off2 : ∀ q ∈ (r1, tupOf rs1 nn1) :: (x, instObj 138 d) :: (kd, listOf [].toArray 0) :: (I, io) :: (li, listOf xvs.toArray nli) :: (kp, listOf [].toArray nk) :: rest', q.1 ≠ d := by
    intro q hq
    rcases List.mem_cons.mp hq with rfl | hq
    · exact g1d
    rcases List.mem_cons.mp hq with rfl | hq
    · exact gxd
    rcases List.mem_cons.mp hq with rfl | hq
    · exact gdk.symm
    · exact gd q hq
  -- its table
  refine wpAny_execs_cons ?_
  refine item_2 (ti := ti) (n1 := n1) (n2 := n2) (e := e) (ne := ne) (d := d) (x := x) B F1 X T hd hu (News_sub N1 (by (intro p hp; (repeat (rcases List.mem_cons.mp hp with rfl | hp; (solve | (repeat (first | exact List.Mem.head _ | refine List.Mem.tail _ ?_))))); (repeat (first | exact hp | refine List.Mem.tail _ ?_))))) htc ap2.1 ap2.2.1 hI hlen hlen2 hi hi2 ap2.2.2 hoc gdt gdc off2 (.tail _ (.head _)) ((e1 _ (by decide)).trans q0) (by omega) (k := (k + 1)) ((e1 _ (by decide)).trans ((e0 _ (by decide)).trans hlev)) (by omega) ((e1 _ (by decide)).trans ((e0 _ (by decide)).trans hlls)) (up2 _ hll) (hlv.mono up2) hl3 gocc ?_
  intro e2 n2e new h2 tks2 ov F2 N2 hov gocc2 gsame2 gel2 gnew
  have gnI : ∀ q ∈ new, @Ne Nat q.1 I := fun q hq h => (gnew q hq).2.2.2 (I, io) (.tail _ (.tail _ (.tail _ (.head _)))) h.symm
  have gnl : ∀ q ∈ new, @Ne Nat q.1 li := fun q hq h => (gnew q hq).2.2.2 (li, _) (.tail _ (.tail _ (.tail _ (.tail _ (.head _))))) h.symm
  have gnk : ∀ q ∈ new, @Ne Nat q.1 kd := fun q hq h => (gnew q hq).2.2.2 (kd, _) (.tail _ (.tail _ (.head _))) h.symm
  have kx : x ≠ I := fun h => gx (I, io) (.head _) h.symm
  have kd1 : @Ne Nat d I := fun h => gd (I, io) (.head _) h.symm
  have kk : @Ne Nat kd I := fun h => gkd (I, io) (.head _) h.symm
  have kpd : @Ne Nat kp d := gd (kp, _) (.tail _ (.tail _ (.head _)))
  have kpx : @Ne Nat kp x := gx (kp, _) (.tail _ (.tail _ (.head _)))
  have kpk : @Ne Nat kp kd := gkd (kp, _) (.tail _ (.tail _ (.head _)))
  have kp1 : @Ne Nat kp r1 := g1 (kp, _) (.tail _ (.tail _ (.tail _ (.tail _ (.tail _ (.head _))))))
  have kpn : ∀ q ∈ new, @Ne Nat q.1 kp := fun q hq h => (gnew q hq).2.2.2 (kp, listOf [].toArray nk) (.tail _ (.tail _ (.tail _ (.tail _ (.tail _ (.head _)))))) h.symm
  have apk : Apart t c cA oc ((r1, tupOf rs1 nn1) :: (x, instObj 138 d) :: (kd, listOf [].toArray 0) :: (I, io) :: (li, listOf xvs.toArray nli) :: rest') :=
    ((((Apart.cons ⟨fun q hq => (hr' q hq).1, fun q hq => (hr' q hq).2.1, hsub _ hcell⟩ hlit1 hlic).cons hIt.symm hIc.symm).cons gkt gkc).cons gxt gxc).cons g1t g1c
  have ap3 : Apart t c cA oc (new ++ (r1, tupOf rs1 nn1) :: (x, instObj 138 d) :: (kd, listOf [].toArray 0) :: (I, io) :: (li, listOf xvs.toArray nli) :: rest') := apk.app fun q hq => ⟨(gnew q hq).1, (gnew q hq).2.1⟩
  have off3 : ∀ q ∈ new ++ (r1, tupOf rs1 nn1) :: (x, instObj 138 d) :: (kd, listOf [].toArray 0) :: (I, io) :: (li, listOf xvs.toArray nli) :: rest', q.1 ≠ d := by
    intro q hq
    rcases List.mem_append.mp hq with hq | hq
    · exact (gnew q hq).2.2.1
    · refine off2 q ?_
      rcases List.mem_cons.mp hq with rfl | hq
      · exact .head _
      rcases List.mem_cons.mp hq with rfl | hq
      · exact .tail _ (.head _)
      rcases List.mem_cons.mp hq with rfl | hq
      · exact .tail _ (.tail _ (.head _))
      rcases List.mem_cons.mp hq with rfl | hq
      · exact .tail _ (.tail _ (.tail _ (.head _)))
      rcases List.mem_cons.mp hq with rfl | hq
      · exact .tail _ (.tail _ (.tail _ (.tail _ (.head _))))
      · exact .tail _ (.tail _ (.tail _ (.tail _ (.tail _ (.tail _ hq)))))
  have offk : ∀ q ∈ new ++ (r1, tupOf rs1 nn1) :: (x, instObj 138 d) :: (kd, listOf [].toArray 0) :: (I, io) :: (li, listOf xvs.toArray nli) :: rest', q.1 ≠ kp := by
    intro q hq
    rcases List.mem_append.mp hq with hq | hq
    · exact kpn q hq
    rcases List.mem_cons.mp hq with rfl | hq
    · exact kp1.symm
    rcases List.mem_cons.mp hq with rfl | hq
    · exact kpx.symm
    rcases List.mem_cons.mp hq with rfl | hq
    · exact kpk.symm
    rcases List.mem_cons.mp hq with rfl | hq
    · exact hIk.symm
    rcases List.mem_cons.mp hq with rfl | hq
    · exact hkp.2.2.symm
    · exact (hr' q hq).2.2.2
  have inx3 : (x, instObj 138 d) ∈ new ++ (r1, tupOf rs1 nn1) :: (x, instObj 138 d) :: (kd, listOf [].toArray 0) :: (I, io) :: (li, listOf xvs.toArray nli) :: rest' := List.mem_append_right _ (.tail _ (.head _))
  have inl3 : (li, listOf xvs.toArray nli) ∈ new ++ (r1, tupOf rs1 nn1) :: (x, instObj 138 d) :: (kd, listOf [].toArray 0) :: (I, io) :: (li, listOf xvs.toArray nli) :: rest' := List.mem_append_right _ (.tail _ (.tail _ (.tail _ (.tail _ (.head _)))))
  have upo : ∀ p ∈ rest', p ∈ new ++ (r1, tupOf rs1 nn1) :: (x, instObj 138 d) :: (kd, listOf [].toArray 0) :: (I, io) :: (li, listOf xvs.toArray nli) :: rest' := fun p hp => List.mem_append_right _ (.tail _ (.tail _ (.tail _ (.tail _ (.tail _ hp)))))
  obtain ⟨xp, dq, ep, np, hxp, hxi, hdp, hkd, had⟩ := hlast
  have hxp2 : xvs[k + 1 - 1]? = some (.ref xp) := by simpa using hxp
  -- its parent
  refine wpAny_execs_cons ?_
  refine item_3 (ti := ti) (n1 := n1) (n2 := n2) (e := e2) (ne := n2e) (d := d) (x := x) (kp := kp) (kvs := []) (nk := nk) B F2 X T hd hu (News_sub N2 ?_) htc ap3.1 ap3.2.1 hI hlen hlen2 hi hi2 ap3.2.2 hoc gdt gdc off3 inx3 ((e1 _ (by decide)).trans q0) (by omega) (k := k + 1) ((e1 _ (by decide)).trans ((e0 _ (by decide)).trans hlev)) hk (Nat.succ_pos _) ((e1 _ (by decide)).trans ((e0 _ (by decide)).trans hlit)) inl3 hxp2 (upo _ hxi) (upo _ hdp) hkd had ((gsame2 _ (by decide)).trans gpar) hkp.1 hkp.2.1 kpd offk (Nat.zero_le _) ?_
  · intro p hp
    rcases List.mem_cons.mp hp with rfl | hp
    · exact .head _
    rcases List.mem_cons.mp hp with rfl | hp
    · exact .tail _ (.head _)
    rcases List.mem_cons.mp hp with rfl | hp
    · exact .tail _ (.tail _ (.head _))
    refine .tail _ (.tail _ (.tail _ ?_))
    rcases List.mem_cons.mp hp with rfl | hp
    · exact List.mem_append_right _ (.tail _ (.tail _ (.tail _ (.tail _ (.tail _ (.head _))))))
    rcases List.mem_append.mp hp with hp | hp
    · exact List.mem_append_left _ hp
    refine List.mem_append_right _ ?_
    rcases List.mem_cons.mp hp with rfl | hp
    · exact .head _
    rcases List.mem_cons.mp hp with rfl | hp
    · exact .tail _ (.head _)
    rcases List.mem_cons.mp hp with rfl | hp
    · exact .tail _ (.tail _ (.head _))
    rcases List.mem_cons.mp hp with rfl | hp
    · exact .tail _ (.tail _ (.tail _ (.head _)))
    rcases List.mem_cons.mp hp with rfl | hp
    · exact .tail _ (.tail _ (.tail _ (.tail _ (.head _))))
    · exact .tail _ (.tail _ (.tail _ (.tail _ (.tail _ (.tail _ hp)))))
  intro e3 n3e ok h3 tks3 F3 N3 gpar3x gsame3x gel3x
  have gsame3 : ∀ y : Str, y ≠ "occurs" → y ≠ "parent" → getL y e3 = getL y e := fun y h h' => (gsame3x y h').trans (gsame2 y h)
  have gocc3 := (gsame3x "occurs" (by decide)).trans gocc2
  have gpar3 : getL "parent" e3 = some (some (parAt xvs (k + 1))) := by
    rw [gpar3x]
    simp only [parAt, List.getD_eq_getElem?_getD]
    rw [hxp]
    rfl
  have gel3 : e3.length ≤ 50 := by omega
  have hov3 : OccIn new ov (occAt cs (k + 1)) := hov
  generalize hR : new ++ (r1, tupOf rs1 nn1) :: (x, instObj 138 d) :: (kd, listOf [].toArray 0) :: (I, io) :: (li, listOf xvs.toArray nli) :: rest' = R at N3 ap3 off3 inx3 inl3 upo offk
  have upR : ∀ p ∈ rest', p ∈ (kp, ok) :: R := by
    intro p hp
    refine .tail _ ?_
    rw [← hR]
    exact List.mem_append_right _ (.tail _ (.tail _ (.tail _ (.tail _ (.tail _ hp)))))
  have inRx : (x, instObj 138 d) ∈ (kp, ok) :: R := .tail _ inx3
  have apR : Apart t c cA oc ((kp, ok) :: R) := ap3.cons hkp.1 hkp.2.1
  have apRd := apR.cons (o := dictOf e3 n3e) gdt gdc
  have offR : ∀ q ∈ (kp, ok) :: R, q.1 ≠ d := by
    intro q hq; rcases List.mem_cons.mp hq with rfl | hq; (exact kpd); (exact off3 q hq)
  have in1 : (r1, tupOf rs1 nn1) ∈ (kp, ok) :: R := by
    refine .tail _ ?_
    rw [← hR]
    exact List.mem_append_right _ (.head _)
  -- its octets
  refine wpAny_execs_cons ?_
  refine item_4 (k := (k + 1)) B F3 X T hd hu N3 htc apRd.1 apRd.2.1 hI hlen hlen2 hi hi2 apRd.2.2 hoc ((e1 _ (by decide)).trans ((e0 _ (by decide)).trans hlev)) q1 ((e1 _ (by decide)).trans ((e0 _ (by decide)).trans hlm)) (.tail _ in1) hI1 (by omega) (.tail _ (upR _ (hsub _ hmm))) (hmo.mono fun p hp => .tail _ (upR _ (hsub _ hp))) (by omega) ?_
  intro r4 rs4 nn4 h4 tks4 F4 N4 hI4 g4t g4c g4
  rw [hsp (k + 1) (by omega)] at hI4
  obtain ⟨m4, F4, q4, e4⟩ := set_map F4
  have g4d : @Ne Nat r4 d := fun h => g4 (d, dictOf e3 n3e) (.head _) h.symm
  have ap4 := apR.cons (o := listOf rs4.toArray nn4) g4t g4c
  have off4 : ∀ q ∈ (r4, listOf rs4.toArray nn4) :: (kp, ok) :: R, q.1 ≠ d := by
    intro q hq
    rcases List.mem_cons.mp hq with rfl | hq
    · exact g4d
    · exact offR q hq
  have hsz4 := hsz (k + 1) (by omega)
  have hsl4 : sz (k + 1) ≤ os.length := by
    rw [← run_len (ld (k + 1)) (sz (k + 1)), ← hsp (k + 1) (by omega)]
    exact spotsUpto_len _ _ _ _
  -- where it lies
  refine wpAny_execs_cons ?_
  refine item_5 (ti := ti) (n1 := n1) (n2 := n2) (d := d) (x := x) (e := e3) (ne := n3e) B F4 X T hd hu (News_sub N4 ?_) htc ap4.1 ap4.2.1 hI hlen hlen2 hi hi2 ap4.2.2 hoc gdt gdc off4 (.tail _ inRx) ((e4 _ (by decide)).trans ((e1 _ (by decide)).trans q0)) (by omega) ((e4 _ (by decide)).trans ((e1 _ (by decide)).trans ((e0 _ (by decide)).trans hba))) q4 (List.Mem.head _) hI4 (by rw [run_len]; omega) (by rw [run_len]; omega) ((gsame3 _ (by decide) (by decide)).trans goff) ((gsame3 _ (by decide) (by decide)).trans gsiz) ?_
  · intro p hp
    rcases List.mem_cons.mp hp with rfl | hp
    · exact .head _
    rcases List.mem_cons.mp hp with rfl | hp
    · exact .tail _ (.head _)
    rcases List.mem_cons.mp hp with rfl | hp
    · exact .tail _ (.tail _ (.tail _ (.head _)))
    rcases List.mem_cons.mp hp with rfl | hp
    · exact .tail _ (.tail _ (.head _))
    · exact .tail _ (.tail _ (.tail _ (.tail _ hp)))
  intro e5 n5e h5 tks5 t15 t25 F5 N5 goff5 gsiz5 gsame5 gel5
  rw [run_head _ hsz4] at goff5
  rw [run_len] at gsiz5
  -- appended
  refine wpAny_execs_cons ?_
  have subw : ∀ p ∈ (t, listOf [.ref c, .int i ti].toArray n1) :: (c, listOf vs.toArray n2) :: (li, listOf xvs.toArray nli) :: (d, dictOf e5 n5e) :: (x, instObj 138 d) :: (kd, listOf [].toArray 0) :: (I, io) :: (new ++ rest'), p ∈ (t, listOf [.ref c, .int i ti].toArray n1) :: (c, listOf vs.toArray n2) :: (d, dictOf e5 n5e) :: (r4, listOf rs4.toArray nn4) :: (kp, ok) :: R := by
    have toR : ∀ p ∈ R, p ∈ (t, listOf [.ref c, .int i ti].toArray n1) :: (c, listOf vs.toArray n2) :: (d, dictOf e5 n5e) :: (r4, listOf rs4.toArray nn4) :: (kp, ok) :: R := fun p hp => .tail _ (.tail _ (.tail _ (.tail _ (.tail _ hp))))
    intro p hp
    rcases List.mem_cons.mp hp with rfl | hp
    · exact .head _
    rcases List.mem_cons.mp hp with rfl | hp
    · exact .tail _ (.head _)
    rcases List.mem_cons.mp hp with rfl | hp
    · exact toR _ (hR ▸ List.mem_append_right _ (.tail _ (.tail _ (.tail _ (.tail _ (.head _))))))
    rcases List.mem_cons.mp hp with rfl | hp
    · exact .tail _ (.tail _ (.head _))
    rcases List.mem_cons.mp hp with rfl | hp
    · exact toR _ (hR ▸ List.mem_append_right _ (.tail _ (.head _)))
    rcases List.mem_cons.mp hp with rfl | hp
    · exact toR _ (hR ▸ List.mem_append_right _ (.tail _ (.tail _ (.head _))))
    rcases List.mem_cons.mp hp with rfl | hp
    · exact toR _ (hR ▸ List.mem_append_right _ (.tail _ (.tail _ (.tail _ (.head _)))))
    rcases List.mem_append.mp hp with hp | hp
    · exact toR _ (hR ▸ List.mem_append_left _ hp)
    · exact toR _ (hR ▸ List.mem_append_right _ (.tail _ (.tail _ (.tail _ (.tail _ (.tail _ hp))))))
  have ap6 : Apart t c cA oc ((d, dictOf e5 n5e) :: (x, instObj 138 d) :: (kd, listOf [].toArray 0) :: (I, io) :: (new ++ rest')) :=
    ((((Apart.app ⟨fun q hq => (hr' q hq).1, fun q hq => (hr' q hq).2.1, hsub _ hcell⟩ fun q hq => ⟨(gnew q hq).1, (gnew q hq).2.1⟩).cons hIt.symm hIc.symm).cons gkt gkc).cons gxt gxc).cons gdt gdc
  have kdl : @Ne Nat d li := fun h => gd (li, _) (.tail _ (.head _)) h.symm
  have kxl : x ≠ li := fun h => gx (li, _) (.tail _ (.head _)) h.symm
  have kkl : @Ne Nat kd li := fun h => gkd (li, _) (.tail _ (.head _)) h.symm
  have off6 : ∀ q ∈ (d, dictOf e5 n5e) :: (x, instObj 138 d) :: (kd, listOf [].toArray 0) :: (I, io) :: (new ++ rest'), q.1 ≠ li := by
    intro q hq
    rcases List.mem_cons.mp hq with rfl | hq
    · exact kdl
    rcases List.mem_cons.mp hq with rfl | hq
    · exact kxl
    rcases List.mem_cons.mp hq with rfl | hq
    · exact kkl
    rcases List.mem_cons.mp hq with rfl | hq
    · exact hIl.symm
    rcases List.mem_append.mp hq with hq | hq
    · exact gnl q hq
    · exact (hr' q hq).2.2.1
  refine item_6 (ti := ti) (n1 := n1) (n2 := n2) (nli := nli) (li := li) (x := x) (xvs := xvs) B F5 X T hd hu (News_sub N5 subw) htc ap6.1 ap6.2.1 hI hlen hlen2 hi hi2 ap6.2.2 hoc hlit1 hlic off6 ((e4 _ (by decide)).trans ((e1 _ (by decide)).trans ((e0 _ (by decide)).trans hlit))) ((e4 _ (by decide)).trans ((e1 _ (by decide)).trans q0)) (by omega) ?_
  intro n6 h6 tks6 F6 N6
  refine wpAny_execs_nil ?_
  have hnewI : ItemIn ((d, dictOf e5 n5e) :: (x, instObj 138 d) :: (new ++ rest')) x (parAt xvs (k + 1)) (occAt cs (k + 1)) (b + ld (k + 1)) (sz (k + 1)) :=
    ⟨d, e5, n5e, ov, t15, t25, nmx, t3, .tail _ (.head _), .head _, (gsame5 _ (by decide) (by decide)).trans gpar3, (gsame5 _ (by decide) (by decide)).trans gocc3, hov3.mono (fun p hp => .tail _ (.tail _ (List.mem_append_left _ hp))), goff5, gsiz5, (gsame5 _ (by decide) (by decide)).trans ((gsame3 _ (by decide) (by decide)).trans gnam), gnml⟩
  refine ret _ _ m4 _ ((t, listOf [.ref c, .int i ti].toArray n1) :: (c, listOf vs.toArray n2) :: (li, listOf (xvs ++ [Value.ref x]).toArray n6) :: (kd, listOf [].toArray 0) :: (d, dictOf e5 n5e) :: (x, instObj 138 d) :: (new ++ rest')) F6 ?_ N6 (by (intro p hp; (repeat (rcases List.mem_cons.mp hp with rfl | hp; (solve | (repeat (first | exact List.Mem.head _ | refine List.Mem.tail _ ?_))))); (repeat (first | exact hp | refine List.Mem.tail _ ?_)))) ?_ ⟨n6, _, kd, 0, _, rfl, ?_, ?_, ⟨gkt, gkc, kkl⟩, ?_, ?_, ?_⟩
  · intro z hz
    simp only [itemNames, List.contains_cons, List.contains_nil, Bool.or_eq_false_iff, beq_eq_false_iff_ne, Bool.or_false] at hz
    exact (e4 z hz.2.2).trans ((e1 z hz.2.1).trans (e0 z hz.1))
  · intro p hp
    rcases List.mem_cons.mp hp with rfl | hp
    · exact hIt
    rcases List.mem_cons.mp hp with rfl | hp
    · exact hIc
    rcases List.mem_cons.mp hp with rfl | hp
    · exact hIl
    rcases List.mem_cons.mp hp with rfl | hp
    · exact kk
    rcases List.mem_cons.mp hp with rfl | hp
    · exact kd1
    rcases List.mem_cons.mp hp with rfl | hp
    · exact kx
    rcases List.mem_append.mp hp with hp | hp
    · exact gnI p hp
    · exact hIr p hp
  · exact fun p hp => .tail _ (.tail _ (List.mem_append_right _ (hsub p hp)))
  · rw [List.length_append, hxl]; rfl
  · intro q hq
    rcases List.mem_cons.mp hq with rfl | hq
    · exact ⟨gdt, gdc, kdl, gdk⟩
    rcases List.mem_cons.mp hq with rfl | hq
    · exact ⟨gxt, gxc, kxl, gxk⟩
    rcases List.mem_append.mp hq with hq | hq
    · exact ⟨(gnew q hq).1, (gnew q hq).2.1, gnl q hq, gnk q hq⟩
    · exact ⟨(hr' q hq).1, (hr' q hq).2.1, (hr' q hq).2.2.1, gkd q (.tail _ (.tail _ (.tail _ hq)))⟩
  · exact hio.step hxl (fun p hp => .tail _ (.tail _ (List.mem_append_right _ hp))) rfl hnewI
  · refine ⟨x, d, e5, n5e, ?_, .tail _ (.head _), .head _, (gsame5 _ (by decide) (by decide)).trans ((gsame3 _ (by decide) (by decide)).trans gkid), (gsame5 _ (by decide) (by decide)).trans ((gsame3 _ (by decide) (by decide)).trans gadd)⟩
    rw [← hxl, List.getElem?_append_right (Nat.le_refl _)]; simp
end
section
theorem ext_42 : True := by
  w_top off
  k_with_none
  k_with "own room" => ktr_room
  k_with "own all" => (first
      | assumption
      | exact ne_of_lts (by with_reducible assumption)
      | exact ne_of_all (And.right (by with_reducible assumption))
      | exact ne_of_all (And.right (And.right (by with_reducible assumption)))
      | exact ne_of_all (And.right (And.right (And.right (by with_reducible assumption))))
      | exact ne_of_all (And.right (And.right (And.right (And.right (by with_reducible assumption)))))
      | exact ne_of_all (And.right (And.right (And.right (And.right (And.right (by with_reducible assumption))))))
      | exact ne_of_all (And.right (And.right (And.right (And.right (And.right (And.right (by with_reducible assumption)))))))
      | exact ne_of_all (And.right (And.right (And.right (And.right (And.right (And.right (And.right (by with_reducible assumption)))))))))
  k_with "own sub" => (first
      | (refine' Drop.head ?zzqh; (case zzqh => k_all))
      | (refine' Drop.tail (Or.inr ?zzqa) ?zzqb; (case zzqa => k_cls); (case zzqb => lcg_sub))
      | (refine' Drop.tail (Or.inl ?zzqa) ?zzqb; (case zzqa => k_ne); (case zzqb => lcg_sub)))
  k_with "UnrEnd" => (k_dflt (refine' unr_end ?zzF ?zzN ?zzD ?_; (case zzF => k_asm); (case zzN => k_asm); (case zzD => lcg_sub)))
  k_with "own get" => assumption
  k_with "own mem" => (refine memN ?_; ktr_member)
  k_with "own off" => (first | (with_reducible assumption) | (simp only [LCg.Off3, and_true]; with_reducible assumption))
  k_with "CompEnd" => (refine LCg.CompEnd.intro (by k_asm) (by k_asm) _ (fun _ hp => hp) ?zzoff ?zzsrc ?_; (case zzoff => lcg_off); (case zzsrc => lcg_src))
  k_with "own enter" => (first
      | ktr_enter
      | (refine' code_def ?zzk1 ?zzk2 ?zzk3 ?zzk4 ?zzk5 ?zzkA ?zzkF ?zzkK ?zzk6 ?zzk7 ?zzk8 ?zzk9 ?zzkB ?_ ?zzc2 ?zzc3 ?zzc4 ?zzc5; (case zzkA => exact rfl); (case zzkF => exact rfl); (case zzkK => first | exact rfl | assumption); (case zzk1 => k_asm); (case zzk2 => k_asm); (case zzk3 => k_asm); (case zzk4 => k_asm); (case zzk5 => k_asm); (case zzk6 => k_is); (case zzk7 => k_is); (case zzk8 => ktr_room); (case zzk9 => first | exact BindsTo.of_eq rfl | exact binds_K (by k_in) rfl (by k_is) rfl rfl rfl); (case zzc5 => decide); (case zzkB => exact locs rfl); (case zzc2 => exact rfl); (case zzc3 => exact rfl); (case zzc4 => exact rfl); k_whole; intro zg' zL' zh' zFG' zF' zN' zB' zX' zT'; (try dsimp only); (try k_lift zB'); (try k_fold))
      | (refine' code_defC ?zzk1 ?zzk2 ?zzk3 ?zzk4 ?zzk5 ?zzkA ?zzkF ?zzkK ?zzk6 ?zzk7 ?zzk8 ?zzk9 ?zzkB ?zzkD ?_ ?zzc2 ?zzc3 ?zzc4; (case zzkA => exact rfl); (case zzkF => exact rfl); (case zzkK => first | exact rfl | assumption); (case zzk1 => k_asm); (case zzk2 => k_asm); (case zzk3 => k_asm); (case zzk4 => k_asm); (case zzk5 => k_asm); (case zzk6 => k_is); (case zzk7 => k_is); (case zzk8 => ktr_room); (case zzk9 => exact BindsTo.of_eq rfl); (case zzkB => exact rfl); (case zzkD => decide +kernel); (case zzc2 => exact rfl); (case zzc3 => exact rfl); (case zzc4 => exact rfl); k_whole; intro zg' zL' zh' ztk' zcells' zFG' zF' zN' zY' zB' zX' zT' zl1; (try k_lt zl1); k_cells zY'; (try simp only [List.cons_append, List.nil_append] at zN'); (try dsimp only); (try k_lift zB'); (try k_fold)))
  k_with "call builtin:len" => (k_here; (with_reducible show wpAny _ _ (call (Value.builtin "len") [Value.ref _]) _ _ _); k_dflt (first
      | (refine' len_led ?zzN ?zzm ?zzk ?zzf ?_; (case zzN => k_asm); (case zzm => k_mem); (case zzk => assumption); (case zzf => omega); k_whole)))
  k_with "compareOp NotEq ref ref" => (k_here; k_dflt (first
      | (refine' ne_lists ?zzN ?zza ?zzb ?zzi ?zzj ?zzu ?_; (case zzN => k_asm); (case zza => k_mem); (case zzb => k_mem); (case zzi => first | assumption | exact .nil); (case zzj => first | assumption | exact .nil); (case zzu => exact hu_up4 (by assumption)); k_whole)
      | (refine' ne_tups ?zzN ?zza ?zzb ?zzi ?zzj ?zzu ?_; (case zzN => k_asm); (case zza => k_mem); (case zzb => k_mem); (case zzi => exact .cons _ _ (.cons _ _ .nil)); (case zzj => exact .cons _ _ (.cons _ _ .nil)); (case zzu => exact hu_up4 (by assumption)); k_whole)))
  k_with "compareOp Eq ref ref" => (k_here; k_dflt (refine' eq_lists ?zzN ?zza ?zzb ?zzi ?zzj ?zzu ?_; (case zzN => k_asm); (case zza => k_mem); (case zzb => k_mem); (case zzi => first | assumption | exact .nil); (case zzj => first | assumption | exact .nil); (case zzu => exact hu_up4 (by assumption)); k_whole))
  k_with "eval Name" => (k_here; k_dflt (refine' nameX_L ?zzF ?zzv ?_ ?zza ?zzb; (case zzF => k_asm); (case zzv => first | assumption | (dsimp only; rw [if_neg (by decide)]; assumption) | (dsimp only; rw [if_neg (by decide), if_neg (by decide)]; assumption)); (case zza => rfl); (case zzb => rfl); k_whole))
  k_with "call ref" => ((with_reducible show wpAny _ _ (call (Value.ref 168) _) _ _ _); (refine held ?_))
  k_with "call ref" => ((with_reducible show wpAny _ _ (call (Value.ref 175) _) _ _ _); (refine held ?_))
  k_with "call ref" => ((with_reducible show wpAny _ _ (call (Value.ref 180) _) _ _ _); (refine held ?_))
  k_with "call ref" => ((with_reducible show wpAny _ _ (call (Value.ref 187) _) _ _ _); (refine held ?_))
  k_with "pyIter ref" => (refine held ?_)
  trivial
theorem for5 : ∃ p1 p2 p3 p4 p5, nthS lawB 5 = Stmt.For (.Name "level" p1) (.Call (.Name "range" p2) [.Constant (.int 3) 0 p3] [] p4) itemB [] p5 := ⟨_, _, _, _, _, by with_unfolding_all rfl⟩
theorem ints_zero (j : Nat) (t : Tok) : (some (Value.int (0 + (j : Int)) t)) = some (Value.int (j : Int) t) := by rw [Int.zero_add]
theorem law_5 {w : World} {p : Program} {loose : List Str} {mean : ExcName → Option Value} {mg mb : Str → Option Value}
  {dp un : Nat} {gd : Option (List Code)} {a : Addr} {ccd : Value} {A₀ : Around} {h₀ : Heap} {L cA t c : Addr} {m : Str → Option Value} {rest : List (Addr × Obj)} {s : Shared} {oc : Obj}
  {i : Int} {ti : Tok} {n1 n2 li nli : Nat} {vs : List Value} {ns : List Int} {Q : Flow → Shared → Prop} {E : Value → Shared → Prop}
  (B : Below A₀ h₀ [] h₀) (F : Fr h₀ L s.heap m) (X : (Mine.hd.heap_39 w.params).In h₀) (T : Top p loose mean mg mb h₀) (hd : dp + 60 < recursionLimit) (hu : un + 300 < cLine)
  (N : News h₀ L s.heap ((t, listOf [.ref c, .int i ti].toArray n1) :: (c, listOf vs.toArray n2) :: (li, listOf [].toArray nli) :: rest))
  (htc : @Ne Nat t c) (hrt : ∀ q ∈ rest, q.1 ≠ t) (hrc : ∀ q ∈ rest, q.1 ≠ c) (hI : IntsAre vs ns) (hlen : 0 < ns.length) (hlen2 : ns.length ≤ 60) (hi : 0 ≤ i) (hi2 : i < 900) (hcell : (cA, oc) ∈ rest) (hoc : oc.data = .cell (some (.ref t)))
  {ll nl lm nm : Nat} {lvs mvs : List Value} {cs : List (Int × Int × Int)} {os : List (Int × List Int)} {b : Int} {tb : Tok} {ld : Nat → Int} {sz : Nat → Nat}
  (hlls : m "levels" = some (.ref ll)) (hll : (ll, listOf lvs.toArray nl) ∈ rest) (hlv : LevsIn rest lvs cs) (hl3 : lvs.length = 3)
  (hlm : m "memory" = some (.ref lm)) (hmm : (lm, listOf mvs.toArray nm) ∈ rest) (hmo : OctsIn rest mvs os) (hol : os.length ≤ 900)
  (hlit : m "items" = some (.ref li)) (hba : m "base" = some (.int b tb)) (hlit1 : @Ne Nat li t) (hlic : @Ne Nat li c) (hrli : ∀ q ∈ rest, q.1 ≠ li)
  (hsp : ∀ k : Nat, k < 3 → spotsUpto os k (onesUpto cs (k + 1)) os.length = run (ld k) (sz k)) (hsz : ∀ k, k < 3 → 0 < sz k)
  (ret : ∀ h' tks m' nx, Fr h₀ L h' m' → (∀ z : Str, z ≠ "level" → itemNames.contains z = false → m' z = m z) → News h₀ L h' nx →
    ItJ t c li (listOf [.ref c, .int i ti].toArray n1) (listOf vs.toArray n2) rest cs b ld sz 3 nx → Q .next { s with heap := h', toks := tks }) :
  wpAny (model PySem.Challenge.rw_pc0123_01.row.prog w) (ktrTop dp un gd "law" lawS L a ccd [("tape", cA)] []) (exec (nthS lawB 5) (envX "law" lawS L a ccd [("tape", cA)])) Q (fun _ _ => False) s := by
  obtain ⟨p1, p2, p3, p4, p5, e5⟩ := for5
  rw [e5]
  clear e5
  k_dflt (with_unfolding_all refine' For_invVF F ?k1 ?k2 ?_; (case k1 => exact rfl); (case k2 => exact rfl); k_whole)
  k_steps
  refine unheld ?_
  refine' acc_loop (n := 3) "level" "base" itemNames (fun j v nx => v = .int b tb ∧ ItJ t c li (listOf [.ref c, .int i ti].toArray n1) (listOf vs.toArray n2) rest cs b ld sz j nx) ?xa ?hh ?hr ?hb ?hn ?F ?N ?h0 ?hj ?turn ?done
  case xa => decide
  case hh => rfl
  case hr => assumption
  case hb => exact (rfl : (3 : Int) = ((3 : Nat) : Int))
  case hn => decide
  case F => k_asm
  case N => exact News_sub (news' := (t, listOf [.ref c, .int i ti].toArray n1) :: (c, listOf vs.toArray n2) :: (li, listOf [].toArray nli) :: rest) (by k_asm) (by (intro p hp; (repeat (rcases List.mem_cons.mp hp with rfl | hp; (solve | (repeat (first | exact List.Mem.head _ | refine List.Mem.tail _ ?_))))); (repeat (first | exact hp | refine List.Mem.tail _ ?_))))
  case h0 => exact hba
  case hj => exact ⟨rfl, nli, rfl⟩
  case turn =>
    intro I j tj v m₁ nx h tk hj hoff hJ F₁ N₁
    obtain ⟨rfl, hJ⟩ := hJ
    have nm : ∀ z : Str, z ≠ "level" → z ≠ "base" → itemNames.contains z = false → ∀ v1 v2 v3 v4 : Option Value, (if z = "level" then v1 else if z = "base" then v2 else if itemNames.contains z then v3 else v4) = v4 := by
      intro z z1 z2 z3 v1 v2 v3 v4
      rw [if_neg z1, if_neg z2, if_neg (by rw [z3]; decide)]
    have keep : ∀ m' : Str → Option Value, (∀ z : Str, itemNames.contains z = false → m' z = (if z = "level" then some (Value.int (0 + (j : Int)) tj) else if z = "base" then some (.int b tb) else if itemNames.contains z then m₁ z else m z)) →
        m' "base" = some (.int b tb) ∧ ∀ z : Str, z ≠ "level" → z ≠ "base" → itemNames.contains z = false → m' z = m z :=
      fun m' k' => ⟨(k' _ (by decide)).trans ((if_neg (by decide)).trans (if_pos rfl)), fun z z1 z2 z3 => (k' z z3).trans (nm z z1 z2 z3 _ _ _ _)⟩
    rcases j with _ | k
    · obtain ⟨nlj, hnx⟩ := hJ
      subst hnx
      refine item_turn_0 (I := I) B F₁ X T hd hu htc hrt hrc hI hlen hlen2 hi hi2 hcell hoc ((if_pos rfl).trans (ints_zero _ _)) ((nm _ (by decide) (by decide) (by decide) _ _ _ _).trans hlls) hll hlv hl3 ((nm _ (by decide) (by decide) (by decide) _ _ _ _).trans hlm) hmm hmo hol ((nm _ (by decide) (by decide) (by decide) _ _ _ _).trans hlit) ((if_neg (by decide)).trans (if_pos rfl)) hlit1 hlic hrli hsp hsz hoff N₁ ?_
      intro h' tks m' nw nx F' k' N' sub off hJ'
      exact UnrEnd.intro F' N' nx sub off ⟨⟨_, (keep m' k').1, rfl, hJ'⟩, (keep m' k').2⟩
    · obtain ⟨nlj, xvs, kp, nk, rest', hnx, hsub, hxl, hkp, hr', hio, hlast⟩ := hJ
      subst hnx
      refine item_turn_s (I := I) (k := k) B F₁ X T hd hu htc hrt hrc hI hlen hlen2 hi hi2 hcell hoc ((if_pos rfl).trans (ints_zero _ _)) ((nm _ (by decide) (by decide) (by decide) _ _ _ _).trans hlls) hll hlv hl3 ((nm _ (by decide) (by decide) (by decide) _ _ _ _).trans hlm) hmm hmo hol ((nm _ (by decide) (by decide) (by decide) _ _ _ _).trans hlit) ((if_neg (by decide)).trans (if_pos rfl)) hlit1 hlic hrli hsp hsz hj hsub hxl hkp hr' hio hlast hoff N₁ ?_
      intro h' tks m' nw nx F' k' N' sub off hJ'
      exact UnrEnd.intro F' N' nx sub off ⟨⟨_, (keep m' k').1, rfl, hJ'⟩, (keep m' k').2⟩
  case done =>
    intro v m₁ nx h tk hJ F₁ N₁
    obtain ⟨rfl, hJ⟩ := hJ
    k_steps
    refine ret _ _ _ _ F₁ ?_ N₁ hJ
    intro z z1 z2
    rw [if_neg z1]
    by_cases z3 : z = "base"
    · rw [if_pos z3, z3, hba]
    · rw [if_neg z3, if_neg (by rw [z2]; decide)]
end
section
/-- an item and those above it -/
noncomputable def lineAt (cs : List (Int × Int × Int)) (sz : Nat → Nat) : Nat → List (Option Int × Int)
  | 0 => [(occAt cs 0, (sz 0 : Int))]
  | k + 1 => (occAt cs (k + 1), (sz (k + 1) : Int)) :: lineAt cs sz k
theorem lineAt_len (cs : List (Int × Int × Int)) (sz : Nat → Nat) : ∀ k, (lineAt cs sz k).length = k + 1
  | 0 => rfl
  | k + 1 => by rw [lineAt, List.length_cons, lineAt_len cs sz k]
theorem lineAt_ne (cs : List (Int × Int × Int)) (sz : Nat → Nat) : ∀ k, ∃ q r, lineAt cs sz k = q :: r
  | 0 => ⟨_, _, rfl⟩
  | k + 1 => ⟨_, _, rfl⟩
theorem lineAt_bd {cs : List (Int × Int × Int)} {sz : Nat → Nat} : ∀ {k}, k < 3 → (∀ k, k < 3 → sz k < 1000) → ∀ q ∈ lineAt cs sz k, -1000 < q.2 ∧ q.2 < 1000
  | 0, h, hz, q, hq => by
    rcases List.mem_singleton.mp hq with rfl
    have := hz 0 h
    dsimp only
    omega
  | k + 1, h, hz, q, hq => by
    rcases List.mem_cons.mp hq with rfl | hq
    · have := hz (k + 1) h
      dsimp only
      omega
    · exact lineAt_bd (by omega) hz q hq
theorem lineAt_in {rest : List (Addr × Obj)} {cs : List (Int × Int × Int)} {b : Int} {ld : Nat → Int} {sz : Nat → Nat} {xvs : List Value} {n : Nat} (h : ItemsOk rest cs b ld sz xvs n) : ∀ {k x}, k < n → xvs[k]? = some (.ref x) → LineIn rest x (lineAt cs sz k)
  | 0, x, hk, hx => by
    obtain ⟨y, h1, h2⟩ := h 0 hk
    have e : x = y := by rw [hx] at h1; exact Value.ref.inj (Option.some.inj h1)
    subst e
    exact ⟨_, h2⟩
  | k + 1, x, hk, hx => by
    obtain ⟨y, h1, h2⟩ := h (k + 1) hk
    have e : x = y := by rw [hx] at h1; exact Value.ref.inj (Option.some.inj h1)
    subst e
    obtain ⟨z, h3, _⟩ := h k (by omega)
    have hl := lineAt_in h (k := k) (x := z) (by omega) h3
    have hp : parAt xvs (k + 1) = .ref z := by
      simp only [parAt, List.getD_eq_getElem?_getD]
      rw [h3]
      rfl
    rw [hp] at h2
    obtain ⟨q, r, e⟩ := lineAt_ne cs sz k
    rw [lineAt]
    rw [e] at hl ⊢
    exact ⟨z, _, h2, hl⟩
theorem levOk {rest : List (Addr × Obj)} {cs : List (Int × Int × Int)} {os : List (Int × List Int)} {b : Int} {ld : Nat → Int} {sz : Nat → Nat} {xvs : List Value} (h : ItemsOk rest cs b ld sz xvs 3) (hz : ∀ k, k < 3 → sz k < 1000)
    (ha : ∀ k, k < 3 → AgreesAt cs os b k (tabsUpto (lineAt cs sz k).reverse (lineAt cs sz k).length) (b + ld k) (sz k)) : ∀ k, k < 3 → LevOk rest cs os b xvs k := by
  intro k hk
  obtain ⟨x, h1, h2⟩ := h k hk
  exact ⟨x, _, _, _, _, lineAt cs sz k, h1, lineAt_in h hk h1, by rw [lineAt_len]; omega, h2, lineAt_bd hk hz, ha k hk⟩
theorem at_level {cs : List (Int × Int × Int)} {os : List (Int × List Int)} {k : Nat} {L : List (Int × Int × Int)} {n : Nat} (R : ∀ r, r.length = cnt L → spotsF (k : Int) r os = runOf n (pos L r)) (hn : 0 < n) (hc : (countsUpto cs (k + 1)).length = cnt L) (ho : onesUpto cs (k + 1) = List.replicate (cnt L) 1) :
    spotsUpto os k (onesUpto cs (k + 1)) os.length = run (leads L) n ∧ ∀ b, AgreesAt cs os b k (tabsL L) (b + leads L) n := by
  constructor
  · have := R (List.replicate (cnt L) 1) (List.length_replicate ..)
    rw [pos_ones] at this
    rw [ho]
    exact this
  · intro b ks
    refine agrees hn b ks ?_
    unfold spotsAt
    rw [hc]
    by_cases h : ks.length = cnt L
    · rw [if_pos h, if_pos h]
      exact R ks h
    · rw [if_neg h, if_neg h]
theorem countsUpto_one {cs : List (Int × Int × Int)} {i : Nat} : (countsUpto cs (i + 1)).length = (countsUpto cs i).length + (if 0 < (cs.getD i default).1 then 1 else 0) := by
  rw [countsUpto, List.length_append]
  split <;> rfl
theorem onesUpto_rep (cs : List (Int × Int × Int)) : ∀ i, onesUpto cs i = List.replicate (countsUpto cs i).length 1
  | 0 => rfl
  | i + 1 => by
    rw [onesUpto, onesUpto_rep cs i, countsUpto_one]
    split
    · rw [← List.replicate_append_replicate]; rfl
    · rw [List.append_nil, Nat.add_zero]
theorem tabOf_at (cs : List (Int × Int × Int)) (j : Nat) (z : Int) : tabOf (occAt cs j, z) = if 0 < (cs.getD j default).1 then [((cs.getD j default).1, z)] else [] := by
  unfold occAt
  by_cases h : 0 < (cs.getD j default).1
  · rw [if_pos h, if_pos h]; rfl
  · rw [if_neg h, if_neg h]; rfl
theorem tabsL_cons (c ld B : Int) (r : List (Int × Int × Int)) : tabsL ((c, ld, B) :: r) = (if 0 < c then [(c, B)] else []) ++ tabsL r := by
  rw [tabsL]
  split <;> rfl
theorem cnt_cons (c ld B : Int) (r : List (Int × Int × Int)) : cnt ((c, ld, B) :: r) = (if 0 < c then 1 else 0) + cnt r := rfl
/-- the memory as it is drawn: where each level's octets lie -/
theorem data {c0 h0 z0 c1 h1 z1 c2 h2 z2 : Int} (hh0 : 0 ≤ h0) (hh02 : h0 ≤ 2) (hh1 : 0 ≤ h1) (hh12 : h1 ≤ 2) (hz1 : 1 ≤ z2) (hz4 : z2 ≤ 4) (hc0 : c0 ≤ 3) (hc1 : c1 ≤ 3) (hc2 : c2 ≤ 3)
    {cs : List (Int × Int × Int)} (ecs : cs = [(c0, h0, z0), (c1, h1, z1), (c2, h2, z2)]) {os : List (Int × List Int)}
    (eos : os = memUp 0 c0 h0 (fun q => memUp 1 c1 h1 (fun q => mem2 c2 z2 q (turnsOf c2)) q (turnsOf c1)) [] (turnsOf c0)) :
    ∃ (ld : Nat → Int) (sz : Nat → Nat), (∀ k : Nat, k < 3 → spotsUpto os k (onesUpto cs (k + 1)) os.length = run (ld k) (sz k)) ∧ (∀ k, k < 3 → 0 < sz k) ∧
      ∀ b k, k < 3 → AgreesAt cs os b k (tabsUpto (lineAt cs sz k).reverse (lineAt cs sz k).length) (b + ld k) (sz k) := by
  have ef : (fun q => mem2 c2 z2 q (turnsOf c2)) = fun q => memUp 2 c2 z2 (fun _ => []) q (turnsOf c2) := funext fun q => mem2_eq c2 z2 q _
  rw [ef] at eos
  have n2 : PreF (fun _ => []) := fun q o ho => by cases ho
  have w2 : LevF (fun _ => []) 2 := fun q o ho => by cases ho
  have p2 := up_pre (lev := 2) (c := c2) (a := z2) n2
  have l2 := up_len (lev := 2) (c := c2) (a := z2) (sub := fun _ => []) (Z := 0) (fun _ => rfl)
  have v2 := up_lev (lv := 1) (c := c2) (a := z2) w2 (by omega)
  have p1 := up_pre (lev := 1) (c := c1) (a := h1) p2
  have l1 := up_len (lev := 1) (c := c1) (a := h1) l2
  have v1 := up_lev (lv := 0) (c := c1) (a := h1) v2 (by omega)
  have R0 := reg_at (c := c0) (a := h0) l1 p1 v1 hh0
  have R1 := reg_up (c := c0) (a := h0) (reg_at (c := c1) (a := h1) l2 p2 v2 hh1) (lev := 0) (by omega) l1 p1 hh0
  have R2 := reg_up (c := c0) (a := h0) (reg_up (c := c1) (a := h1) (reg_at (c := c2) (a := z2) (f := fun _ => []) (Z := 0) (fun _ => rfl) n2 w2 (by omega)) (lev := 1) (by omega) l2 p2 hh1) (lev := 0) (by omega) l1 p1 hh0
  have tt : ∀ c, 0 < turnsOf c := fun c => by unfold turnsOf; omega
  have t2 := tt c2
  have t1 := tt c1
  generalize hB2 : turnsOf c2 * (z2.toNat + 0) = Z2 at *
  have hZ2 : 0 < Z2 := by
    rw [← hB2]
    exact Nat.mul_pos t2 (by omega)
  generalize hB1 : turnsOf c1 * (h1.toNat + Z2) = Z1 at *
  have hZ1 : 0 < Z1 := by
    rw [← hB1]
    exact Nat.mul_pos t1 (by omega)
  have Q0 := R0 []
  have Q1 := R1 []
  have Q2 := R2 []
  simp only [List.nil_append] at Q0 Q1 Q2
  rw [← eos] at Q0 Q1 Q2
  have g0 : (cs.getD 0 default).1 = c0 := by rw [ecs]; rfl
  have g1 : (cs.getD 1 default).1 = c1 := by rw [ecs]; rfl
  have g2 : (cs.getD 2 default).1 = c2 := by rw [ecs]; rfl
  have k1 : (countsUpto cs 1).length = (if 0 < c0 then 1 else 0) := by rw [countsUpto_one, g0, countsUpto]; simp
  have k2 : (countsUpto cs 2).length = (if 0 < c0 then 1 else 0) + (if 0 < c1 then 1 else 0) := by rw [countsUpto_one, g1, k1]
  have k3 : (countsUpto cs 3).length = (if 0 < c0 then 1 else 0) + (if 0 < c1 then 1 else 0) + (if 0 < c2 then 1 else 0) := by rw [countsUpto_one, g2, k2]
  have e0 : (countsUpto cs (0 + 1)).length = cnt [(c0, 0, h0 + (Z1 : Int))] := by rw [k1]; rfl
  have e1 : (countsUpto cs (1 + 1)).length = cnt [(c0, h0, h0 + (Z1 : Int)), (c1, 0, h1 + (Z2 : Int))] := by rw [k2]; rfl
  have e2 : (countsUpto cs (2 + 1)).length = cnt [(c0, h0, h0 + (Z1 : Int)), (c1, h1, h1 + (Z2 : Int)), (c2, 0, z2 + ((0 : Nat) : Int))] := by rw [k3, Nat.add_assoc]; rfl
  obtain ⟨A0, B0⟩ := at_level (k := 0) Q0 (by omega) e0 (by rw [onesUpto_rep, e0])
  obtain ⟨A1, B1⟩ := at_level (k := 1) Q1 (by omega) e1 (by rw [onesUpto_rep, e1])
  obtain ⟨A2, B2⟩ := at_level (k := 2) Q2 (by omega) e2 (by rw [onesUpto_rep, e2])
  refine ⟨fun k => match k with | 0 => leads [(c0, 0, h0 + (Z1 : Int))] | 1 => leads [(c0, h0, h0 + (Z1 : Int)), (c1, 0, h1 + (Z2 : Int))] | _ => leads [(c0, h0, h0 + (Z1 : Int)), (c1, h1, h1 + (Z2 : Int)), (c2, 0, z2 + ((0 : Nat) : Int))],
    fun k => match k with | 0 => (h0 + (Z1 : Int)).toNat | 1 => (h1 + (Z2 : Int)).toNat | _ => (z2 + ((0 : Nat) : Int)).toNat, ?_, ?_, ?_⟩
  · intro k hk
    match k, hk with
    | 0, _ => exact A0
    | 1, _ => exact A1
    | 2, _ => exact A2
  · intro k hk
    match k, hk with
    | 0, _ => exact (show 0 < (h0 + (Z1 : Int)).toNat by omega)
    | 1, _ => exact (show 0 < (h1 + (Z2 : Int)).toNat by omega)
    | 2, _ => exact (show 0 < (z2 + ((0 : Nat) : Int)).toNat by omega)
  · have i0 : (((h0 + (Z1 : Int)).toNat : Nat) : Int) = h0 + (Z1 : Int) := Int.toNat_of_nonneg (by omega)
    have i1 : (((h1 + (Z2 : Int)).toNat : Nat) : Int) = h1 + (Z2 : Int) := Int.toNat_of_nonneg (by omega)
    have i2 : (((z2 + ((0 : Nat) : Int)).toNat : Nat) : Int) = z2 + ((0 : Nat) : Int) := Int.toNat_of_nonneg (by omega)
    intro b k hk
    match k, hk with
    | 0, _ =>
      have e : tabsUpto [(occAt cs 0, (((h0 + (Z1 : Int)).toNat : Nat) : Int))] 1 = tabsL [(c0, 0, h0 + (Z1 : Int))] := by
        show [] ++ tabOf (occAt cs 0, (((h0 + (Z1 : Int)).toNat : Nat) : Int)) = _
        rw [tabOf_at, g0, i0, tabsL_cons]
        simp [tabsL]
      exact e ▸ B0 b
    | 1, _ =>
      have e : tabsUpto [(occAt cs 0, (((h0 + (Z1 : Int)).toNat : Nat) : Int)), (occAt cs 1, (((h1 + (Z2 : Int)).toNat : Nat) : Int))] 2 = tabsL [(c0, h0, h0 + (Z1 : Int)), (c1, 0, h1 + (Z2 : Int))] := by
        show [] ++ tabOf (occAt cs 0, (((h0 + (Z1 : Int)).toNat : Nat) : Int)) ++ tabOf (occAt cs 1, (((h1 + (Z2 : Int)).toNat : Nat) : Int)) = _
        rw [tabOf_at, g0, i0, tabOf_at, g1, i1, tabsL_cons, tabsL_cons]
        simp [tabsL]
      exact e ▸ B1 b
    | 2, _ =>
      have e : tabsUpto [(occAt cs 0, (((h0 + (Z1 : Int)).toNat : Nat) : Int)), (occAt cs 1, (((h1 + (Z2 : Int)).toNat : Nat) : Int)), (occAt cs 2, (((z2 + ((0 : Nat) : Int)).toNat : Nat) : Int))] 3 = tabsL [(c0, h0, h0 + (Z1 : Int)), (c1, h1, h1 + (Z2 : Int)), (c2, 0, z2 + ((0 : Nat) : Int))] := by
        show [] ++ tabOf (occAt cs 0, (((h0 + (Z1 : Int)).toNat : Nat) : Int)) ++ tabOf (occAt cs 1, (((h1 + (Z2 : Int)).toNat : Nat) : Int)) ++ tabOf (occAt cs 2, (((z2 + ((0 : Nat) : Int)).toNat : Nat) : Int)) = _
        rw [tabOf_at, g0, i0, tabOf_at, g1, i1, tabOf_at, g2, i2, tabsL_cons, tabsL_cons, tabsL_cons]
        simp [tabsL]
      exact e ▸ B2 b
end
section
theorem ext_43 : True := by
  w_top off
  k_with_none
  k_with "own room" => ktr_room
  k_with "own all" => (first
      | assumption
      | exact ne_of_lts (by with_reducible assumption)
      | exact ne_of_all (And.right (by with_reducible assumption))
      | exact ne_of_all (And.right (And.right (by with_reducible assumption)))
      | exact ne_of_all (And.right (And.right (And.right (by with_reducible assumption))))
      | exact ne_of_all (And.right (And.right (And.right (And.right (by with_reducible assumption)))))
      | exact ne_of_all (And.right (And.right (And.right (And.right (And.right (by with_reducible assumption))))))
      | exact ne_of_all (And.right (And.right (And.right (And.right (And.right (And.right (by with_reducible assumption)))))))
      | exact ne_of_all (And.right (And.right (And.right (And.right (And.right (And.right (And.right (by with_reducible assumption)))))))))
  k_with "own sub" => (first
      | (refine' Drop.head ?zzqh; (case zzqh => k_all))
      | (refine' Drop.tail (Or.inr ?zzqa) ?zzqb; (case zzqa => k_cls); (case zzqb => lcg_sub))
      | (refine' Drop.tail (Or.inl ?zzqa) ?zzqb; (case zzqa => k_ne); (case zzqb => lcg_sub)))
  k_with "UnrEnd" => (k_dflt (refine' unr_end ?zzF ?zzN ?zzD ?_; (case zzF => k_asm); (case zzN => k_asm); (case zzD => lcg_sub)))
  k_with "own get" => assumption
  k_with "own mem" => (refine memN ?_; ktr_member)
  k_with "own off" => (first | (with_reducible assumption) | (simp only [LCg.Off3, and_true]; with_reducible assumption))
  k_with "CompEnd" => (refine LCg.CompEnd.intro (by k_asm) (by k_asm) _ (fun _ hp => hp) ?zzoff ?zzsrc ?_; (case zzoff => lcg_off); (case zzsrc => lcg_src))
  k_with "own enter" => (first
      | ktr_enter
      | (refine' code_def ?zzk1 ?zzk2 ?zzk3 ?zzk4 ?zzk5 ?zzkA ?zzkF ?zzkK ?zzk6 ?zzk7 ?zzk8 ?zzk9 ?zzkB ?_ ?zzc2 ?zzc3 ?zzc4 ?zzc5; (case zzkA => exact rfl); (case zzkF => exact rfl); (case zzkK => first | exact rfl | assumption); (case zzk1 => k_asm); (case zzk2 => k_asm); (case zzk3 => k_asm); (case zzk4 => k_asm); (case zzk5 => k_asm); (case zzk6 => k_is); (case zzk7 => k_is); (case zzk8 => ktr_room); (case zzk9 => first | exact BindsTo.of_eq rfl | exact binds_K (by k_in) rfl (by k_is) rfl rfl rfl); (case zzc5 => decide); (case zzkB => exact locs rfl); (case zzc2 => exact rfl); (case zzc3 => exact rfl); (case zzc4 => exact rfl); k_whole; intro zg' zL' zh' zFG' zF' zN' zB' zX' zT'; (try dsimp only); (try k_lift zB'); (try k_fold))
      | (refine' code_defC ?zzk1 ?zzk2 ?zzk3 ?zzk4 ?zzk5 ?zzkA ?zzkF ?zzkK ?zzk6 ?zzk7 ?zzk8 ?zzk9 ?zzkB ?zzkD ?_ ?zzc2 ?zzc3 ?zzc4; (case zzkA => exact rfl); (case zzkF => exact rfl); (case zzkK => first | exact rfl | assumption); (case zzk1 => k_asm); (case zzk2 => k_asm); (case zzk3 => k_asm); (case zzk4 => k_asm); (case zzk5 => k_asm); (case zzk6 => k_is); (case zzk7 => k_is); (case zzk8 => ktr_room); (case zzk9 => exact BindsTo.of_eq rfl); (case zzkB => exact rfl); (case zzkD => decide +kernel); (case zzc2 => exact rfl); (case zzc3 => exact rfl); (case zzc4 => exact rfl); k_whole; intro zg' zL' zh' ztk' zcells' zFG' zF' zN' zY' zB' zX' zT' zl1; (try k_lt zl1); k_cells zY'; (try simp only [List.cons_append, List.nil_append] at zN'); (try dsimp only); (try k_lift zB'); (try k_fold)))
  k_with "call builtin:len" => (k_here; (with_reducible show wpAny _ _ (call (Value.builtin "len") [Value.ref _]) _ _ _); k_dflt (first
      | (refine' len_led ?zzN ?zzm ?zzk ?zzf ?_; (case zzN => k_asm); (case zzm => k_mem); (case zzk => assumption); (case zzf => omega); k_whole)))
  k_with "compareOp NotEq ref ref" => (k_here; k_dflt (first
      | (refine' ne_lists ?zzN ?zza ?zzb ?zzi ?zzj ?zzu ?_; (case zzN => k_asm); (case zza => k_mem); (case zzb => k_mem); (case zzi => first | assumption | exact .nil); (case zzj => first | assumption | exact .nil); (case zzu => exact hu_up4 (by assumption)); k_whole)
      | (refine' ne_tups ?zzN ?zza ?zzb ?zzi ?zzj ?zzu ?_; (case zzN => k_asm); (case zza => k_mem); (case zzb => k_mem); (case zzi => exact .cons _ _ (.cons _ _ .nil)); (case zzj => exact .cons _ _ (.cons _ _ .nil)); (case zzu => exact hu_up4 (by assumption)); k_whole)))
  k_with "compareOp Eq ref ref" => (k_here; k_dflt (refine' eq_lists ?zzN ?zza ?zzb ?zzi ?zzj ?zzu ?_; (case zzN => k_asm); (case zza => k_mem); (case zzb => k_mem); (case zzi => first | assumption | exact .nil); (case zzj => first | assumption | exact .nil); (case zzu => exact hu_up4 (by assumption)); k_whole))
  k_with "eval Name" => (k_here; k_dflt (refine' nameX_L ?zzF ?zzv ?_ ?zza ?zzb; (case zzF => k_asm); (case zzv => first | assumption | (dsimp only; rw [if_neg (by decide)]; assumption) | (dsimp only; rw [if_neg (by decide), if_neg (by decide)]; assumption)); (case zza => rfl); (case zzb => rfl); k_whole))
  k_with "call ref" => ((with_reducible show wpAny _ _ (call (Value.ref 168) _) _ _ _); (refine held ?_))
  k_with "call ref" => ((with_reducible show wpAny _ _ (call (Value.ref 175) _) _ _ _); (refine held ?_))
  k_with "call ref" => ((with_reducible show wpAny _ _ (call (Value.ref 180) _) _ _ _); (refine held ?_))
  k_with "call ref" => ((with_reducible show wpAny _ _ (call (Value.ref 187) _) _ _ _); (refine held ?_))
  trivial
theorem law_0 {w : World} {p : Program} {loose : List Str} {mean : ExcName → Option Value} {mg mb : Str → Option Value}
  {dp un : Nat} {gd : Option (List Code)} {a : Addr} {ccd : Value} {A₀ : Around} {h₀ : Heap} {L cA sc : Addr} {m : Str → Option Value} {s : Shared} {oc : Obj}
  {vs : List Value} {ns : List Int} {Q : Flow → Shared → Prop} {E : Value → Shared → Prop}
  (B : Below A₀ h₀ [] h₀) (F : Fr h₀ L s.heap m) (X : (Mine.hd.heap_39 w.params).In h₀) (T : Top p loose mean mg mb h₀) (hd : dp + 60 < recursionLimit) (hu : un + 300 < cLine)
  (N : News h₀ L s.heap [(cA, oc)]) (hoc : oc.data = .cell none) (hsc : m "script" = some (.ref sc)) (hL : h₀.IsList sc vs.toArray) (hI : IntsAre vs ns) (hn : ns.length ≤ 63)
  (ret : ∀ t c n1 n2 ti oc' vs' ns' h' tks, Fr h₀ L h' m →
    News h₀ L h' [(t, listOf [.ref c, .int 0 ti].toArray n1), (c, listOf vs'.toArray n2), (cA, oc')] → oc'.data = .cell (some (.ref t)) → @Ne Nat t c → @Ne Nat cA t → @Ne Nat cA c → IntsAre vs' ns' → 0 < ns'.length → ns'.length ≤ 60 → Q .next { s with heap := h', toks := tks }) :
  wpAny (model PySem.Challenge.rw_pc0123_01.row.prog w) (ktrTop dp un gd "law" lawS L a ccd [("tape", cA)] []) (exec (nthS lawB 0) (envX "law" lawS L a ccd [("tape", cA)])) Q E s := by
  dsimp only [turnB, itemB, lawB, lawS, lawD, PySem.Challenge.pw_pc0123_01, lastS, bodyS, nthS, scopeS]
  k_steps
  · have hlt : (ns.take 60).length ≤ 60 := by rw [List.length_take]; omega
    exact ret _ _ _ _ _ _ _ (ns.take 60) _ _ (by k_asm) (News_sub (by k_asm) (by (intro p hp; (repeat (rcases List.mem_cons.mp hp with rfl | hp; (solve | (repeat (first | exact List.Mem.head _ | refine List.Mem.tail _ ?_))))); (repeat (first | exact hp | refine List.Mem.tail _ ?_))))) (by assumption) (by k_ne) (by k_ne) (by k_ne) (by assumption) (by assumption) hlt
  · exact ret _ _ _ _ _ _ _ [0] _ _ (by k_asm) (News_sub (by k_asm) (by (intro p hp; (repeat (rcases List.mem_cons.mp hp with rfl | hp; (solve | (repeat (first | exact List.Mem.head _ | refine List.Mem.tail _ ?_))))); (repeat (first | exact hp | refine List.Mem.tail _ ?_))))) (by assumption) (by k_ne) (by k_ne) (by k_ne) (.cons _ _ .nil) (by decide) (by decide)
end
section
theorem ext_44 : True := by
  w_top off
  k_with_none
  k_with "own room" => ktr_room
  k_with "own all" => (first
      | assumption
      | exact ne_of_lts (by with_reducible assumption)
      | exact ne_of_all (And.right (by with_reducible assumption))
      | exact ne_of_all (And.right (And.right (by with_reducible assumption)))
      | exact ne_of_all (And.right (And.right (And.right (by with_reducible assumption))))
      | exact ne_of_all (And.right (And.right (And.right (And.right (by with_reducible assumption)))))
      | exact ne_of_all (And.right (And.right (And.right (And.right (And.right (by with_reducible assumption))))))
      | exact ne_of_all (And.right (And.right (And.right (And.right (And.right (And.right (by with_reducible assumption)))))))
      | exact ne_of_all (And.right (And.right (And.right (And.right (And.right (And.right (And.right (by with_reducible assumption)))))))))
  k_with "own sub" => (first
      | (refine' Drop.head ?zzqh; (case zzqh => k_all))
      | (refine' Drop.tail (Or.inr ?zzqa) ?zzqb; (case zzqa => k_cls); (case zzqb => lcg_sub))
      | (refine' Drop.tail (Or.inl ?zzqa) ?zzqb; (case zzqa => k_ne); (case zzqb => lcg_sub)))
  k_with "UnrEnd" => (k_dflt (refine' unr_end ?zzF ?zzN ?zzD ?_; (case zzF => k_asm); (case zzN => k_asm); (case zzD => lcg_sub)))
  k_with "own get" => assumption
  k_with "own mem" => (refine memN ?_; ktr_member)
  k_with "own off" => (first | (with_reducible assumption) | (simp only [LCg.Off3, and_true]; with_reducible assumption))
  k_with "CompEnd" => (refine LCg.CompEnd.intro (by k_asm) (by k_asm) _ (fun _ hp => hp) ?zzoff ?zzsrc ?_; (case zzoff => lcg_off); (case zzsrc => lcg_src))
  k_with "own enter" => (first
      | ktr_enter
      | (refine' code_def ?zzk1 ?zzk2 ?zzk3 ?zzk4 ?zzk5 ?zzkA ?zzkF ?zzkK ?zzk6 ?zzk7 ?zzk8 ?zzk9 ?zzkB ?_ ?zzc2 ?zzc3 ?zzc4 ?zzc5; (case zzkA => exact rfl); (case zzkF => exact rfl); (case zzkK => first | exact rfl | assumption); (case zzk1 => k_asm); (case zzk2 => k_asm); (case zzk3 => k_asm); (case zzk4 => k_asm); (case zzk5 => k_asm); (case zzk6 => k_is); (case zzk7 => k_is); (case zzk8 => ktr_room); (case zzk9 => first | exact BindsTo.of_eq rfl | exact binds_K (by k_in) rfl (by k_is) rfl rfl rfl); (case zzc5 => decide); (case zzkB => exact locs rfl); (case zzc2 => exact rfl); (case zzc3 => exact rfl); (case zzc4 => exact rfl); k_whole; intro zg' zL' zh' zFG' zF' zN' zB' zX' zT'; (try dsimp only); (try k_lift zB'); (try k_fold))
      | (refine' code_defC ?zzk1 ?zzk2 ?zzk3 ?zzk4 ?zzk5 ?zzkA ?zzkF ?zzkK ?zzk6 ?zzk7 ?zzk8 ?zzk9 ?zzkB ?zzkD ?_ ?zzc2 ?zzc3 ?zzc4; (case zzkA => exact rfl); (case zzkF => exact rfl); (case zzkK => first | exact rfl | assumption); (case zzk1 => k_asm); (case zzk2 => k_asm); (case zzk3 => k_asm); (case zzk4 => k_asm); (case zzk5 => k_asm); (case zzk6 => k_is); (case zzk7 => k_is); (case zzk8 => ktr_room); (case zzk9 => exact BindsTo.of_eq rfl); (case zzkB => exact rfl); (case zzkD => decide +kernel); (case zzc2 => exact rfl); (case zzc3 => exact rfl); (case zzc4 => exact rfl); k_whole; intro zg' zL' zh' ztk' zcells' zFG' zF' zN' zY' zB' zX' zT' zl1; (try k_lt zl1); k_cells zY'; (try simp only [List.cons_append, List.nil_append] at zN'); (try dsimp only); (try k_lift zB'); (try k_fold)))
  k_with "call builtin:len" => (k_here; (with_reducible show wpAny _ _ (call (Value.builtin "len") [Value.ref _]) _ _ _); k_dflt (first
      | (refine' len_led ?zzN ?zzm ?zzk ?zzf ?_; (case zzN => k_asm); (case zzm => k_mem); (case zzk => assumption); (case zzf => omega); k_whole)))
  k_with "compareOp NotEq ref ref" => (k_here; k_dflt (first
      | (refine' ne_lists ?zzN ?zza ?zzb ?zzi ?zzj ?zzu ?_; (case zzN => k_asm); (case zza => k_mem); (case zzb => k_mem); (case zzi => first | assumption | exact .nil); (case zzj => first | assumption | exact .nil); (case zzu => exact hu_up4 (by assumption)); k_whole)
      | (refine' ne_tups ?zzN ?zza ?zzb ?zzi ?zzj ?zzu ?_; (case zzN => k_asm); (case zza => k_mem); (case zzb => k_mem); (case zzi => exact .cons _ _ (.cons _ _ .nil)); (case zzj => exact .cons _ _ (.cons _ _ .nil)); (case zzu => exact hu_up4 (by assumption)); k_whole)))
  k_with "compareOp Eq ref ref" => (k_here; k_dflt (refine' eq_lists ?zzN ?zza ?zzb ?zzi ?zzj ?zzu ?_; (case zzN => k_asm); (case zza => k_mem); (case zzb => k_mem); (case zzi => first | assumption | exact .nil); (case zzj => first | assumption | exact .nil); (case zzu => exact hu_up4 (by assumption)); k_whole))
  k_with "eval Name" => (k_here; k_dflt (refine' nameX_L ?zzF ?zzv ?_ ?zza ?zzb; (case zzF => k_asm); (case zzv => first | assumption | (dsimp only; rw [if_neg (by decide)]; assumption) | (dsimp only; rw [if_neg (by decide), if_neg (by decide)]; assumption)); (case zza => rfl); (case zzb => rfl); k_whole))
  k_with "call ref" => ((with_reducible show wpAny _ _ (call (Value.ref 168) _) _ _ _); (refine held ?_))
  k_with "call ref" => ((with_reducible show wpAny _ _ (call (Value.ref 175) _) _ _ _); (refine held ?_))
  k_with "call ref" => ((with_reducible show wpAny _ _ (call (Value.ref 180) _) _ _ _); (refine held ?_))
  k_with "call ref" => ((with_reducible show wpAny _ _ (call (Value.ref 187) _) _ _ _); (refine held ?_))
  trivial
theorem LevsIn.append {news : List (Addr × Obj)} : ∀ {vs ws : List Value} {os ps : List (Int × Int × Int)}, LevsIn news vs os → LevsIn news ws ps → LevsIn news (vs ++ ws) (os ++ ps)
  | [], _, [], _, _, k => k
  | _ :: _, _, _ :: _, _, h, k => ⟨h.1, LevsIn.append h.2 k⟩
theorem ext_45 : True := by
  k_with "exec Assign cons ListComp" => (k_here; k_dflt (refine LCg.Assign_ListComp_U (F₀ := by k_asm) (by rfl) (by with_unfolding_all rfl) (by with_unfolding_all rfl) (by decide) (by rfl) (by decide) (by rfl) (by rfl) (by rfl) ?_))
  k_with "CompSrc" => (refine held ?_)
  k_with "CompEnd" => (refine held ?_)
  trivial
theorem law_1 {w : World} {p : Program} {loose : List Str} {mean : ExcName → Option Value} {mg mb : Str → Option Value}
  {dp un : Nat} {gd : Option (List Code)} {a : Addr} {ccd : Value} {A₀ : Around} {h₀ : Heap} {L cA t c : Addr} {m : Str → Option Value} {rest : List (Addr × Obj)} {s : Shared} {oc : Obj}
  {i : Int} {ti : Tok} {n1 n2 : Nat} {vs : List Value} {ns : List Int} {Q : Flow → Shared → Prop} {E : Value → Shared → Prop}
  (B : Below A₀ h₀ [] h₀) (F : Fr h₀ L s.heap m) (X : (Mine.hd.heap_39 w.params).In h₀) (T : Top p loose mean mg mb h₀) (hd : dp + 60 < recursionLimit) (hu : un + 300 < cLine)
  (N : News h₀ L s.heap ((t, listOf [.ref c, .int i ti].toArray n1) :: (c, listOf vs.toArray n2) :: rest))
  (htc : @Ne Nat t c) (hrt : ∀ q ∈ rest, q.1 ≠ t) (hrc : ∀ q ∈ rest, q.1 ≠ c) (hI : IntsAre vs ns) (hlen : 0 < ns.length) (hlen2 : ns.length ≤ 60) (hi : 0 ≤ i) (hi2 : i < 900) (hcell : (cA, oc) ∈ rest) (hoc : oc.data = .cell (some (.ref t)))
  (ret : ∀ r tk h' tks vs' ns' n1' n2' ti', 0 ≤ r → r < 50 → ns'.length = ns.length → IntsAre vs' ns' → Fr h₀ L h' (fun y => if y = "base" then some (.int r tk) else m y) →
    News h₀ L h' ((t, listOf [.ref c, .int (i+1) ti'].toArray n1') :: (c, listOf vs'.toArray n2') :: rest) → Q .next { s with heap := h', toks := tks }) :
  wpAny (model PySem.Challenge.rw_pc0123_01.row.prog w) (ktrTop dp un gd "law" lawS L a ccd [("tape", cA)] []) (exec (nthS lawB 1) (envX "law" lawS L a ccd [("tape", cA)])) Q E s := by
  dsimp only [turnB, itemB, lawB, lawS, lawD, PySem.Challenge.pw_pc0123_01, lastS, bodyS, nthS, scopeS]
  k_steps
  refine unheld ?_
  k_dflt (refine' draw_spec ?dB4 ?dF4 ?dX4 ?dN4 ?dT4 rfl ?dtc4 ?drt4 ?drc4 hI hlen hlen2 hi (by omega) ?dl4 ?dm4 ?dd4 ?du4 ?dr4)
  case dB4 => k_asm
  case dF4 => k_asm
  case dX4 => k_asm
  case dN4 => k_asm
  case dT4 => k_asm
  case dtc4 => exact htc
  case drt4 => exact hrt
  case drc4 => exact hrc
  case dl4 => omega
  case dm4 => omega
  case dd4 => exact hd_up4 hd
  case du4 => exact hu_up4 hu
  case dr4 =>
    intro r0 tk0 h0 tks0 vs0 ns0 n10 n20 ti0 hr0 hr1 hnl hI0 F0 N0
    k_steps
    exact ret _ _ _ _ _ _ _ _ _ hr0 hr1 hnl hI0 (by k_asm) (by k_asm)
noncomputable def LevBd (cs : List (Int × Int × Int)) : Prop := ∀ q ∈ cs, 0 ≤ q.1 ∧ q.1 ≤ 3 ∧ 0 ≤ q.2.1 ∧ q.2.1 ≤ 2 ∧ 1 ≤ q.2.2 ∧ q.2.2 ≤ 4
theorem law_2 {w : World} {p : Program} {loose : List Str} {mean : ExcName → Option Value} {mg mb : Str → Option Value}
  {dp un : Nat} {gd : Option (List Code)} {a : Addr} {ccd : Value} {A₀ : Around} {h₀ : Heap} {L cA t c : Addr} {m : Str → Option Value} {rest : List (Addr × Obj)} {s : Shared} {oc : Obj}
  {i : Int} {ti : Tok} {n1 n2 : Nat} {vs : List Value} {ns : List Int} {Q : Flow → Shared → Prop} {E : Value → Shared → Prop}
  (B : Below A₀ h₀ [] h₀) (F : Fr h₀ L s.heap m) (X : (Mine.hd.heap_39 w.params).In h₀) (T : Top p loose mean mg mb h₀) (hd : dp + 60 < recursionLimit) (hu : un + 300 < cLine)
  (N : News h₀ L s.heap ((t, listOf [.ref c, .int i ti].toArray n1) :: (c, listOf vs.toArray n2) :: rest))
  (htc : @Ne Nat t c) (hrt : ∀ q ∈ rest, q.1 ≠ t) (hrc : ∀ q ∈ rest, q.1 ≠ c) (hI : IntsAre vs ns) (hlen : 0 < ns.length) (hlen2 : ns.length ≤ 60) (hi : 0 ≤ i) (hi2 : i < 900) (hcell : (cA, oc) ∈ rest) (hoc : oc.data = .cell (some (.ref t)))
  (hi3 : i + 9 < 900)
  (ret : ∀ r rs cs n h' tks nw rest', Fr h₀ L h' (fun y => if y = "levels" then some (.ref r) else m y) → LevsIn rest' rs cs → cs.length = 3 → LevBd cs → TapeIn t c (i + 9) ((r, listOf rs.toArray n) :: rest') nw → News h₀ L h' nw → Apart t c cA oc ((r, listOf rs.toArray n) :: rest') → Q .next { s with heap := h', toks := tks }) :
  wpAny (model PySem.Challenge.rw_pc0123_01.row.prog w) (ktrTop dp un gd "law" lawS L a ccd [("tape", cA)] []) (exec (nthS lawB 2) (envX "law" lawS L a ccd [("tape", cA)])) Q E s := by
  dsimp only [turnB, itemB, lawB, lawS, lawD, PySem.Challenge.pw_pc0123_01, lastS, bodyS, nthS, scopeS]
  k_steps
  refine unheld ?_
  refine LCg.CompSrc.range (n := 3) (by rfl) (by k_asm) (by k_asm) (by assumption) (by first | decide | rfl) (by first | rfl | decide) (by first | size_fits | exact Nat.le_of_ble_eq_true rfl) ?_
  intro gZ
  refine compU_run (n := 3) (fun j ys news => ∃ cs rest', LevsIn rest' ys cs ∧ cs.length = j ∧ LevBd cs ∧ TapeIn t c (i + 3 * j) rest' news ∧ (∀ p ∈ rest, p ∈ rest') ∧ Apart t c cA oc rest') ?_ ?_ ?_
  · exact ⟨[], _, trivial, rfl, (fun q hq => by cases hq), ⟨i, ti, n1, n2, vs, ns, rfl, hI, hlen, hlen2, hi, by omega⟩, fun p hp => hp, hrt, hrc, hcell⟩
  · intro j ys news v I oI C oC D m₂ h tk E' hj hinv hP hC hx F1 N1 off ne
    obtain ⟨cs, rest', hlv, hcl, hbd, hT, hsub, ap⟩ := hinv
    obtain ⟨iJ, tJ, n1J, n2J, vsJ, nsJ, rfl, hIJ, hlJ, hlJ2, hiJ, hbJ⟩ := hT
    obtain ⟨tP, rfl⟩ := hP
    have offT := off (t, _) (List.Mem.head _)
    have offC := off (c, _) (List.Mem.tail _ (List.Mem.head _))
    have hcell' := ap.2.2
    clear hcell
    k_steps
    refine unheld ?_
    k_dflt (refine' draw_spec ?dB3 ?dF3 ?dX3 ?dN3 ?dT3 rfl ?dtc3 ?drt3 ?drc3 hIJ hlJ hlJ2 hiJ (by omega) ?dl3 ?dm3 ?dd3 ?du3 ?dr3)
    case dB3 => k_asm
    case dF3 => k_asm
    case dX3 => k_asm
    case dN3 => exact News_sub (news' := (t, listOf [.ref c, .int iJ tJ].toArray n1J) :: (c, listOf vsJ.toArray n2J) :: (I, oI) :: (C, oC) :: (D, LCg.lst ys) :: rest') (by k_asm) (by (intro p hp; (repeat (rcases List.mem_cons.mp hp with rfl | hp; (solve | (repeat (first | exact List.Mem.head _ | refine List.Mem.tail _ ?_))))); (repeat (first | exact hp | refine List.Mem.tail _ ?_))))
    case dT3 => k_asm
    case dtc3 => exact htc
    case drt3 => exact drt_comp htc (off (t, _) (List.Mem.head _)) ap.1
    case drc3 => exact drt_comp htc (off (c, _) (List.Mem.tail _ (List.Mem.head _))) ap.2.1
    case dl3 => omega
    case dm3 => omega
    case dd3 => exact hd_up4 hd
    case du3 => exact hu_up4 hu
    case dr3 =>
      intro rA tkA hA1 tksA vsA nsA n1A n2A tiA hrA0 hrA1 hnlA hIA FA NA
      k_steps
      refine unheld ?_
      k_dflt (refine' draw_spec ?dB2 ?dF2 ?dX2 ?dN2 ?dT2 rfl ?dtc2 ?drt2 ?drc2 hIA (by omega) (by omega) (i := iJ + 1) (by omega) (by omega) ?dl2 ?dm2 ?dd2 ?du2 ?dr2)
      case dB2 => k_asm
      case dF2 => k_asm
      case dX2 => k_asm
      case dN2 => exact News_sub (news' := (t, listOf [.ref c, .int (iJ + 1) tiA].toArray n1A) :: (c, listOf vsA.toArray n2A) :: (I, oI) :: (C, oC) :: (D, LCg.lst ys) :: rest') (by k_asm) (by (intro p hp; (repeat (rcases List.mem_cons.mp hp with rfl | hp; (solve | (repeat (first | exact List.Mem.head _ | refine List.Mem.tail _ ?_))))); (repeat (first | exact hp | refine List.Mem.tail _ ?_))))
      case dT2 => k_asm
      case dtc2 => exact htc
      case drt2 => exact drt_comp htc (off (t, _) (List.Mem.head _)) ap.1
      case drc2 => exact drt_comp htc (off (c, _) (List.Mem.tail _ (List.Mem.head _))) ap.2.1
      case dl2 => omega
      case dm2 => omega
      case dd2 => exact hd_up4 hd
      case du2 => exact hu_up4 hu
      case dr2 =>
        intro rB tkB hB1 tksB vsB nsB n1B n2B tiB hrB0 hrB1 hnlB hIB FB NB
        k_steps
        refine unheld ?_
        k_dflt (refine' draw_spec ?dB1 ?dF1 ?dX1 ?dN1 ?dT1 rfl ?dtc1 ?drt1 ?drc1 hIB (by omega) (by omega) (i := iJ + 1 + 1) (by omega) (by omega) ?dl1 ?dm1 ?dd1 ?du1 ?dr1)
        case dB1 => k_asm
        case dF1 => k_asm
        case dX1 => k_asm
        case dN1 => exact News_sub (news' := (t, listOf [.ref c, .int (iJ + 1 + 1) tiB].toArray n1B) :: (c, listOf vsB.toArray n2B) :: (I, oI) :: (C, oC) :: (D, LCg.lst ys) :: rest') (by k_asm) (by (intro p hp; (repeat (rcases List.mem_cons.mp hp with rfl | hp; (solve | (repeat (first | exact List.Mem.head _ | refine List.Mem.tail _ ?_))))); (repeat (first | exact hp | refine List.Mem.tail _ ?_))))
        case dT1 => k_asm
        case dtc1 => exact htc
        case drt1 => exact drt_comp htc (off (t, _) (List.Mem.head _)) ap.1
        case drc1 => exact drt_comp htc (off (c, _) (List.Mem.tail _ (List.Mem.head _))) ap.2.1
        case dl1 => omega
        case dm1 => omega
        case dd1 => exact hd_up4 hd
        case du1 => exact hu_up4 hu
        case dr1 =>
          intro rC tkC hC1 tksC vsC nsC n1C n2C tiC hrC0 hrC1 hnlC hIC FC NC
          k_steps
          refine unheld ?_
          rename_i DT hT FT NT lT
          refine' LCg.CompEnd.intro ?eF ?eN ((t, listOf [.ref c, .int (iJ + 1 + 1 + 1) tiC].toArray n1C) :: (c, listOf vsC.toArray n2C) :: (DT, tupOf [.int rA tkA, .int rB tkB, .int (1 + rC) tksC] 0) :: rest') ?eS ?eO ?eR ?eI
          case eF => k_asm
          case eN => k_asm
          case eS => (intro p hp; (repeat (rcases List.mem_cons.mp hp with rfl | hp; (solve | (repeat (first | exact List.Mem.head _ | refine List.Mem.tail _ ?_))))); (repeat (first | exact hp | refine List.Mem.tail _ ?_)))
          case eO => exact LCg.Off3.of (fun p hp => by
              rcases List.mem_cons.mp hp with rfl | hp
              · exact offT
              rcases List.mem_cons.mp hp with rfl | hp
              · exact offC
              rcases List.mem_cons.mp hp with rfl | hp
              · exact ⟨by k_ne, by k_ne, by k_ne⟩
              · exact off p (List.Mem.tail _ (List.Mem.tail _ hp)))
          case eR => exact trivial
          case eI => 
            refine ⟨cs ++ [(rA, rB, 1 + rC)], (DT, tupOf [.int rA tkA, .int rB tkB, .int (1 + rC) tksC] 0) :: rest', ?_, ?_, ?_, ⟨iJ + 1 + 1 + 1, tiC, n1C, n2C, vsC, nsC, rfl, hIC, by omega, by omega, by omega, by omega⟩, fun p hp => .tail _ (hsub p hp), ap.cons (by k_ne) (by k_ne)⟩
            · exact LevsIn.append (LevsIn.mono (fun p hp => .tail _ hp) hlv) ⟨⟨_, _, _, _, _, rfl, .head _⟩, trivial⟩
            · rw [List.length_append, hcl]; rfl
            · intro q hq
              rcases List.mem_append.mp hq with hq | hq
              · exact hbd q hq
              · rcases List.mem_singleton.mp hq with rfl
                refine ⟨?_, ?_, ?_, ?_, ?_, ?_⟩ <;> (dsimp only; omega)
  · intro ys news ⟨cs, rest', hlv, hcl, hbd, hT, hsub, ap⟩
    intro D h tk FD ND oD
    have o1 := off1_ne oD
    obtain ⟨iJ, tJ, n1J, n2J, vsJ, nsJ, rfl, hIJ, hlJ, hlJ2, hiJ, hbJ⟩ := hT
    refine ret D ys cs ys.length h tk ((t, listOf [.ref c, .int iJ tJ].toArray n1J) :: (c, listOf vsJ.toArray n2J) :: (D, LCg.lst ys) :: rest') rest' FD hlv hcl hbd ⟨iJ, tJ, n1J, n2J, vsJ, nsJ, rfl, hIJ, hlJ, hlJ2, hiJ, by omega⟩ (News_sub ND (by (intro p hp; (repeat (rcases List.mem_cons.mp hp with rfl | hp; (solve | (repeat (first | exact List.Mem.head _ | refine List.Mem.tail _ ?_))))); (repeat (first | exact hp | refine List.Mem.tail _ ?_))))) (ap.cons ?_ ?_)
    · exact fun q => o1 (t, _) (List.Mem.head _) q.symm
    · exact fun q => o1 (c, _) (List.Mem.tail _ (List.Mem.head _)) q.symm
end
section
theorem ext_46 : True := by
  w_top off
  k_with_none
  k_with "own room" => ktr_room
  k_with "own all" => (first
      | assumption
      | exact ne_of_lts (by with_reducible assumption)
      | exact ne_of_all (And.right (by with_reducible assumption))
      | exact ne_of_all (And.right (And.right (by with_reducible assumption)))
      | exact ne_of_all (And.right (And.right (And.right (by with_reducible assumption))))
      | exact ne_of_all (And.right (And.right (And.right (And.right (by with_reducible assumption)))))
      | exact ne_of_all (And.right (And.right (And.right (And.right (And.right (by with_reducible assumption))))))
      | exact ne_of_all (And.right (And.right (And.right (And.right (And.right (And.right (by with_reducible assumption)))))))
      | exact ne_of_all (And.right (And.right (And.right (And.right (And.right (And.right (And.right (by with_reducible assumption)))))))))
  k_with "own sub" => (first
      | (refine' Drop.head ?zzqh; (case zzqh => k_all))
      | (refine' Drop.tail (Or.inr ?zzqa) ?zzqb; (case zzqa => k_cls); (case zzqb => lcg_sub))
      | (refine' Drop.tail (Or.inl ?zzqa) ?zzqb; (case zzqa => k_ne); (case zzqb => lcg_sub)))
  k_with "UnrEnd" => (k_dflt (refine' unr_end ?zzF ?zzN ?zzD ?_; (case zzF => k_asm); (case zzN => k_asm); (case zzD => lcg_sub)))
  k_with "own get" => assumption
  k_with "own mem" => (refine memN ?_; ktr_member)
  k_with "own off" => (first | (with_reducible assumption) | (simp only [LCg.Off3, and_true]; with_reducible assumption))
  k_with "CompEnd" => (refine LCg.CompEnd.intro (by k_asm) (by k_asm) _ (fun _ hp => hp) ?zzoff ?zzsrc ?_; (case zzoff => lcg_off); (case zzsrc => lcg_src))
  k_with "own enter" => (first
      | ktr_enter
      | (refine' code_def ?zzk1 ?zzk2 ?zzk3 ?zzk4 ?zzk5 ?zzkA ?zzkF ?zzkK ?zzk6 ?zzk7 ?zzk8 ?zzk9 ?zzkB ?_ ?zzc2 ?zzc3 ?zzc4 ?zzc5; (case zzkA => exact rfl); (case zzkF => exact rfl); (case zzkK => first | exact rfl | assumption); (case zzk1 => k_asm); (case zzk2 => k_asm); (case zzk3 => k_asm); (case zzk4 => k_asm); (case zzk5 => k_asm); (case zzk6 => k_is); (case zzk7 => k_is); (case zzk8 => ktr_room); (case zzk9 => first | exact BindsTo.of_eq rfl | exact binds_K (by k_in) rfl (by k_is) rfl rfl rfl); (case zzc5 => decide); (case zzkB => exact locs rfl); (case zzc2 => exact rfl); (case zzc3 => exact rfl); (case zzc4 => exact rfl); k_whole; intro zg' zL' zh' zFG' zF' zN' zB' zX' zT'; (try dsimp only); (try k_lift zB'); (try k_fold))
      | (refine' code_defC ?zzk1 ?zzk2 ?zzk3 ?zzk4 ?zzk5 ?zzkA ?zzkF ?zzkK ?zzk6 ?zzk7 ?zzk8 ?zzk9 ?zzkB ?zzkD ?_ ?zzc2 ?zzc3 ?zzc4; (case zzkA => exact rfl); (case zzkF => exact rfl); (case zzkK => first | exact rfl | assumption); (case zzk1 => k_asm); (case zzk2 => k_asm); (case zzk3 => k_asm); (case zzk4 => k_asm); (case zzk5 => k_asm); (case zzk6 => k_is); (case zzk7 => k_is); (case zzk8 => ktr_room); (case zzk9 => exact BindsTo.of_eq rfl); (case zzkB => exact rfl); (case zzkD => decide +kernel); (case zzc2 => exact rfl); (case zzc3 => exact rfl); (case zzc4 => exact rfl); k_whole; intro zg' zL' zh' ztk' zcells' zFG' zF' zN' zY' zB' zX' zT' zl1; (try k_lt zl1); k_cells zY'; (try simp only [List.cons_append, List.nil_append] at zN'); (try dsimp only); (try k_lift zB'); (try k_fold)))
  k_with "call builtin:len" => (k_here; (with_reducible show wpAny _ _ (call (Value.builtin "len") [Value.ref _]) _ _ _); k_dflt (first
      | (refine' len_led ?zzN ?zzm ?zzk ?zzf ?_; (case zzN => k_asm); (case zzm => k_mem); (case zzk => assumption); (case zzf => omega); k_whole)))
  k_with "compareOp NotEq ref ref" => (k_here; k_dflt (first
      | (refine' ne_lists ?zzN ?zza ?zzb ?zzi ?zzj ?zzu ?_; (case zzN => k_asm); (case zza => k_mem); (case zzb => k_mem); (case zzi => first | assumption | exact .nil); (case zzj => first | assumption | exact .nil); (case zzu => exact hu_up4 (by assumption)); k_whole)
      | (refine' ne_tups ?zzN ?zza ?zzb ?zzi ?zzj ?zzu ?_; (case zzN => k_asm); (case zza => k_mem); (case zzb => k_mem); (case zzi => exact .cons _ _ (.cons _ _ .nil)); (case zzj => exact .cons _ _ (.cons _ _ .nil)); (case zzu => exact hu_up4 (by assumption)); k_whole)))
  k_with "compareOp Eq ref ref" => (k_here; k_dflt (refine' eq_lists ?zzN ?zza ?zzb ?zzi ?zzj ?zzu ?_; (case zzN => k_asm); (case zza => k_mem); (case zzb => k_mem); (case zzi => first | assumption | exact .nil); (case zzj => first | assumption | exact .nil); (case zzu => exact hu_up4 (by assumption)); k_whole))
  k_with "eval Name" => (k_here; k_dflt (refine' nameX_L ?zzF ?zzv ?_ ?zza ?zzb; (case zzF => k_asm); (case zzv => first | assumption | (dsimp only; rw [if_neg (by decide)]; assumption) | (dsimp only; rw [if_neg (by decide), if_neg (by decide)]; assumption)); (case zza => rfl); (case zzb => rfl); k_whole))
  k_with "call ref" => ((with_reducible show wpAny _ _ (call (Value.ref 168) _) _ _ _); (refine held ?_))
  k_with "call ref" => ((with_reducible show wpAny _ _ (call (Value.ref 175) _) _ _ _); (refine held ?_))
  k_with "call ref" => ((with_reducible show wpAny _ _ (call (Value.ref 180) _) _ _ _); (refine held ?_))
  k_with "call ref" => ((with_reducible show wpAny _ _ (call (Value.ref 187) _) _ _ _); (refine held ?_))
  trivial
theorem len3 {α : Type} {l : List α} (h : l.length = 3) : ∃ x y z, l = [x, y, z] := by
  match l, h with
  | [x, y, z], _ => exact ⟨x, y, z, rfl⟩
theorem law_3 {w : World} {p : Program} {loose : List Str} {mean : ExcName → Option Value} {mg mb : Str → Option Value}
  {dp un : Nat} {gd : Option (List Code)} {a : Addr} {ccd : Value} {A₀ : Around} {h₀ : Heap} {L cA t c : Addr} {m : Str → Option Value} {rest : List (Addr × Obj)} {s : Shared} {oc : Obj}
  {i : Int} {ti : Tok} {n1 n2 : Nat} {vs : List Value} {ns : List Int} {Q : Flow → Shared → Prop} {E : Value → Shared → Prop}
  (B : Below A₀ h₀ [] h₀) (F : Fr h₀ L s.heap m) (X : (Mine.hd.heap_39 w.params).In h₀) (T : Top p loose mean mg mb h₀) (hd : dp + 60 < recursionLimit) (hu : un + 300 < cLine)
  (N : News h₀ L s.heap ((t, listOf [.ref c, .int i ti].toArray n1) :: (c, listOf vs.toArray n2) :: rest))
  (htc : @Ne Nat t c) (hrt : ∀ q ∈ rest, q.1 ≠ t) (hrc : ∀ q ∈ rest, q.1 ≠ c) (hI : IntsAre vs ns) (hlen : 0 < ns.length) (hlen2 : ns.length ≤ 60) (hi : 0 ≤ i) (hi2 : i < 900) (hcell : (cA, oc) ∈ rest) (hoc : oc.data = .cell (some (.ref t)))
  {ll nl : Nat} {lvs : List Value} {c0 h0 z0 c1 h1 z1 c2 h2 z2 : Int}
  (hlls : m "levels" = some (.ref ll)) (hll : (ll, listOf lvs.toArray nl) ∈ rest) (hlv : LevsIn rest lvs [(c0, h0, z0), (c1, h1, z1), (c2, h2, z2)]) (hbd : LevBd [(c0, h0, z0), (c1, h1, z1), (c2, h2, z2)])
  (ret : ∀ r rs n h' tks nw, Fr h₀ L h' (fun y => if y = "memory" then some (.ref r) else m y) → News h₀ L h' ((t, listOf [.ref c, .int i ti].toArray n1) :: (c, listOf vs.toArray n2) :: (r, listOf rs.toArray n) :: nw) → (∀ p ∈ rest, p ∈ nw) →
    OctsIn nw rs (memUp 0 c0 h0 (fun q => memUp 1 c1 h1 (fun q => mem2 c2 z2 q (turnsOf c2)) q (turnsOf c1)) [] (turnsOf c0)) → rs.length ≤ 132 → Apart t c cA oc ((r, listOf rs.toArray n) :: nw) → Q .next { s with heap := h', toks := tks }) :
  wpAny (model PySem.Challenge.rw_pc0123_01.row.prog w) (ktrTop dp un gd "law" lawS L a ccd [("tape", cA)] []) (exec (nthS lawB 3) (envX "law" lawS L a ccd [("tape", cA)])) Q E s := by
  dsimp only [turnB, itemB, lawB, lawS, lawD, PySem.Challenge.pw_pc0123_01, lastS, bodyS, nthS, scopeS]
  have hl3 := hlv.length
  obtain ⟨v0, v1, v2, rfl⟩ := len3 hl3
  obtain ⟨⟨a0, k0, t00, t01, t02, e0, m0⟩, ⟨a1, k1, t10, t11, t12, e1, m1⟩, ⟨a2, k2, t20, t21, t22, e2, m2⟩, _⟩ := hlv
  subst e0 e1 e2
  obtain ⟨b00, b01, b02, b03, b04, b05⟩ := hbd _ (.head _)
  obtain ⟨b10, b11, b12, b13, b14, b15⟩ := hbd _ (.tail _ (.head _))
  obtain ⟨b20, b21, b22, b23, b24, b25⟩ := hbd _ (.tail _ (.tail _ (.head _)))
  k_steps
  refine unheld ?_
  rename_i DT hT FT NT lT
  k_dflt (refine' mem0_spec (ks := []) (ws := []) (lvs := [.ref a0, .ref a1, .ref a2]) ?kB ?kF ?kX ?kN ?kT rfl ?kd ?ku ?kl ?ks .nil (Nat.le_refl _) (a2 := a2) (n2 := k2) rfl ?k2 b20 b21 b24 b25 (a1 := a1) (n1 := k1) rfl ?k1 b10 b11 b12 b13 (a0 := a0) (n0 := k0) rfl ?k0 b00 b01 b02 b03 ?kr)
  case kB => k_asm
  case kF => k_asm
  case kX => k_asm
  case kN => k_asm
  case kT => k_asm
  case kd => exact hd_up6 hd
  case ku => exact hu_up6 hu
  case kl => exact .tail _ (.tail _ (.tail _ hll))
  case ks => exact .head _
  case k2 => exact .tail _ (.tail _ (.tail _ m2))
  case k1 => exact .tail _ (.tail _ (.tail _ m1))
  case k0 => exact .tail _ (.tail _ (.tail _ m0))
  case kr =>
    intro r rs n nw h' tks hsub hO hr hrl F1 N1
    have inT : (t, listOf [.ref c, .int i ti].toArray n1) ∈ nw := hsub _ (.tail _ (.head _))
    have inC : (c, listOf vs.toArray n2) ∈ nw := hsub _ (.tail _ (.tail _ (.head _)))
    have nrt : @Ne Nat r t := (hr _ (.tail _ (.head _))).symm
    have nrc : @Ne Nat r c := (hr _ (.tail _ (.tail _ (.head _)))).symm
    have N2 : News h₀ L h' nw := fun p hp => N1 p (.tail _ hp)
    have N3 : News h₀ L h' (away c nw) := fun p hp => N2 p (List.mem_filter.mp hp).1
    have inT2 : (t, listOf [.ref c, .int i ti].toArray n1) ∈ away c nw := mem_away inT htc
    have hO2 := OctsIn.away N3 inT2 (by k_cls) (OctsIn.away N2 inC (by k_cls) hO)
    have up : ∀ p ∈ rest, p ∈ away t (away c nw) := fun p hp => mem_away (mem_away (hsub _ (.tail _ (.tail _ (.tail _ hp)))) (hrc p hp)) (hrt p hp)
    have dn : ∀ p ∈ away t (away c nw), p ∈ nw := fun p hp => (List.mem_filter.mp (List.mem_filter.mp hp).1).1
    have ap : Apart t c cA oc ((r, listOf rs.toArray n) :: away t (away c nw)) := Apart.cons ⟨away_off, fun q hq => away_off q (List.mem_filter.mp hq).1, up _ hcell⟩ nrt nrc
    have N4 : News h₀ L h' ((t, listOf [.ref c, .int i ti].toArray n1) :: (c, listOf vs.toArray n2) :: (r, listOf rs.toArray n) :: away t (away c nw)) := by
      intro p hp
      rcases List.mem_cons.mp hp with rfl | hp
      · exact N1 _ (.tail _ inT)
      rcases List.mem_cons.mp hp with rfl | hp
      · exact N1 _ (.tail _ inC)
      rcases List.mem_cons.mp hp with rfl | hp
      · exact N1 _ (.head _)
      · exact N1 _ (.tail _ (dn p hp))
    generalize away t (away c nw) = nw' at hO2 up ap N4
    clear N1 N2 N3 inT2 dn hsub hO hr inT inC NT FT lT
    k_steps
    exact ret _ _ _ _ _ _ (by k_asm) (by k_asm) up hO2 hrl ap
theorem law_4 {w : World} {p : Program} {loose : List Str} {mean : ExcName → Option Value} {mg mb : Str → Option Value}
  {dp un : Nat} {gd : Option (List Code)} {a : Addr} {ccd : Value} {A₀ : Around} {h₀ : Heap} {L cA t c : Addr} {m : Str → Option Value} {rest : List (Addr × Obj)} {s : Shared} {oc : Obj}
  {i : Int} {ti : Tok} {n1 n2 : Nat} {vs : List Value} {ns : List Int} {Q : Flow → Shared → Prop} {E : Value → Shared → Prop}
  (B : Below A₀ h₀ [] h₀) (F : Fr h₀ L s.heap m) (X : (Mine.hd.heap_39 w.params).In h₀) (T : Top p loose mean mg mb h₀) (hd : dp + 60 < recursionLimit) (hu : un + 300 < cLine)
  (N : News h₀ L s.heap ((t, listOf [.ref c, .int i ti].toArray n1) :: (c, listOf vs.toArray n2) :: rest))
  (htc : @Ne Nat t c) (hrt : ∀ q ∈ rest, q.1 ≠ t) (hrc : ∀ q ∈ rest, q.1 ≠ c) (hI : IntsAre vs ns) (hlen : 0 < ns.length) (hlen2 : ns.length ≤ 60) (hi : 0 ≤ i) (hi2 : i < 900) (hcell : (cA, oc) ∈ rest) (hoc : oc.data = .cell (some (.ref t)))
  (ret : ∀ r n h' tks, Fr h₀ L h' (fun y => if y = "items" then some (.ref r) else m y) → News h₀ L h' ((t, listOf [.ref c, .int i ti].toArray n1) :: (c, listOf vs.toArray n2) :: (r, listOf [].toArray n) :: rest) → @Ne Nat r t → @Ne Nat r c → (∀ q ∈ rest, q.1 ≠ r) → Q .next { s with heap := h', toks := tks }) :
  wpAny (model PySem.Challenge.rw_pc0123_01.row.prog w) (ktrTop dp un gd "law" lawS L a ccd [("tape", cA)] []) (exec (nthS lawB 4) (envX "law" lawS L a ccd [("tape", cA)])) Q E s := by
  dsimp only [turnB, itemB, lawB, lawS, lawD, PySem.Challenge.pw_pc0123_01, lastS, bodyS, nthS, scopeS]
  k_steps
  exact ret _ _ _ _ (by k_asm) (News_sub (by k_asm) (by (intro p hp; (repeat (rcases List.mem_cons.mp hp with rfl | hp; (solve | (repeat (first | exact List.Mem.head _ | refine List.Mem.tail _ ?_))))); (repeat (first | exact hp | refine List.Mem.tail _ ?_))))) (by k_ne) (by k_ne) (by k_all)
theorem law_7 {w : World} {p : Program} {loose : List Str} {mean : ExcName → Option Value} {mg mb : Str → Option Value}
  {dp un : Nat} {gd : Option (List Code)} {a : Addr} {ccd : Value} {A₀ : Around} {h₀ : Heap} {L cA : Addr} {m : Str → Option Value} {news : List (Addr × Obj)} {s : Shared} {Q : Flow → Shared → Prop} {E : Value → Shared → Prop}
  (B : Below A₀ h₀ [] h₀) (F : Fr h₀ L s.heap m) (X : (Mine.hd.heap_39 w.params).In h₀) (N : News h₀ L s.heap news) (T : Top p loose mean mg mb h₀)
  (ret : Q (.ret (.bool true)) s) :
  wpAny (model PySem.Challenge.rw_pc0123_01.row.prog w) (ktrTop dp un gd "law" lawS L a ccd [("tape", cA)] []) (exec (nthS lawB 7) (envX "law" lawS L a ccd [("tape", cA)])) Q E s := by
  dsimp only [turnB, itemB, lawB, lawS, lawD, PySem.Challenge.pw_pc0123_01, lastS, bodyS, nthS, scopeS]
  k_steps
  exact ret
end
section
theorem law_all {w : World} {p : Program} {loose : List Str} {mean : ExcName → Option Value} {mg mb : Str → Option Value}
  {dp un : Nat} {gd : Option (List Code)} {a : Addr} {ccd : Value} {A₀ : Around} {h₀ : Heap} {L cA sc : Addr} {m : Str → Option Value} {s : Shared} {oc : Obj}
  {vs : List Value} {ns : List Int} {Q : Flow → Shared → Prop}
  (B : Below A₀ h₀ [] h₀) (F : Fr h₀ L s.heap m) (X : (Mine.hd.heap_39 w.params).In h₀) (T : Top p loose mean mg mb h₀) (hd : dp + 60 < recursionLimit) (hu : un + 300 < cLine)
  (N : News h₀ L s.heap [(cA, oc)]) (hoc : oc.data = .cell none) (hsc : m "script" = some (.ref sc)) (hL : h₀.IsList sc vs.toArray) (hI : IntsAre vs ns) (hn : ns.length ≤ 63)
  (ret : ∀ h' tks m' nw, Fr h₀ L h' m' → News h₀ L h' nw → Q (.ret (.bool true)) { s with heap := h', toks := tks }) :
  wpAny (model PySem.Challenge.rw_pc0123_01.row.prog w) (ktrTop dp un gd "law" lawS L a ccd [("tape", cA)] []) (execs lawB (envX "law" lawS L a ccd [("tape", cA)])) Q (fun _ _ => False) s := by
  rw [lawB_eq]
  -- the tape
  refine wpAny_execs_cons ?_
  refine law_0 B F X T hd hu N hoc hsc hL hI hn ?_
  intro t c n10 n20 ti0 oc0 vs0 ns0 h0 tks0 F0 N0 hoc0 htc hAt hAc hI0 hl01 hl02
  have ap0 : Apart t c cA oc0 [(cA, oc0)] :=
    ⟨fun q hq => by rcases List.mem_singleton.mp hq with rfl; exact hAt, fun q hq => by rcases List.mem_singleton.mp hq with rfl; exact hAc, .head _⟩
  -- base
  refine wpAny_execs_cons ?_
  refine law_1 B F0 X T hd hu N0 htc ap0.1 ap0.2.1 hI0 hl01 hl02 (Int.le_refl 0) (by omega) ap0.2.2 hoc0 ?_
  intro b tb h1 tks1 vs1 ns1 n11 n21 ti1 hb0 hb1 hnl1 hI1 F1 N1
  obtain ⟨m1, F1, q1, e1⟩ := set_map F1
  -- levels
  refine wpAny_execs_cons ?_
  refine law_2 B F1 X T hd hu N1 htc ap0.1 ap0.2.1 hI1 (by omega) (by omega) (by omega) (by omega) ap0.2.2 hoc0 (by omega) ?_
  intro ll lvs cs nl h2 tks2 nw2 rest2 F2 hlv hcl hbd hT2 N2 ap2
  obtain ⟨m2, F2, q2, e2⟩ := set_map F2
  obtain ⟨i2, ti2, n12, n22, vs2, ns2, rfl, hI2, hl21, hl22, hi20, hi21⟩ := hT2
  obtain ⟨⟨c0, g0, z0⟩, ⟨c1, g1, z1⟩, ⟨c2, g2, z2⟩, rfl⟩ := len3 hcl
  obtain ⟨b00, b01, b02, b03, b04, b05⟩ := hbd _ (.head _)
  obtain ⟨b10, b11, b12, b13, b14, b15⟩ := hbd _ (.tail _ (.head _))
  obtain ⟨b20, b21, b22, b23, b24, b25⟩ := hbd _ (.tail _ (.tail _ (.head _)))
  have hll3 := hlv.length
  -- memory
  refine wpAny_execs_cons ?_
  refine law_3 B F2 X T hd hu N2 htc ap2.1 ap2.2.1 hI2 hl21 hl22 hi20 (by omega) ap2.2.2 hoc0 q2 (.head _) (hlv.mono fun p hp => .tail _ hp) hbd ?_
  intro lm mvs nm h3 tks3 nw3 F3 N3 up3 hmo hml ap3
  obtain ⟨m3, F3, q3, e3⟩ := set_map F3
  generalize hos : memUp 0 c0 g0 (fun q => memUp 1 c1 g1 (fun q => mem2 c2 z2 q (turnsOf c2)) q (turnsOf c1)) [] (turnsOf c0) = os at hmo
  have hol := hmo.length
  have inLs : (ll, listOf lvs.toArray nl) ∈ nw3 := up3 _ (.head _)
  have hlv3 : LevsIn nw3 lvs [(c0, g0, z0), (c1, g1, z1), (c2, g2, z2)] := hlv.mono fun p hp => up3 _ (.tail _ hp)
  have ba3 : m3 "base" = some (.int b tb) := (e3 _ (by decide)).trans ((e2 _ (by decide)).trans q1)
  have ls3 : m3 "levels" = some (.ref ll) := (e3 _ (by decide)).trans q2
  -- items
  refine wpAny_execs_cons ?_
  refine law_4 B F3 X T hd hu N3 htc ap3.1 ap3.2.1 hI2 hl21 hl22 hi20 (by omega) ap3.2.2 hoc0 ?_
  intro li nli h4 tks4 F4 N4 hlit hlic hrli
  obtain ⟨m4, F4, q4, e4⟩ := set_map F4
  obtain ⟨ld, sz, hsp, hsz, hag⟩ := data (c0 := c0) (h0 := g0) (z0 := z0) (c1 := c1) (h1 := g1) (z1 := z1) (c2 := c2) (h2 := g2) (z2 := z2) b02 b03 b12 b13 b24 b25 b01 b11 b21 rfl hos.symm
  -- the loop of items
  refine wpAny_execs_cons ?_
  refine law_5 (E := fun _ _ => False) (lm := lm) (nm := nm) (mvs := mvs) B F4 X T hd hu N4 htc ap3.1 ap3.2.1 hI2 hl21 hl22 hi20 (by omega) ap3.2.2 hoc0 ((e4 _ (by decide)).trans ls3) (.tail _ inLs) (hlv3.mono fun p hp => .tail _ hp) hll3 ((e4 _ (by decide)).trans q3) (.head _) (hmo.mono fun p hp => .tail _ hp) (by omega) q4 ((e4 _ (by decide)).trans ba3) hlit hlic hrli hsp hsz ?_
  intro h5 tks5 m5 nx F5 k5 N5 hJ
  obtain ⟨nli5, xvs, kp, nk, rest', rfl, hsub, hxl, hkp, hr', hio, _⟩ := hJ
  have hsz2 : ∀ k, k < 3 → sz k < 1000 := by
    intro k hk
    have h1 := spotsUpto_len os k (onesUpto [(c0, g0, z0), (c1, g1, z1), (c2, g2, z2)] (k + 1)) os.length
    rw [hsp k hk, run_len] at h1
    omega
  have up5 : ∀ p ∈ (lm, listOf mvs.toArray nm) :: nw3, p ∈ (li, listOf xvs.toArray nli5) :: (kp, listOf [].toArray nk) :: rest' := fun p hp => .tail _ (.tail _ (hsub p hp))
  have ap5 : Apart t c cA oc0 ((li, listOf xvs.toArray nli5) :: (kp, listOf [].toArray nk) :: rest') :=
    (Apart.cons ⟨fun q hq => (hr' q hq).1, fun q hq => (hr' q hq).2.1, hsub _ ap3.2.2⟩ hkp.1 hkp.2.1).cons hlit hlic
  -- the loop of turns
  refine wpAny_execs_cons ?_
  refine law_6 (E := fun _ _ => False) (lm := lm) (nm := nm) (mvs := mvs) (os := os) (cs := [(c0, g0, z0), (c1, g1, z1), (c2, g2, z2)]) B F5 X T hd hu N5 htc ap5.1 ap5.2.1 hI2 hl21 hl22 hi20 (by omega) ap5.2.2 hoc0 ((k5 _ (by decide) (by decide)).trans ((e4 _ (by decide)).trans ls3)) (up5 _ (.tail _ inLs)) (hlv3.mono fun p hp => up5 _ (.tail _ hp)) hll3 ((k5 _ (by decide) (by decide)).trans ((e4 _ (by decide)).trans q3)) (up5 _ (.head _)) (hmo.mono fun p hp => up5 _ (.tail _ hp)) (by omega) ((k5 _ (by decide) (by decide)).trans q4) (.head _) ((k5 _ (by decide) (by decide)).trans ((e4 _ (by decide)).trans ba3)) ?_ (by omega) (fun k hk => (levOk hio hsz2 (hag b) k hk).mono fun p hp => .tail _ (.tail _ hp)) ?_
  · intro q hq
    have := hbd q hq
    omega
  intro h6 tks6 m6 nw6 F6 N6
  refine wpAny_execs_cons ?_
  refine law_7 B F6 X N6 T ?_
  exact ret _ _ _ _ F6 N6
end
end
section
section
theorem ext_47 : True := by
  w_top off
  k_with_none
  trivial
theorem holds : PySem.Challenge.rw_pc0123_01.Holds := by
  refine Mine.hd ?_
  k_go0
  rename IntsAre _ _ => hI
  rename ¬ _ => hlen
  rename Heap.IsList _ _ _ => hL
  rename Below _ _ _ _ => hB
  rename Fr _ _ _ _ => hF
  rename News _ _ _ _ => hN
  rename Top _ _ _ _ _ _ => hT
  rename Frag.In _ _ => hX
  refine wpAny_noRaise ?_
  k_dflt (with_unfolding_all refine' law_all (dp := 1 + claimMargin + 1) hB hF hX hT ?d ?u hN ?c ?sc hL hI ?n ?r)
  case d => decide
  case u => decide
  case c => rename _ = Data.cell _ => hC; exact hC.trans (by with_unfolding_all rfl)
  case sc => with_unfolding_all rfl
  case n => omega
  case r =>
    intro h' tks m' nw F' N'
    k_steps
end
end
end Mine
theorem PySem.Challenge.cw_pc0123_01_holds : PySem.Challenge.rw_pc0123_01.Holds :=
  Mine.holds
